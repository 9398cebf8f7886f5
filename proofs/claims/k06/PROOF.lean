import PyProof.Rows.All
import HandS.Base
import HandS.Call
import HandS.List
import HandS.Dict
import HandS.Exc
import HandS.ExcOwn
import HandS.TryMany
import HandS.ExcCtx
import HandS.ExcIs
import HandS.HotCalls
import HandS.Deep
import HandS.Conv
import HandS.Text
import HandS.Flow
import HandS.Comp
import HandS.Ends
import HandS.Words
import HandS.Wide
import HandS.WideBits
import HandS.TupAny
import HandS.TupMul
import HandS.Style
import KE.KRevSl
import HandS.NoneIn
import HandS.IsInst
import HandS.Iter
import HandS.Zip
import KE.SortData
import PyProof.ReprNest
import PyProof.ReprRoads
import HandS.RaiseMore
import KE.DataMinMax
import HandS.Walk
import KE.GoesEnum
import PyProof.ReprLen
import PySem.Challenge.RW_shortsteps_k06_whole_grids
set_option linter.all false
set_option Elab.async false
set_option maxRecDepth 100000
set_option maxHeartbeats 4000000
namespace Sy
open PySem L2

/-! ### values -/
/-- what an expression hands back: data; a box (a list that a callee may change); a list that is nobody else's; a list that a name holds alone; the script -/
inductive R where
  | dat (d : PyData)
  | ref (n : Nat)
  | own (ds : List PyData)
  | brw (ds : List PyData)
  | scr (ns : List Int)
  | exc (c : String)
  | exo (c : String)
  | pr (ds : List PyData) (d : PyData)

abbrev Bx := List (List PyData)
abbrev En := List (Option R)

/-- to be looked at -/
def R.view : R → Option PyData
  | .dat d => some d
  | .own ds => some (.list ds)
  | .brw ds => some (.list ds)
  | _ => none
/-- to be kept within other data -/
def R.cap : R → Option PyData
  | .dat d => some d
  | .own ds => some (.list ds)
  | _ => none
def R.look (m : Bool) (r : R) : Option PyData := if m then r.view else r.cap
/-- to be held by a name -/
def R.hold : R → Option R
  | .brw _ => none
  | .exc _ => none
  | .pr _ _ => none
  | r => some r
/-- as an argument -/
def R.arg : R → Option R
  | .own ds => some (.dat (.list ds))
  | .brw _ => none
  | .exc _ => none
  | .pr _ _ => none
  | r => some r
/-- read through a name -/
def R.read : R → R
  | .own ds => .brw ds
  | r => r

/-- an exception is no value -/
def nox : Option (R × List (List PyData)) → Option (R × List (List PyData))
  | some (.exc _, _) => none
  | some (.pr _ _, _) => none
  | o => o
inductive Bop where | add | sub | mul | fdiv | mod | pow
  deriving DecidableEq
inductive Cop where | eq | ne | lt | le | gt | ge | inn | nin
  deriving DecidableEq
inductive Blt where | len | abs | tup | lst | sum | all | any | min | max | sorted | repr | str | int | divmod
  deriving DecidableEq
inductive Mth where | count | index | split | join
  deriving DecidableEq
inductive Ty where | int | bool | str | list | tuple
  deriving DecidableEq

/-! ### operations on data -/
def mulOk (i j : Int) : Bool := decide (i.natAbs.log2 + j.natAbs.log2 < 1000000)
def divOk (j : Int) : Bool := decide (j ≠ 0 ∧ j.natAbs.log2 < 9000)
def powOk (i j : Int) : Bool := decide (0 ≤ j ∧ j ≤ 1000000 ∧ i.natAbs < 2 ^ 64)
def fitsL (n : Nat) : Bool := decide (n ≤ sizeLine)
def repOk (n : Nat) (k : Int) : Bool := decide (k < 2 ^ 20 ∧ 0 ≤ k ∧ n * k.toNat ≤ sizeLine)

def repTOk (n : Nat) (k : Int) : Bool := decide (2 ≤ k ∧ k ≤ 1000 ∧ 1 ≤ n ∧ n ≤ 1000)

def binI : Bop → Int → Int → Option Int
  | .add, i, j => some (i + j)
  | .sub, i, j => some (i - j)
  | .mul, i, j => if mulOk i j then some (i * j) else none
  | .fdiv, i, j => if divOk j then some (i.fdiv j) else none
  | .mod, i, j => if j = 0 then none else some (i.fmod j)
  | .pow, i, j => if powOk i j then some (i ^ j.toNat) else none
def binD (o : Bop) : PyData → PyData → Option R
  | .int i, .int j => (binI o i j).map fun k => .dat (.int k)
  | .list xs, .list ys => if o = .add ∧ fitsL (xs.length + ys.length) = true then some (.own (xs ++ ys)) else none
  | .tuple xs, .tuple ys => if o = .add ∧ fitsL (xs.length + ys.length) = true then some (.dat (.tuple (xs ++ ys))) else none
  | .list xs, .int k => if o = .mul ∧ repOk xs.length k = true then some (.own (List.replicate k.toNat xs).flatten) else none
  | .tuple xs, .int k => if o = .mul ∧ repTOk xs.length k = true then some (.dat (.tuple (List.replicate k.toNat xs).flatten)) else if o = .mul ∧ k = 1 then some (.dat (.tuple xs)) else none
  | .str x, .str y => if o = .add ∧ fitsL (x.length + y.length) = true then some (.dat (.str (x ++ y))) else none
  | _, _ => none

def intsOf : List PyData → Option (List Int)
  | [] => some []
  | .int i :: r => (intsOf r).map (i :: ·)
  | _ => none
def boolsOf : List PyData → Option (List Bool)
  | [] => some []
  | .bool b :: r => (boolsOf r).map (b :: ·)
  | _ => none

/-- a dict beside a tuple -/
def dT : PyData → PyData → Bool
  | .dict _, .tuple _ => true
  | _, _ => false
/-- a dict beside a text -/
def dS : PyData → PyData → Bool
  | .dict _, .str _ => true
  | _, _ => false
/-- lists of unlike lengths -/
def lT : PyData → PyData → Bool
  | .list xs, .list ys => decide (xs.length ≠ ys.length)
  | _, _ => false
def eqD (d e : PyData) : Option Bool := match d, e with
  | .str x, .str y => some (decide (x = y))
  | d, e => if SeqAt.shaped d && SeqAt.shaped e then some (PyData.eqv d e) else if dT d e then some false else if lT d e then some false else if dS d e then some false else none
/-- a tuple that begins with a dict, among tuples of one text -/
def strT1 : PyData → Bool
  | .tuple [.str _] => true
  | _ => false
def inT : PyData → List PyData → Bool
  | .tuple (.dict _ :: _), ds => ds.all strT1
  | _, _ => false
def inD (d : PyData) (ds : List PyData) : Option Bool :=
  if SeqAt.shaped d && SeqAt.shaped (.list ds) then some (ds.any fun z => PyData.eqv z d) else if inT d ds then some false else none
/-- one sign in a text -/
def inS (x z : Str) : Option Bool := match x.cps.toList with
  | [c] => some (decide (c ∈ z.cps.toList))
  | _ => none
def cmpD : Cop → PyData → PyData → Option Bool
  | .eq, d, e => eqD d e
  | .ne, d, e => (eqD d e).map not
  | .lt, .int i, .int j => some (decide (i < j))
  | .le, .int i, .int j => some (decide (i ≤ j))
  | .gt, .int i, .int j => some (decide (j < i))
  | .ge, .int i, .int j => some (decide (j ≤ i))
  | .lt, .tuple xs, .tuple ys => match intsOf xs, intsOf ys with
    | some a, some b => some (HT.lexLt a b)
    | _, _ => none
  | .inn, .str x, .str z => inS x z
  | .nin, .str x, .str z => (inS x z).map not
  | .inn, d, .list ds => inD d ds
  | .nin, d, .list ds => (inD d ds).map not
  | .inn, d, .tuple ds => inD d ds
  | .nin, d, .tuple ds => (inD d ds).map not
  | _, _, _ => none

def isiD : Ty → PyData → Bool
  | .int, .int _ => true
  | .int, .bool _ => true
  | .bool, .bool _ => true
  | .str, .str _ => true
  | .list, .list _ => true
  | .tuple, .tuple _ => true
  | _, _ => false

/-- x[i] -/
def ixD : PyData → Int → Option PyData
  | .list ds, i => atI ds i
  | .tuple ds, i => atI ds i
  | _, _ => none
def cutD {α : Type} (xs : List α) (lo hi : Option Int) : List α := (xs.drop (HT.sIx xs.length 0 lo)).take (HT.sIx xs.length xs.length hi - HT.sIx xs.length 0 lo)
def slD : PyData → Option Int → Option Int → Option R
  | .list ds, lo, hi => some (.own (cutD ds lo hi))
  | .tuple ds, lo, hi => some (.dat (.tuple (cutD ds lo hi)))
  | .str z, lo, hi => if fitsL z.length then some (.dat (.str (cutS z lo hi))) else none
  | _, _, _ => none

def minL : List Int → Int
  | [] => 0
  | [x] => x
  | x :: r => min x (minL r)
def maxL : List Int → Int
  | [] => 0
  | [x] => x
  | x :: r => max x (maxL r)
def sortOk (ds : List PyData) : Bool :=
  (ds.all fun d => ds.all fun e => PySem.W.alike d e) && ((ds.all fun d => match d with | .tuple (_ :: _) => true | _ => false) || (ds.all fun d => match d with | .none => false | .tuple _ => false | _ => true)) &&
    fitsL ds.length && (ds.all fun d => decide (d.depth ≤ 8))
def sortD (ds : List PyData) : List PyData := ds.mergeSort (PySem.W.dataLe false id)
def reprOk (d : PyData) : Bool := d.showable && decide (d.shown.length ≤ sizeLine) && decide (d.depth ≤ 16)
def bltD : Blt → List PyData → Option R
  | .len, [.list ds] => some (.dat (.int ds.length))
  | .len, [.tuple ds] => some (.dat (.int ds.length))
  | .abs, [.int i] => some (.dat (.int i.natAbs))
  | .tup, [.list ds] => some (.dat (.tuple ds))
  | .tup, [.tuple ds] => some (.dat (.tuple ds))
  | .lst, [.list ds] => some (.own ds)
  | .lst, [.tuple ds] => some (.own ds)
  | .sum, [.list ds] => (intsOf ds).map fun l => .dat (.int l.sum)
  | .all, [.list ds] => (boolsOf ds).map fun l => .dat (.bool (l.all id))
  | .any, [.list ds] => (boolsOf ds).map fun l => .dat (.bool (l.any id))
  | .min, [.list ds] => (intsOf ds).bind fun l => if l = [] then none else some (.dat (.int (minL l)))
  | .max, [.list ds] => (intsOf ds).bind fun l => if l = [] then none else some (.dat (.int (maxL l)))
  | .min, [.int i, .int j] => some (.dat (.int (min i j)))
  | .max, [.int i, .int j] => some (.dat (.int (max i j)))
  | .min, [.tuple ds] => (intsOf ds).bind fun l => if l = [] then none else some (.dat (.int (minL l)))
  | .max, [.tuple ds] => (intsOf ds).bind fun l => if l = [] then none else some (.dat (.int (maxL l)))
  | .sorted, [.list ds] => if sortOk ds then some (.own (sortD ds)) else none
  | .divmod, [.int i, .int j] => if 0 < j ∧ divOk j = true then some (.dat (.tuple [.int (i / j), .int (i % j)])) else none
  | .int, [.bool b] => some (.dat (.int (if b then 1 else 0)))
  | .int, [.str x] => if x.length ≤ 640 then (intText? x).map fun n => .dat (.int n) else none
  | .repr, [d] => if reprOk d then some (.dat (.str d.shown)) else none
  | .str, [.int i] => if i.natAbs.log2 < 1920 then some (.dat (.str (toString i))) else none
  | .str, [.tuple ds] => if reprOk (.tuple ds) && !(PyData.tuple ds).hasDict then some (.dat (.str (PyData.tuple ds).shown)) else none
  | _, _ => none

/-- whether errors of class c are of class t -/
def subX (c t : String) : Bool := decide (c = t) || decide (t = "StepError") || decide (t = "ValueError")
def strsOf : List PyData → Option (List Str)
  | [] => some []
  | .str x :: r => (strsOf r).map (x :: ·)
  | _ => none
def mthD : Mth → PyData → PyData → Option R
  | .count, .list ds, d => if SeqAt.shaped d && SeqAt.shaped (.list ds) then some (.dat (.int (ds.countP fun z => PyData.eqv z d))) else none
  | .index, .list ds, d => if SeqAt.shaped d && SeqAt.shaped (.list ds) then (ds.findIdx? fun z => PyData.eqv z d).map fun j => .dat (.int j) else none
  | .split, .str x, .str y => if (y.length == 0) = false ∧ x.length + 2 ≤ sizeLine then some (.own ((Txt.split x y).map .str)) else none
  | .join, .str x, .list ds => (strsOf ds).bind fun ys => if (ys.map (·.length)).sum + ys.length * x.length ≤ 16777216 then some (.dat (.str (Txt.join x ys))) else none
  | _, _, _ => none
def truthD : PyData → Option Bool
  | .str x => if x.length ≤ sizeLine then some (decide (x.length ≠ 0)) else none
  | .list ds => some (decide (ds ≠ []))
  | .tuple ds => some (decide (ds ≠ []))
  | _ => none
/-! ### the terms -/
mutual
inductive Tg where
  | nm (i : Nat)
  | tp (ts : Tgs)
inductive Tgs where
  | nil
  | cons (t : Tg) (r : Tgs)
end
mutual
inductive Ex where
  | c (d : PyData)
  | v (i : Nat)
  | g (x : String) (d : PyData)
  | never
  | bin (o : Bop) (a b : Ex)
  | neg (a : Ex)
  | tst (t : Ts)
  | ite (t : Ts) (a b : Ex)
  | tup (es : Exs)
  | lst (es : Exs)
  | box (es : Exs)
  | ix (a b : Ex)
  | sl (a : Ex) (lo hi : Exo)
  | rev (a : Ex)
  | call (f : String) (es : Exs)
  | blt (f : Blt) (es : Exs)
  | isi (a : Ex) (t : Ty)
  | isx (a : Ex) (t : String) (xs : List String)
  | dct (l : List (String × Int))
  | lrg (es : Exs)
  | mth (m : Mth) (o a : Ex)
  | orv (a b : Ex)
  | ixP (f : String) (es : Exs) (k : Bool)
  | lc (elt : Ex) (tg : Tg) (it : Itx) (cd : Tso) (own : List Nat)
inductive Exs where
  | nil
  | cons (e : Ex) (r : Exs)
inductive Exo where
  | no
  | yes (e : Ex)
inductive Ts where
  | val (e : Ex)
  | cmp (o : Cop) (a b : Ex)
  | chn (a : Ex) (r : Chn)
  | isn (a : Ex) (neg : Bool)
  | isb (a : Ex) (neg : Bool) (b : Bool)
  | and (ts : Tss)
  | or (ts : Tss)
  | not (t : Ts)
/-- op b (op c ..) of a chain -/
inductive Chn where
  | last (o : Cop) (b : Ex)
  | link (o : Cop) (b : Ex) (r : Chn)
inductive Tss where
  | one (t : Ts)
  | cons (t : Ts) (r : Tss)
inductive Tso where
  | no
  | yes (t : Ts)
inductive Itx where
  | seq (e : Ex)
  | rng (es : Exs)
  | zip (a b : Ex)
  | enum (a : Ex)
  | sgn (a : Ex)
end
mutual
inductive Stm where
  | never
  | pass
  | asg (i : Nat) (e : Ex)
  | par (i j : Nat) (a b : Ex)
  | par3 (i j l : Nat) (a b c : Ex)
  | setO (i : Nat) (k e : Ex)
  | unp (t : Tg) (e : Ex)
  | setB (o : Ex) (i : Ex) (e : Ex)
  | exp (e : Ex)
  | app (i : Nat) (e : Ex)
  | ext (i : Nat) (e : Ex)
  | iff (t : Ts) (a b : Stms)
  | whl (t : Ts) (b : Stms)
  | forr (tg : Tg) (it : Itx) (b : Stms)
  | ret (e : Ex)
  | retv (i : Nat)
  | frz (i : Nat)
  | expC (f : String) (es : Exs)
  | retC (f : String) (es : Exs)
  | asgC (i : Nat) (f : String) (es : Exs)
  | raise (c : String)
  | tryE (nv : Nat) (xs : List String) (b : Stms) (i : Nat) (h : Stms)
  | forO (i : Nat) (tg : Tg) (b : Stms)
  | retP (i : Nat) (e : Ex)
inductive Stms where
  | nil
  | cons (s : Stm) (r : Stms)
end

/-! ### what they compute -/
mutual
def Tg.idx : Tg → List Nat
  | .nm i => [i]
  | .tp ts => ts.idx
def Tgs.idx : Tgs → List Nat
  | .nil => []
  | .cons t r => t.idx ++ r.idx
end
mutual
def Tg.bind : Tg → PyData → En → Option En
  | .nm i, d, env => some (env.set i (some (.dat d)))
  | .tp ts, .tuple ds, env => ts.bind ds env
  | .tp ts, .list ds, env => ts.bind ds env
  | _, _, _ => none
def Tgs.bind : Tgs → List PyData → En → Option En
  | .nil, [], env => some env
  | .cons t r, d :: ds, env => (t.bind d env).bind fun env1 => r.bind ds env1
  | _, _, _ => none
end

/-- a dict that is only handed on: its keys and numbers -/
def keyD : Key → PyData
  | .inl i => .int i
  | .inr x => .str x
def kvV (l : List (Key × Int)) : List (Key × V) := l.map fun p => (p.1, .int p.2)
def kvD (l : List (Key × Int)) : List (PyData × PyData) := l.map fun p => (keyD p.1, .int p.2)
abbrev Cf := String → List R → Bx → Option (R × Bx)

def asInt : R → Option Int
  | .dat (.int i) => some i
  | _ => none
def asBool : R → Option Bool
  | .dat (.bool b) => some b
  | _ => none
/-- the items that a loop goes over -/
def seqItems : PyData → Option (List PyData)
  | .list ds => some ds
  | .tuple ds => some ds
  | _ => none
def rngOk (i : Int) : Bool := decide (i.natAbs.log2 < 61)
def rngItems (lo : Int) (n : Nat) : List PyData := (List.range n).map fun (k : Nat) => .int (lo + (k : Int))
def rngD : List Int → Option (List PyData)
  | [j] => if rngOk j then some (rngItems 0 j.toNat) else none
  | [i, j] => if rngOk i && rngOk j then some (rngItems i (j - i).toNat) else none
  | _ => none
/-- the signs of a text -/
def signs (z : Str) : List PyData := z.cps.toList.map fun c => .str ⟨#[c]⟩
def zipD (xs ys : List PyData) : List PyData := (xs.zip ys).map fun p => .tuple [p.1, p.2]
def enumD (xs : List PyData) : List PyData := xs.zipIdx.map fun p => .tuple [.int (p.2 : Int), p.1]

/-- a comprehension's turns -/
def lcGo (step : PyData → Bx → Option (Option PyData × Bx)) : List PyData → List PyData → Bx → Option (List PyData × Bx)
  | [], acc, st => some (acc, st)
  | d :: ds, acc, st => match step d st with
    | some (some y, st1) => if acc.length < sizeLine then lcGo step ds (acc ++ [y]) st1 else none
    | some (none, st1) => lcGo step ds acc st1
    | none => none
def wipeE (env : En) : List Nat → En
  | [] => env
  | i :: r => (wipeE env r).set i none
def argsOf : List R → Option (List R)
  | [] => some []
  | r :: rs => match r.arg, argsOf rs with
    | some a, some as => some (a :: as)
    | _, _ => none
def ixR (r : R) (i : Int) (st : Bx) : Option PyData := match r with
  | .ref n => (st[n]?).bind fun ds => atI ds i
  | .scr ns => (atI ns i).map .int
  | r => r.view.bind fun d => ixD d i
def lenR (r : R) (st : Bx) : Option R := match r with
  | .ref n => (st[n]?).map fun ds => .dat (.int ds.length)
  | .scr ns => some (.dat (.int ns.length))
  | r => r.view.bind fun d => bltD .len [d]
def views : List R → Option (List PyData)
  | [] => some []
  | r :: rs => match r.view, views rs with
    | some d, some ds => some (d :: ds)
    | _, _ => none
def caps : List R → Option (List PyData)
  | [] => some []
  | r :: rs => match r.cap, caps rs with
    | some d, some ds => some (d :: ds)
    | _, _ => none
def bltR (f : Blt) (rs : List R) (st : Bx) : Option R := match f, rs with
  | .len, [r] => lenR r st
  | f, rs => (views rs).bind fun ds => bltD f ds

mutual
def Ex.den (cf : Cf) : Ex → En → Bx → Option (R × Bx)
  | .c d, _, st => some (.dat d, st)
  | .v i, env, st => match env[i]? with
    | some (some r) => some (r.read, st)
    | _ => none
  | .g _ d, _, st => some (.dat d, st)
  | .never, _, _ => none
  | .bin o a b, env, st => match a.den cf env st with
    | some (x, st1) => match b.den cf env st1 with
      | some (y, st2) => match x.view, y.view with
        | some d, some e => (binD o d e).map fun r => (r, st2)
        | _, _ => none
      | none => none
    | none => none
  | .neg a, env, st => match a.den cf env st with
    | some (.dat (.int i), st1) => some (.dat (.int (-i)), st1)
    | _ => none
  | .tst t, env, st => match t.den cf env st with
    | some (b, st1) => some (.dat (.bool b), st1)
    | none => none
  | .ite t a b, env, st => match t.den cf env st with
    | some (true, st1) => a.den cf env st1
    | some (false, st1) => b.den cf env st1
    | none => none
  | .tup es, env, st => match es.den cf env st with
    | some (rs, st1) => match caps rs with
      | some ds => if fitsL ds.length then some (.dat (.tuple ds), st1) else none
      | none => none
    | none => none
  | .lst es, env, st => match es.den cf env st with
    | some (rs, st1) => match caps rs with
      | some ds => if fitsL ds.length then some (.own ds, st1) else none
      | none => none
    | none => none
  | .box es, env, st => match es.den cf env st with
    | some (rs, st1) => match caps rs with
      | some ds => if fitsL ds.length then some (.ref st1.length, st1 ++ [ds]) else none
      | none => none
    | none => none
  | .ix a b, env, st => match a.den cf env st with
    | some (x, st1) => match b.den cf env st1 with
      | some (.dat (.int i), st2) => (ixR x i st2).map fun d => (.dat d, st2)
      | _ => none
    | none => none
  | .sl a lo hi, env, st => match a.den cf env st with
    | some (x, st1) => match lo.den cf env st1 with
      | some (l, st2) => match hi.den cf env st2 with
        | some (h, st3) => match x.view with
          | some d => (slD d l h).map fun r => (r, st3)
          | none => none
        | none => none
      | none => none
    | none => none
  | .rev a, env, st => match a.den cf env st with
    | some (x, st1) => match x.view with
      | some (.list ds) => some (.own ds.reverse, st1)
      | some (.tuple ds) => some (.dat (.tuple ds.reverse), st1)
      | _ => none
    | none => none
  | .call f es, env, st => match es.den cf env st with
    | some (rs, st1) => match argsOf rs with
      | some as => nox (cf f as st1)
      | none => none
    | none => none
  | .blt f es, env, st => match es.den cf env st with
    | some (rs, st1) => (bltR f rs st1).map fun r => (r, st1)
    | none => none
  | .isi a t, env, st => match a.den cf env st with
    | some (x, st1) => match x.view with
      | some d => some (.dat (.bool (isiD t d)), st1)
      | none => none
    | none => none
  | .isx a t xs, env, st => match a.den cf env st with
    | some (.exo c, st1) => if c ∈ xs then some (.dat (.bool (subX c t)), st1) else none
    | _ => none
  | .dct l, _, st => some (.dat (.dict (kvD (l.map fun p => (.inr (Str.ofString p.1), p.2)))), st)
  | .lrg es, env, st => match es.den cf env st with
    | some (rs, st1) => ((((views rs).bind intsOf).bind rngD).bind fun ds => if ds.length ≤ 2 ^ 24 then some ds else none).map fun ds => (.own ds, st1)
    | none => none
  | .mth m o a, env, st => match o.den cf env st with
    | some (x, st1) => match a.den cf env st1 with
      | some (y, st2) => match x.view, y.view with
        | some d, some e => (mthD m d e).map fun r => (r, st2)
        | _, _ => none
      | none => none
    | none => none
  | .orv a b, env, st => match a.den cf env st with
    | some (x, st1) => match x.view.bind truthD with
      | some true => some (x, st1)
      | some false => b.den cf env st1
      | none => none
    | none => none
  | .ixP f es k, env, st => match es.den cf env st with
    | some (rs, st1) => match argsOf rs with
      | some as => match cf f as st1 with
        | some (.pr ds d, st2) => some (if k then .own ds else .dat d, st2)
        | _ => none
      | none => none
    | none => none
  | .lc elt tg it cd ow, env, st => match it.den cf true env st with
    | some (items, st1) => match lcGo (fun d st => match tg.bind d (wipeE env ow) with
        | some env1 => match cd.den cf env1 st with
          | some (true, st2) => match elt.den cf env1 st2 with
            | some (r, st3) => r.cap.map fun y => (some y, st3)
            | none => none
          | some (false, st2) => some (none, st2)
          | none => none
        | none => none) items [] st1 with
      | some (acc, st2) => some (.own acc, st2)
      | none => none
    | none => none
def Exs.den (cf : Cf) : Exs → En → Bx → Option (List R × Bx)
  | .nil, _, st => some ([], st)
  | .cons e r, env, st => match e.den cf env st with
    | some (x, st1) => match r.den cf env st1 with
      | some (xs, st2) => some (x :: xs, st2)
      | none => none
    | none => none
def Exo.den (cf : Cf) : Exo → En → Bx → Option (Option Int × Bx)
  | .no, _, st => some (none, st)
  | .yes e, env, st => match e.den cf env st with
    | some (.dat (.int i), st1) => some (some i, st1)
    | _ => none
def Ts.den (cf : Cf) : Ts → En → Bx → Option (Bool × Bx)
  | .val e, env, st => match e.den cf env st with
    | some (.dat (.bool b), st1) => some (b, st1)
    | _ => none
  | .cmp o a b, env, st => match a.den cf env st with
    | some (x, st1) => match b.den cf env st1 with
      | some (y, st2) => match x.view, y.view with
        | some d, some e => (cmpD o d e).map fun r => (r, st2)
        | _, _ => none
      | none => none
    | none => none
  | .chn a r, env, st => match a.den cf env st with
    | some (x, st1) => r.den cf x env st1
    | none => none
  | .isn a neg, env, st => match a.den cf env st with
    | some (x, st1) => match x with
      | .dat .none => some (!neg, st1)
      | _ => some (neg, st1)
    | none => none
  | .isb a neg k, env, st => match a.den cf env st with
    | some (.dat (.bool b), st1) => some (if neg then !decide (b = k) else decide (b = k), st1)
    | _ => none
  | .and ts, env, st => ts.all cf env st
  | .or ts, env, st => ts.any cf env st
  | .not t, env, st => match t.den cf env st with
    | some (b, st1) => some (!b, st1)
    | none => none
def Chn.den (cf : Cf) : Chn → R → En → Bx → Option (Bool × Bx)
  | .last o b, x, env, st => match b.den cf env st with
    | some (y, st1) => match x.view, y.view with
      | some d, some e => (cmpD o d e).map fun r => (r, st1)
      | _, _ => none
    | none => none
  | .link o b r, x, env, st => match b.den cf env st with
    | some (y, st1) => match x.view, y.view with
      | some d, some e => match cmpD o d e with
        | some true => r.den cf y env st1
        | some false => some (false, st1)
        | none => none
      | _, _ => none
    | none => none
def Tss.all (cf : Cf) : Tss → En → Bx → Option (Bool × Bx)
  | .one t, env, st => t.den cf env st
  | .cons t r, env, st => match t.den cf env st with
    | some (true, st1) => r.all cf env st1
    | some (false, st1) => some (false, st1)
    | none => none
def Tss.any (cf : Cf) : Tss → En → Bx → Option (Bool × Bx)
  | .one t, env, st => t.den cf env st
  | .cons t r, env, st => match t.den cf env st with
    | some (true, st1) => some (true, st1)
    | some (false, st1) => r.any cf env st1
    | none => none
def Tso.den (cf : Cf) : Tso → En → Bx → Option (Bool × Bx)
  | .no, _, st => some (true, st)
  | .yes t, env, st => t.den cf env st
def Itx.den (cf : Cf) (m : Bool) : Itx → En → Bx → Option (List PyData × Bx)
  | .seq e, env, st => match e.den cf env st with
    | some (x, st1) => ((x.look m).bind seqItems).map fun ds => (ds, st1)
    | none => none
  | .rng es, env, st => match es.den cf env st with
    | some (rs, st1) => (((views rs).bind intsOf).bind rngD).map fun ds => (ds, st1)
    | none => none
  | .zip a b, env, st => match a.den cf env st with
    | some (x, st1) => match b.den cf env st1 with
      | some (y, st2) => match (x.look m).bind seqItems, (y.look m).bind seqItems with
        | some xs, some ys => some (zipD xs ys, st2)
        | _, _ => none
      | none => none
    | none => none
  | .enum a, env, st => match a.den cf env st with
    | some (x, st1) => ((x.look m).bind seqItems).map fun ds => (enumD ds, st1)
    | none => none
  | .sgn a, env, st => match a.den cf env st with
    | some (.dat (.str z), st1) => some (signs z, st1)
    | _ => none
end

inductive Out where
  | nx (env : En) (st : Bx)
  | rt (r : R) (st : Bx)

/-- a call, an exception too -/
def callD (cf : Cf) (f : String) (es : Exs) : En → Bx → Option (R × Bx) := fun env st => match es.den cf env st with
  | some (rs, st1) => match argsOf rs with
    | some as => cf f as st1
    | none => none
  | none => none
/-- the names where an exception is handled -/
def exEnv (nv i : Nat) (c : String) : En := (List.replicate nv none).set i (some (.exo c))
/-- a while loop within so many turns -/
def whlN (c : En → Bx → Option (Bool × Bx)) (b : En → Bx → Option Out) : Nat → En → Bx → Option Out
  | 0, _, _ => none
  | n + 1, env, st => match c env st with
    | some (true, st1) => match b env st1 with
      | some (.nx env2 st2) => whlN c b n env2 st2
      | o => o
    | some (false, st1) => some (.nx env st1)
    | none => none
noncomputable def whlD (c : En → Bx → Option (Bool × Bx)) (b : En → Bx → Option Out) (env : En) (st : Bx) : Option Out :=
  open Classical in if h : ∃ n, (whlN c b n env st).isSome = true then whlN c b h.choose env st else none
def forGo (step : PyData → En → Bx → Option Out) : List PyData → En → Bx → Option Out
  | [], env, st => some (.nx env st)
  | d :: ds, env, st => match step d env st with
    | some (.nx env1 st1) => forGo step ds env1 st1
    | o => o

mutual
noncomputable def Stm.den (cf : Cf) : Stm → En → Bx → Option Out
  | .never, _, _ => none
  | .pass, env, st => some (.nx env st)
  | .asg i e, env, st => match e.den cf env st with
    | some (x, st1) => x.hold.map fun r => .nx (env.set i (some r)) st1
    | none => none
  | .par i j a b, env, st => match a.den cf env st with
    | some (x, st1) => match b.den cf env st1 with
      | some (y, st2) => match x.hold, y.hold with
        | some r, some q => some (.nx ((env.set i (some r)).set j (some q)) st2)
        | _, _ => none
      | none => none
    | none => none
  | .par3 i j l a b c, env, st => match Exs.den cf (.cons a (.cons b (.cons c .nil))) env st with
    | some (rs, st1) => match caps rs with
      | some [d1, d2, d3] => some (.nx (((env.set i (some (.dat d1))).set j (some (.dat d2))).set l (some (.dat d3))) st1)
      | _ => none
    | none => none
  | .setO i k e, env, st => match env[i]? with
    | some (some (.own ds)) => match e.den cf env st with
      | some (x, st1) => match k.den cf env st1 with
        | some (.dat (.int q), st2) => match x.cap, ixN ds.length q with
          | some d, some j => some (.nx (env.set i (some (.own (ds.set j d)))) st2)
          | _, _ => none
        | _ => none
      | none => none
    | _ => none
  | .unp t e, env, st => match e.den cf env st with
    | some (x, st1) => (x.cap.bind fun d => t.bind d env).map fun env1 => .nx env1 st1
    | none => none
  | .setB o i e, env, st => match e.den cf env st with
    | some (x, st1) => match o.den cf env st1 with
      | some (.ref n, st2) => match i.den cf env st2 with
        | some (.dat (.int k), st3) => match x.cap, st3[n]? with
          | some d, some ds => match ixN ds.length k with
            | some j => some (.nx env (st3.set n (ds.set j d)))
            | none => none
          | _, _ => none
        | _ => none
      | _ => none
    | none => none
  | .exp e, env, st => match e.den cf env st with
    | some (_, st1) => some (.nx env st1)
    | none => none
  | .app i e, env, st => match env[i]? with
    | some (some (.own ds)) => match e.den cf env st with
      | some (x, st1) => match x.cap with
        | some d => if ds.length < sizeLine then some (.nx (env.set i (some (.own (ds ++ [d])))) st1) else none
        | none => none
      | none => none
    | _ => none
  | .ext i e, env, st => match env[i]? with
    | some (some (.own ds)) => match e.den cf env st with
      | some (x, st1) => match x.view with
        | some (.list es) => if fitsL (ds.length + es.length) then some (.nx (env.set i (some (.own (ds ++ es)))) st1) else none
        | _ => none
      | none => none
    | _ => none
  | .iff t a b, env, st => match t.den cf env st with
    | some (true, st1) => a.den cf env st1
    | some (false, st1) => b.den cf env st1
    | none => none
  | .whl t b, env, st => whlD (t.den cf) (b.den cf) env st
  | .forr tg it b, env, st => match it.den cf false env st with
    | some (items, st1) => forGo (fun d env st => (tg.bind d env).bind fun env1 => b.den cf env1 st) items env st1
    | none => none
  | .ret e, env, st => match e.den cf env st with
    | some (x, st1) => x.hold.map fun r => .rt r st1
    | none => none
  | .retv i, env, st => match env[i]? with
    | some (some r) => some (.rt r st)
    | _ => none
  | .frz i, env, st => match env[i]? with
    | some (some (.own ds)) => some (.nx (env.set i (some (.dat (.list ds)))) st)
    | _ => some (.nx env st)
  | .expC f es, env, st => match callD cf f es env st with
    | some (r, st1) => match r with
      | .exc c => some (.rt (.exc c) st1)
      | .pr _ _ => none
      | _ => some (.nx env st1)
    | none => none
  | .retC f es, env, st => match callD cf f es env st with
    | some (r, st1) => match r with
      | .exc c => some (.rt (.exc c) st1)
      | r => r.hold.map fun q => .rt q st1
    | none => none
  | .asgC i f es, env, st => match callD cf f es env st with
    | some (r, st1) => match r with
      | .exc c => some (.rt (.exc c) st1)
      | r => r.hold.map fun q => .nx (env.set i (some q)) st1
    | none => none
  | .raise c, _, st => some (.rt (.exc c) st)
  | .tryE nv xs b i h, env, st => match b.den cf env st with
    | some (.rt (.exc c) st1) => if c ∈ xs ∧ env.length = nv then match h.den cf (exEnv nv i c) st1 with
        | some (.rt (.dat d) st2) => some (.rt (.dat d) st2)
        | some (.rt (.own ds) st2) => some (.rt (.own ds) st2)
        | _ => none
      else none
    | o => o
  | .forO i tg b, env, st => match env[i]? with
    | some (some (.own ds)) => match forGo (fun d env st => (tg.bind d env).bind fun env1 => b.den cf env1 st) ds (env.set i none) st with
      | some (.nx env1 st1) => some (.nx (env1.set i (some (.own ds))) st1)
      | o => o
    | _ => none
  | .retP i e, env, st => match env[i]? with
    | some (some (.own ds)) => match e.den cf env st with
      | some (.dat d, st1) => some (.rt (.pr ds d) st1)
      | _ => none
    | _ => none
noncomputable def Stms.den (cf : Cf) : Stms → En → Bx → Option Out
  | .nil, env, st => some (.nx env st)
  | .cons s r, env, st => match s.den cf env st with
    | some (.nx env1 st1) => r.den cf env1 st1
    | o => o
end

/-- a def: how many parameters, how many names, the body -/
structure Fn where
  np : Nat
  nv : Nat
  body : Stms

noncomputable def callF (tb : String → Option Fn) : Nat → Cf
  | 0 => fun _ _ _ => none
  | k + 1 => fun f args st => match tb f with
    | none => none
    | some fn => if args.length = fn.np then
        match fn.body.den (callF tb k) (args.map some ++ List.replicate (fn.nv - fn.np) none) st with
        | some (.rt r st1) => some (r, st1)
        | some (.nx _ st1) => some (.dat .none, st1)
        | none => none
      else none
end Sy

namespace Sy
open PySem L2

/-! ### what a value stands for -/
mutual
inductive Dv (K : PySem.W.Frag) (H : Hp) : V → PyData → Prop
  | non : Dv K H .non .none
  | bl (b : Bool) : Dv K H (.bl b) (.bool b)
  | int (i : Int) : Dv K H (.int i) (.int i)
  | str (x : Str) : Dv K H (.str x) (.str x)
  | lst {a : Addr} {xs : List V} {ds : List PyData} : H a = some (.lst xs) → DvAll K H xs ds → Dv K H (.ref a) (.list ds)
  | tup {a : Addr} {xs : List V} {ds : List PyData} : SqT K H a xs → DvAll K H xs ds → Dv K H (.ref a) (.tuple ds)
  | dct {a : Addr} (l : List (Key × Int)) : H a = some (.dK (kvV l)) → Dv K H (.ref a) (.dict (kvD l))
inductive DvAll (K : PySem.W.Frag) (H : Hp) : List V → List PyData → Prop
  | nil : DvAll K H [] []
  | cons {v : V} {vs : List V} {d : PyData} {ds : List PyData} : Dv K H v d → DvAll K H vs ds → DvAll K H (v :: vs) (d :: ds)
end
section
variable {K : PySem.W.Frag} {G H : Hp}
theorem Rd.up (s : ∀ a o, G a = some o → H a = some o) {a : Addr} {u : HO} (h : Rd G a u) : Rd H a u := by
  rcases h with h | ⟨o, h⟩
  · exact .inl (s _ _ h)
  · exact .inr ⟨o, s _ _ h⟩
theorem SqT.up (s : ∀ a o, G a = some o → H a = some o) {a : Addr} {xs : List V} (h : SqT K G a xs) : SqT K H a xs := by
  rcases h with h | h
  · exact .inl (Rd.up s h)
  · exact .inr h
theorem SqL.up (s : ∀ a o, G a = some o → H a = some o) {a : Addr} {xs : List V} (h : SqL K G a xs) : SqL K H a xs := by
  rcases h with h | h
  · exact .inl (Rd.up s h)
  · exact .inr h
mutual
theorem Dv.up (s : ∀ a o, G a = some o → H a = some o) : ∀ (d : PyData) (v : V), Dv K G v d → Dv K H v d
  | .none, _, h => by cases h; exact .non
  | .bool b, _, h => by cases h; exact .bl b
  | .int i, _, h => by cases h; exact .int i
  | .str x, _, h => by cases h; exact .str x
  | .list ds, _, h => by
    cases h with
    | lst h1 h2 => exact .lst (s _ _ h1) (DvAll.up s ds _ h2)
  | .tuple ds, _, h => by
    cases h with
    | tup h1 h2 => exact .tup (SqT.up s h1) (DvAll.up s ds _ h2)
  | .dict _, _, h => by
    cases h with
    | dct l h1 => exact .dct l (s _ _ h1)
theorem DvAll.up (s : ∀ a o, G a = some o → H a = some o) : ∀ (ds : List PyData) (vs : List V), DvAll K G vs ds → DvAll K H vs ds
  | [], _, h => by cases h; exact .nil
  | d :: ds, _, h => by
    cases h with
    | cons h1 h2 => exact .cons (Dv.up s d _ h1) (DvAll.up s ds _ h2)
end
theorem DvAll.len : ∀ {ds : List PyData} {vs : List V}, DvAll K H vs ds → vs.length = ds.length
  | _, _, .nil => rfl
  | _, _, .cons _ t => by rw [List.length_cons, List.length_cons, DvAll.len t]
theorem DvAll.get : ∀ {ds : List PyData} {vs : List V} {i : Nat} {d : PyData}, DvAll K H vs ds → ds[i]? = some d → ∃ v, vs[i]? = some v ∧ Dv K H v d
  | _, _, _, _, .nil, e => by simp at e
  | _, _, 0, _, .cons h t, e => by simp at e; subst e; exact ⟨_, rfl, h⟩
  | _, _, i + 1, d, .cons h t, e => by
    obtain ⟨v, e1, h1⟩ := DvAll.get (i := i) t (by simpa using e)
    exact ⟨v, by simpa using e1, h1⟩
theorem DvAll.app : ∀ {ds es : List PyData} {vs us : List V}, DvAll K H vs ds → DvAll K H us es → DvAll K H (vs ++ us) (ds ++ es)
  | _, _, _, _, .nil, h => h
  | _, _, _, _, .cons h t, q => .cons h (DvAll.app t q)
theorem DvAll.one {v : V} {d : PyData} (h : Dv K H v d) : DvAll K H [v] [d] := .cons h .nil
theorem DvAll.take : ∀ {ds : List PyData} {vs : List V} (n : Nat), DvAll K H vs ds → DvAll K H (vs.take n) (ds.take n)
  | _, _, 0, _ => .nil
  | _, _, _ + 1, .nil => .nil
  | _, _, n + 1, .cons h t => .cons h (DvAll.take n t)
theorem DvAll.drop : ∀ {ds : List PyData} {vs : List V} (n : Nat), DvAll K H vs ds → DvAll K H (vs.drop n) (ds.drop n)
  | _, _, 0, h => h
  | _, _, _ + 1, .nil => .nil
  | _, _, n + 1, .cons h t => DvAll.drop n t
theorem DvAll.set : ∀ {ds : List PyData} {vs : List V} (n : Nat) {v : V} {d : PyData}, DvAll K H vs ds → Dv K H v d → DvAll K H (vs.set n v) (ds.set n d)
  | _, _, _, _, _, .nil, _ => .nil
  | _, _, 0, _, _, .cons h t, q => .cons q t
  | _, _, n + 1, _, _, .cons h t, q => .cons h (DvAll.set n t q)
theorem DvAll.rep : ∀ {ds : List PyData} {vs : List V} (n : Nat), DvAll K H vs ds → DvAll K H (List.replicate n vs).flatten (List.replicate n ds).flatten
  | _, _, 0, h => .nil
  | _, _, n + 1, h => by
    rw [List.replicate_succ, List.replicate_succ, List.flatten_cons, List.flatten_cons]
    exact h.app (DvAll.rep n h)
theorem DvAll.ints : ∀ {ds : List PyData} {vs : List V} {l : List Int}, DvAll K H vs ds → intsOf ds = some l → vs = l.map V.int
  | [], _, _, .nil, e => by
    cases (show some [] = some _ from e)
    rfl
  | .int i :: r, _, l, .cons h t, e => by
    cases h
    cases q : intsOf r with
    | none => rw [intsOf, q] at e; cases e
    | some m =>
      rw [intsOf, q] at e
      cases e
      rw [DvAll.ints t q]
      rfl
  | .none :: _, _, _, .cons _ _, e => by cases e
  | .bool _ :: _, _, _, .cons _ _, e => by cases e
  | .str _ :: _, _, _, .cons _ _, e => by cases e
  | .list _ :: _, _, _, .cons _ _, e => by cases e
  | .tuple _ :: _, _, _, .cons _ _, e => by cases e
  | .dict _ :: _, _, _, .cons _ _, e => by cases e
theorem DvAll.bools : ∀ {ds : List PyData} {vs : List V} {l : List Bool}, DvAll K H vs ds → boolsOf ds = some l → vs = l.map V.bl
  | [], _, _, .nil, e => by
    cases (show some [] = some _ from e)
    rfl
  | .bool i :: r, _, l, .cons h t, e => by
    cases h
    cases q : boolsOf r with
    | none => rw [boolsOf, q] at e; cases e
    | some m =>
      rw [boolsOf, q] at e
      cases e
      rw [DvAll.bools t q]
      rfl
  | .none :: _, _, _, .cons _ _, e => by cases e
  | .int _ :: _, _, _, .cons _ _, e => by cases e
  | .str _ :: _, _, _, .cons _ _, e => by cases e
  | .list _ :: _, _, _, .cons _ _, e => by cases e
  | .tuple _ :: _, _, _, .cons _ _, e => by cases e
  | .dict _ :: _, _, _, .cons _ _, e => by cases e
end

/-! ### the world: G what lasts, H the heap, ph where the boxes stand -/
/-- the written part, and the exception that is being handled -/
structure Kx where
  K : PySem.W.Frag
  hd : Option Value
instance : Coe Kx PySem.W.Frag := ⟨Kx.K⟩
abbrev kx (X : Cx) : Kx := ⟨X.K, X.A.handled⟩
/-- the handled exception stands, its context is None -/
def HdOk (K : Kx) (G : Hp) : Prop := ∀ u, K.hd = some u → ∃ a oe t vs, u = .ref a ∧ G a = some (.frz oe t) ∧ oe.data = .fields vs ∧ vs[2]? = some .none
theorem HdOk.up {K : Kx} {G G1 : Hp} (h : HdOk K G) (s : ∀ a o, G a = some o → G1 a = some o) : HdOk K G1 := fun u e =>
  let ⟨a, oe, t, vs, q1, q2, q3⟩ := h u e
  ⟨a, oe, t, vs, q1, s _ _ q2, q3⟩
/-- v is the handled exception, of the class named c -/
def IsEx (K : Kx) (G : Hp) (c : String) (v : V) : Prop := ∃ a oe t C vs, v = .ref a ∧ K.hd = some (.ref a) ∧ G a = some (.frz oe t) ∧ PySem.W.nsIn K.K mainGlobals (Str.ofString c) = some (some (.ref C)) ∧ oe.cls = .ref C ∧ oe.dict = none ∧ oe.data = .fields vs
theorem IsEx.up {K : Kx} {G G1 : Hp} {c : String} {v : V} (h : IsEx K G c v) (s : ∀ a o, G a = some o → G1 a = some o) : IsEx K G1 c v :=
  let ⟨a, oe, t, C, vs, q1, q2, q3, q4⟩ := h
  ⟨a, oe, t, C, vs, q1, q2, s _ _ q3, q4⟩

structure Wd (K : Kx) (G H : Hp) (ph : List Addr) (st : Bx) : Prop where
  sub : ∀ a o, G a = some o → H a = some o
  nd : ph.Nodup
  len : ph.length = st.length
  box : ∀ (n : Nat) (a : Addr) (ds : List PyData), ph[n]? = some a → st[n]? = some ds → G a = none ∧ ∃ vs, H a = some (.lst vs) ∧ DvAll K G vs ds
  hd : HdOk K G
/-- from one state to a later one -/
structure Stp (G H : Hp) (ph : List Addr) (G' H' : Hp) (ph' : List Addr) : Prop where
  g : ∀ a o, G a = some o → G' a = some o
  gn : ∀ a o, G' a = some o → G a = some o ∨ H a = none
  fr : ∀ a o, H a = some o → a ∉ ph → H' a = some o
  ph : ∃ ps, ph' = ph ++ ps ∧ ∀ a ∈ ps, H a = none
  dom : ∀ a, H' a = none → H a = none
def Rs (K : Kx) (G H : Hp) (ph : List Addr) : R → V → Prop
  | .dat d, v => Dv K G v d
  | .ref n, v => ∃ a, v = .ref a ∧ ph[n]? = some a
  | .own ds, v => ∃ a vs, v = .ref a ∧ H a = some (.lst vs) ∧ G a = none ∧ a ∉ ph ∧ DvAll K G vs ds
  | .brw ds, v => ∃ a vs, v = .ref a ∧ H a = some (.lst vs) ∧ G a = none ∧ a ∉ ph ∧ DvAll K G vs ds
  | .scr ns, v => ∃ a, v = .ref a ∧ SqL K G a (ns.map V.int)
  | .exc _, _ => False
  | .pr _ _, _ => False
  | .exo c, v => IsEx K G c v
def RsAll (K : Kx) (G H : Hp) (ph : List Addr) : List R → List V → Prop
  | [], [] => True
  | r :: rs, v :: vs => Rs K G H ph r v ∧ RsAll K G H ph rs vs
  | _, _ => False
/-- what is handed back as one's own is new -/
def FrO (H : Hp) : R → V → Prop
  | .own _, v => ∀ a, v = .ref a → H a = none
  | _, _ => True
/-- no own list of the values stands at a -/
def NoAt (a : Addr) : List R → List V → Prop
  | .own _ :: rs, v :: vs => v ≠ .ref a ∧ NoAt a rs vs
  | _ :: rs, _ :: vs => NoAt a rs vs
  | _, _ => True
def FrL (H : Hp) : List R → List V → Prop
  | r :: rs, v :: vs => FrO H r v ∧ (∀ ds a, r = .own ds → v = .ref a → NoAt a rs vs) ∧ FrL H rs vs
  | _, _ => True
structure Ev (K : Kx) (G H : Hp) (ph : List Addr) (env : En) (st : Bx) (σ : List (Option V)) : Prop where
  w : Wd K G H ph st
  ln : env.length = σ.length
  sl : ∀ (i : Nat) (r : R), env[i]? = some (some r) → ∃ v, σ[i]? = some (some v) ∧ Rs K G H ph r v

section
variable {K : Kx} {G H G1 H1 G2 H2 : Hp} {ph ph1 ph2 : List Addr} {st st1 : Bx} {env : En} {σ : List (Option V)}
theorem Stp.refl : Stp G H ph G H ph := ⟨fun _ _ h => h, fun _ _ h => .inl h, fun _ _ h _ => h, ⟨[], by simp, fun _ h => nomatch h⟩, fun _ h => h⟩
theorem Stp.notin (s : Stp G H ph G1 H1 ph1) {a : Addr} {o : HO} (h : H a = some o) (n : a ∉ ph) : a ∉ ph1 := by
  obtain ⟨ps, e, q⟩ := s.ph
  rw [e]
  intro m
  rcases List.mem_append.mp m with m | m
  · exact n m
  · rw [q a m] at h; cases h
theorem Stp.trans (s : Stp G H ph G1 H1 ph1) (t : Stp G1 H1 ph1 G2 H2 ph2) : Stp G H ph G2 H2 ph2 := by
  refine ⟨fun a o h => t.g a o (s.g a o h), fun a o h => ?_, fun a o h n => t.fr a o (s.fr a o h n) (s.notin h n), ?_, fun a h => s.dom a (t.dom a h)⟩
  · rcases t.gn a o h with h | h
    · exact s.gn a o h
    · exact .inr (s.dom a h)
  · obtain ⟨p1, e1, q1⟩ := s.ph
    obtain ⟨p2, e2, q2⟩ := t.ph
    refine ⟨p1 ++ p2, by rw [e2, e1, List.append_assoc], fun a m => ?_⟩
    rcases List.mem_append.mp m with m | m
    · exact q1 a m
    · exact s.dom a (q2 a m)
theorem Stp.Gnone (s : Stp G H ph G1 H1 ph1) {a : Addr} {o : HO} (h : H a = some o) (n : G a = none) : G1 a = none := by
  cases e : G1 a with
  | none => rfl
  | some u =>
    rcases s.gn a u e with q | q
    · rw [n] at q; cases q
    · rw [h] at q; cases q
theorem Rs.step (s : Stp G H ph G1 H1 ph1) {r : R} {v : V} (h : Rs K G H ph r v) : Rs K G1 H1 ph1 r v := by
  cases r with
  | dat d => exact Dv.up s.g d v h
  | ref n =>
    obtain ⟨a, e, q⟩ := h
    obtain ⟨ps, ep, _⟩ := s.ph
    refine ⟨a, e, ?_⟩
    rw [ep]
    rw [List.getElem?_append_left (List.getElem?_eq_some_iff.mp q).1]
    exact q
  | own ds =>
    obtain ⟨a, vs, e, h1, h2, h3, h4⟩ := h
    exact ⟨a, vs, e, s.fr a _ h1 h3, s.Gnone h1 h2, s.notin h1 h3, DvAll.up s.g ds vs h4⟩
  | brw ds =>
    obtain ⟨a, vs, e, h1, h2, h3, h4⟩ := h
    exact ⟨a, vs, e, s.fr a _ h1 h3, s.Gnone h1 h2, s.notin h1 h3, DvAll.up s.g ds vs h4⟩
  | scr ns =>
    obtain ⟨a, e, q⟩ := h
    exact ⟨a, e, SqL.up s.g q⟩
  | exc c => exact h.elim
  | pr _ _ => exact h.elim
  | exo c => exact IsEx.up h s.g
theorem FrO.before (s : Stp G H ph G1 H1 ph1) {r : R} {v : V} (h : FrO H1 r v) : FrO H r v := by
  cases r with
  | own ds => exact fun a e => s.dom a (h a e)
  | _ => trivial
theorem Ev.step (e : Ev K G H ph env st σ) (s : Stp G H ph G1 H1 ph1) (w : Wd K G1 H1 ph1 st1) : Ev K G1 H1 ph1 env st1 σ :=
  ⟨w, e.ln, fun i r h => let ⟨v, q, z⟩ := e.sl i r h; ⟨v, q, z.step s⟩⟩

/-- a look: the data at the whole heap -/
theorem Rs.view (w : Wd K G H ph st) {r : R} {v : V} {d : PyData} (h : Rs K G H ph r v) (e : r.view = some d) : Dv K H v d := by
  cases r with
  | dat d' => cases e; exact Dv.up w.sub d v h
  | own ds =>
    cases e
    obtain ⟨a, vs, rfl, h1, _, _, h4⟩ := h
    exact .lst h1 (DvAll.up w.sub ds vs h4)
  | brw ds =>
    cases e
    obtain ⟨a, vs, rfl, h1, _, _, h4⟩ := h
    exact .lst h1 (DvAll.up w.sub ds vs h4)
  | _ => cases e
/-- the parts of a list that is looked at last -/
theorem Rs.viewL (w : Wd K G H ph st) {r : R} {v : V} {ds : List PyData} (h : Rs K G H ph r v) (e : r.view = some (.list ds)) : ∃ a vs, v = .ref a ∧ H a = some (.lst vs) ∧ DvAll K G vs ds := by
  cases r with
  | dat d' =>
    cases e
    cases (show Dv K G v (.list ds) from h) with
    | lst h1 h2 => exact ⟨_, _, rfl, w.sub _ _ h1, h2⟩
  | own ds =>
    cases e
    obtain ⟨a, vs, rfl, h1, _, _, h4⟩ := h
    exact ⟨a, vs, rfl, h1, h4⟩
  | brw ds =>
    cases e
    obtain ⟨a, vs, rfl, h1, _, _, h4⟩ := h
    exact ⟨a, vs, rfl, h1, h4⟩
  | _ => cases e
theorem Rs.viewT (w : Wd K G H ph st) {r : R} {v : V} {ds : List PyData} (h : Rs K G H ph r v) (e : r.view = some (.tuple ds)) : ∃ a vs, v = .ref a ∧ SqT K H a vs ∧ DvAll K G vs ds := by
  cases r with
  | dat d' =>
    cases e
    cases (show Dv K G v (.tuple ds) from h) with
    | tup h1 h2 => exact ⟨_, _, rfl, SqT.up w.sub h1, h2⟩
  | own ds => cases e
  | brw ds => cases e
  | _ => cases e
theorem Rs.viewI (w : Wd K G H ph st) {r : R} {v : V} {i : Int} (h : Rs K G H ph r v) (e : r.view = some (.int i)) : v = .int i := by
  have := Rs.view w h e
  cases this
  rfl
theorem Rs.viewS (w : Wd K G H ph st) {r : R} {v : V} {x : Str} (h : Rs K G H ph r v) (e : r.view = some (.str x)) : v = .str x := by
  have := Rs.view w h e
  cases this
  rfl
/-! new objects -/
theorem Wd.new (w : Wd K G H ph st) {p : Addr} {o : HO} (hp : H p = none) : Wd K G (upd H p o) ph st := by
  have ne : ∀ a u, H a = some u → a ≠ p := fun a u h e => by subst e; rw [hp] at h; cases h
  refine ⟨fun a u h => ?_, w.nd, w.len, fun n a ds h1 h2 => ?_, w.hd⟩
  · rw [upd_ne (ne a u (w.sub a u h))]; exact w.sub a u h
  · obtain ⟨g, vs, h3, h4⟩ := w.box n a ds h1 h2
    exact ⟨g, vs, by rw [upd_ne (ne a _ h3)]; exact h3, h4⟩
theorem Stp.new {p : Addr} {o : HO} (hp : H p = none) : Stp G H ph G (upd H p o) ph := by
  have ne : ∀ a u, H a = some u → a ≠ p := fun a u h e => by subst e; rw [hp] at h; cases h
  refine ⟨fun _ _ h => h, fun _ _ h => .inl h, fun a u h _ => ?_, ⟨[], by simp, fun _ h => nomatch h⟩, fun a h => ?_⟩
  · rw [upd_ne (ne a u h)]; exact h
  · by_cases e : a = p
    · subst e; exact hp
    · rw [upd_ne e] at h; exact h
theorem Wd.newG (w : Wd K G H ph st) {p : Addr} {o : HO} (hp : H p = none) : Wd K (upd G p o) (upd H p o) ph st := by
  have ne : ∀ a u, H a = some u → a ≠ p := fun a u h e => by subst e; rw [hp] at h; cases h
  have gp : G p = none := by
    cases e : G p with
    | none => rfl
    | some u => have := w.sub p u e; rw [hp] at this; cases this
  have up : ∀ a u, G a = some u → upd G p o a = some u := fun a u h => by rw [upd_ne (ne a u (w.sub a u h))]; exact h
  refine ⟨fun a u h => ?_, w.nd, w.len, fun n a ds h1 h2 => ?_, w.hd.up up⟩
  · by_cases e : a = p
    · subst e; rw [upd_same] at h ⊢; exact h
    · rw [upd_ne e] at h ⊢; exact w.sub a u h
  · obtain ⟨g, vs, h3, h4⟩ := w.box n a ds h1 h2
    exact ⟨by rw [upd_ne (ne a _ h3)]; exact g, vs, by rw [upd_ne (ne a _ h3)]; exact h3, DvAll.up up ds vs h4⟩
theorem Stp.newG (w : Wd K G H ph st) {p : Addr} {o : HO} (hp : H p = none) : Stp G H ph (upd G p o) (upd H p o) ph := by
  have ne : ∀ a u, H a = some u → a ≠ p := fun a u h e => by subst e; rw [hp] at h; cases h
  refine ⟨fun a u h => ?_, fun a u h => ?_, fun a u h _ => ?_, ⟨[], by simp, fun _ h => nomatch h⟩, fun a h => ?_⟩
  · rw [upd_ne (ne a u (w.sub a u h))]; exact h
  · by_cases e : a = p
    · subst e; exact .inr hp
    · rw [upd_ne e] at h; exact .inl h
  · rw [upd_ne (ne a u h)]; exact h
  · by_cases e : a = p
    · subst e; exact hp
    · rw [upd_ne e] at h; exact h
/-- a new box -/
theorem Wd.newB (w : Wd K G H ph st) {p : Addr} {vs : List V} {ds : List PyData} (hp : H p = none) (h : DvAll K G vs ds) : Wd K G (upd H p (.lst vs)) (ph ++ [p]) (st ++ [ds]) := by
  have ne : ∀ a u, H a = some u → a ≠ p := fun a u h e => by subst e; rw [hp] at h; cases h
  have gp : G p = none := by
    cases e : G p with
    | none => rfl
    | some u => have := w.sub p u e; rw [hp] at this; cases this
  have hn : p ∉ ph := fun m => by
    obtain ⟨n, hn, e⟩ := List.getElem_of_mem m
    have hl : n < st.length := by rw [← w.len]; exact hn
    obtain ⟨_, us, q, _⟩ := w.box n p st[n] (by rw [List.getElem?_eq_getElem hn, e]) (List.getElem?_eq_getElem hl)
    rw [hp] at q; cases q
  refine ⟨(w.new hp).sub, ?_, by simp [w.len], fun n a es h1 h2 => ?_, w.hd⟩
  · rw [List.nodup_append]
    refine ⟨w.nd, by simp, fun a ha b hb e => ?_⟩
    have eb : b = p := by simpa using hb
    rw [e, eb] at ha
    exact hn ha
  · by_cases hl : n < ph.length
    · rw [List.getElem?_append_left hl] at h1
      rw [List.getElem?_append_left (by rw [← w.len]; exact hl)] at h2
      exact (w.new hp).box n a es h1 h2
    · have en : n = ph.length := by
        have := (List.getElem?_eq_some_iff.mp h1).1
        simp at this
        omega
      rw [en, List.getElem?_append_right (Nat.le_refl _)] at h1
      rw [en, w.len, List.getElem?_append_right (Nat.le_refl _)] at h2
      simp at h1 h2
      subst h1 h2
      exact ⟨gp, vs, upd_same, h⟩
theorem Stp.newB {p : Addr} {o : HO} (hp : H p = none) : Stp G H ph G (upd H p o) (ph ++ [p]) := by
  have s : Stp G H ph G (upd H p o) ph := Stp.new hp
  exact ⟨s.g, s.gn, s.fr, ⟨[p], rfl, fun a m => (List.mem_singleton.mp m) ▸ hp⟩, s.dom⟩
/-- a list of one's own made lasting: G grows -/
theorem Wd.frz (w : Wd K G H ph st) {a : Addr} {o : HO} (ha : H a = some o) (hn : a ∉ ph) : Wd K (upd G a o) H ph st := by
  have up : ∀ b u, G b = some u → upd G a o b = some u := fun b u h => by
    by_cases e : b = a
    · subst e
      have := w.sub b u h
      rw [ha] at this
      rw [upd_same]; exact this
    · rw [upd_ne e]; exact h
  refine ⟨fun b u h => ?_, w.nd, w.len, fun n b ds h1 h2 => ?_, w.hd.up up⟩
  · by_cases e : b = a
    · subst e; rw [upd_same] at h; rw [ha]; exact h
    · rw [upd_ne e] at h; exact w.sub b u h
  · obtain ⟨g, vs, h3, h4⟩ := w.box n b ds h1 h2
    have e : b ≠ a := fun e => hn (e ▸ List.mem_of_getElem? h1)
    exact ⟨by rw [upd_ne e]; exact g, vs, h3, DvAll.up up ds vs h4⟩
theorem Stp.frz (s : Stp G H ph G1 H1 ph1) {a : Addr} {o : HO} (ha : H1 a = some o) (h0 : H a = none) (gn : G1 a = none) : Stp G H ph (upd G1 a o) H1 ph1 := by
  refine ⟨fun b u h => ?_, fun b u h => ?_, s.fr, s.ph, s.dom⟩
  · have q := s.g b u h
    have e : b ≠ a := fun e => by subst e; rw [gn] at q; cases q
    rw [upd_ne e]; exact q
  · by_cases e : b = a
    · subst e; exact .inr h0
    · rw [upd_ne e] at h; exact s.gn b u h
/-- what may be kept, kept: the state ahead of the expression is (G, H, ph) -/
theorem cap_ok (s : Stp G H ph G1 H1 ph1) (w : Wd K G1 H1 ph1 st) {r : R} {v : V} {d : PyData} (h : Rs K G1 H1 ph1 r v) (f : FrO H r v) (e : r.cap = some d) :
    ∃ G2, Wd K G2 H1 ph1 st ∧ Stp G H ph G2 H1 ph1 ∧ Dv K G2 v d ∧ (∀ a o, G1 a = some o → G2 a = some o) ∧ (∀ a, G2 a = G1 a ∨ ∃ ds, r = .own ds ∧ v = .ref a) := by
  cases r with
  | dat d' =>
    cases e
    exact ⟨G1, w, s, h, fun _ _ q => q, fun a => .inl rfl⟩
  | own ds =>
    cases e
    obtain ⟨a, vs, rfl, h1, h2, h3, h4⟩ := h
    have up : ∀ b u, G1 b = some u → upd G1 a (.lst vs) b = some u := fun b u q => by
      have e : b ≠ a := fun e => by subst e; rw [h2] at q; cases q
      rw [upd_ne e]; exact q
    refine ⟨upd G1 a (.lst vs), w.frz h1 h3, s.frz h1 (f a rfl) h2, .lst upd_same (DvAll.up up ds vs h4), up, fun b => ?_⟩
    by_cases e : b = a
    · subst e; exact .inr ⟨ds, rfl, rfl⟩
    · exact .inl (by rw [upd_ne e])
  | _ => cases e
theorem RsAll.step (s : Stp G H ph G1 H1 ph1) : ∀ {rs : List R} {vs : List V}, RsAll K G H ph rs vs → RsAll K G1 H1 ph1 rs vs
  | [], [], _ => trivial
  | _ :: _, _ :: _, ⟨h, t⟩ => ⟨h.step s, RsAll.step s t⟩
theorem noAt_of {a : Addr} {o : HO} (ha : H a = some o) : ∀ {rs : List R} {vs : List V}, FrL H rs vs → NoAt a rs vs
  | [], _, _ => by unfold NoAt; trivial
  | .own ds :: rs, [], _ => by unfold NoAt; trivial
  | .own ds :: rs, v :: vs, ⟨f, _, t⟩ => ⟨(fun e => nomatch (ha.symm.trans (f a e))), noAt_of ha t⟩
  | .dat _ :: rs, [], _ => by unfold NoAt; trivial
  | .ref _ :: rs, [], _ => by unfold NoAt; trivial
  | .brw _ :: rs, [], _ => by unfold NoAt; trivial
  | .scr _ :: rs, [], _ => by unfold NoAt; trivial
  | .exc _ :: rs, [], _ => by unfold NoAt; trivial
  | .pr _ _ :: rs, [], _ => by unfold NoAt; trivial
  | .exo _ :: rs, [], _ => by unfold NoAt; trivial
  | .dat _ :: rs, _ :: vs, ⟨_, _, t⟩ => noAt_of (rs := rs) ha t
  | .ref _ :: rs, _ :: vs, ⟨_, _, t⟩ => noAt_of (rs := rs) ha t
  | .brw _ :: rs, _ :: vs, ⟨_, _, t⟩ => noAt_of (rs := rs) ha t
  | .scr _ :: rs, _ :: vs, ⟨_, _, t⟩ => noAt_of (rs := rs) ha t
  | .exc _ :: rs, _ :: vs, ⟨_, _, t⟩ => noAt_of (rs := rs) ha t
  | .pr _ _ :: rs, _ :: vs, ⟨_, _, t⟩ => noAt_of (rs := rs) ha t
  | .exo _ :: rs, _ :: vs, ⟨_, _, t⟩ => noAt_of (rs := rs) ha t
theorem FrL.before (s : Stp G H ph G1 H1 ph1) : ∀ {rs : List R} {vs : List V}, FrL H1 rs vs → FrL H rs vs
  | [], _, _ => by unfold FrL; trivial
  | _ :: _, [], _ => by unfold FrL; trivial
  | _ :: _, _ :: _, ⟨f, n, t⟩ => ⟨f.before s, n, FrL.before s t⟩
/-- what stays where a list of one's own is made lasting -/
theorem Rs.froze {a : Addr} (up : ∀ b o, G b = some o → G1 b = some o) (sm : ∀ b, G1 b = G b ∨ b = a) {r : R} {v : V} (h : Rs K G H ph r v) (n : v ≠ .ref a ∨ ∀ ds, r ≠ .own ds ∧ r ≠ .brw ds) : Rs K G1 H ph r v := by
  cases r with
  | dat d => exact Dv.up up d v h
  | ref m => exact h
  | own ds =>
    obtain ⟨b, vs, e, h1, h2, h3, h4⟩ := h
    refine ⟨b, vs, e, h1, ?_, h3, DvAll.up up ds vs h4⟩
    rcases sm b with q | q
    · rw [q]; exact h2
    · rcases n with n | n
      · subst q; exact absurd e n
      · exact absurd rfl (n ds).1
  | brw ds =>
    obtain ⟨b, vs, e, h1, h2, h3, h4⟩ := h
    refine ⟨b, vs, e, h1, ?_, h3, DvAll.up up ds vs h4⟩
    rcases sm b with q | q
    · rw [q]; exact h2
    · rcases n with n | n
      · subst q; exact absurd e n
      · exact absurd rfl (n ds).2
  | scr ns =>
    obtain ⟨b, e, q⟩ := h
    exact ⟨b, e, SqL.up up q⟩
  | exc c => exact h.elim
  | pr _ _ => exact h.elim
  | exo c => exact IsEx.up h up
theorem args_rest {a : Addr} (up : ∀ b o, G b = some o → G1 b = some o) (sm : ∀ b, G1 b = G b ∨ b = a) : ∀ {rs : List R} {vs : List V} {as : List R}, argsOf rs = some as → RsAll K G H ph rs vs → NoAt a rs vs → RsAll K G1 H ph rs vs
  | [], [], _, _, _, _ => trivial
  | [], _ :: _, _, _, h, _ => h.elim
  | _ :: _, [], _, _, h, _ => h.elim
  | r :: rs, v :: vs, as, e, ⟨h, t⟩, na => by
    unfold argsOf at e
    split at e
    · rename_i x xs e1 e2
      cases r with
      | own ds => exact ⟨Rs.froze up sm h (.inl na.1), args_rest up sm e2 t na.2⟩
      | brw ds => cases e1
      | dat d => exact ⟨Rs.froze up sm h (.inr fun _ => ⟨(fun z => nomatch z), (fun z => nomatch z)⟩), args_rest up sm e2 t na⟩
      | ref m => exact ⟨Rs.froze up sm h (.inr fun _ => ⟨(fun z => nomatch z), (fun z => nomatch z)⟩), args_rest up sm e2 t na⟩
      | scr m => exact ⟨Rs.froze up sm h (.inr fun _ => ⟨(fun z => nomatch z), (fun z => nomatch z)⟩), args_rest up sm e2 t na⟩
      | exo m => exact ⟨Rs.froze up sm h (.inr fun _ => ⟨(fun z => nomatch z), (fun z => nomatch z)⟩), args_rest up sm e2 t na⟩
      | exc m => cases e1
      | pr _ _ => cases e1
    · cases e
/-- arguments, made lasting -/
theorem args_ok : ∀ {rs as : List R} {vs : List V} {G1 : Hp}, Stp G H ph G1 H1 ph1 → Wd K G1 H1 ph1 st → RsAll K G1 H1 ph1 rs vs → FrL H rs vs → argsOf rs = some as →
    ∃ G2, Wd K G2 H1 ph1 st ∧ Stp G H ph G2 H1 ph1 ∧ RsAll K G2 H1 ph1 as vs ∧ (∀ a o, G1 a = some o → G2 a = some o)
  | [], as, [], G1, s, w, _, _, e => by
    cases (show some [] = some as from e)
    exact ⟨G1, w, s, trivial, fun _ _ q => q⟩
  | [], _, _ :: _, _, _, _, h, _, _ => h.elim
  | _ :: _, _, [], _, _, _, h, _, _ => h.elim
  | r :: rs, as, v :: vs, G1, s, w, ⟨h, t⟩, ⟨f, n, ft⟩, e => by
    unfold argsOf at e
    split at e
    · rename_i x xs e1 e2
      cases e
      have fin : ∀ G2, Wd K G2 H1 ph1 st → Stp G H ph G2 H1 ph1 → Rs K G2 H1 ph1 x v → (∀ a o, G1 a = some o → G2 a = some o) → RsAll K G2 H1 ph1 rs vs → (∀ ds, x ≠ .own ds ∧ x ≠ .brw ds) →
          ∃ G2, Wd K G2 H1 ph1 st ∧ Stp G H ph G2 H1 ph1 ∧ RsAll K G2 H1 ph1 (x :: xs) (v :: vs) ∧ (∀ a o, G1 a = some o → G2 a = some o) := fun G2 w2 s2 hx up t2 nx => by
        obtain ⟨G3, w3, s3, t3, up3⟩ := args_ok s2 w2 t2 ft e2
        refine ⟨G3, w3, s3, ⟨?_, t3⟩, fun a o q => up3 a o (up a o q)⟩
        cases x with
        | dat d => exact Dv.up up3 d v hx
        | ref m => exact hx
        | own ds => exact absurd rfl (nx ds).1
        | brw ds => exact absurd rfl (nx ds).2
        | scr ns => obtain ⟨b, e, q⟩ := hx; exact ⟨b, e, SqL.up up3 q⟩
        | exc c => exact hx.elim
        | pr _ _ => exact hx.elim
        | exo c => exact IsEx.up hx up3
      cases r with
      | brw ds => cases e1
      | dat d => cases e1; exact fin G1 w s h (fun _ _ q => q) t (fun _ => ⟨(fun z => nomatch z), (fun z => nomatch z)⟩)
      | ref d => cases e1; exact fin G1 w s h (fun _ _ q => q) t (fun _ => ⟨(fun z => nomatch z), (fun z => nomatch z)⟩)
      | exc c => cases e1
      | pr _ _ => cases e1
      | exo c => cases e1; exact fin G1 w s h (fun _ _ q => q) t (fun _ => ⟨(fun z => nomatch z), (fun z => nomatch z)⟩)
      | scr d => cases e1; exact fin G1 w s h (fun _ _ q => q) t (fun _ => ⟨(fun z => nomatch z), (fun z => nomatch z)⟩)
      | own ds =>
        cases e1
        obtain ⟨G2, w2, s2, hd, up, sm⟩ := cap_ok s w h f (show (R.own ds).cap = some (.list ds) from rfl)
        have hv : ∃ a, v = .ref a := by
          obtain ⟨a, _, e, _⟩ := (show ∃ a vs, v = .ref a ∧ H1 a = some (.lst vs) ∧ G1 a = none ∧ a ∉ ph1 ∧ DvAll K G1 vs ds from h)
          exact ⟨a, e⟩
        obtain ⟨a, ev⟩ := hv
        have sm' : ∀ b, G2 b = G1 b ∨ b = a := fun b => by
          rcases sm b with q | ⟨ds2, q1, q2⟩
          · exact .inl q
          · rw [ev] at q2; cases q2; exact .inr rfl
        exact fin G2 w2 s2 hd up (args_rest up sm' e2 t (n ds a rfl ev)) (fun _ => ⟨(fun z => nomatch z), (fun z => nomatch z)⟩)
    · cases e
theorem caps_args : ∀ {rs : List R} {ds : List PyData}, caps rs = some ds → argsOf rs = some (ds.map .dat)
  | [], ds, e => by cases (show some [] = some ds from e); rfl
  | r :: rs, ds, e => by
    unfold caps at e
    split at e
    · rename_i d ds' e1 e2
      cases e
      have q := caps_args e2
      unfold argsOf
      rw [q]
      cases r with
      | dat d => cases e1; rfl
      | own d => cases e1; rfl
      | _ => cases e1
    · cases e
theorem RsAll.dats : ∀ {ds : List PyData} {vs : List V}, RsAll K G H ph (ds.map .dat) vs → DvAll K G vs ds
  | [], [], _ => .nil
  | [], _ :: _, h => h.elim
  | _ :: _, [], h => h.elim
  | _ :: _, _ :: _, ⟨h, t⟩ => .cons h (RsAll.dats t)
theorem caps_ok {rs : List R} {vs : List V} {ds : List PyData} (s : Stp G H ph G1 H1 ph1) (w : Wd K G1 H1 ph1 st) (h : RsAll K G1 H1 ph1 rs vs) (f : FrL H rs vs) (e : caps rs = some ds) :
    ∃ G2, Wd K G2 H1 ph1 st ∧ Stp G H ph G2 H1 ph1 ∧ DvAll K G2 vs ds ∧ (∀ a o, G1 a = some o → G2 a = some o) := by
  obtain ⟨G2, w2, s2, h2, up⟩ := args_ok s w h f (caps_args e)
  exact ⟨G2, w2, s2, h2.dats, up⟩
theorem views_ok (w : Wd K G H ph st) : ∀ {rs : List R} {vs : List V} {ds : List PyData}, RsAll K G H ph rs vs → views rs = some ds → DvAll K H vs ds
  | [], [], ds, _, e => by cases (show some [] = some ds from e); exact .nil
  | [], _ :: _, _, h, _ => h.elim
  | _ :: _, [], _, h, _ => h.elim
  | r :: rs, v :: vs, ds, ⟨h, t⟩, e => by
    unfold views at e
    split at e
    · rename_i d ds' e1 e2
      cases e
      exact .cons (Rs.view w h e1) (views_ok w t e2)
    · cases e
end
end Sy

namespace Sy
open PySem PySem.Spec PyProof.Rows L2

/-! ### readings -/
def tE (K : Kx) (d : En → Bx → Option (R × Bx)) : TE := fun σ H Q =>
  ∃ (G : Hp) (ph : List Addr) (env : En) (st : Bx) (r : R) (st' : Bx), Ev K G H ph env st σ ∧ d env st = some (r, st') ∧
    ∀ v H' G' ph', Wd K G' H' ph' st' → Stp G H ph G' H' ph' → Rs K G' H' ph' r v → FrO H r v → Q v H'
def tT (K : Kx) (d : En → Bx → Option (Bool × Bx)) : TT := fun σ H Q =>
  ∃ (G : Hp) (ph : List Addr) (env : En) (st : Bx) (b : Bool) (st' : Bx), Ev K G H ph env st σ ∧ d env st = some (b, st') ∧
    ∀ H' G' ph', Wd K G' H' ph' st' → Stp G H ph G' H' ph' → Q b H'
def tAs (K : Kx) (d : En → Bx → Option (List R × Bx)) : TA := fun σ H Q =>
  ∃ (G : Hp) (ph : List Addr) (env : En) (st : Bx) (rs : List R) (st' : Bx), Ev K G H ph env st σ ∧ d env st = some (rs, st') ∧
    ∀ vs H' G' ph', Wd K G' H' ph' st' → Stp G H ph G' H' ph' → RsAll K G' H' ph' rs vs → FrL H rs vs → Q vs H'

theorem peW {X : Cx} {e : Expr} {t t' : TE} (h : PE X e t) (w : ∀ σ H Q, t' σ H Q → t σ H Q) : PE X e t' := ⟨fun pins s σ H Q I q => h.run pins s σ H Q I (w σ H Q q)⟩
theorem ptW {X : Cx} {e : Expr} {t t' : TT} (h : PT X e t) (w : ∀ σ H Q, t' σ H Q → t σ H Q) : PT X e t' := ⟨fun pins s σ H Q I q => h.run pins s σ H Q I (w σ H Q q)⟩
theorem pwW {X : Cx} {e : Expr} {t t' : TT} (h : PW X e t) (w : ∀ σ H Q, t' σ H Q → t σ H Q) : PW X e t' := ⟨fun wh pins s σ H Q I q => h.run wh pins s σ H Q I (w σ H Q q)⟩
theorem paW {X : Cx} {es : List Expr} {t t' : TA} (h : PA X es t) (w : ∀ σ H Q, t' σ H Q → t σ H Q) : PA X es t' := ⟨fun p pins s σ H Q I q => h.run p pins s σ H Q I (w σ H Q q)⟩
theorem OpR.or {X : Cx} {f : Value → Value → Sem Value} {r r' : R2} (h : OpR X f r) (h' : OpR X f r') : OpR X f (fun x y H Q => r x y H Q ∨ r' x y H Q) := by
  intro pins s σ H x y v u Q I rx ry q
  rcases q with q | q
  · exact h pins s σ H x y v u Q I rx ry q
  · exact h' pins s σ H x y v u Q I rx ry q
theorem OpR.imp {X : Cx} {f : Value → Value → Sem Value} {r r' : R2} (h : OpR X f r) (w : ∀ x y H Q, r' x y H Q → r x y H Q) : OpR X f r' := fun pins s σ H x y v u Q I rx ry q => h pins s σ H x y v u Q I rx ry (w _ _ _ _ q)

section
variable {X : Cx} {cf : Cf} {K : Kx}
/-- the reading of a value that is at hand -/
theorem tE_c {X : Cx} {e : Expr} {w : V} {d : PyData} (h : PE X e (tC w)) (q : ∀ G : Hp, Dv X.K G w d) : PE X e (tE (kx X) fun _ st => some (.dat d, st)) :=
  peW h fun σ H Q ⟨G, ph, env, st, r, st', E, e, k⟩ => by
    cases e
    exact k w H G ph E.w Stp.refl (q G) trivial
theorem ok_int {i : Int} {j pos} : PE X (.Constant (.int i) j pos) (tE (kx X) ((Ex.c (.int i)).den cf)) := tE_c pe_int fun _ => .int i
theorem ok_bl {b : Bool} {j pos} : PE X (.Constant (.bool b) j pos) (tE (kx X) ((Ex.c (.bool b)).den cf)) := tE_c pe_bl fun _ => .bl b
theorem ok_non {j pos} : PE X (.Constant .none j pos) (tE (kx X) ((Ex.c .none).den cf)) := tE_c pe_non fun _ => .non
theorem ok_str {x : Str} {j pos} : PE X (.Constant (.str x) j pos) (tE (kx X) ((Ex.c (.str x)).den cf)) := tE_c pe_str fun _ => .str x
theorem ok_var {i : Nat} {x : Str} {pos : Pos} (h : PE X (.Name x pos) (tVar i)) : PE X (.Name x pos) (tE (kx X) ((Ex.v i).den cf)) :=
  peW h fun σ H Q ⟨G, ph, env, st, r, st', E, e, k⟩ => by
    simp only [Ex.den] at e
    split at e
    · rename_i r0 e0
      cases e
      obtain ⟨v, hv, hr⟩ := E.sl i r0 e0
      refine ⟨v, hv, k v H G ph E.w Stp.refl ?_ ?_⟩
      · cases r0 <;> exact hr
      · cases r0 <;> trivial
    · cases e
theorem ok_glob {x : String} {d : PyData} {e : Expr} {w : V} (h : PE X e (tC w)) (q : ∀ G : Hp, Dv X.K G w d) : PE X e (tE (kx X) ((Ex.g x d).den cf)) := tE_c h q
theorem ok_never {e : Expr} : PE X e (tE (kx X) (Ex.never.den cf)) := ⟨fun _ _ _ _ _ _ ⟨_, _, _, _, _, _, _, e, _⟩ => by simp only [Ex.den] at e; cases e⟩

/-! ### two operands -/
/-- from two readings to one operation by values -/
theorem two {da db : En → Bx → Option (R × Bx)} {rr : R2} {σ : L2.St} {H : Hp} {Q : VK} {G : Hp} {ph : List Addr} {env : En} {st st1 st2 : Bx} {x y : R} (E : Ev K G H ph env st σ)
    (ea : da env st = some (x, st1)) (eb : db env st1 = some (y, st2))
    (k : ∀ v u H2 G2 ph2, Wd K G2 H2 ph2 st2 → Stp G H ph G2 H2 ph2 → Rs K G2 H2 ph2 x v → Rs K G2 H2 ph2 y u → rr v u H2 Q) : tOp rr (tE K da) (tE K db) σ H Q := by
  refine ⟨G, ph, env, st, x, st1, E, ea, fun v H1 G1 ph1 w1 s1 r1 f1 => ?_⟩
  refine ⟨G1, ph1, env, st1, y, st2, E.step s1 w1, eb, fun u H2 G2 ph2 w2 s2 r2 f2 => ?_⟩
  exact k v u H2 G2 ph2 w2 (s1.trans s2) (r1.step s2) r2

def opOf : Bop → Operator
  | .add => .Add | .sub => .Sub | .mul => .Mult | .fdiv => .FloorDiv | .mod => .Mod | .pow => .Pow
theorem mulOk_ok {i j : Int} (h : mulOk i j = true) : CMulW i j := by
  have : i.natAbs.log2 + j.natAbs.log2 < 1000000 := of_decide_eq_true h
  exact this
theorem powOk_ok {i j : Int} (h : powOk i j = true) : CPow i j := by
  have : 0 ≤ j ∧ j ≤ 1000000 ∧ i.natAbs < 2 ^ 64 := of_decide_eq_true h
  exact this
theorem divOk_ok {j : Int} (h : divOk j = true) : j ≠ 0 ∧ j.natAbs.log2 < 9000 := of_decide_eq_true h
theorem tuple_mul1 (l : Addr) (items : Array Value) (n : Nat) (dd : Option Addr) (sl : Array (Option Value)) (u : Tok) :
    Meets (Builtin.«tuple.__mul__» ⟨[.ref l, .int 1 u], []⟩) (fun _ R s => s.heap.get? l = some { cls := .type "tuple", dict := dd, data := .seq items n, slots := sl } ∧ R (.ok (.ret (Value.ref l))) s) :=
  .of_wp fun prog w A R s h => by
    obtain ⟨hp, g, d, tk, os⟩ := s
    obtain ⟨hl, h⟩ := h
    have f1 := AutoSeq1.idx_int
    have c0 : (decide ((1 : Int) < -(2 ^ 63)) || decide ((1 : Int) ≥ 2 ^ 63)) = false := by decide
    have c1 : (items.isEmpty || (1 : Int) == 1) = true := by rw [Bool.or_eq_true]; exact .inr rfl
    wp_walk using wpAny_loadPart' hl
    repeat (first
      | (refine wpAny_ite_false (decide_eq_false (by rw [c0]; exact Bool.false_ne_true)) ?_; wp_walk using wpAny_loadPart' hl)
      | (refine wpAny_ite_true (decide_eq_true c1) ?_; wp_walk using wpAny_loadPart' hl))
    exact ⟨_, rfl, h⟩
/-- a tuple taken once is that tuple -/
def rSameT (K : PySem.W.Frag) : R2 := fun x y H Q => ∃ l xs, x = .ref l ∧ y = .int 1 ∧ SqT K H l xs ∧ Q (.ref l) H
theorem op_sameT : OpR X (binaryOp .Mult) (rSameT X.K) := by
  intro pins s σ H x y v u Q I rx ry h
  obtain ⟨l, xs, rfl, rfl, hT, q⟩ := h
  cases rx
  obtain ⟨t, rfl⟩ := ry
  obtain ⟨its, r, ⟨⟨cls, dd, data, sl⟩, ho, hc, n, hd⟩, hs⟩ := I.tuple hT
  simp only at hc hd
  subst hc hd
  refine wpAny_binaryOp_repeat_ref (T := "tuple") (U := "int") (by decide) ⟨_, ho, rfl⟩ (fun s' => typeIs_int s' 1 t) noFill_tuple_mul F.fills_int_mul F.slot_int_rmul repeat_tuple F.slot_int_index.lookup
    (call_meets F.slot_int_rmul (typeIs_int s 1 t) F.entry_int_rmul (F.args_int_rmul_2 _ _) (int_rmul_tuple 1 t l its.toArray n dd sl)
      ⟨ho, rfl, ⟨_, ho, rfl⟩, call_meets F.slot_tuple_mul ⟨_, ho, rfl⟩ F.entry_tuple_mul (F.args_tuple_mul_2 _ _) (tuple_mul1 l its.toArray n dd sl t) ⟨ho, ?_⟩⟩)
  exact ⟨.ref l, H, I, rfl, q⟩
def rStr : R2 := fun x y H Q => ∃ i j, x = .str i ∧ y = .str j ∧ i.length + j.length ≤ sizeLine ∧ Q (.str (i ++ j)) H
def rBin (K : PySem.W.Frag) (o : Bop) : R2 := fun x y H Q => (∃ i j k, x = .int i ∧ y = .int j ∧ binI o i j = some k ∧ Q (.int k) H) ∨ (o = .add ∧ (rCat x y H Q ∨ rCatA K x y H Q ∨ rStr x y H Q)) ∨ (o = .mul ∧ (rRep x y H Q ∨ rRepT K x y H Q ∨ rSameT K x y H Q))
theorem op_intB (o : Bop) : OpR X (binaryOp (opOf o)) (fun x y H Q => ∃ i j k, x = .int i ∧ y = .int j ∧ binI o i j = some k ∧ Q (.int k) H) := by
  intro pins s σ H x y v u Q I rx ry ⟨i, j, k, e1, e2, e, q⟩
  cases o with
  | add => cases e; exact op_add pins s σ H x y v u Q I rx ry ⟨i, j, e1, e2, q⟩
  | sub => cases e; exact op_sub pins s σ H x y v u Q I rx ry ⟨i, j, e1, e2, q⟩
  | mul =>
    simp only [binI] at e
    split at e
    · rename_i hm
      cases e
      exact op_mulW pins s σ H x y v u Q I rx ry ⟨i, j, e1, e2, mulOk_ok hm, q⟩
    · cases e
  | fdiv =>
    simp only [binI] at e
    split at e
    · rename_i hm
      cases e
      have hm' := of_decide_eq_true hm
      subst e1 e2
      obtain ⟨t, rfl⟩ := rx
      obtain ⟨t', rfl⟩ := ry
      exact floordiv_int hm'.1 ⟨.int _, H, I.tok _, ⟨_, rfl⟩, q⟩ (.inl (PyProof.noPylong_of_log2 hm'.2))
    · cases e
  | mod =>
    simp only [binI] at e
    split at e
    · cases e
    · rename_i hm
      cases e
      exact op_modN pins s σ H x y v u Q I rx ry ⟨i, j, e1, e2, hm, q⟩
  | pow =>
    simp only [binI] at e
    split at e
    · rename_i hm
      cases e
      exact op_pow pins s σ H x y v u Q I rx ry ⟨i, j, e1, e2, powOk_ok hm, q⟩
    · cases e
theorem op_bin (o : Bop) : OpR X (binaryOp (opOf o)) (rBin X.K o) := by
  intro pins s σ H x y v u Q I rx ry h
  rcases h with h | ⟨rfl, h | h | h⟩ | ⟨rfl, h | h | h⟩
  · exact op_intB o pins s σ H x y v u Q I rx ry h
  · exact op_cat pins s σ H x y v u Q I rx ry h
  · exact op_catA pins s σ H x y v u Q I rx ry h
  · exact op_add_str pins s σ H x y v u Q I rx ry h
  · exact op_rep pins s σ H x y v u Q I rx ry h
  · exact op_repT pins s σ H x y v u Q I rx ry h
  · exact op_sameT pins s σ H x y v u Q I rx ry h
theorem fits {n : Nat} (h : fitsL n = true) : n ≤ sizeLine := of_decide_eq_true h
/-- a new list of one's own -/
theorem new_own {G H Hb : Hp} {ph ph0 : List Addr} {G0 : Hp} {st : Bx} {vs : List V} {ds : List PyData} {p : Addr} (w : Wd K G H ph st) (s : Stp G0 Hb ph0 G H ph) (h : DvAll K G vs ds) (hp : H p = none) :
    Wd K G (upd H p (.lst vs)) ph st ∧ Stp G0 Hb ph0 G (upd H p (.lst vs)) ph ∧ Rs K G (upd H p (.lst vs)) ph (.own ds) (.ref p) ∧ FrO Hb (.own ds) (.ref p) := by
  refine ⟨w.new hp, s.trans (Stp.new hp), ⟨p, vs, rfl, upd_same, ?_, ?_, h⟩, fun a e => by cases e; exact s.dom p hp⟩
  · cases e : G p with
    | none => rfl
    | some u => have := w.sub p u e; rw [hp] at this; cases this
  · intro m
    obtain ⟨n, hn, e⟩ := List.getElem_of_mem m
    have hl : n < st.length := by rw [← w.len]; exact hn
    obtain ⟨_, us, q, _⟩ := w.box n p st[n] (by rw [List.getElem?_eq_getElem hn, e]) (List.getElem?_eq_getElem hl)
    rw [hp] at q; cases q
theorem new_tup {G H Hb : Hp} {ph ph0 : List Addr} {G0 : Hp} {st : Bx} {vs : List V} {ds : List PyData} {p : Addr} (w : Wd K G H ph st) (s : Stp G0 Hb ph0 G H ph) (h : DvAll K G vs ds) (hp : H p = none) :
    Wd K (upd G p (.tup vs)) (upd H p (.tup vs)) ph st ∧ Stp G0 Hb ph0 (upd G p (.tup vs)) (upd H p (.tup vs)) ph ∧ Rs K (upd G p (.tup vs)) (upd H p (.tup vs)) ph (.dat (.tuple ds)) (.ref p) := by
  have st2 := Stp.newG (o := .tup vs) w hp
  exact ⟨w.newG hp, s.trans st2, .tup (SqT.of upd_same) (DvAll.up st2.g ds vs h)⟩
theorem ok_bin {a b : Expr} {ea eb : Ex} {pos : Pos} (o : Bop) (ha : PE X a (tE (kx X) (ea.den cf))) (hb : PE X b (tE (kx X) (eb.den cf))) : PE X (.BinOp a (opOf o) b pos) (tE (kx X) ((Ex.bin o ea eb).den cf)) :=
  peW (pe_op (op_bin o) ha hb) fun σ H Q ⟨G, ph, env, st, r, st', E, e, k⟩ => by
    simp only [Ex.den] at e
    split at e
    · rename_i x st1 e1
      split at e
      · rename_i y st2 e2
        split at e
        · rename_i d d2 v1 v2
          cases hr : binD o d d2 with
          | none => rw [hr] at e; cases e
          | some r0 =>
            rw [hr] at e
            cases e
            refine two E e1 e2 fun v u H2 G2 ph2 w2 s2 r1 r2 => ?_
            unfold binD at hr
            split at hr
            · rename_i i j
              cases hi : binI o i j with
              | none => rw [hi] at hr; cases hr
              | some k0 =>
                rw [hi] at hr
                cases hr
                exact .inl ⟨i, j, k0, Rs.viewI w2 r1 v1, Rs.viewI w2 r2 v2, hi, k _ H2 G2 ph2 w2 s2 (.int k0) trivial⟩
            · rename_i xs ys
              split at hr
              · rename_i c
                cases hr
                obtain ⟨p, vs, rfl, h1, h2⟩ := Rs.viewL w2 r1 v1
                obtain ⟨q, us, rfl, h3, h4⟩ := Rs.viewL w2 r2 v2
                refine .inr (.inl ⟨c.1, .inl ⟨p, q, vs, us, rfl, rfl, h1, h3, by rw [h2.len, h4.len]; exact fits c.2, fun z hz => ?_⟩⟩)
                obtain ⟨a1, a2, a3, a4⟩ := new_own w2 s2 (h2.app h4) hz
                exact k _ _ _ _ a1 a2 a3 a4
              · cases hr
            · rename_i xs ys
              split at hr
              · rename_i c
                cases hr
                obtain ⟨p, vs, rfl, h1, h2⟩ := Rs.viewT w2 r1 v1
                obtain ⟨q, us, rfl, h3, h4⟩ := Rs.viewT w2 r2 v2
                refine .inr (.inl ⟨c.1, .inr (.inl ⟨p, q, vs, us, rfl, rfl, h1, h3, by rw [h2.len, h4.len]; exact fits c.2, fun z => ?_, fun _ z => ?_, fun _ _ p2 hp => ?_⟩)⟩)
                · subst z
                  cases h2
                  cases y with
                  | dat d =>
                    cases v2
                    exact k _ _ _ _ w2 s2 r2 trivial
                  | _ => cases v2
                · subst z
                  cases h4
                  rw [List.append_nil] at k
                  cases x with
                  | dat d =>
                    cases v1
                    exact k _ _ _ _ w2 s2 r1 trivial
                  | _ => cases v1
                · obtain ⟨a1, a2, a3⟩ := new_tup w2 s2 (h2.app h4) hp
                  exact k _ _ _ _ a1 a2 a3 trivial
              · cases hr
            · rename_i xs k0
              split at hr
              · rename_i c
                cases hr
                have c2 : k0 < 2 ^ 20 ∧ 0 ≤ k0 ∧ xs.length * k0.toNat ≤ sizeLine := of_decide_eq_true c.2
                obtain ⟨p, vs, rfl, h1, h2⟩ := Rs.viewL w2 r1 v1
                refine .inr (.inr ⟨c.1, .inl ⟨p, k0, vs, rfl, Rs.viewI w2 r2 v2, h1, by omega, by omega, by rw [h2.len]; exact c2.2.2, fun z hz => ?_⟩⟩)
                obtain ⟨a1, a2, a3, a4⟩ := new_own w2 s2 (h2.rep k0.toNat) hz
                exact k _ _ _ _ a1 a2 a3 a4
              · cases hr
            · rename_i xs k0
              split at hr
              · rename_i c
                cases hr
                have c2 : 2 ≤ k0 ∧ k0 ≤ 1000 ∧ 1 ≤ xs.length ∧ xs.length ≤ 1000 := of_decide_eq_true c.2
                obtain ⟨p, vs, rfl, h1, h2⟩ := Rs.viewT w2 r1 v1
                have hl := h2.len
                refine .inr (.inr ⟨c.1, .inr (.inl ⟨p, k0, vs, rfl, Rs.viewI w2 r2 v2, h1, fun e => ?_, c2.1, c2.2.1, by omega, fun z hz => ?_⟩)⟩)
                · subst e
                  simp at hl
                  omega
                · obtain ⟨a1, a2, a3⟩ := new_tup w2 s2 (h2.rep k0.toNat) hz
                  exact k _ _ _ _ a1 a2 a3 trivial
              · split at hr
                · rename_i c
                  cases hr
                  obtain ⟨c1, rfl⟩ := c
                  obtain ⟨p, vs, rfl, h1, h2⟩ := Rs.viewT w2 r1 v1
                  refine .inr (.inr ⟨c1, .inr (.inr ⟨p, vs, rfl, Rs.viewI w2 r2 v2, h1, ?_⟩)⟩)
                  cases x with
                  | dat d =>
                    cases v1
                    exact k _ _ _ _ w2 s2 r1 trivial
                  | _ => cases v1
                · cases hr
            · rename_i i j
              split at hr
              · rename_i c
                cases hr
                exact .inr (.inl ⟨c.1, .inr (.inr ⟨i, j, Rs.viewS w2 r1 v1, Rs.viewS w2 r2 v2, fits c.2, k _ H2 G2 ph2 w2 s2 (.str _) trivial⟩)⟩)
              · cases hr
            · cases hr
        · cases e
      · cases e
    · cases e
end
end Sy

namespace Sy
open PySem PySem.Spec PyProof.Rows L2

/-! ### comparisons by values -/
def cOf : Cop → CmpOp
  | .eq => .Eq | .ne => .NotEq | .lt => .Lt | .le => .LtE | .gt => .Gt | .ge => .GtE | .inn => .In | .nin => .NotIn
def rCmp (K : PySem.W.Frag) (o : Cop) : R2 := fun x y H Q => ∃ d e b, Dv K H x d ∧ Dv K H y e ∧ cmpD o d e = some b ∧ Q (.bl b) H
theorem iteP {p q : Prop} (h : p) : if true = true then p else q := by rw [if_pos rfl]; exact h
theorem iteN {p q : Prop} (h : q) : if false = true then p else q := by rw [if_neg Bool.false_ne_true]; exact h
section
variable {X : Cx} {cf : Cf}
theorem eqD_some {d e : PyData} {b : Bool} (h : eqD d e = some b) : (∃ x y, d = .str x ∧ e = .str y ∧ b = decide (x = y)) ∨ (SeqAt.shaped d = true ∧ SeqAt.shaped e = true ∧ b = PyData.eqv d e) ∨ (dT d e = true ∧ b = false) ∨ (lT d e = true ∧ b = false) ∨ (dS d e = true ∧ b = false) := by
  unfold eqD at h
  split at h
  · cases h; exact .inl ⟨_, _, rfl, rfl, rfl⟩
  · split at h
    · rename_i c
      cases h
      exact .inr (.inl ⟨(Bool.and_eq_true_iff.mp c).1, (Bool.and_eq_true_iff.mp c).2, rfl⟩)
    · split at h
      · rename_i c
        cases h
        exact .inr (.inr (.inl ⟨c, rfl⟩))
      · split at h
        · rename_i c
          cases h
          exact .inr (.inr (.inr (.inl ⟨c, rfl⟩)))
        · split at h
          · rename_i c
            cases h
            exact .inr (.inr (.inr (.inr ⟨c, rfl⟩)))
          · cases h
theorem cps_eq (x y : Str) : (x.cps.toList == y.cps.toList) = decide (x = y) := by
  by_cases h : x = y
  · subst h; simp
  · rw [decide_eq_false h, beq_eq_false_iff_ne]
    exact fun q => h (by cases x; cases y; simpa using q)
theorem inD_some {d : PyData} {ds : List PyData} {b : Bool} (h : inD d ds = some b) : (SeqAt.shaped d = true ∧ SeqAt.shaped (.list ds) = true ∧ b = ds.any fun z => PyData.eqv z d) ∨ (inT d ds = true ∧ b = false) := by
  unfold inD at h
  split at h
  · rename_i c
    cases h
    exact .inl ⟨(Bool.and_eq_true_iff.mp c).1, (Bool.and_eq_true_iff.mp c).2, rfl⟩
  · split at h
    · rename_i c
      cases h
      exact .inr ⟨c, rfl⟩
    · cases h
theorem map_not {o : Option Bool} {b : Bool} (h : o.map not = some b) : ∃ c, o = some c ∧ b = !c := by
  cases o with
  | none => cases h
  | some c => cases h; exact ⟨c, rfl, rfl⟩
/-- the entries of such a dict -/
theorem pairs_reads {h : Heap} {P : Program} {w : World} : ∀ {l : List (Key × Int)} {vs : List (Key × Value)} {es : List DictEntry}, KV (kvV l) vs → Pairs (mixKind P w) es vs → ReadsAll h (es.map (·.key)) ((kvD l).map (·.1)) [] ∧ ReadsAll h (es.map (·.val)) ((kvD l).map (·.2)) []
  | [], _, es, r, p => by
    unfold kvV at r
    rw [List.map_nil] at r
    cases r
    cases p
    exact ⟨.nil, .nil⟩
  | q :: l, _, es, r, p => by
    unfold kvV at r
    rw [List.map_cons] at r
    cases r with
    | cons h1 h2 =>
      cases p with
      | cons g1 g2 g3 =>
        obtain ⟨i1, i2⟩ := pairs_reads (h := h) (P := P) (w := w) (l := l) h2 g3
        obtain ⟨e1, t, e2⟩ := h1
        refine ⟨?_, ?_⟩
        · rw [List.map_cons]
          refine ReadsAll.cons (as := []) (bs := []) ?_ i1
          rw [mixKind_is, ← e1] at g1
          rcases keyIs_shape g1 with ⟨i, t, ek, ev⟩ | ⟨x, t, ek, ev⟩
          · dsimp only at ek
            show Reads h _ (keyD q.1) []
            rw [ek, ev]; exact .int i t
          · dsimp only at ek
            show Reads h _ (keyD q.1) []
            rw [ek, ev]; exact .str x t
        · rw [List.map_cons]
          refine ReadsAll.cons (as := []) (bs := []) ?_ i2
          rw [g2, e2]; exact .int q.2 t
/-- .. as it stands -/
theorem dict_at {pins : List (Addr × Obj)} {σ : L2.St} {H : Hp} {s : Shared} (I : Inv X pins σ H s) {a : Addr} {l : List (Key × Int)} (e : H a = some (.dK (kvV l))) :
    ∃ o es ep, s.heap.get? a = some o ∧ o.cls = .type "dict" ∧ o.data = .dict es ep ∧ ReadsAll s.heap (es.toList.map (·.key)) ((kvD l).map (·.1)) [] ∧ ReadsAll s.heap (es.toList.map (·.val)) ((kvD l).map (·.2)) [] ∧ (a == sysModules) = false := by
  obtain ⟨_, hs, vs, r, o, es, ep, h1, h2, h3, h4, h5, h6⟩ := dk_of I.hok e
  obtain ⟨q1, q2⟩ := pairs_reads (h := s.heap) r h5
  exact ⟨o, es, ep, h1, h2.1, h3, q1, q2, hs⟩
mutual
theorem Dv.reads {pins : List (Addr × Obj)} {σ : L2.St} {H : Hp} {s : Shared} (I : Inv X pins σ H s) : ∀ (d : PyData) (v : V) (u : Value), Dv X.K H v d → RelV v u → ∃ as, Reads s.heap u d as
  | .none, _, _, h, r => by cases h; cases r; exact ⟨_, .none⟩
  | .bool b, _, _, h, r => by cases h; cases r; exact ⟨_, .bool b⟩
  | .int i, _, _, h, r => by cases h; obtain ⟨t, rfl⟩ := r; exact ⟨_, .int i t⟩
  | .str x, _, _, h, r => by cases h; obtain ⟨t, rfl⟩ := r; exact ⟨_, .str x t⟩
  | .list ds, _, _, h, r => by
    cases h with
    | lst h1 h2 =>
      cases r
      obtain ⟨its, rv, ⟨o, n, ho, hc, _, hd⟩, _⟩ := I.list (SqL.of h1)
      obtain ⟨as, hr⟩ := DvAll.reads I ds _ its h2 rv
      exact ⟨_, .list ho hc hd hr⟩
  | .tuple ds, _, _, h, r => by
    cases h with
    | tup h1 h2 =>
      cases r
      obtain ⟨its, rv, ⟨o, ho, hc, n, hd⟩, _⟩ := I.tuple h1
      obtain ⟨as, hr⟩ := DvAll.reads I ds _ its h2 rv
      exact ⟨_, .tuple ho hc hd hr⟩
  | .dict kvs, _, _, h, r => by
    cases h with
    | dct l h1 =>
      cases r
      obtain ⟨ob, es, ep, e1, e2, e3, e4, e5, _⟩ := dict_at I h1
      exact ⟨_, .dict e1 e2 e3 e4 e5⟩
theorem DvAll.reads {pins : List (Addr × Obj)} {σ : L2.St} {H : Hp} {s : Shared} (I : Inv X pins σ H s) : ∀ (ds : List PyData) (vs : List V) (us : List Value), DvAll X.K H vs ds → Vals vs us → ∃ as, ReadsAll s.heap us ds as
  | [], _, _, h, r => by cases h; cases r; exact ⟨_, .nil⟩
  | d :: ds, _, _, h, r => by
    cases h with
    | cons h1 h2 =>
      cases r with
      | cons r1 r2 =>
        obtain ⟨as, q1⟩ := Dv.reads I d _ _ h1 r1
        obtain ⟨bs, q2⟩ := DvAll.reads I ds _ _ h2 r2
        exact ⟨_, .cons q1 q2⟩
end
open AutoSeq1 (wpAny_loadPart')
theorem dict_ne_declines (l b : Addr) (es : Array DictEntry) (items2 : Array Value) (n n2 : Nat) (dd dd2 : Option Addr) (sl sl2 : Array (Option Value)) :
    Meets (Builtin.«dict.__ne__» ⟨[.ref l, .ref b], []⟩) (fun _ R s => s.heap.get? l = some { cls := .type "dict", dict := dd, data := .dict es n, slots := sl } ∧ s.heap.get? b = some { cls := .type "tuple", dict := dd2, data := .seq items2 n2, slots := sl2 } ∧ R (.ok (.ret .notImplemented)) s) :=
  .of_wp fun prog w A R s h => by obtain ⟨hp, g, d, tk, os⟩ := s; obtain ⟨hl, hb, h⟩ := h; have f1 := F.sub_tuple_dict; wp_walk using wpAny_loadPart' hl, wpAny_loadPart' hb; exact ⟨_, rfl, h⟩
theorem dict_eq_declines (l b : Addr) (es : Array DictEntry) (items2 : Array Value) (n n2 : Nat) (dd dd2 : Option Addr) (sl sl2 : Array (Option Value)) :
    Meets (Builtin.«dict.__eq__» ⟨[.ref l, .ref b], []⟩) (fun _ R s => s.heap.get? l = some { cls := .type "dict", dict := dd, data := .dict es n, slots := sl } ∧ s.heap.get? b = some { cls := .type "tuple", dict := dd2, data := .seq items2 n2, slots := sl2 } ∧ R (.ok (.ret .notImplemented)) s) :=
  .of_wp fun prog w A R s h => by obtain ⟨hp, g, d, tk, os⟩ := s; obtain ⟨hl, hb, h⟩ := h; have f1 := F.sub_tuple_dict; wp_walk using wpAny_loadPart' hl, wpAny_loadPart' hb; exact ⟨_, rfl, h⟩
theorem tuple_ne_dict (l b : Addr) (es : Array DictEntry) (items2 : Array Value) (n n2 : Nat) (dd dd2 : Option Addr) (sl sl2 : Array (Option Value)) :
    Meets (Builtin.«tuple.__ne__» ⟨[.ref b, .ref l], []⟩) (fun _ R s => s.heap.get? b = some { cls := .type "tuple", dict := dd2, data := .seq items2 n2, slots := sl2 } ∧ s.heap.get? l = some { cls := .type "dict", dict := dd, data := .dict es n, slots := sl } ∧ R (.ok (.ret .notImplemented)) s) :=
  .of_wp fun prog w A R s h => by obtain ⟨hp, g, d, tk, os⟩ := s; obtain ⟨hb, hl, h⟩ := h; have f1 := F.sub_dict_tuple; wp_walk using wpAny_loadPart' hl, wpAny_loadPart' hb; exact ⟨_, rfl, h⟩
theorem tuple_eq_dict (l b : Addr) (es : Array DictEntry) (items2 : Array Value) (n n2 : Nat) (dd dd2 : Option Addr) (sl sl2 : Array (Option Value)) :
    Meets (Builtin.«tuple.__eq__» ⟨[.ref b, .ref l], []⟩) (fun _ R s => s.heap.get? b = some { cls := .type "tuple", dict := dd2, data := .seq items2 n2, slots := sl2 } ∧ s.heap.get? l = some { cls := .type "dict", dict := dd, data := .dict es n, slots := sl } ∧ R (.ok (.ret .notImplemented)) s) :=
  .of_wp fun prog w A R s h => by obtain ⟨hp, g, d, tk, os⟩ := s; obtain ⟨hb, hl, h⟩ := h; have f1 := F.sub_dict_tuple; wp_walk using wpAny_loadPart' hl, wpAny_loadPart' hb; exact ⟨_, rfl, h⟩
theorem ne_dict_tuple {A : Around} {s : Shared} {a b : Addr} {o : Obj} {es : Array DictEntry} {ep : Nat} {items : Array Value} (ho : s.heap.get? a = some o) (hc : o.cls = .type "dict") (hd : o.data = .dict es ep) (hb : s.heap.IsTuple b items) (hu : A.units < cLine) : SeqAt.RcNeAt A s (.ref a) (.ref b) true := fun prog w E Q h => by
  obtain ⟨cls, dd, data, sl⟩ := o
  obtain ⟨⟨cls2, dd2, data2, sl2⟩, ho2, hc2, n2, hd2⟩ := id hb
  simp only at hc hd hc2 hd2
  subst hc hd hc2 hd2
  have hne : a ≠ b := fun e => by
    subst e
    rw [ho] at ho2
    injection ho2 with q
    injection q with q1
    injection q1 with q2
    exact absurd q2 (by decide)
  exact (SeqAt.rc_ne_decline_or (k := false) ⟨_, ho, rfl⟩ ⟨_, ho2, rfl⟩ (by decide) F.sub_tuple_dict F.slot_dict_ne F.slot_tuple_ne_refl
    (fun _ hq => call_meets F.slot_dict_ne ⟨_, ho, rfl⟩ F.entry_dict_ne (F.args_dict_ne_2 _ _) (dict_ne_declines a b es items ep n2 dd dd2 sl sl2) ⟨ho, ho2, hq⟩)
    (fun _ hq => call_meets F.slot_tuple_ne_refl ⟨_, ho2, rfl⟩ F.entry_tuple_ne (F.args_tuple_ne_2 _ _) (tuple_ne_dict a b es items ep n2 dd dd2 sl sl2) ⟨ho2, ho, hq⟩)
    (fun _ hq => wpAny_isSame_ref_other hne ho ho2 (by simp) hq) (.inr hu) h)
theorem eq_dict_tuple {A : Around} {s : Shared} {a b : Addr} {o : Obj} {es : Array DictEntry} {ep : Nat} {items : Array Value} (ho : s.heap.get? a = some o) (hc : o.cls = .type "dict") (hd : o.data = .dict es ep) (hb : s.heap.IsTuple b items) (hu : A.units < cLine) : SeqAt.RcAt A s (.ref a) (.ref b) false := fun prog w E Q h => by
  obtain ⟨cls, dd, data, sl⟩ := o
  obtain ⟨⟨cls2, dd2, data2, sl2⟩, ho2, hc2, n2, hd2⟩ := id hb
  simp only at hc hd hc2 hd2
  subst hc hd hc2 hd2
  have hne : a ≠ b := fun e => by
    subst e
    rw [ho] at ho2
    injection ho2 with q
    injection q with q1
    injection q1 with q2
    exact absurd q2 (by decide)
  exact (SeqAt.rc_eq_decline_or (k := false) ⟨_, ho, rfl⟩ ⟨_, ho2, rfl⟩ (by decide) F.sub_tuple_dict F.slot_dict_eq F.slot_tuple_eq_refl
    (fun _ hq => call_meets F.slot_dict_eq ⟨_, ho, rfl⟩ F.entry_dict_eq (F.args_dict_eq_2 _ _) (dict_eq_declines a b es items ep n2 dd dd2 sl sl2) ⟨ho, ho2, hq⟩)
    (fun _ hq => call_meets F.slot_tuple_eq_refl ⟨_, ho2, rfl⟩ F.entry_tuple_eq (F.args_tuple_eq_2 _ _) (tuple_eq_dict a b es items ep n2 dd dd2 sl sl2) ⟨ho2, ho, hq⟩)
    (fun _ hq => wpAny_isSame_ref_other hne ho ho2 (by simp) hq) (.inr hu) h)
theorem dT_ok {d e : PyData} (h : dT d e = true) : ∃ ks ds, d = .dict ks ∧ e = .tuple ds := by
  cases d <;> cases e <;> first | exact ⟨_, _, rfl, rfl⟩ | cases h
theorem lT_ok {d e : PyData} (h : lT d e = true) : ∃ xs ys, d = .list xs ∧ e = .list ys ∧ xs.length ≠ ys.length := by
  cases d <;> cases e <;> first | exact ⟨_, _, rfl, rfl, of_decide_eq_true h⟩ | cases h
/-! a dict beside a text -/
theorem dict_eq_str (l : Addr) (es : Array DictEntry) (n : Nat) (dd : Option Addr) (sl : Array (Option Value)) (b : Str) (u : Tok) :
    Meets (Builtin.«dict.__eq__» ⟨[.ref l, .str b u], []⟩) (fun _ R s => s.heap.get? l = some { cls := .type "dict", dict := dd, data := .dict es n, slots := sl } ∧ R (.ok (.ret .notImplemented)) s) :=
  .of_wp fun prog w A R s h => by obtain ⟨hp, g, d, tk, os⟩ := s; obtain ⟨hl, h⟩ := h; have f1 := F.sub_str_dict; wp_walk using wpAny_loadPart' hl; exact ⟨_, rfl, h⟩
theorem str_eq_dict (b : Str) (u : Tok) (l : Addr) (es : Array DictEntry) (n : Nat) (dd : Option Addr) (sl : Array (Option Value)) :
    Meets (Builtin.«str.__eq__» ⟨[.str b u, .ref l], []⟩) (fun _ R s => s.heap.get? l = some { cls := .type "dict", dict := dd, data := .dict es n, slots := sl } ∧ R (.ok (.ret .notImplemented)) s) :=
  .of_wp fun prog w A R s h => by obtain ⟨hp, g, d, tk, os⟩ := s; obtain ⟨hl, h⟩ := h; wp_walk using wpAny_loadPart' hl, wpAny_load hl; exact ⟨_, rfl, h⟩
theorem eq_str_dict {A : Around} {s : Shared} {a : Addr} {o : Obj} {es : Array DictEntry} {ep : Nat} (b : Str) (u : Tok) (ho : s.heap.get? a = some o) (hc : o.cls = .type "dict") (hd : o.data = .dict es ep) (hu : A.units < cLine) : SeqAt.EqAt A s (.str b u) (.ref a) false := fun prog w E Q h => by
  obtain ⟨cls, dd, data, sl⟩ := o
  simp only at hc hd
  subst hc hd
  unfold eqBool
  refine wpAny_holding ?_
  refine wpAny_ite_split (fun hab => absurd (eq_of_beq hab) nofun) (fun _ => ?_)
  refine wpAny_bind ?_
  exact SeqAt.rc_eq_decline_or (k := false) (typeIs_str s b u) ⟨_, ho, rfl⟩ (by decide) F.sub_dict_str F.slot_str_eq F.slot_dict_eq_refl
    (fun _ hq => call_meets F.slot_str_eq (typeIs_str s b u) F.entry_str_eq (F.args_str_eq_2 _ _) (str_eq_dict b u a es ep dd sl) ⟨ho, hq⟩)
    (fun _ hq => call_meets F.slot_dict_eq_refl ⟨_, ho, rfl⟩ F.entry_dict_eq (F.args_dict_eq_2 _ _) (dict_eq_str a es ep dd sl b u) ⟨ho, hq⟩)
    (fun _ hq => wpAny_of_eq (rfl : isSame (.str b u) (.ref a) = pure false) hq) (.inr hu) (wpAny_truthy_bool h)
/-- a tuple of one text beside a tuple that begins with a dict -/
theorem eq_t1 {A : Around} {s : Shared} {x y : Value} {z : Str} {ks : List (PyData × PyData)} {es : List PyData} {as bs : List Addr} (ry : Reads s.heap y (.tuple [.str z]) as) (rx : Reads s.heap x (.tuple (.dict ks :: es)) bs) (hu : A.units + 1 < cLine) : SeqAt.EqAt A s y x false := by
  cases ry with
  | tuple h1 h2 h3 h4 =>
    rename_i p o vs n
    cases rx with
    | tuple g1 g2 g3 g4 =>
      rename_i p' o' vs' n'
      obtain ⟨v⟩ := vs
      obtain ⟨v'⟩ := vs'
      simp only at h4 g4
      cases h4 with
      | cons a1 a2 =>
        cases a2
        cases a1 with
        | str _ t1 =>
          cases g4 with
          | cons b1 b2 =>
            cases b1 with
            | dict d1 d2 d3 d4 d5 =>
              have hne : p ≠ p' := fun e => by
                subst e
                rw [h1] at g1
                cases g1
                rw [h3] at g3
                injection g3 with q1 q2
                injection q1 with q3
                injection q3 with q4 q5
                cases q4
              refine SeqAt.EqAt.of_refs hne ?_
              have := SeqAt.RcAt.tuples (A := A) (s := s) (e := fun _ => false) ⟨_, h1, h2, _, h3⟩ ⟨_, g1, g2, _, g3⟩ (by omega) (fun j j1 j2 => by
                have : j = 0 := by
                  simp only [List.size_toArray, List.length_cons, List.length_nil] at j1
                  omega
                subst this
                exact eq_str_dict (A := A.in1) z t1 d1 d2 d3 (by show A.units + 1 < cLine; omega))
              have e : ∀ (m : Nat) (c : Bool), (((List.range (min 1 (m + 1))).all fun _ => false) && c) = false := fun m c => by
                rw [show min 1 (m + 1) = 1 by omega]; rfl
              exact Eq.mp (congrArg (SeqAt.RcAt A s (.ref p) (.ref p')) (e _ _)) this
theorem readsAll_mem {h : Heap} : ∀ {vs : List Value} {ds : List PyData} {as : List Addr}, ReadsAll h vs ds as → ∀ v ∈ vs, ∃ d ∈ ds, ∃ bs, Reads h v d bs
  | _, _, _, .nil, _, hv => nomatch hv
  | _, _, _, .cons r rs, v, hv => by
    rcases List.mem_cons.mp hv with rfl | hv
    · exact ⟨_, List.mem_cons_self, _, r⟩
    · obtain ⟨d, hd, bs, q⟩ := readsAll_mem rs v hv
      exact ⟨d, List.mem_cons_of_mem _ hd, bs, q⟩
theorem strT1_ok {d : PyData} (h : strT1 d = true) : ∃ x, d = .tuple [.str x] := by
  unfold strT1 at h
  split at h
  · exact ⟨_, rfl⟩
  · cases h
theorem inT_ok {d : PyData} {ds : List PyData} (h : inT d ds = true) : ∃ ks es, d = .tuple (.dict ks :: es) ∧ ∀ e ∈ ds, strT1 e = true := by
  unfold inT at h
  split at h
  · exact ⟨_, _, rfl, fun e he => List.all_eq_true.mp h e he⟩
  · cases h
theorem inT_each {A : Around} {s : Shared} {x : Value} {vs : List Value} {d : PyData} {ds : List PyData} {as bs : List Addr} (h : inT d ds = true) (rv : ReadsAll s.heap vs ds as) (rx : Reads s.heap x d bs) (hu : A.units + 1 < cLine) : ∀ y ∈ vs, SeqAt.EqAt A s y x false := fun y hy => by
  obtain ⟨ks, es, rfl, hall⟩ := inT_ok h
  obtain ⟨e, he, bs, r⟩ := readsAll_mem rv y hy
  obtain ⟨z, rfl⟩ := strT1_ok (hall e he)
  exact eq_t1 r rx hu
theorem dS_ok {d e : PyData} (h : dS d e = true) : ∃ ks x, d = .dict ks ∧ e = .str x := by
  cases d <;> cases e <;> first | exact ⟨_, _, rfl, rfl⟩ | cases h
theorem dict_ne_str (l : Addr) (es : Array DictEntry) (n : Nat) (dd : Option Addr) (sl : Array (Option Value)) (b : Str) (u : Tok) :
    Meets (Builtin.«dict.__ne__» ⟨[.ref l, .str b u], []⟩) (fun _ R s => s.heap.get? l = some { cls := .type "dict", dict := dd, data := .dict es n, slots := sl } ∧ R (.ok (.ret .notImplemented)) s) :=
  .of_wp fun prog w A R s h => by obtain ⟨hp, g, d, tk, os⟩ := s; obtain ⟨hl, h⟩ := h; have f1 := F.sub_str_dict; wp_walk using wpAny_loadPart' hl; exact ⟨_, rfl, h⟩
theorem str_ne_dict (b : Str) (u : Tok) (l : Addr) (es : Array DictEntry) (n : Nat) (dd : Option Addr) (sl : Array (Option Value)) :
    Meets (Builtin.«str.__ne__» ⟨[.str b u, .ref l], []⟩) (fun _ R s => s.heap.get? l = some { cls := .type "dict", dict := dd, data := .dict es n, slots := sl } ∧ R (.ok (.ret .notImplemented)) s) :=
  .of_wp fun prog w A R s h => by obtain ⟨hp, g, d, tk, os⟩ := s; obtain ⟨hl, h⟩ := h; wp_walk using wpAny_loadPart' hl, wpAny_load hl; exact ⟨_, rfl, h⟩
theorem eq_dict_str {A : Around} {s : Shared} {a : Addr} {o : Obj} {es : Array DictEntry} {ep : Nat} (b : Str) (u : Tok) (ho : s.heap.get? a = some o) (hc : o.cls = .type "dict") (hd : o.data = .dict es ep) (hu : A.units < cLine) : SeqAt.RcAt A s (.ref a) (.str b u) false := fun prog w E Q h => by
  obtain ⟨cls, dd, data, sl⟩ := o
  simp only at hc hd
  subst hc hd
  exact SeqAt.rc_eq_decline_or (k := false) ⟨_, ho, rfl⟩ (typeIs_str s b u) (by decide) F.sub_str_dict F.slot_dict_eq F.slot_str_eq_refl
    (fun _ hq => call_meets F.slot_dict_eq ⟨_, ho, rfl⟩ F.entry_dict_eq (F.args_dict_eq_2 _ _) (dict_eq_str a es ep dd sl b u) ⟨ho, hq⟩)
    (fun _ hq => call_meets F.slot_str_eq_refl (typeIs_str s b u) F.entry_str_eq (F.args_str_eq_2 _ _) (str_eq_dict b u a es ep dd sl) ⟨ho, hq⟩)
    (fun _ hq => wpAny_of_eq (rfl : isSame (.ref a) (.str b u) = pure false) hq) (.inr hu) h
theorem ne_dict_str {A : Around} {s : Shared} {a : Addr} {o : Obj} {es : Array DictEntry} {ep : Nat} (b : Str) (u : Tok) (ho : s.heap.get? a = some o) (hc : o.cls = .type "dict") (hd : o.data = .dict es ep) (hu : A.units < cLine) : SeqAt.RcNeAt A s (.ref a) (.str b u) true := fun prog w E Q h => by
  obtain ⟨cls, dd, data, sl⟩ := o
  simp only at hc hd
  subst hc hd
  exact SeqAt.rc_ne_decline_or (k := false) ⟨_, ho, rfl⟩ (typeIs_str s b u) (by decide) F.sub_str_dict F.slot_dict_ne F.slot_str_ne_refl
    (fun _ hq => call_meets F.slot_dict_ne ⟨_, ho, rfl⟩ F.entry_dict_ne (F.args_dict_ne_2 _ _) (dict_ne_str a es ep dd sl b u) ⟨ho, hq⟩)
    (fun _ hq => call_meets F.slot_str_ne_refl (typeIs_str s b u) F.entry_str_ne (F.args_str_ne_2 _ _) (str_ne_dict b u a es ep dd sl) ⟨ho, hq⟩)
    (fun _ hq => wpAny_of_eq (rfl : isSame (.ref a) (.str b u) = pure false) hq) (.inr hu) h
theorem inS_some {x z : Str} {b : Bool} (h : inS x z = some b) : ∃ c, x = ⟨#[c]⟩ ∧ b = decide (c ∈ z.cps.toList) := by
  unfold inS at h
  split at h
  · rename_i c e
    cases h
    refine ⟨c, ?_, rfl⟩
    obtain ⟨a⟩ := x
    have : a = #[c] := by
      apply Array.toList_inj.mp
      exact e
    rw [this]
  · cases h
theorem op_cmp (o : Cop) (hu : X.A.units + 65 < cLine) : OpR X (compareOp (cOf o)) (rCmp X.K o) := by
  intro pins s σ H x y v u Q I rx ry ⟨d, e, b, hd, he, hc, q⟩
  cases o with
  | eq =>
    rcases eqD_some hc with ⟨p, r, rfl, rfl, rfl⟩ | ⟨h1, h2, rfl⟩ | ⟨hx, rfl⟩ | ⟨hx, rfl⟩ | ⟨hx, rfl⟩
    rotate_right
    · obtain ⟨ks, z, rfl, rfl⟩ := dS_ok hx
      cases hd with
      | dct l p1 =>
        cases he
        cases rx
        obtain ⟨t2, rfl⟩ := ry
        obtain ⟨ob, es, ep, e1, e2, e3, _⟩ := dict_at I p1
        exact eq_dict_str z t2 e1 e2 e3 (by omega) _ _ _ _ ⟨.bl _, H, I, rfl, q⟩
    rotate_right
    · obtain ⟨xs, ys, rfl, rfl, hl⟩ := lT_ok hx
      obtain ⟨as, r1⟩ := Dv.reads I _ x v hd rx
      obtain ⟨bs, r2⟩ := Dv.reads I _ y u he ry
      cases r1 with
      | list h1 h2 h3 h4 =>
        cases r2 with
        | list g1 g2 g3 g4 =>
          have l1 := PySem.W.readsAll_len h4
          have l2 := PySem.W.readsAll_len g4
          exact SeqAt.RcAt.lists_lengths ⟨_, h1, h2, _, h3⟩ ⟨_, g1, g2, _, g3⟩ (bne_iff_ne.mpr fun e => hl (by rw [← l1, ← l2]; exact e)) (by omega) _ _ _ _ ⟨.bl _, H, I, rfl, q⟩
    rotate_right
    · obtain ⟨ks, ds, rfl, rfl⟩ := dT_ok hx
      cases hd with
      | dct l p1 =>
        cases he with
        | tup p2 p3 =>
          cases rx
          cases ry
          obtain ⟨ob, es, ep, e1, e2, e3, _⟩ := dict_at I p1
          obtain ⟨its, rv, ht, _⟩ := I.tuple p2
          exact eq_dict_tuple e1 e2 e3 ht (by omega) _ _ _ _ ⟨.bl _, H, I, rfl, q⟩
    · cases hd; cases he
      obtain ⟨t1, rfl⟩ := rx
      obtain ⟨t2, rfl⟩ := ry
      exact P.eq_str ⟨.bl _, H, I, by rw [cps_eq]; rfl, q⟩
    obtain ⟨as, r1⟩ := Dv.reads I d x v hd rx
    obtain ⟨bs, r2⟩ := Dv.reads I e y u he ry
    exact SeqAt.compareEq_shaped r1 r2 h1 h2 (by omega) ⟨.bl _, H, I, rfl, q⟩
  | ne =>
    obtain ⟨c, h0, rfl⟩ := map_not (show (eqD d e).map not = some b from hc)
    rcases eqD_some h0 with ⟨p, r, rfl, rfl, rfl⟩ | ⟨h1, h2, rfl⟩ | ⟨hx, rfl⟩ | ⟨hx, rfl⟩ | ⟨hx, rfl⟩
    rotate_right
    · obtain ⟨ks, z, rfl, rfl⟩ := dS_ok hx
      cases hd with
      | dct l p1 =>
        cases he
        cases rx
        obtain ⟨t2, rfl⟩ := ry
        obtain ⟨ob, es, ep, e1, e2, e3, _⟩ := dict_at I p1
        exact ne_dict_str z t2 e1 e2 e3 (by omega) _ _ _ _ ⟨.bl _, H, I, rfl, q⟩
    rotate_right
    · obtain ⟨xs, ys, rfl, rfl, hl⟩ := lT_ok hx
      obtain ⟨as, r1⟩ := Dv.reads I _ x v hd rx
      obtain ⟨bs, r2⟩ := Dv.reads I _ y u he ry
      cases r1 with
      | list h1 h2 h3 h4 =>
        cases r2 with
        | list g1 g2 g3 g4 =>
          have l1 := PySem.W.readsAll_len h4
          have l2 := PySem.W.readsAll_len g4
          exact SeqAt.RcNeAt.lists_lengths ⟨_, h1, h2, _, h3⟩ ⟨_, g1, g2, _, g3⟩ (bne_iff_ne.mpr fun e => hl (by rw [← l1, ← l2]; exact e)) (by omega) _ _ _ _ ⟨.bl _, H, I, rfl, q⟩
    rotate_right
    · obtain ⟨ks, ds, rfl, rfl⟩ := dT_ok hx
      cases hd with
      | dct l p1 =>
        cases he with
        | tup p2 p3 =>
          cases rx
          cases ry
          obtain ⟨ob, es, ep, e1, e2, e3, _⟩ := dict_at I p1
          obtain ⟨its, rv, ht, _⟩ := I.tuple p2
          exact ne_dict_tuple e1 e2 e3 ht (by omega) _ _ _ _ ⟨.bl _, H, I, rfl, q⟩
    · cases hd; cases he
      obtain ⟨t1, rfl⟩ := rx
      obtain ⟨t2, rfl⟩ := ry
      exact P.ne_str ⟨.bl _, H, I, by unfold bne; rw [cps_eq]; rfl, q⟩
    obtain ⟨as, r1⟩ := Dv.reads I d x v hd rx
    obtain ⟨bs, r2⟩ := Dv.reads I e y u he ry
    exact SeqAt.compareNe_shaped r1 r2 h1 h2 (by omega) ⟨.bl _, H, I, rfl, q⟩
  | lt =>
    unfold cmpD at hc
    split at hc <;> first | contradiction | skip
    · rename_i i j _
      cases hc; cases hd; cases he
      exact op_lt pins s σ H _ _ v u Q I rx ry ⟨i, j, rfl, rfl, q⟩
    · rename_i xs ys _
      split at hc
      · rename_i a a2 h1 h2
        cases hc
        cases hd with
        | tup p1 p2 =>
          cases he with
          | tup p3 p4 =>
            refine op_ltT (by omega) pins s σ H _ _ v u Q I rx ry ⟨_, _, a, a2, rfl, rfl, ?_, ?_, q⟩
            · rw [← p2.ints h1]; exact p1
            · rw [← p4.ints h2]; exact p3
      · cases hc
  | le =>
    unfold cmpD at hc
    split at hc <;> first | contradiction | skip
    rename_i i j _
    cases hc; cases hd; cases he
    exact op_le pins s σ H _ _ v u Q I rx ry ⟨i, j, rfl, rfl, q⟩
  | gt =>
    unfold cmpD at hc
    split at hc <;> first | contradiction | skip
    rename_i i j _
    cases hc; cases hd; cases he
    exact op_gt pins s σ H _ _ v u Q I rx ry ⟨i, j, rfl, rfl, q⟩
  | ge =>
    unfold cmpD at hc
    split at hc <;> first | contradiction | skip
    rename_i i j _
    cases hc; cases hd; cases he
    exact op_ge pins s σ H _ _ v u Q I rx ry ⟨i, j, rfl, rfl, q⟩
  | inn =>
    unfold cmpD at hc
    split at hc <;> first | contradiction | skip
    · rename_i x0 z0 _
      obtain ⟨c0, ec, rfl⟩ := inS_some hc
      cases hd
      cases he
      rw [ec] at rx
      exact op_in_sign pins s σ H _ _ v u Q I rx ry ⟨c0, z0, rfl, rfl, q⟩
    · rename_i d0 ds _
      obtain ⟨as, r1⟩ := Dv.reads I _ x v hd rx
      obtain ⟨bs, r2⟩ := Dv.reads I (.list ds) y u he ry
      rcases inD_some hc with ⟨h1, h2, rfl⟩ | ⟨h1, rfl⟩
      rotate_right
      · cases r2 with
        | list g1 g2 g3 g4 => exact SeqAt.in_listAt (fun _ => false) ⟨_, g1, g2, _, g3⟩ (fun y hy => inT_each h1 g4 r1 (by show X.A.units + 1 + 1 < cLine; omega) y (Array.mem_toList_iff.mpr hy)) (by rw [Array.any_eq_false.mpr (fun _ _ => Bool.false_ne_true)]; exact ⟨.bl _, H, I, rfl, q⟩)
      exact SeqAt.in_list_reads r2 r1 (SeqAt.canLay_of_shaped h2) (SeqAt.canLay_of_shaped h1) (room_in_shaped h1 hu) ⟨.bl _, H, I, rfl, q⟩
    · rename_i d0 ds _
      obtain ⟨as, r1⟩ := Dv.reads I _ x v hd rx
      obtain ⟨bs, r2⟩ := Dv.reads I (.tuple ds) y u he ry
      rcases inD_some hc with ⟨h1, h2, rfl⟩ | ⟨h1, rfl⟩
      rotate_right
      · cases r2 with
        | tuple g1 g2 g3 g4 => exact SeqAt.in_tupleAt (fun _ => false) ⟨_, g1, g2, _, g3⟩ (fun y hy => inT_each h1 g4 r1 (by show X.A.units + 1 + 1 < cLine; omega) y (Array.mem_toList_iff.mpr hy)) (by rw [Array.any_eq_false.mpr (fun _ _ => Bool.false_ne_true)]; exact ⟨.bl _, H, I, rfl, q⟩)
      exact SeqAt.in_tuple_reads r2 r1 (SeqAt.canLay_of_shaped h2) (SeqAt.canLay_of_shaped h1) (room_in_shaped h1 hu) ⟨.bl _, H, I, rfl, q⟩
  | nin =>
    unfold cmpD at hc
    split at hc <;> first | contradiction | skip
    · rename_i x0 z0 _
      obtain ⟨b0, h0, rfl⟩ := map_not hc
      obtain ⟨c0, ec, rfl⟩ := inS_some h0
      cases hd
      cases he
      rw [ec] at rx
      exact op_notIn_sign pins s σ H _ _ v u Q I rx ry ⟨c0, z0, rfl, rfl, q⟩
    · rename_i d0 ds _
      obtain ⟨c, h0, rfl⟩ := map_not hc
      obtain ⟨as, r1⟩ := Dv.reads I _ x v hd rx
      obtain ⟨bs, r2⟩ := Dv.reads I (.list ds) y u he ry
      rcases inD_some h0 with ⟨h1, h2, rfl⟩ | ⟨h1, rfl⟩
      rotate_right
      · cases r2 with
        | list g1 g2 g3 g4 => exact SeqAt.notIn_listAt (fun _ => false) ⟨_, g1, g2, _, g3⟩ (fun y hy => inT_each h1 g4 r1 (by show X.A.units + 1 + 1 < cLine; omega) y (Array.mem_toList_iff.mpr hy)) (by rw [Array.any_eq_false.mpr (fun _ _ => Bool.false_ne_true)]; exact ⟨.bl _, H, I, rfl, q⟩)
      exact SeqAt.notIn_list_reads r2 r1 (SeqAt.canLay_of_shaped h2) (SeqAt.canLay_of_shaped h1) (room_in_shaped h1 hu) ⟨.bl _, H, I, rfl, q⟩
    · rename_i d0 ds _
      obtain ⟨c, h0, rfl⟩ := map_not hc
      obtain ⟨as, r1⟩ := Dv.reads I _ x v hd rx
      obtain ⟨bs, r2⟩ := Dv.reads I (.tuple ds) y u he ry
      rcases inD_some h0 with ⟨h1, h2, rfl⟩ | ⟨h1, rfl⟩
      rotate_right
      · cases r2 with
        | tuple g1 g2 g3 g4 => exact SeqAt.notIn_tupleAt (fun _ => false) ⟨_, g1, g2, _, g3⟩ (fun y hy => inT_each h1 g4 r1 (by show X.A.units + 1 + 1 < cLine; omega) y (Array.mem_toList_iff.mpr hy)) (by rw [Array.any_eq_false.mpr (fun _ _ => Bool.false_ne_true)]; exact ⟨.bl _, H, I, rfl, q⟩)
      exact SeqAt.notIn_tuple_reads r2 r1 (SeqAt.canLay_of_shaped h2) (SeqAt.canLay_of_shaped h1) (room_in_shaped h1 hu) ⟨.bl _, H, I, rfl, q⟩

/-! ### tests -/
/-- a test as a value -/
abbrev asV (d : En → Bx → Option (Bool × Bx)) : En → Bx → Option (R × Bx) := fun env st => match d env st with
  | some (b, st1) => some (.dat (.bool b), st1)
  | none => none
theorem cmp_den {o : Cop} {a b : Ex} {env : En} {st : Bx} {r : Bool × Bx} (h : (Ts.cmp o a b).den cf env st = some r) :
    ∃ x st1 y p q, a.den cf env st = some (x, st1) ∧ b.den cf env st1 = some (y, r.2) ∧ x.view = some p ∧ y.view = some q ∧ cmpD o p q = some r.1 := by
  simp only [Ts.den] at h
  split at h
  · rename_i x st1 e1
    split at h
    · rename_i y st2 e2
      split at h
      · rename_i d d2 v1 v2
        cases hr : cmpD o d d2 with
        | none => rw [hr] at h; cases h
        | some c =>
          rw [hr] at h
          cases h
          exact ⟨x, st1, y, d, d2, e1, e2, v1, v2, hr⟩
      · cases h
    · cases h
  · cases h
theorem tTest_of {K : Kx} {t : TE} {d : En → Bx → Option (Bool × Bx)} (mono : ∀ σ H Q, tE K (asV d) σ H Q → t σ H Q) : ∀ σ H Q, tT K d σ H Q → tTest t σ H Q := fun σ H Q ⟨G, ph, env, st, b, st', E, e, k⟩ => by
  refine mono σ H _ ⟨G, ph, env, st, .dat (.bool b), st', E, by simp only [asV, e], fun v H' G' ph' w s r f => ?_⟩
  cases (show Dv K G' v (.bool b) from r)
  exact ⟨b, rfl, k H' G' ph' w s⟩
theorem tB_of {K : Kx} {t : TE} {d : En → Bx → Option (Bool × Bx)} (mono : ∀ σ H Q, tE K (asV d) σ H Q → t σ H Q) : ∀ σ H Q, tT K d σ H Q → tB t σ H Q := fun σ H Q h => tTest_of mono σ H Q h
theorem asV_some {d : En → Bx → Option (Bool × Bx)} {env : En} {st : Bx} {r : R × Bx} (h : asV d env st = some r) : ∃ b, d env st = some (b, r.2) ∧ r.1 = .dat (.bool b) := by
  simp only [asV] at h
  split at h
  · rename_i b st1 e
    cases h
    exact ⟨b, e, rfl⟩
  · cases h
theorem cmpT {o : Cop} {ea eb : Ex} : ∀ σ H Q, tE (kx X) (asV ((Ts.cmp o ea eb).den cf)) σ H Q → tOp (rCmp X.K o) (tE (kx X) (ea.den cf)) (tE (kx X) (eb.den cf)) σ H Q := fun σ H Q ⟨G, ph, env, st, r, st', E, e, k⟩ => by
  obtain ⟨b, e', hb⟩ := asV_some e
  obtain ⟨x, st1, y, p, q, e1, e2, v1, v2, hr⟩ := cmp_den e'
  refine two E e1 e2 fun v u H2 G2 ph2 w2 s2 r1 r2 => ?_
  refine ⟨p, q, b, Rs.view w2 r1 v1, Rs.view w2 r2 v2, hr, ?_⟩
  have k' := k (.bl b) H2 G2 ph2 w2 s2
  dsimp only at hb
  subst hb
  exact k' (.bl b) trivial
theorem ok_cmpT {a b : Expr} {ea eb : Ex} {pos : Pos} (o : Cop) (hu : X.A.units + 65 < cLine) (ha : PE X a (tE (kx X) (ea.den cf))) (hb : PE X b (tE (kx X) (eb.den cf))) (hm : behindInMarks (cOf o) b = false) :
    PT X (.Compare a [cOf o] [b] pos) (tT (kx X) ((Ts.cmp o ea eb).den cf)) := ptW (pt_cmpR (op_cmp o hu) ha hb hm) (tTest_of cmpT)
theorem ok_cmpV {a b : Expr} {ea eb : Ex} {pos : Pos} (o : Cop) (hu : X.A.units + 65 < cLine) (ha : PE X a (tE (kx X) (ea.den cf))) (hb : PE X b (tE (kx X) (eb.den cf))) (hm : behindInMarks (cOf o) b = false) :
    PE X (.Compare a [cOf o] [b] pos) (tE (kx X) (asV ((Ts.cmp o ea eb).den cf))) := peW (pe_cmpR (op_cmp o hu) ha hb hm) cmpT
/-! is None, is True .. -/
theorem rs_non {K : Kx} {G H : Hp} {ph : List Addr} {st : Bx} (w : Wd K G H ph st) {r : R} {v : V} (h : Rs K G H ph r v) : decide (v = .non) = (match r with | .dat .none => true | _ => false) := by
  cases r with
  | dat d => cases (show Dv K G v d from h) <;> rfl
  | ref n => obtain ⟨a, rfl, _⟩ := h; rfl
  | own n => obtain ⟨a, _, rfl, _⟩ := h; rfl
  | brw n => obtain ⟨a, _, rfl, _⟩ := h; rfl
  | scr n => obtain ⟨a, rfl, _⟩ := h; rfl
  | exc c => exact h.elim
  | pr _ _ => exact h.elim
  | exo c => obtain ⟨a, _, _, _, _, rfl, _⟩ := h; rfl
theorem isnT {ea : Ex} {neg : Bool} {r : R2} (hr : ∀ x H Q, Q (.bl (if neg then !decide (x = .non) else decide (x = .non))) H → r x .non H Q) : ∀ σ H Q, tE (kx X) (asV ((Ts.isn ea neg).den cf)) σ H Q → tOp r (tE (kx X) (ea.den cf)) (tC .non) σ H Q := fun σ H Q ⟨G, ph, env, st, r0, st', E, e, k⟩ => by
  obtain ⟨b, e', hb⟩ := asV_some e
  dsimp only at hb
  simp only [Ts.den] at e'
  split at e'
  · rename_i x st1 e1
    refine ⟨G, ph, env, st, x, st1, E, e1, fun v H1 G1 ph1 w1 s1 r1 f1 => hr v H1 Q ?_⟩
    have hq := rs_non w1 r1
    split at e'
    · cases e'
      rw [hq]
      subst hb
      have k' := k (.bl (!neg)) H1 G1 ph1 w1 s1 (.bl _) trivial
      cases neg <;> exact k'
    · rename_i x2 hx
      cases e'
      have hq' : decide (v = V.non) = false := by
        rw [hq]
        cases x with
        | dat d => cases d with
          | none => exact absurd rfl hx
          | _ => rfl
        | _ => rfl
      rw [hq']
      subst hb
      have k' := k (.bl neg) H1 G1 ph1 w1 s1 (.bl _) trivial
      cases neg <;> exact k'
  · cases e'
theorem ok_isnT {a : Expr} {ea : Ex} {j p pos} (neg : Bool) (ha : PE X a (tE (kx X) (ea.den cf))) : PT X (.Compare a [if neg then .IsNot else .Is] [.Constant .none j p] pos) (tT (kx X) ((Ts.isn ea neg).den cf)) := by
  cases neg with
  | true => exact ptW (pt_cmpR op_notN ha pe_non rfl) (tTest_of (isnT (neg := true) fun x H Q q => ⟨rfl, q⟩))
  | false => exact ptW (pt_cmpR op_isN ha pe_non rfl) (tTest_of (isnT (neg := false) fun x H Q q => ⟨rfl, q⟩))
theorem ok_isnV {a : Expr} {ea : Ex} {j p pos} (neg : Bool) (ha : PE X a (tE (kx X) (ea.den cf))) : PE X (.Compare a [if neg then .IsNot else .Is] [.Constant .none j p] pos) (tE (kx X) (asV ((Ts.isn ea neg).den cf))) := by
  cases neg with
  | true => exact peW (pe_cmpR op_notN ha pe_non rfl) (isnT (neg := true) fun x H Q q => ⟨rfl, q⟩)
  | false => exact peW (pe_cmpR op_isN ha pe_non rfl) (isnT (neg := false) fun x H Q q => ⟨rfl, q⟩)
theorem isbT {ea : Ex} {neg k0 : Bool} {r : R2} (hr : ∀ (c : Bool) H Q, Q (.bl (if neg then !decide (c = k0) else decide (c = k0))) H → r (.bl c) (.bl k0) H Q) : ∀ σ H Q, tE (kx X) (asV ((Ts.isb ea neg k0).den cf)) σ H Q → tOp r (tE (kx X) (ea.den cf)) (tC (.bl k0)) σ H Q := fun σ H Q ⟨G, ph, env, st, r0, st', E, e, k⟩ => by
  obtain ⟨b, e', hb⟩ := asV_some e
  dsimp only at hb
  simp only [Ts.den] at e'
  split at e'
  · rename_i c st1 e1
    refine ⟨G, ph, env, st, _, st1, E, e1, fun v H1 G1 ph1 w1 s1 r1 f1 => ?_⟩
    cases (show Dv X.K G1 v (.bool c) from r1)
    refine hr c H1 Q ?_
    cases e'
    subst hb
    exact k (.bl _) H1 G1 ph1 w1 s1 (.bl _) trivial
  · cases e'
theorem ok_isbT {a : Expr} {ea : Ex} {j p pos} (neg k0 : Bool) (ha : PE X a (tE (kx X) (ea.den cf))) : PT X (.Compare a [if neg then .IsNot else .Is] [.Constant (.bool k0) j p] pos) (tT (kx X) ((Ts.isb ea neg k0).den cf)) := by
  cases neg with
  | true => exact ptW (pt_cmpR op_notBl ha pe_bl rfl) (tTest_of (isbT (neg := true) fun c H Q q => ⟨c, k0, rfl, rfl, q⟩))
  | false => exact ptW (pt_cmpR op_isBl ha pe_bl rfl) (tTest_of (isbT (neg := false) fun c H Q q => ⟨c, k0, rfl, rfl, q⟩))
theorem ok_isbV {a : Expr} {ea : Ex} {j p pos} (neg k0 : Bool) (ha : PE X a (tE (kx X) (ea.den cf))) : PE X (.Compare a [if neg then .IsNot else .Is] [.Constant (.bool k0) j p] pos) (tE (kx X) (asV ((Ts.isb ea neg k0).den cf))) := by
  cases neg with
  | true => exact peW (pe_cmpR op_notBl ha pe_bl rfl) (isbT (neg := true) fun c H Q q => ⟨c, k0, rfl, rfl, q⟩)
  | false => exact peW (pe_cmpR op_isBl ha pe_bl rfl) (isbT (neg := false) fun c H Q q => ⟨c, k0, rfl, rfl, q⟩)
/-! a value that is a bool -/
theorem ok_valT {a : Expr} {ea : Ex} (ha : PE X a (tE (kx X) (ea.den cf))) (he : ∀ whole, isTrue a X.env whole = (do let v ← whole; standAt a.pos; holding [v] (truthy v))) : PT X a (tT (kx X) ((Ts.val ea).den cf)) :=
  ptW (pt_val ha he) fun σ H Q ⟨G, ph, env, st, b, st', E, e, k⟩ => by
    simp only [Ts.den] at e
    split at e
    · rename_i c st1 e1
      cases e
      refine ⟨G, ph, env, st, _, _, E, e1, fun v H1 G1 ph1 w1 s1 r1 f1 => ?_⟩
      cases (show Dv X.K G1 v (.bool b) from r1)
      exact ⟨b, rfl, k H1 G1 ph1 w1 s1⟩
    · cases e
theorem ok_valV {a : Expr} {ea : Ex} (ha : PE X a (tE (kx X) (ea.den cf))) : PE X a (tE (kx X) (asV ((Ts.val ea).den cf))) :=
  peW ha fun σ H Q ⟨G, ph, env, st, r, st', E, e, k⟩ => by
    obtain ⟨b, e', hb⟩ := asV_some e
    dsimp only at hb
    simp only [Ts.den] at e'
    split at e'
    · rename_i c st1 e1
      cases e'
      subst hb
      exact ⟨G, ph, env, st, _, _, E, e1, k⟩
    · cases e'
/-! not, and, or -/
theorem ok_notT {a : Expr} {t : Ts} {pos : Pos} (ha : PT X a (tT (kx X) (t.den cf))) : PT X (.UnaryOp .Not a pos) (tT (kx X) ((Ts.not t).den cf)) :=
  ptW (pt_not ha) fun σ H Q ⟨G, ph, env, st, b, st', E, e, k⟩ => by
    simp only [Ts.den] at e
    split at e
    · rename_i c st1 e1
      cases e
      exact ⟨G, ph, env, st, c, _, E, e1, fun H1 G1 ph1 w1 s1 => k H1 G1 ph1 w1 s1⟩
    · cases e
theorem ok_notV {a : Expr} {t : Ts} {pos : Pos} (ha : PE X a (tE (kx X) (asV (t.den cf)))) : PE X (.UnaryOp .Not a pos) (tE (kx X) (asV ((Ts.not t).den cf))) :=
  peW (pe_not ha) fun σ H Q ⟨G, ph, env, st, r, st', E, e, k⟩ => by
    obtain ⟨b, e', hb⟩ := asV_some e
    dsimp only at hb
    simp only [Ts.den] at e'
    split at e'
    · rename_i c st1 e1
      cases e'
      subst hb
      refine ⟨G, ph, env, st, .dat (.bool c), st', E, by simp only [asV, e1], fun v H1 G1 ph1 w1 s1 r1 f1 => ?_⟩
      cases (show Dv X.K G1 v (.bool c) from r1)
      exact ⟨c, rfl, k (.bl _) H1 G1 ph1 w1 s1 (.bl _) trivial⟩
    · cases e'
theorem ok_and1W {a : Expr} {t : Ts} {pos : Pos} (ha : PT X a (tT (kx X) (t.den cf))) : PW X (.BoolOp .And [a] pos) (tT (kx X) ((Tss.one t).all cf)) :=
  pwW (pw_and1 ha) fun σ H Q h => by simpa only [Tss.all] using h
theorem ok_or1W {a : Expr} {t : Ts} {pos : Pos} (ha : PT X a (tT (kx X) (t.den cf))) : PW X (.BoolOp .Or [a] pos) (tT (kx X) ((Tss.one t).any cf)) :=
  pwW (pw_or1 ha) fun σ H Q h => by simpa only [Tss.any] using h
theorem ok_andW {a b : Expr} {rest : List Expr} {t : Ts} {r : Tss} {pos : Pos} (ha : PT X a (tT (kx X) (t.den cf))) (hb : PW X (.BoolOp .And (b :: rest) pos) (tT (kx X) (r.all cf))) : PW X (.BoolOp .And (a :: b :: rest) pos) (tT (kx X) ((Tss.cons t r).all cf)) :=
  pwW (pw_and ha hb) fun σ H Q ⟨G, ph, env, st, b, st', E, e, k⟩ => by
    simp only [Tss.all] at e
    split at e
    · rename_i st1 e1
      exact ⟨G, ph, env, st, true, st1, E, e1, fun H1 G1 ph1 w1 s1 => iteP (⟨G1, ph1, env, st1, b, st', E.step s1 w1, e, fun H2 G2 ph2 w2 s2 => k H2 G2 ph2 w2 (s1.trans s2)⟩)⟩
    · rename_i st1 e1
      cases e
      exact ⟨G, ph, env, st, false, _, E, e1, fun H1 G1 ph1 w1 s1 => iteN (k H1 G1 ph1 w1 s1)⟩
    · cases e
theorem ok_orW {a b : Expr} {rest : List Expr} {t : Ts} {r : Tss} {pos : Pos} (ha : PT X a (tT (kx X) (t.den cf))) (hb : PW X (.BoolOp .Or (b :: rest) pos) (tT (kx X) (r.any cf))) : PW X (.BoolOp .Or (a :: b :: rest) pos) (tT (kx X) ((Tss.cons t r).any cf)) :=
  pwW (pw_or ha hb) fun σ H Q ⟨G, ph, env, st, b, st', E, e, k⟩ => by
    simp only [Tss.any] at e
    split at e
    · rename_i st1 e1
      cases e
      exact ⟨G, ph, env, st, true, _, E, e1, fun H1 G1 ph1 w1 s1 => iteP (k H1 G1 ph1 w1 s1)⟩
    · rename_i st1 e1
      exact ⟨G, ph, env, st, false, st1, E, e1, fun H1 G1 ph1 w1 s1 => iteN (⟨G1, ph1, env, st1, b, st', E.step s1 w1, e, fun H2 G2 ph2 w2 s2 => k H2 G2 ph2 w2 (s1.trans s2)⟩)⟩
    · cases e
theorem ok_and1V {a : Expr} {t : Ts} {pos : Pos} (ha : PE X a (tE (kx X) (asV (t.den cf)))) : PE X (.BoolOp .And [a] pos) (tE (kx X) (asV ((Tss.one t).all cf))) :=
  peW (pe_one ha) fun σ H Q h => by
    have e : asV ((Tss.one t).all cf) = asV (t.den cf) := by
      funext env st
      simp only [asV, Tss.all]
    rw [← e]; exact h
theorem ok_or1V {a : Expr} {t : Ts} {pos : Pos} (ha : PE X a (tE (kx X) (asV (t.den cf)))) : PE X (.BoolOp .Or [a] pos) (tE (kx X) (asV ((Tss.one t).any cf))) :=
  peW (pe_one ha) fun σ H Q h => by
    have e : asV ((Tss.one t).any cf) = asV (t.den cf) := by
      funext env st
      simp only [asV, Tss.any]
    rw [← e]; exact h
theorem ok_andV {a b : Expr} {rest : List Expr} {t : Ts} {r : Tss} {pos : Pos} (ha : PE X a (tE (kx X) (asV (t.den cf)))) (hb : PE X (.BoolOp .And (b :: rest) pos) (tE (kx X) (asV (r.all cf)))) : PE X (.BoolOp .And (a :: b :: rest) pos) (tE (kx X) (asV ((Tss.cons t r).all cf))) :=
  peW (pe_and ha hb) fun σ H Q ⟨G, ph, env, st, r0, st', E, e, k⟩ => by
    obtain ⟨b0, e', hb0⟩ := asV_some e
    dsimp only at hb0
    subst hb0
    simp only [Tss.all] at e'
    split at e'
    · rename_i st1 e1
      refine ⟨G, ph, env, st, .dat (.bool true), st1, E, by simp only [asV, e1], fun v H1 G1 ph1 w1 s1 r1 f1 => ?_⟩
      cases (show Dv X.K G1 v (.bool true) from r1)
      refine ⟨true, rfl, ?_⟩
      exact iteP (⟨G1, ph1, env, st1, .dat (.bool b0), st', E.step s1 w1, by simp only [asV, e'], fun u H2 G2 ph2 w2 s2 r2 f2 => k u H2 G2 ph2 w2 (s1.trans s2) r2 trivial⟩)
    · rename_i st1 e1
      cases e'
      refine ⟨G, ph, env, st, .dat (.bool false), st', E, by simp only [asV, e1], fun v H1 G1 ph1 w1 s1 r1 f1 => ?_⟩
      cases (show Dv X.K G1 v (.bool false) from r1)
      refine ⟨false, rfl, ?_⟩
      exact iteN (k _ H1 G1 ph1 w1 s1 (.bl _) trivial)
    · cases e'
theorem ok_orV {a b : Expr} {rest : List Expr} {t : Ts} {r : Tss} {pos : Pos} (ha : PE X a (tE (kx X) (asV (t.den cf)))) (hb : PE X (.BoolOp .Or (b :: rest) pos) (tE (kx X) (asV (r.any cf)))) : PE X (.BoolOp .Or (a :: b :: rest) pos) (tE (kx X) (asV ((Tss.cons t r).any cf))) :=
  peW (pe_or ha hb) fun σ H Q ⟨G, ph, env, st, r0, st', E, e, k⟩ => by
    obtain ⟨b0, e', hb0⟩ := asV_some e
    dsimp only at hb0
    subst hb0
    simp only [Tss.any] at e'
    split at e'
    · rename_i st1 e1
      cases e'
      refine ⟨G, ph, env, st, .dat (.bool true), st', E, by simp only [asV, e1], fun v H1 G1 ph1 w1 s1 r1 f1 => ?_⟩
      cases (show Dv X.K G1 v (.bool true) from r1)
      refine ⟨true, rfl, ?_⟩
      exact iteP (k _ H1 G1 ph1 w1 s1 (.bl _) trivial)
    · rename_i st1 e1
      refine ⟨G, ph, env, st, .dat (.bool false), st1, E, by simp only [asV, e1], fun v H1 G1 ph1 w1 s1 r1 f1 => ?_⟩
      cases (show Dv X.K G1 v (.bool false) from r1)
      refine ⟨false, rfl, ?_⟩
      exact iteN (⟨G1, ph1, env, st1, .dat (.bool b0), st', E.step s1 w1, by simp only [asV, e'], fun u H2 G2 ph2 w2 s2 r2 f2 => k u H2 G2 ph2 w2 (s1.trans s2) r2 trivial⟩)
    · cases e'
end
end Sy

namespace Sy
open PySem PySem.Spec PyProof.Rows L2
section
variable {X : Cx} {cf : Cf}
/-! ### chains -/
def ChnOk (X : Cx) (cf : Cf) : Chn → List CmpOp → List Expr → Prop
  | .last o e, [op], [b] => op = cOf o ∧ PE X b (tE (kx X) (e.den cf))
  | .link o e r, op :: ops, b :: bs => op = cOf o ∧ PE X b (tE (kx X) (e.den cf)) ∧ ChnOk X cf r ops bs
  | _, _, _ => False
theorem ChnOk.cons : ∀ {c : Chn} {ops : List CmpOp} {bs : List Expr}, ChnOk X cf c ops bs → ∃ op r b rs, ops = op :: r ∧ bs = b :: rs
  | .last o e, [op], [b], _ => ⟨_, _, _, _, rfl, rfl⟩
  | .link o e r, op :: ops, b :: bs, _ => ⟨_, _, _, _, rfl, rfl⟩
theorem chainV (hu : X.A.units + 65 < cLine) {pos : Pos} : ∀ (c : Chn) (ops : List CmpOp) (bs : List Expr), ChnOk X cf c ops bs → ∀ (pins : List (Addr × Obj)) (s : Shared) (σ : L2.St) (H : Hp) (Q : VK) (x : R) (v : V) (u : Value) (G : Hp) (ph : List Addr) (env : En) (st : Bx) (b : Bool) (st' : Bx),
    Inv X pins σ H s → Ev (kx X) G H ph env st σ → RelV v u → Rs (kx X) G H ph x v → c.den cf x env st = some (b, st') → (∀ H' G' ph', Wd (kx X) G' H' ph' st' → Stp G H ph G' H' ph' → Q (.bl b) H') →
    wpAny (model X.prog X.w) X.A (compareChain pos u ops (evalEach bs X.env)) (EP X pins σ Q) X.xe s
  | .last o e, [op], [eb], ⟨ho, he⟩, pins, s, σ, H, Q, x, v, u, G, ph, env, st, b, st', I, E, rv, rx, hd, k => by
    subst ho
    simp only [Chn.den] at hd
    split at hd
    · rename_i y st1 e1
      split at hd
      · rename_i d d2 v1 v2
        cases hr : cmpD o d d2 with
        | none => rw [hr] at hd; cases hd
        | some c0 =>
          rw [hr] at hd
          cases hd
          refine chain_last (thn (he.run pins s σ H _ I ⟨G, ph, env, st, y, _, E, e1, fun w H1 G1 ph1 w1 s1 r1 f1 => ?q1⟩) fun u2 s2 ⟨w, H2, I2, r2, q⟩ => op_cmp o hu pins s2 σ H2 v w u u2 _ I2 rv r2 q)
          exact ⟨d, d2, b, Rs.view w1 (rx.step s1) v1, Rs.view w1 r1 v2, hr, k H1 G1 ph1 w1 s1⟩
      · cases hd
    · cases hd
  | .link o e r, op :: ops, eb :: bs, ⟨ho, he, hrest⟩, pins, s, σ, H, Q, x, v, u, G, ph, env, st, b, st', I, E, rv, rx, hd, k => by
    subst ho
    obtain ⟨op2, ops2, b2, bs2, rfl, rfl⟩ := hrest.cons
    simp only [Chn.den] at hd
    split at hd
    · rename_i y st1 e1
      split at hd
      · rename_i d d2 v1 v2
        refine chain_link (thn (he.run pins s σ H (fun w H1 => ∃ c0, cmpD o d d2 = some c0 ∧ rCmp X.K o v w H1 (fun z H2 => z = .bl c0 ∧ H2 = H1) ∧ ∃ G1 ph1, Ev (kx X) G1 H1 ph1 env st1 σ ∧ Stp G H ph G1 H1 ph1 ∧ Rs (kx X) G1 H1 ph1 y w) I ⟨G, ph, env, st, y, _, E, e1, fun w H1 G1 ph1 w1 s1 r1 f1 => ?q2⟩) fun u2 s2 ⟨w, H2, I2, r2, c0, hc, q, G2, ph2, E2, S2, R2⟩ => ?_)
        case q2 =>
          cases hr : cmpD o d d2 with
          | none => rw [hr] at hd; cases hd
          | some c0 => exact ⟨c0, rfl, ⟨d, d2, c0, Rs.view w1 (rx.step s1) v1, Rs.view w1 r1 v2, hr, rfl, rfl⟩, G1, ph1, E.step s1 w1, s1, r1⟩
        · rw [hc] at hd
          refine thn (op_cmp o hu pins s2 σ H2 v w u u2 _ I2 rv r2 q) fun cv s3 ⟨z, H3, I3, r3, ez, eH⟩ => ?_
          subst ez eH
          cases r3
          refine wpAny_truthy_bool ?_
          cases c0 with
          | true =>
            refine iteP (chainV hu r (op2 :: ops2) (b2 :: bs2) hrest pins s3 σ H3 Q y w u2 G2 ph2 env st1 b st' I3 E2 r2 R2 hd fun H' G' ph' w' s' => k H' G' ph' w' (S2.trans s'))
          | false =>
            cases hd
            exact iteN ⟨.bl false, H3, I3, rfl, k H3 G2 ph2 E2.w S2⟩
      · cases hd
    · cases hd
theorem chainT (hu : X.A.units + 65 < cLine) {pos : Pos} : ∀ (c : Chn) (ops : List CmpOp) (bs : List Expr), ChnOk X cf c ops bs → ∀ (pins : List (Addr × Obj)) (s : Shared) (σ : L2.St) (H : Hp) (Q : Bool → Hp → Prop) (x : R) (v : V) (u : Value) (G : Hp) (ph : List Addr) (env : En) (st : Bx) (b : Bool) (st' : Bx),
    Inv X pins σ H s → Ev (kx X) G H ph env st σ → RelV v u → Rs (kx X) G H ph x v → c.den cf x env st = some (b, st') → (∀ H' G' ph', Wd (kx X) G' H' ph' st' → Stp G H ph G' H' ph' → Q b H') →
    wpAny (model X.prog X.w) X.A (testChain pos u ops (evalEach bs X.env)) (TP X pins σ Q) X.xe s
  | .last o e, [op], [eb], ⟨ho, he⟩, pins, s, σ, H, Q, x, v, u, G, ph, env, st, b, st', I, E, rv, rx, hd, k => by
    subst ho
    simp only [Chn.den] at hd
    split at hd
    · rename_i y st1 e1
      split at hd
      · rename_i d d2 v1 v2
        cases hr : cmpD o d d2 with
        | none => rw [hr] at hd; cases hd
        | some c0 =>
          rw [hr] at hd
          cases hd
          refine test_last (thn (he.run pins s σ H (fun w H1 => rCmp X.K o v w H1 (fun z H2 => z = .bl b ∧ Q b H2)) I ⟨G, ph, env, st, y, _, E, e1, fun w H1 G1 ph1 w1 s1 r1 f1 => ?q3⟩) fun u2 s2 ⟨w, H2, I2, r2, q⟩ => thn (op_cmp o hu pins s2 σ H2 v w u u2 _ I2 rv r2 q) fun cv s3 ⟨z, H3, I3, r3, ez, q3⟩ => ?_)
          · exact ⟨d, d2, b, Rs.view w1 (rx.step s1) v1, Rs.view w1 r1 v2, hr, rfl, k H1 G1 ph1 w1 s1⟩
          · subst ez
            cases r3
            exact wpAny_truthy_bool ⟨H3, I3, q3⟩
      · cases hd
    · cases hd
  | .link o e r, op :: ops, eb :: bs, ⟨ho, he, hrest⟩, pins, s, σ, H, Q, x, v, u, G, ph, env, st, b, st', I, E, rv, rx, hd, k => by
    subst ho
    obtain ⟨op2, ops2, b2, bs2, rfl, rfl⟩ := hrest.cons
    simp only [Chn.den] at hd
    split at hd
    · rename_i y st1 e1
      split at hd
      · rename_i d d2 v1 v2
        refine test_link (thn (he.run pins s σ H (fun w H1 => ∃ c0, cmpD o d d2 = some c0 ∧ rCmp X.K o v w H1 (fun z H2 => z = .bl c0 ∧ H2 = H1) ∧ ∃ G1 ph1, Ev (kx X) G1 H1 ph1 env st1 σ ∧ Stp G H ph G1 H1 ph1 ∧ Rs (kx X) G1 H1 ph1 y w) I ⟨G, ph, env, st, y, _, E, e1, fun w H1 G1 ph1 w1 s1 r1 f1 => ?q4⟩) fun u2 s2 ⟨w, H2, I2, r2, c0, hc, q, G2, ph2, E2, S2, R2⟩ => ?_)
        case q4 =>
          cases hr : cmpD o d d2 with
          | none => rw [hr] at hd; cases hd
          | some c0 => exact ⟨c0, rfl, ⟨d, d2, c0, Rs.view w1 (rx.step s1) v1, Rs.view w1 r1 v2, hr, rfl, rfl⟩, G1, ph1, E.step s1 w1, s1, r1⟩
        · rw [hc] at hd
          refine thn (op_cmp o hu pins s2 σ H2 v w u u2 _ I2 rv r2 q) fun cv s3 ⟨z, H3, I3, r3, ez, eH⟩ => ?_
          subst ez eH
          cases r3
          refine wpAny_truthy_bool ?_
          cases c0 with
          | true =>
            refine iteP (chainT hu r (op2 :: ops2) (b2 :: bs2) hrest pins s3 σ H3 Q y w u2 G2 ph2 env st1 b st' I3 E2 r2 R2 hd fun H' G' ph' w' s' => k H' G' ph' w' (S2.trans s'))
          | false =>
            cases hd
            exact iteN ⟨H3, I3, k H3 G2 ph2 E2.w S2⟩
      · cases hd
    · cases hd
theorem ok_chnV {a b1 b2 : Expr} {o1 o2 : CmpOp} {ops : List CmpOp} {bs : List Expr} {ea : Ex} {c : Chn} {pos : Pos} (hu : X.A.units + 65 < cLine) (ha : PE X a (tE (kx X) (ea.den cf))) (hc : ChnOk X cf c (o1 :: o2 :: ops) (b1 :: b2 :: bs)) (hm : lastMarks (o1 :: o2 :: ops) (b1 :: b2 :: bs) = false) :
    PE X (.Compare a (o1 :: o2 :: ops) (b1 :: b2 :: bs) pos) (tE (kx X) (asV ((Ts.chn ea c).den cf))) := ⟨fun pins s σ H Q I ⟨G, ph, env, st, r, st', E, e, k⟩ => by
  obtain ⟨b, e', hb⟩ := asV_some e
  dsimp only at hb
  subst hb
  simp only [Ts.den] at e'
  split at e'
  · rename_i x st1 e1
    refine Compare_chain (thn (ha.run pins s σ H (fun v H1 => ∃ G1 ph1, Ev (kx X) G1 H1 ph1 env st1 σ ∧ Stp G H ph G1 H1 ph1 ∧ Rs (kx X) G1 H1 ph1 x v) I ⟨G, ph, env, st, x, st1, E, e1, fun v H1 G1 ph1 w1 s1 r1 f1 => ⟨G1, ph1, E.step s1 w1, s1, r1⟩⟩) fun u s1 ⟨v, H1, I1, r1, G1, ph1, E1, S1, R1⟩ => ?_) hm
    exact chainV hu c _ (b1 :: b2 :: bs) hc pins s1 σ H1 Q x v u G1 ph1 env st1 b st' I1 E1 r1 R1 e' fun H' G' ph' w' s' => k (.bl b) H' G' ph' w' (S1.trans s') (.bl b) trivial
  · cases e'⟩
theorem ok_chnT {a b1 b2 : Expr} {o1 o2 : CmpOp} {ops : List CmpOp} {bs : List Expr} {ea : Ex} {c : Chn} {pos : Pos} (hu : X.A.units + 65 < cLine) (ha : PE X a (tE (kx X) (ea.den cf))) (hc : ChnOk X cf c (o1 :: o2 :: ops) (b1 :: b2 :: bs)) (hm : lastMarks (o1 :: o2 :: ops) (b1 :: b2 :: bs) = false) :
    PT X (.Compare a (o1 :: o2 :: ops) (b1 :: b2 :: bs) pos) (tT (kx X) ((Ts.chn ea c).den cf)) := ⟨fun pins s σ H Q I ⟨G, ph, env, st, b, st', E, e', k⟩ => by
  simp only [Ts.den] at e'
  split at e'
  · rename_i x st1 e1
    refine isTrue_chain (thn (ha.run pins s σ H (fun v H1 => ∃ G1 ph1, Ev (kx X) G1 H1 ph1 env st1 σ ∧ Stp G H ph G1 H1 ph1 ∧ Rs (kx X) G1 H1 ph1 x v) I ⟨G, ph, env, st, x, st1, E, e1, fun v H1 G1 ph1 w1 s1 r1 f1 => ⟨G1, ph1, E.step s1 w1, s1, r1⟩⟩) fun u s1 ⟨v, H1, I1, r1, G1, ph1, E1, S1, R1⟩ => ?_) hm
    exact chainT hu c _ (b1 :: b2 :: bs) hc pins s1 σ H1 Q x v u G1 ph1 env st1 b st' I1 E1 r1 R1 e' fun H' G' ph' w' s' => k H' G' ph' w' (S1.trans s')
  · cases e'⟩

/-! ### small ones -/
theorem ok_neg {a : Expr} {ea : Ex} {pos : Pos} (ha : PE X a (tE (kx X) (ea.den cf))) : PE X (.UnaryOp .USub a pos) (tE (kx X) ((Ex.neg ea).den cf)) :=
  peW (pe_un un_neg ha) fun σ H Q ⟨G, ph, env, st, r, st', E, e, k⟩ => by
    simp only [Ex.den] at e
    split at e
    · rename_i i st1 e1
      cases e
      refine ⟨G, ph, env, st, _, _, E, e1, fun v H1 G1 ph1 w1 s1 r1 f1 => ?_⟩
      cases (show Dv X.K G1 v (.int i) from r1)
      exact ⟨i, rfl, k _ H1 G1 ph1 w1 s1 (.int _) trivial⟩
    · cases e
theorem ok_tst {a : Expr} {t : Ts} (ha : PE X a (tE (kx X) (asV (t.den cf)))) : PE X a (tE (kx X) ((Ex.tst t).den cf)) := peW ha fun σ H Q h => by
  have e : asV (t.den cf) = (Ex.tst t).den cf := by
    funext env st
    simp only [asV, Ex.den] <;> (cases t.den cf env st <;> rfl)
  rw [e]; exact h
theorem ok_ite {c a b : Expr} {t : Ts} {ea eb : Ex} {pos : Pos} (hc : PT X c (tT (kx X) (t.den cf))) (ha : PE X a (tE (kx X) (ea.den cf))) (hb : PE X b (tE (kx X) (eb.den cf))) : PE X (.IfExp c a b pos) (tE (kx X) ((Ex.ite t ea eb).den cf)) :=
  peW (pe_ifExp hc ha hb) fun σ H Q ⟨G, ph, env, st, r, st', E, e, k⟩ => by
    simp only [Ex.den] at e
    split at e
    · rename_i st1 e1
      exact ⟨G, ph, env, st, true, st1, E, e1, fun H1 G1 ph1 w1 s1 => iteP ⟨G1, ph1, env, st1, r, st', E.step s1 w1, e, fun v H2 G2 ph2 w2 s2 r2 f2 => k v H2 G2 ph2 w2 (s1.trans s2) r2 (f2.before s1)⟩⟩
    · rename_i st1 e1
      exact ⟨G, ph, env, st, false, st1, E, e1, fun H1 G1 ph1 w1 s1 => iteN ⟨G1, ph1, env, st1, r, st', E.step s1 w1, e, fun v H2 G2 ph2 w2 s2 r2 f2 => k v H2 G2 ph2 w2 (s1.trans s2) r2 (f2.before s1)⟩⟩
    · cases e
/-! ### arguments -/
theorem ok_nil : PA X [] (tAs (kx X) (Exs.nil.den cf)) := paW pa_nil fun σ H Q ⟨G, ph, env, st, rs, st', E, e, k⟩ => by
  simp only [Exs.den] at e
  cases e
  exact k [] H G ph E.w Stp.refl trivial (by unfold FrL; trivial)
theorem ok_cons {a : Expr} {as : List Expr} {ea : Ex} {es : Exs} (ha : PE X a (tE (kx X) (ea.den cf))) (hr : PA X as (tAs (kx X) (es.den cf))) (hs : starEach (a :: as) X.env = (false, eval a X.env) :: starEach as X.env) :
    PA X (a :: as) (tAs (kx X) ((Exs.cons ea es).den cf)) := paW (pa_cons ha hr hs) fun σ H Q ⟨G, ph, env, st, rs, st', E, e, k⟩ => by
  simp only [Exs.den] at e
  split at e
  · rename_i x st1 e1
    split at e
    · rename_i xs st2 e2
      cases e
      refine ⟨G, ph, env, st, x, st1, E, e1, fun v H1 G1 ph1 w1 s1 r1 f1 => ?_⟩
      refine ⟨G1, ph1, env, st1, xs, _, E.step s1 w1, e2, fun vs H2 G2 ph2 w2 s2 r2 f2 => ?_⟩
      refine k (v :: vs) H2 G2 ph2 w2 (s1.trans s2) ⟨r1.step s2, r2⟩ ⟨f1, fun ds a e ev => ?_, f2.before s1⟩
      subst e
      obtain ⟨a', us, e', h1, _⟩ := (show ∃ a vs, v = .ref a ∧ H1 a = some (.lst vs) ∧ G1 a = none ∧ a ∉ ph1 ∧ DvAll X.K G1 vs ds from r1)
      rw [ev] at e'
      cases e'
      exact noAt_of h1 f2
    · cases e
  · cases e
/-! ### displays -/
theorem ok_tup {as : List Expr} {es : Exs} {k0 pos} (ha : PA X as (tAs (kx X) (es.den cf))) : PE X (.Tuple as k0 pos) (tE (kx X) ((Ex.tup es).den cf)) :=
  peW (pe_tup ha) fun σ H Q ⟨G, ph, env, st, r, st', E, e, k⟩ => by
    simp only [Ex.den] at e
    split at e
    · rename_i rs st1 e1
      split at e
      · rename_i ds hc
        split at e
        · rename_i hz
          cases e
          refine ⟨G, ph, env, st, rs, _, E, e1, fun vs H1 G1 ph1 w1 s1 r1 f1 => ?_⟩
          obtain ⟨G2, w2, s2, h2, up⟩ := caps_ok s1 w1 r1 f1 hc
          refine ⟨by rw [h2.len]; exact fits hz, fun p hp => ?_⟩
          obtain ⟨a1, a2, a3⟩ := new_tup w2 s2 h2 hp
          exact k _ _ _ _ a1 a2 a3 trivial
        · cases e
      · cases e
    · cases e
theorem ok_lst {as : List Expr} {es : Exs} {pos} (ha : PA X as (tAs (kx X) (es.den cf))) : PE X (.List as pos) (tE (kx X) ((Ex.lst es).den cf)) :=
  peW (pe_lst ha) fun σ H Q ⟨G, ph, env, st, r, st', E, e, k⟩ => by
    simp only [Ex.den] at e
    split at e
    · rename_i rs st1 e1
      split at e
      · rename_i ds hc
        split at e
        · rename_i hz
          cases e
          refine ⟨G, ph, env, st, rs, _, E, e1, fun vs H1 G1 ph1 w1 s1 r1 f1 => ?_⟩
          obtain ⟨G2, w2, s2, h2, up⟩ := caps_ok s1 w1 r1 f1 hc
          refine ⟨by rw [h2.len]; exact fits hz, fun p hp => ?_⟩
          obtain ⟨a1, a2, a3, a4⟩ := new_own w2 s2 h2 hp
          exact k _ _ _ _ a1 a2 a3 a4
        · cases e
      · cases e
    · cases e
theorem ok_box {as : List Expr} {es : Exs} {pos} (ha : PA X as (tAs (kx X) (es.den cf))) : PE X (.List as pos) (tE (kx X) ((Ex.box es).den cf)) :=
  peW (pe_lst ha) fun σ H Q ⟨G, ph, env, st, r, st', E, e, k⟩ => by
    simp only [Ex.den] at e
    split at e
    · rename_i rs st1 e1
      split at e
      · rename_i ds hc
        split at e
        · rename_i hz
          cases e
          refine ⟨G, ph, env, st, rs, _, E, e1, fun vs H1 G1 ph1 w1 s1 r1 f1 => ?_⟩
          obtain ⟨G2, w2, s2, h2, up⟩ := caps_ok s1 w1 r1 f1 hc
          refine ⟨by rw [h2.len]; exact fits hz, fun p hp => ?_⟩
          refine k _ _ _ _ (w2.newB hp h2) (s2.trans (Stp.newB hp)) ⟨p, rfl, ?_⟩ trivial
          rw [← w2.len, List.getElem?_append_right (Nat.le_refl _)]
          simp
        · cases e
      · cases e
    · cases e
/-! ### subscripts -/
theorem atI_some {α : Type} {xs : List α} {i : Int} {y : α} (h : atI xs i = some y) : ∃ j, ixN xs.length i = some j ∧ xs[j]? = some y := by
  unfold atI at h
  cases e : ixN xs.length i with
  | none => rw [e] at h; cases h
  | some j => rw [e] at h; exact ⟨j, rfl, h⟩
theorem atI_dv {K : PySem.W.Frag} {G : Hp} {vs : List V} {ds : List PyData} {i : Int} {d : PyData} (h : DvAll K G vs ds) (e : atI ds i = some d) : ∃ v, atI vs i = some v ∧ Dv K G v d := by
  obtain ⟨j, h1, h2⟩ := atI_some e
  obtain ⟨v, h3, h4⟩ := h.get h2
  refine ⟨v, ?_, h4⟩
  unfold atI
  rw [h.len, h1]
  exact h3
theorem ixR_ok {K : Kx} {G H : Hp} {ph : List Addr} {st : Bx} (w : Wd K G H ph st) {x : R} {v : V} {i : Int} {d : PyData} (h : Rs K G H ph x v) (e : ixR x i st = some d) : ∃ p vs z, v = .ref p ∧ (SqL K H p vs ∨ SqT K H p vs) ∧ atI vs i = some z ∧ Dv K G z d := by
  have view : ∀ {x : R}, Rs K G H ph x v → (x.view.bind fun d => ixD d i) = some d → ∃ p vs z, v = .ref p ∧ (SqL K H p vs ∨ SqT K H p vs) ∧ atI vs i = some z ∧ Dv K G z d := fun {x} h e => by
    cases ev : x.view with
    | none => rw [ev] at e; cases e
    | some dd =>
      rw [ev] at e
      cases dd with
      | list ds =>
        obtain ⟨p, vs, rfl, h1, h2⟩ := Rs.viewL w h ev
        obtain ⟨z, h3, h4⟩ := atI_dv h2 (show atI ds i = some d from e)
        exact ⟨p, vs, z, rfl, .inl (SqL.of h1), h3, h4⟩
      | tuple ds =>
        obtain ⟨p, vs, rfl, h1, h2⟩ := Rs.viewT w h ev
        obtain ⟨z, h3, h4⟩ := atI_dv h2 (show atI ds i = some d from e)
        exact ⟨p, vs, z, rfl, .inr h1, h3, h4⟩
      | _ => cases e
  cases x with
  | dat d0 => exact view h e
  | exc c => exact h.elim
  | pr _ _ => exact h.elim
  | exo c => exact view h e
  | own d0 => exact view h e
  | brw d0 => exact view h e
  | ref n =>
    obtain ⟨a, rfl, ha⟩ := h
    simp only [ixR] at e
    cases es : st[n]? with
    | none => rw [es] at e; cases e
    | some ds =>
      rw [es] at e
      obtain ⟨_, vs, h1, h2⟩ := w.box n a ds ha es
      obtain ⟨z, h3, h4⟩ := atI_dv h2 (show atI ds i = some d from e)
      exact ⟨a, vs, z, rfl, .inl (SqL.of h1), h3, h4⟩
  | scr ns =>
    obtain ⟨a, rfl, ha⟩ := h
    simp only [ixR] at e
    cases en : atI ns i with
    | none => rw [en] at e; cases e
    | some m =>
      rw [en] at e
      cases e
      obtain ⟨j, h1, h2⟩ := atI_some en
      refine ⟨a, _, .int m, rfl, .inl (SqL.up w.sub ha), ?_, .int m⟩
      unfold atI
      rw [List.length_map, h1]
      show (ns.map V.int)[j]? = _
      rw [List.getElem?_map, h2]
      rfl
theorem ok_ix {a b : Expr} {ea eb : Ex} {pos : Pos} (ha : PE X a (tE (kx X) (ea.den cf))) (hb : PE X b (tE (kx X) (eb.den cf))) (hp : PlainIx b) : PE X (.Subscript a b pos) (tE (kx X) ((Ex.ix ea eb).den cf)) :=
  peW (pe_ix ix_seq ha hb hp) fun σ H Q ⟨G, ph, env, st, r, st', E, e, k⟩ => by
    simp only [Ex.den] at e
    split at e
    · rename_i x st1 e1
      split at e
      · rename_i i st2 e2
        cases hx : ixR x i st2 with
        | none => rw [hx] at e; cases e
        | some d =>
          rw [hx] at e
          cases e
          refine two E e1 e2 fun v u H2 G2 ph2 w2 s2 r1 r2 => ?_
          cases (show Dv X.K G2 u (.int i) from r2)
          obtain ⟨p, vs, z, rfl, hs, hz, hd⟩ := ixR_ok w2 r1 hx
          have q := k z H2 G2 ph2 w2 s2 hd trivial
          rcases hs with hs | hs
          · exact .inl ⟨p, vs, i, z, rfl, rfl, hs, hz, q⟩
          · exact .inr (.inl ⟨p, vs, i, z, rfl, rfl, hs, hz, q⟩)
      · cases e
    · cases e
def tO (K : Kx) (d : En → Bx → Option (Option Int × Bx)) : TO := fun σ H Q =>
  ∃ (G : Hp) (ph : List Addr) (env : En) (st : Bx) (o : Option Int) (st' : Bx), Ev K G H ph env st σ ∧ d env st = some (o, st') ∧ ∀ H' G' ph', Wd K G' H' ph' st' → Stp G H ph G' H' ph' → Q o H'
theorem poW {e : Option Expr} {t t' : TO} (h : PO X e t) (w : ∀ σ H Q, t' σ H Q → t σ H Q) : PO X e t' := ⟨fun pins s σ H Q I q => h.run pins s σ H Q I (w σ H Q q)⟩
theorem ok_no : PO X none (tO (kx X) (Exo.no.den cf)) := poW po_none fun σ H Q ⟨G, ph, env, st, o, st', E, e, k⟩ => by
  simp only [Exo.den] at e
  cases e
  exact k H G ph E.w Stp.refl
theorem ok_yes {a : Expr} {ea : Ex} (ha : PE X a (tE (kx X) (ea.den cf))) : PO X (some a) (tO (kx X) ((Exo.yes ea).den cf)) := poW (po_some ha) fun σ H Q ⟨G, ph, env, st, o, st', E, e, k⟩ => by
  simp only [Exo.den] at e
  split at e
  · rename_i i st1 e1
    cases e
    refine ⟨G, ph, env, st, _, _, E, e1, fun v H1 G1 ph1 w1 s1 r1 f1 => ?_⟩
    cases (show Dv X.K G1 v (.int i) from r1)
    exact ⟨i, rfl, k H1 G1 ph1 w1 s1⟩
  · cases e
theorem cutD_len {α : Type} (xs : List α) (lo hi : Option Int) : cutD xs lo hi = (xs.drop (HT.sIx xs.length 0 lo)).take (HT.sIx xs.length xs.length hi - HT.sIx xs.length 0 lo) := rfl
theorem cut_dv {K : PySem.W.Frag} {G : Hp} {vs : List V} {ds : List PyData} (h : DvAll K G vs ds) (lo hi : Option Int) : DvAll K G (cutV vs lo hi) (cutD ds lo hi) := by
  unfold cutV cutD
  rw [h.len]
  exact (h.drop _).take _
theorem ok_sl {a : Expr} {ea : Ex} {lo hi : Option Expr} {el eh : Exo} {p2 pos : Pos} (ha : PE X a (tE (kx X) (ea.den cf))) (hl : PO X lo (tO (kx X) (el.den cf))) (hh : PO X hi (tO (kx X) (eh.den cf))) : PE X (.Subscript a (.Slice lo hi none p2) pos) (tE (kx X) ((Ex.sl ea el eh).den cf)) :=
  peW (pe_slice ((sl_list.or sl_tupA).or sl_str) ha hl hh) fun σ H Q ⟨G, ph, env, st, r, st', E, e, k⟩ => by
    simp only [Ex.den] at e
    split at e
    · rename_i x st1 e1
      split at e
      · rename_i l st2 e2
        split at e
        · rename_i h st3 e3
          split at e
          · rename_i d hv
            cases hs : slD d l h with
            | none => rw [hs] at e; cases e
            | some r0 =>
              rw [hs] at e
              cases e
              refine ⟨G, ph, env, st, x, st1, E, e1, fun v H1 G1 ph1 w1 s1 r1 f1 => ?_⟩
              refine ⟨G1, ph1, env, st1, l, st2, E.step s1 w1, e2, fun H2 G2 ph2 w2 s2 => ?_⟩
              refine ⟨G2, ph2, env, st2, h, _, E.step (s1.trans s2) w2, e3, fun H3 G3 ph3 w3 s3 => ?_⟩
              have S := (s1.trans s2).trans s3
              have R1 := r1.step (s2.trans s3)
              unfold slD at hs
              split at hs <;> first | contradiction | skip
              · cases hs
                obtain ⟨p, vs, rfl, h1, h2⟩ := Rs.viewL w3 R1 hv
                refine .inl (.inl ⟨p, vs, rfl, SqL.of h1, fun z hz => ?_⟩)
                obtain ⟨a1, a2, a3, a4⟩ := new_own w3 S (cut_dv h2 l h) hz
                exact k _ _ _ _ a1 a2 a3 a4
              · rename_i ds
                cases hs
                obtain ⟨p, vs, rfl, h1, h2⟩ := Rs.viewT w3 R1 hv
                refine .inl (.inr ⟨p, vs, rfl, h1, fun hw => ?_, fun hw z hz => ?_⟩)
                · have ew : cutD ds l h = ds := by
                    unfold cutD
                    rw [← h2.len, hw.1, hw.2, h2.len, List.drop_zero, Nat.sub_zero, List.take_length]
                  rw [ew] at k
                  cases x with
                  | dat d => cases hv; exact k _ _ _ _ w3 S R1 trivial
                  | _ => cases hv
                · obtain ⟨a1, a2, a3⟩ := new_tup w3 S (cut_dv h2 l h) hz
                  exact k _ _ _ _ a1 a2 a3 trivial
              · rename_i z
                split at hs
                · rename_i c
                  cases hs
                  exact .inr ⟨z, Rs.viewS w3 R1 hv, fits c, k _ H3 G3 ph3 w3 S (.str _) trivial⟩
                · cases hs
          · cases e
        · cases e
      · cases e
    · cases e
end
end Sy

namespace Sy
open PySem PySem.Spec PyProof.Rows L2 HT
/-! ### x[::-1] of a tuple or list -/
section
variable {prog : Program} {w : World} {A : Around} {E : Value → Shared → Prop} {s : Shared}
theorem rv_places (n : Nat) : Builtin.Slice.slicePlaces ((n : Int) - 1) (-1) (-1) = n := by
  unfold Builtin.Slice.slicePlaces
  have h1 : ¬ ((-1 : Int) > 0) := by omega
  rw [if_neg h1]
  by_cases h : ((n : Int) - 1 > -1)
  · rw [if_pos h, show -(-1 : Int) = 1 from rfl, Int.ediv_one]; omega
  · rw [if_neg h]
    have : n = 0 := by omega
    subst this; rfl
theorem sliceApplied_rv {sl : Addr} {vl vu vs : Value} {n : Nat} {Q : Int × Int × Nat → Shared → Prop} (hs : s.heap.IsSliceOf sl vl vu vs) (pl : IsPart vl none) (pu : IsPart vu none) (ps : IsPart vs (some (-1)))
    (h : Q ((n : Int) - 1, -1, n) s) : wpAny (model prog w) A (Builtin.Slice.sliceApplied (.ref sl) (pure (n : Int))) Q E s := by
  obtain ⟨os, hos, hcs, hds⟩ := id hs
  unfold Builtin.Slice.sliceApplied Builtin.Slice.sliceFields
  refine wpAny_bind (wpAny_bind (wpAny_field hos hds (x := vl) rfl (wpAny_bind (wpAny_field hos hds (x := vu) rfl (wpAny_bind (wpAny_field hos hds (x := vs) rfl (wpAny_pure ?_)))))))
  refine wpAny_bind (slicePart_ ps ?_)
  show wpAny _ _ (if ((-1 : Int) == 0) = true then _ else _) _ _ s
  rw [if_neg (by decide)]
  refine wpAny_bind (slicePart_ pl (wpAny_bind (slicePart_ pu (wpAny_bind (wpAny_pure ?_)))))
  show wpAny _ _ (pure ((n : Int) - 1, (-1 : Int), Builtin.Slice.slicePlaces ((n : Int) - 1) (-1) (-1))) _ _ s
  rw [rv_places]
  exact wpAny_pure h
theorem fm_congr {α β : Type} {f g : α → Option β} : ∀ {l : List α}, (∀ m ∈ l, f m = g m) → l.filterMap f = l.filterMap g
  | [], _ => rfl
  | a :: l, h => by
    rw [List.filterMap_cons, List.filterMap_cons, h a List.mem_cons_self, fm_congr fun m hm => h m (List.mem_cons_of_mem _ hm)]
theorem rv_pick (xs : Array Value) : ((List.range xs.size).filterMap fun (m : Nat) => xs[((xs.size : Int) - 1 + (m : Int) * -1).toNat]?).toArray = xs.toList.reverse.toArray := by
  congr 1
  have e : (List.range xs.size).filterMap (fun (m : Nat) => xs[((xs.size : Int) - 1 + (m : Int) * -1).toNat]?) = (List.range xs.size).filterMap (fun (m : Nat) => xs.toList.reverse[m]?) := by
    refine fm_congr fun m hm => ?_
    have hm' := List.mem_range.mp hm
    rw [List.getElem?_reverse (by rw [Array.length_toList]; exact hm'), Array.length_toList, show ((xs.size : Int) - 1 + (m : Int) * -1).toNat = xs.size - 1 - m by omega, Array.getElem?_toList]
  rw [e]
  have key : ∀ l : List Value, (List.range l.length).filterMap (fun m => l[m]?) = l := by
    intro l
    induction l with
    | nil => rfl
    | cons a l ih =>
      rw [List.length_cons, List.range_succ_eq_map, List.filterMap_cons]
      show a :: List.filterMap _ (List.map Nat.succ (List.range l.length)) = _
      rw [List.filterMap_map]
      congr 1
  have := key xs.toList.reverse
  rw [List.length_reverse, Array.length_toList] at this
  exact this
theorem getItem_tuple_rv {t sl : Addr} {items : Array Value} {vl vu vs : Value} {Q : Value → Shared → Prop} (ht : IsTup s.heap t items) (hs : s.heap.IsSliceOf sl vl vu vs) (pl : IsPart vl none) (pu : IsPart vu none) (ps : IsPart vs (some (-1)))
    (h : Q (.ref s.heap.objs.size) { s with heap := s.heap.push { cls := .type "tuple", data := .seq items.toList.reverse.toArray } })
    (hsz : items.size ≤ sizeLine) : wpAny (model prog w) A (getItem (.ref t) (.ref sl)) Q E s := by
  have htake : sizeOk (.seq items.toList.reverse.toArray) := by
    show items.toList.reverse.toArray.size ≤ sizeLine
    rw [List.size_toArray, List.length_reverse, Array.length_toList]
    exact hsz
  obtain ⟨os, hos, hcs, hds⟩ := id hs
  have hTs : s.TypeIs (.ref sl) "slice" := ⟨os, hos, hcs⟩
  unfold getItem
  try with_reducible refine wpAny_holding ?_
  first | refine wpAny_bind (wpAny_pure ?_) | skip
  refine wpAny_bind (wpAny_sequenceKey ht.typeIs (by decide) ?_)
  refine wpAny_bind (wpAny_callSpecial?_slot (name := Str.ofString "__getitem__") ht.typeIs PyProof.Rows.slot_tuple_getitem
    (wpAny_call_entry PyProof.Rows.slot_tuple_getitem ht.typeIs entry_tuple_getitem ?_ (args_tuple_getitem _ _)))
  show wpAny _ _ (Builtin.Tuple.tupleItemsOf (.ref t) >>= _) _ _ s
  refine wpAny_bind (tupleItemsOf_ ht ?_)
  refine wpAny_bind (wpAny_typeOf hTs ?_)
  rw [if_pos (by decide)]
  refine wpAny_bind (sliceApplied_rv hs pl pu ps ?_)
  have hno : ¬ ((((items.size : Int) - 1) == 0 && (-1 : Int) == 1 && items.size == items.size) = true) := by
    intro q
    rw [Bool.and_eq_true, Bool.and_eq_true] at q
    exact absurd q.1.2 (by decide)
  show wpAny _ _ (if (((items.size : Int) - 1) == 0 && (-1 : Int) == 1 && items.size == items.size) = true then _ else _) _ _ s
  rw [if_neg hno, rv_pick]
  first
    | exact wpAny_bind (m := Builtin.Tuple.tupleExact _) (wpAny_newObj_type (wpAny_pure ⟨_, rfl, wpAny_pure h⟩) htake)
    | exact wpAny_bind (m := Builtin.Tuple.tupleExact _) (wpAny_newObj_type (wpAny_bind (wpAny_pure (wpAny_pure ⟨_, rfl, wpAny_pure h⟩))) htake)
    | exact wpAny_bind (wpAny_bind (m := Builtin.Tuple.tupleExact _) (wpAny_newObj_type (wpAny_pure (wpAny_pure ⟨_, rfl, wpAny_pure h⟩)) htake))
    | exact wpAny_bind (wpAny_bind (m := Builtin.Tuple.tupleExact _) (wpAny_newObj_type (wpAny_pure ⟨_, rfl, wpAny_pure h⟩) htake))
end
section
variable {X : Cx} {cf : Cf}
def tRev (K : PySem.W.Frag) (te : TE) : TE := fun σ H Q => te σ H fun x H1 => ∃ a xs, x = .ref a ∧ ((SqL K H1 a xs ∧ ∀ p, H1 p = none → Q (.ref p) (upd H1 p (.lst xs.reverse))) ∨ (SqT K H1 a xs ∧ ∀ p, H1 p = none → Q (.ref p) (upd H1 p (.tup xs.reverse))))
theorem pe_rev {e : Expr} {te : TE} {k : Nat} {p1 p2 p3 pos : Pos} (he : PE X e te) : PE X (.Subscript e (.Slice none none (some (.UnaryOp .USub (.Constant (.int 1) k p1) p2)) p3) pos) (tRev X.K te) := by
  refine ⟨fun pins s σ H Q I h => ?_⟩
  refine Subscript_ (thn (he.run pins s σ H _ I h) fun v s1 ⟨x, H1, I1, r1, q1⟩ => ?_)
  obtain ⟨a, xs, ex, q⟩ := q1
  subst ex
  cases r1
  have hst : PO X (some (.UnaryOp .USub (.Constant (.int 1) k p1) p2)) (tPart (tUn (rU fun i => .int (-i)) (tC (.int 1)))) := po_some (pe_un un_neg pe_int)
  refine wpAny_Slice (thn (po_none.run pins s1 σ H1 (fun o H2 => o = none ∧ H2 = H1) I1 ⟨rfl, rfl⟩) fun vl s2 ⟨l, H2, I2, pl, el, e2⟩ => ?_)
  subst el e2
  refine thn (po_none.run pins s2 σ H2 (fun o H3 => o = none ∧ H3 = H2) I2 ⟨rfl, rfl⟩) fun vu s3 ⟨u, H3, I3, pu, eu, e3⟩ => ?_
  subst eu e3
  refine thn (hst.run pins s3 σ H3 (fun o H4 => o = some (-1) ∧ H4 = H3) I3 ⟨1, rfl, -1, rfl, rfl, rfl⟩) fun vs s4 ⟨o, H4, I4, ps, eo, e4⟩ => ?_
  subst eo e4
  have I5 : Inv X pins σ H4 { s4 with heap := s4.heap.push { cls := .type "slice", data := .fields #[vl, vu, vs] } } := I4.kept (t' := s4.toks) fun b ob q => Heap.get?_push_of_some _ q
  show wpAny (model X.prog X.w) X.A (subscriptTail e (.Slice none none (some (.UnaryOp .USub (.Constant (.int 1) k p1) p2)) p3) (.ref a) (.ref s4.heap.objs.size)) (EP X pins σ Q) X.xe { s4 with heap := s4.heap.push { cls := .type "slice", data := .fields #[vl, vu, vs] } }
  rcases q with ⟨hx, q⟩ | ⟨hx, q⟩
  · obtain ⟨its, r, ht, hz⟩ := I5.list hx
    have hlen := r.length
    refine tail_any (ops := [.ref a, .ref s4.heap.objs.size]) ht.isList.typeIs (PySem.slot_list_getitem.lookup) ?_ (by with_unfolding_all rfl)
    refine wpAny_getItem_list_slice ht.isList (Heap.IsSliceOf.new _ vl vu vs) pl pu ps (by decide) ?_ (by rw [List.size_toArray]; omega)
    rw [PySem.W.krv_pick]
    refine ⟨.ref _, _, I5.laid (t' := s4.toks) (o := .lst xs.reverse) (fun b ob q => Heap.get?_push_of_some _ q) (Nat.le_refl _) ?_, rfl, q _ (I5.hok.fresh (Nat.le_refl _))⟩
    exact ⟨by rw [List.length_reverse]; exact hz, _, 0, r.reverse, Heap.get?_push_size _ rfl⟩
  · obtain ⟨its, r, ht, hz⟩ := I5.tuple hx
    have hlen := r.length
    refine tail_any (ops := [.ref a, .ref s4.heap.objs.size]) ht.typeIs (PyProof.Rows.slot_tuple_getitem.lookup) ?_ (by with_unfolding_all rfl)
    refine getItem_tuple_rv ht (Heap.IsSliceOf.new _ vl vu vs) pl pu ps ?_ (by rw [List.size_toArray]; omega)
    refine ⟨.ref _, _, I5.laid (t' := s4.toks) (o := .tup xs.reverse) (fun b ob q => Heap.get?_push_of_some _ q) (Nat.le_refl _) ?_, rfl, q _ (I5.hok.fresh (Nat.le_refl _))⟩
    exact ⟨by rw [List.length_reverse]; exact hz, _, r.reverse, IsTup.new _ _⟩
theorem DvAll.reverse {K : PySem.W.Frag} {H : Hp} : ∀ {ds : List PyData} {vs : List V}, DvAll K H vs ds → DvAll K H vs.reverse ds.reverse
  | [], _, .nil => .nil
  | d :: ds, _, .cons h t => by
    rw [List.reverse_cons, List.reverse_cons]
    exact t.reverse.app (.one h)
theorem ok_rev {a : Expr} {ea : Ex} {k : Nat} {p1 p2 p3 pos : Pos} (ha : PE X a (tE (kx X) (ea.den cf))) : PE X (.Subscript a (.Slice none none (some (.UnaryOp .USub (.Constant (.int 1) k p1) p2)) p3) pos) (tE (kx X) ((Ex.rev ea).den cf)) :=
  peW (pe_rev ha) fun σ H Q ⟨G, ph, env, st, r, st', E, e, kk⟩ => by
    simp only [Ex.den] at e
    split at e
    · rename_i x st1 e1
      split at e
      · rename_i ds hv
        cases e
        refine ⟨G, ph, env, st, x, _, E, e1, fun v H1 G1 ph1 w1 s1 r1 f1 => ?_⟩
        obtain ⟨p, vs, rfl, h1, h2⟩ := Rs.viewL w1 r1 hv
        refine ⟨p, vs, rfl, .inl ⟨SqL.of h1, fun z hz => ?_⟩⟩
        obtain ⟨a1, a2, a3, a4⟩ := new_own w1 s1 h2.reverse hz
        exact kk _ _ _ _ a1 a2 a3 a4
      · rename_i ds hv
        cases e
        refine ⟨G, ph, env, st, x, _, E, e1, fun v H1 G1 ph1 w1 s1 r1 f1 => ?_⟩
        obtain ⟨p, vs, rfl, h1, h2⟩ := Rs.viewT w1 r1 hv
        refine ⟨p, vs, rfl, .inr ⟨h1, fun z hz => ?_⟩⟩
        obtain ⟨a1, a2, a3⟩ := new_tup w1 s1 h2.reverse hz
        exact kk _ _ _ _ a1 a2 a3 trivial
      · cases e
    · cases e
end
end Sy

namespace Sy
open PySem PySem.Spec PyProof.Rows L2

/-! ### a def's promise -/
/-- the class that is named so -/
def ClsOf (K : PySem.W.Frag) (c : String) (C : Addr) : Prop := PySem.W.nsIn K mainGlobals (Str.ofString c) = some (some (.ref C))
/-- a tuple of a list of one's own and of data, as it is handed back -/
def PrV (K : Kx) (G H : Hp) (ph : List Addr) (ds : List PyData) (d : PyData) (v : V) : Prop := ∃ t a vs u, v = .ref t ∧ G t = some (.tup [.ref a, u]) ∧ H a = some (.lst vs) ∧ G a = none ∧ a ∉ ph ∧ DvAll K G vs ds ∧ Dv K G u d
def RsF (K : Kx) (G H : Hp) (ph : List Addr) : R → V → Prop
  | .pr ds d, v => PrV K G H ph ds d v
  | r, v => Rs K G H ph r v
def FrF (G H : Hp) : R → V → Prop
  | .pr _ _, v => ∀ t a u, v = .ref t → G t = some (.tup [.ref a, u]) → H a = none
  | r, v => FrO H r v
section
variable {K : Kx} {G H G1 H1 H0 G' H' : Hp} {ph ph1 : List Addr} {r : R} {v : V}
theorem Rs.f (h : Rs K G H ph r v) : RsF K G H ph r v := by
  cases r with
  | pr ds d => exact h.elim
  | _ => exact h
theorem Rs.ff (h : Rs K G H ph r v) (f : FrO H0 r v) : FrF G H0 r v := by
  cases r with
  | pr ds d => exact h.elim
  | _ => exact f
theorem RsF.rs (h : RsF K G H ph r v) (n : ∀ ds d, r ≠ .pr ds d) : Rs K G H ph r v := by
  cases r with
  | pr ds d => exact absurd rfl (n ds d)
  | _ => exact h
theorem FrF.fo (h : FrF G H r v) (n : ∀ ds d, r ≠ .pr ds d) : FrO H r v := by
  cases r with
  | pr ds d => exact absurd rfl (n ds d)
  | _ => exact h
theorem FrF.before (s : Stp G H ph G1 H1 ph1) (h : FrF G' H1 r v) : FrF G' H r v := by
  cases r with
  | pr ds d => exact fun t a u e1 e2 => s.dom a (h t a u e1 e2)
  | own ds => exact fun a e => s.dom a (h a e)
  | _ => trivial
end
/-- called with such arguments it computes what c does, or raises what c tells -/
def spF (K : Kx) (np : Nat) (c : List R → Bx → Option (R × Bx)) (vs : List V) (H : Hp) (Q : VK) (E : XK) : Prop :=
  vs.length = np ∧ ∃ (G : Hp) (ph : List Addr) (st : Bx) (as : List R) (r : R) (st' : Bx), Wd K G H ph st ∧ RsAll K G H ph as vs ∧ (∀ a ∈ as, ∀ ds, a ≠ .own ds ∧ a ≠ .brw ds) ∧ c as st = some (r, st') ∧
    (∀ v H' G' ph', Wd K G' H' ph' st' → Stp G H ph G' H' ph' → RsF K G' H' ph' r v → FrF G' H r v → Q v H') ∧
    (∀ x, r = .exc x → ∀ H' G' ph', Wd K G' H' ph' st' → Stp G H ph G' H' ph' → ∀ C, ClsOf K.K x C → E (.ref C) none H')
/-- room for so many calls; whether an exception is being handled -/
structure RoomB (hot : Bool) (k : Nat) (A : Around) : Prop where
  cold : hot = false → A.handled = none
  hotc : hot = true → ∃ u, A.handled = some u
  rm : L2H.RoomH k A
  gd : A.guards = some []
theorem RoomB.deeper {hot : Bool} {k : Nat} {A : Around} (r : RoomB hot (k + 1) A) (env : Env) : RoomB hot k (A.deeper env) := ⟨r.cold, r.hotc, r.rm.deeper env, r.gd⟩
theorem RoomB.depth {hot : Bool} {k : Nat} {A : Around} (r : RoomB hot k A) : A.depth < recursionLimit := by have := r.rm.dp; omega
/-- the promise kept at every call for which there is room -/
structure Fk (hot : Bool) (P : Program) (w : World) (K : PySem.W.Frag) (mg : Str → Option Value) (base : Heap) (k : Nat) (f : Addr) (fd : FuncData) (ps : List Str) (c : List R → Bx → Option (R × Bx)) : Prop where
  run : ∀ (A : Around) (fr : List Env) (s : Shared) (H : Hp) (args : Args) (us : List Value) (vs : List V) (Q : VK) (E : XK), RoomB hot k A → Env0 P w K mg base A fr s H → BindsTo s fd args (ps.zip us) → Vals vs us → spF ⟨K, A.handled⟩ ps.length c vs H Q E →
    codeAny (model P w) A (.call (.ref f) args) (CR (L2N.CX P w) fr P w H s Q E) s
/-- a def of the module at hand -/
def Cal (hot : Bool) (X : Cx) (f : String) (c : List R → Bx → Option (R × Bx)) : Prop :=
  ∃ (k : Nat) (a : Addr) (fd : FuncData) (ps : List Str), Fk hot X.prog X.w X.K X.mg X.base k a fd ps c ∧ RoomB hot k X.A ∧ X.mg (Str.ofString f) = some (.ref a) ∧ PySem.W.keepIn X.K (.ref a) = true ∧ Binds X.K fd ps [] ∧
    (∀ as st r, c as st = some r → as.length = ps.length)

section
variable {X : Cx} {cf : Cf} {hot : Bool}
def tCf (K : Kx) (np : Nat) (c : List R → Bx → Option (R × Bx)) (E : L2.St → XK) (t : TA) : TE := fun σ H Q => t σ H fun vs H1 => spF K np c vs H1 Q (E σ)
theorem runFk {pins : List (Addr × Obj)} {σ : L2.St} {H : Hp} {s : Shared} {Q : VK} {E : XK} {us : List Value} {vs : List V} {k : Nat} {a : Addr} {fd : FuncData} {ps : List Str} {c : List R → Bx → Option (R × Bx)}
    (F : Fk hot X.prog X.w X.K X.mg X.base k a fd ps c) (hr : RoomB hot k X.A) (hb : Binds X.K fd ps []) (hx : PassesAt (L2N.CX X.prog X.w) X σ E) (I : Inv X pins σ H s) (r : Vals vs us) (h : spF (kx X) ps.length c vs H Q E) :
    wpAny (model X.prog X.w) X.A (call (.ref a) us) (EP X pins σ Q) X.xe s := by
  have hl : us.length = ps.length := r.length.symm.trans h.1
  have hb' := hb s us I.kIn (by rw [List.append_nil]; exact hl)
  rw [List.append_nil] at hb'
  refine wpAny_call (codeAny_mono (F.run X.A X.stack s H ⟨us, []⟩ us vs Q E hr I.env0 hb' r h) fun res s' hq => ?_)
  match res, hq with
  | .error e, hq => exact hx pins H s e s' I hq
  | .ok .next, hq => exact hq.elim
  | .ok .brk, hq => exact hq.elim
  | .ok .cont, hq => exact hq.elim
  | .ok (.ret u), hq => exact I.after hq
theorem pe_cf {x : Str} {p pos : Pos} {e : Expr} {es : List Expr} {t : TA} {k : Nat} {a : Addr} {fd : FuncData} {ps : List Str} {c : List R → Bx → Option (R × Bx)} {E : L2.St → XK}
    (F : Fk hot X.prog X.w X.K X.mg X.base k a fd ps c) (hr : RoomB hot k X.A) (hb : Binds X.K fd ps []) (hx : ∀ σ, PassesAt (L2N.CX X.prog X.w) X σ (E σ)) (gl : Gl X x) (hm : X.mg x = some (.ref a)) (hk : PySem.W.keepIn X.K (.ref a) = true) (hdb : (x == ("__debug__" : Str)) = false) (ha : PA X (e :: es) t)
    (he : starEach (e :: es) X.env = (false, eval e X.env) :: starEach es X.env) (hpl : (backTo pos (starEach es X.env)).any (·.1) = false) : PE X (.Call (.Name x p) (e :: es) [] pos) (tCf (kx X) ps.length c E t) :=
  ⟨fun pins s σ H Q I h => wpAny_Call_Name_kw (ld_glob I gl hm (PySem.W.callWith_K (h₀ := X.base) I.ok.mod.kin hk (thn (ha.run pos pins s σ H _ I h) fun us s1 ⟨vs, H1, I1, r, q⟩ => ⟨I1.kIn, runFk F hr hb (hx σ) I1 r q⟩) he hpl) hdb)⟩
theorem pe_cf0 {x : Str} {p pos : Pos} {k : Nat} {a : Addr} {fd : FuncData} {ps : List Str} {c : List R → Bx → Option (R × Bx)} {E : L2.St → XK}
    (F : Fk hot X.prog X.w X.K X.mg X.base k a fd ps c) (hr : RoomB hot k X.A) (hb : Binds X.K fd ps []) (hx : ∀ σ, PassesAt (L2N.CX X.prog X.w) X σ (E σ)) (gl : Gl X x) (hm : X.mg x = some (.ref a)) (hk : PySem.W.keepIn X.K (.ref a) = true) (hdb : (x == ("__debug__" : Str)) = false) : PE X (.Call (.Name x p) [] [] pos) (tCf (kx X) ps.length c E tNil) :=
  ⟨fun pins s σ H Q I h => wpAny_Call_Name_kw (ld_glob I gl hm (PySem.W.callWith_K0 I.kIn hk (runFk (us := []) F hr hb (hx σ) I .nil h)) hdb)⟩
/-- nothing that leaves -/
abbrev noE : L2.St → XK := fun _ _ _ _ => False
theorem pass_no (σ : L2.St) : PassesAt (L2N.CX X.prog X.w) X σ (noE σ) := fun _ _ _ _ _ _ c => by
  obtain ⟨_, _, _, _, _, _, _, _, _, _, _, _, z⟩ := c
  exact z.elim
theorem arg_plain : ∀ {r a : R}, r.arg = some a → ∀ ds, a ≠ .own ds ∧ a ≠ .brw ds
  | .dat _, _, e, _ => by cases e; exact ⟨(fun z => nomatch z), (fun z => nomatch z)⟩
  | .own _, _, e, _ => by cases e; exact ⟨(fun z => nomatch z), (fun z => nomatch z)⟩
  | .ref _, _, e, _ => by cases e; exact ⟨(fun z => nomatch z), (fun z => nomatch z)⟩
  | .scr _, _, e, _ => by cases e; exact ⟨(fun z => nomatch z), (fun z => nomatch z)⟩
  | .exo _, _, e, _ => by cases e; exact ⟨(fun z => nomatch z), (fun z => nomatch z)⟩
  | .brw _, _, e, _ => by cases e
  | .exc _, _, e, _ => by cases e
  | .pr _ _, _, e, _ => by cases e
theorem args_plain : ∀ {rs as : List R}, argsOf rs = some as → ∀ a ∈ as, ∀ ds, a ≠ .own ds ∧ a ≠ .brw ds
  | [], as, e, a, h => by cases (show some [] = some as from e); cases h
  | r :: rs, as, e, a, h => by
    unfold argsOf at e
    split at e
    · rename_i x xs e1 e2
      cases e
      rcases List.mem_cons.mp h with rfl | h
      · exact arg_plain e1
      · exact args_plain e2 a h
    · cases e
theorem RsAll.len {K : Kx} {G H : Hp} {ph : List Addr} : ∀ {rs : List R} {vs : List V}, RsAll K G H ph rs vs → rs.length = vs.length
  | [], [], _ => rfl
  | [], _ :: _, h => h.elim
  | _ :: _, [], h => h.elim
  | _ :: _, _ :: _, ⟨_, t⟩ => by rw [List.length_cons, List.length_cons, RsAll.len t]
theorem nox_some {o : Option (R × Bx)} {r : R} {st : Bx} (h : nox o = some (r, st)) : o = some (r, st) ∧ (∀ x, r ≠ .exc x) ∧ ∀ ds d, r ≠ .pr ds d := by
  unfold nox at h
  split at h
  · cases h
  · cases h
  · rename_i hn hm
    exact ⟨h, fun x e => by subst e; exact hn _ _ h, fun ds d e => by subst e; exact hm _ _ _ h⟩
theorem callW {f : String} {es : Exs} {np : Nat} (hlen : ∀ as st r, cf f as st = some r → as.length = np) : ∀ σ H Q, tE (kx X) ((Ex.call f es).den cf) σ H Q → tCf (kx X) np (cf f) noE (tAs (kx X) (es.den cf)) σ H Q := fun σ H Q ⟨G, ph, env, st, r, st', E, e, k⟩ => by
  simp only [Ex.den] at e
  split at e
  · rename_i rs st1 e1
    split at e
    · rename_i as ea
      obtain ⟨e, ne, np⟩ := nox_some e
      refine ⟨G, ph, env, st, rs, st1, E, e1, fun vs H1 G1 ph1 w1 s1 r1 f1 => ?_⟩
      obtain ⟨G2, w2, s2, h2, up⟩ := args_ok s1 w1 r1 f1 ea
      refine ⟨by rw [← h2.len]; exact hlen _ _ _ e, G2, ph1, st1, as, r, st', w2, h2, args_plain ea, e, fun v H' G' ph' w' s' r' f' => k v H' G' ph' w' (s2.trans s') (r'.rs np) ((f'.fo np).before s2), fun x ex => absurd ex (ne x)⟩
    · cases e
  · cases e
theorem ok_call {f : String} {p pos : Pos} {a : Expr} {as : List Expr} {es : Exs} (C : Cal hot X f (cf f)) (gl : Gl X (Str.ofString f)) (hdb : (Str.ofString f == ("__debug__" : Str)) = false) (ha : PA X (a :: as) (tAs (kx X) (es.den cf)))
    (he : starEach (a :: as) X.env = (false, eval a X.env) :: starEach as X.env) (hpl : (backTo pos (starEach as X.env)).any (·.1) = false) : PE X (.Call (.Name (Str.ofString f) p) (a :: as) [] pos) (tE (kx X) ((Ex.call f es).den cf)) := by
  obtain ⟨k, ad, fd, ps, F, hr, hm, hk, hb, hl⟩ := C
  exact peW (pe_cf F hr hb pass_no gl hm hk hdb ha he hpl) (callW hl)
theorem nil_as {C : TA} {σ : L2.St} {H : Hp} {Q : List V → Hp → Prop} (h : tAs (kx X) (Exs.nil.den cf) σ H Q) : Q [] H := by
  obtain ⟨G, ph, env, st, rs, st1, E, e1, kk⟩ := h
  simp only [Exs.den] at e1
  cases e1
  exact kk [] H G ph E.w Stp.refl trivial (by unfold FrL; trivial)
theorem ok_call0 {f : String} {p pos : Pos} (C : Cal hot X f (cf f)) (gl : Gl X (Str.ofString f)) (hdb : (Str.ofString f == ("__debug__" : Str)) = false) : PE X (.Call (.Name (Str.ofString f) p) [] [] pos) (tE (kx X) ((Ex.call f .nil).den cf)) := by
  obtain ⟨k, ad, fd, ps, F, hr, hm, hk, hb, hl⟩ := C
  exact peW (pe_cf0 F hr hb pass_no gl hm hk hdb) fun σ H Q h => nil_as (C := tNil) (callW hl σ H Q h)
/-! ### a call that may raise -/
def tX (K : Kx) (W : WX) (d : En → Bx → Option (R × Bx)) : TE := fun σ H Q =>
  ∃ (G : Hp) (ph : List Addr) (env : En) (st : Bx) (r : R) (st' : Bx), Ev K G H ph env st σ ∧ d env st = some (r, st') ∧
    (∀ v H' G' ph', Wd K G' H' ph' st' → Stp G H ph G' H' ph' → RsF K G' H' ph' r v → FrF G' H r v → Q v H') ∧
    (∀ x, r = .exc x → ∀ H' G' ph', Wd K G' H' ph' st' → Stp G H ph G' H' ph' → ∀ C, ClsOf K.K x C → W (.ref C) none σ H')
theorem callXW {f : String} {es : Exs} {np : Nat} {W : WX} (hlen : ∀ as st r, cf f as st = some r → as.length = np) : ∀ σ H Q, tX (kx X) W (callD cf f es) σ H Q → tCf (kx X) np (cf f) (WE W) (tAs (kx X) (es.den cf)) σ H Q := fun σ H Q ⟨G, ph, env, st, r, st', E, e, k, kx⟩ => by
  simp only [callD] at e
  split at e
  · rename_i rs st1 e1
    split at e
    · rename_i as ea
      refine ⟨G, ph, env, st, rs, st1, E, e1, fun vs H1 G1 ph1 w1 s1 r1 f1 => ?_⟩
      obtain ⟨G2, w2, s2, h2, up⟩ := args_ok s1 w1 r1 f1 ea
      refine ⟨by rw [← h2.len]; exact hlen _ _ _ e, G2, ph1, st1, as, r, st', w2, h2, args_plain ea, e, fun v H' G' ph' w' s' r' f' => k v H' G' ph' w' (s2.trans s') r' (f'.before s2), fun x ex H' G' ph' w' s' => kx x ex H' G' ph' w' (s2.trans s')⟩
    · cases e
  · cases e
theorem ok_callX {f : String} {p pos : Pos} {a : Expr} {as : List Expr} {es : Exs} {W : WX} (tk : L2N.Takes X W) (C : Cal hot X f (cf f)) (gl : Gl X (Str.ofString f)) (hdb : (Str.ofString f == ("__debug__" : Str)) = false) (ha : PA X (a :: as) (tAs (kx X) (es.den cf)))
    (he : starEach (a :: as) X.env = (false, eval a X.env) :: starEach as X.env) (hpl : (backTo pos (starEach as X.env)).any (·.1) = false) : PE X (.Call (.Name (Str.ofString f) p) (a :: as) [] pos) (tX (kx X) W (callD cf f es)) := by
  obtain ⟨k, ad, fd, ps, F, hr, hm, hk, hb, hl⟩ := C
  exact peW (pe_cf F hr hb (L2N.passAt tk) gl hm hk hdb ha he hpl) (callXW hl)
theorem ok_callX0 {f : String} {p pos : Pos} {W : WX} (tk : L2N.Takes X W) (C : Cal hot X f (cf f)) (gl : Gl X (Str.ofString f)) (hdb : (Str.ofString f == ("__debug__" : Str)) = false) : PE X (.Call (.Name (Str.ofString f) p) [] [] pos) (tX (kx X) W (callD cf f .nil)) := by
  obtain ⟨k, ad, fd, ps, F, hr, hm, hk, hb, hl⟩ := C
  exact peW (pe_cf0 F hr hb (L2N.passAt tk) gl hm hk hdb) fun σ H Q h => nil_as (C := tNil) (callXW hl σ H Q h)

/-! ### one half of what a call hands back -/
def tP (K : Kx) (cf : Cf) (f : String) (es : Exs) : TE := fun σ H Q =>
  ∃ (G : Hp) (ph : List Addr) (env : En) (st : Bx) (ds : List PyData) (d : PyData) (st' : Bx), Ev K G H ph env st σ ∧ callD cf f es env st = some (.pr ds d, st') ∧
    (∀ v H' G' ph', Wd K G' H' ph' st' → Stp G H ph G' H' ph' → PrV K G' H' ph' ds d v → FrF G' H (.pr ds d) v → Q v H')
theorem callPW {f : String} {es : Exs} {np : Nat} (hlen : ∀ as st r, cf f as st = some r → as.length = np) : ∀ σ H Q, tP (kx X) cf f es σ H Q → tCf (kx X) np (cf f) noE (tAs (kx X) (es.den cf)) σ H Q := fun σ H Q ⟨G, ph, env, st, ds, d, st', E, e, k⟩ => by
  simp only [callD] at e
  split at e
  · rename_i rs st1 e1
    split at e
    · rename_i as ea
      refine ⟨G, ph, env, st, rs, st1, E, e1, fun vs H1 G1 ph1 w1 s1 r1 f1 => ?_⟩
      obtain ⟨G2, w2, s2, h2, up⟩ := args_ok s1 w1 r1 f1 ea
      refine ⟨by rw [← h2.len]; exact hlen _ _ _ e, G2, ph1, st1, as, .pr ds d, st', w2, h2, args_plain ea, e, fun v H' G' ph' w' s' r' f' => k v H' G' ph' w' (s2.trans s') r' (f'.before s2), fun x ex => by cases ex⟩
    · cases e
  · cases e
theorem ok_callP {f : String} {p pos : Pos} {a : Expr} {as : List Expr} {es : Exs} (C : Cal hot X f (cf f)) (gl : Gl X (Str.ofString f)) (hdb : (Str.ofString f == ("__debug__" : Str)) = false) (ha : PA X (a :: as) (tAs (kx X) (es.den cf)))
    (he : starEach (a :: as) X.env = (false, eval a X.env) :: starEach as X.env) (hpl : (backTo pos (starEach as X.env)).any (·.1) = false) : PE X (.Call (.Name (Str.ofString f) p) (a :: as) [] pos) (tP (kx X) cf f es) := by
  obtain ⟨k, ad, fd, ps, F, hr, hm, hk, hb, hl⟩ := C
  exact peW (pe_cf F hr hb pass_no gl hm hk hdb ha he hpl) (callPW hl)
theorem ok_ixP {f : String} {es : Exs} {k : Bool} {c i : Expr} {pos : Pos} (hc : PE X c (tP (kx X) cf f es)) (hi : PE X i (tC (.int (if k then 0 else 1)))) (hp : PlainIx i) : PE X (.Subscript c i pos) (tE (kx X) ((Ex.ixP f es k).den cf)) :=
  peW (pe_ix ix_seq hc hi hp) fun σ H Q ⟨G, ph, env, st, r, st', E, e, kk⟩ => by
    simp only [Ex.den] at e
    have hcd : ∃ ds d, callD cf f es env st = some (.pr ds d, st') ∧ r = (if k then .own ds else .dat d) := by
      unfold callD
      split at e
      · rename_i rs st1 e1
        split at e
        · rename_i as ea
          split at e
          · rename_i ds d st2 e2
            cases e
            exact ⟨ds, d, e2, rfl⟩
          · cases e
        · cases e
      · cases e
    obtain ⟨ds, d, hcd, er⟩ := hcd
    refine ⟨G, ph, env, st, ds, d, st', E, hcd, fun v H1 G1 ph1 w1 s1 p1 f1 => ?_⟩
    obtain ⟨t, a, vs, u, rfl, q1, q2, q3, q4, q5, q6⟩ := p1
    have hT : SqT X.K H1 t [.ref a, u] := SqT.of (w1.sub _ _ q1)
    cases k with
    | true =>
      have : r = .own ds := er
      subst this
      exact .inr (.inl ⟨t, [.ref a, u], 0, .ref a, rfl, rfl, hT, rfl, kk (.ref a) H1 G1 ph1 w1 s1 ⟨a, vs, rfl, q2, q3, q4, q5⟩ fun b eb => by cases eb; exact f1 t a u rfl q1⟩)
    | false =>
      have : r = .dat d := er
      subst this
      exact .inr (.inl ⟨t, [.ref a, u], 1, u, rfl, rfl, hT, rfl, kk u H1 G1 ph1 w1 s1 q6 trivial⟩)

/-! ### built-ins -/
def bltName : Blt → String
  | .len => "len" | .abs => "abs" | .tup => "tuple" | .lst => "list" | .sum => "sum" | .all => "all" | .any => "any" | .min => "min" | .max => "max" | .sorted => "sorted" | .repr => "repr" | .str => "str" | .int => "int" | .divmod => "divmod"
/-- a type rather than a function -/
def bltTy : Blt → Bool
  | .tup => true | .lst => true | .str => true | .int => true | _ => false
def bltVal (f : Blt) : Value := if bltTy f then .type (bltName f) else .builtin (bltName f)
/-- what a built-in is asked and gives -/
def rB (K : Kx) (f : Blt) : List V → Hp → VK → Prop := fun vs H Q =>
  ∃ (Gb Hb : Hp) (phb : List Addr) (G : Hp) (ph : List Addr) (st : Bx) (rs : List R) (r : R), Wd K G H ph st ∧ Stp Gb Hb phb G H ph ∧ RsAll K G H ph rs vs ∧ FrL Hb rs vs ∧ bltR f rs st = some r ∧
    ∀ v H' G' ph', Wd K G' H' ph' st → Stp Gb Hb phb G' H' ph' → Rs K G' H' ph' r v → FrO Hb r v → Q v H'
theorem bltW {f : Blt} {es : Exs} : ∀ σ H Q, tE (kx X) ((Ex.blt f es).den cf) σ H Q → tCB (rB (kx X) f) (tAs (kx X) (es.den cf)) σ H Q := fun σ H Q ⟨G, ph, env, st, r, st', E, e, k⟩ => by
  simp only [Ex.den] at e
  split at e
  · rename_i rs st1 e1
    cases hb : bltR f rs st1 with
    | none => rw [hb] at e; cases e
    | some r0 =>
      rw [hb] at e
      cases e
      exact ⟨G, ph, env, st, rs, _, E, e1, fun vs H1 G1 ph1 w1 s1 r1 f1 => ⟨G, H, ph, G1, ph1, _, rs, _, w1, s1, r1, f1, hb, k⟩⟩
  · cases e
theorem ok_blt {f : Blt} {p pos : Pos} {a : Expr} {as : List Expr} {es : Exs} (hc : CallR X (bltVal f) (rB (kx X) f)) (gl : Gl X (Str.ofString (bltName f))) (hm : X.mg (Str.ofString (bltName f)) = none) (ha : PA X (a :: as) (tAs (kx X) (es.den cf)))
    (he : starEach (a :: as) X.env = (false, eval a X.env) :: starEach as X.env) (hpl : (backTo pos (starEach as X.env)).any (·.1) = false) : PE X (.Call (.Name (Str.ofString (bltName f)) p) (a :: as) [] pos) (tE (kx X) ((Ex.blt f es).den cf)) := by
  have hn : ∀ g : Blt, Str.ofString (bltName g) ≠ "__name__" := fun g => by cases g <;> decide +kernel
  have hd : ∀ g : Blt, (Str.ofString (bltName g) == ("__debug__" : Str)) = false := fun g => by cases g <;> decide +kernel
  have hv : ∀ g : Blt, bootBuiltins (Str.ofString (bltName g)) = some (bltVal g) := fun g => by cases g <;> decide +kernel
  by_cases ht : bltTy f = true
  · have e : bltVal f = .type (bltName f) := by unfold bltVal; rw [if_pos ht]
    rw [e] at hc
    exact peW (pe_callTy hc gl hm ((hv f).trans (congrArg some e)) ha (hn f) (hd f) he hpl) bltW
  · have e : bltVal f = .builtin (bltName f) := by unfold bltVal; rw [if_neg ht]
    rw [e] at hc
    exact peW (pe_callB hc gl hm ((hv f).trans (congrArg some e)) ha (hn f) (hd f) he hpl) bltW
end
end Sy

namespace Sy
open PySem PySem.Spec PyProof.Rows L2
section
variable {X : Cx} {cf : Cf}
/-! ### sorted -/
theorem each_of {pins : List (Addr × Obj)} {σ : L2.St} {H : Hp} {s : Shared} (I : Inv X pins σ H s) : ∀ {ds : List PyData} {xs : List V} {its : List Value}, DvAll X.K H xs ds → Vals xs its →
    PySem.W.EachIs (fun (u : Value) (b : V × PyData) => RelV b.1 u ∧ ∃ as, Reads s.heap u b.2 as) its (xs.zip ds)
  | _, _, _, .nil, .nil => .nil
  | _, _, _, .cons h t, .cons r q => .cons ⟨r, Dv.reads I _ _ _ h r⟩ (each_of I t q)
theorem vals_each : ∀ {bs : List (V × PyData)} {us : List Value}, PySem.W.EachIs (fun (u : Value) (b : V × PyData) => RelV b.1 u) us bs → Vals (bs.map Prod.fst) us
  | _, _, .nil => .nil
  | _, _, .cons h t => .cons h (vals_each t)
theorem dv_pairs {K : PySem.W.Frag} {G : Hp} : ∀ {l : List (V × PyData)}, (∀ b ∈ l, Dv K G b.1 b.2) → DvAll K G (l.map Prod.fst) (l.map Prod.snd)
  | [], _ => .nil
  | b :: l, h => .cons (h b List.mem_cons_self) (dv_pairs fun c hc => h c (List.mem_cons_of_mem _ hc))
theorem dv_zip {K : PySem.W.Frag} {G : Hp} : ∀ {ds : List PyData} {xs : List V}, DvAll K G xs ds → ∀ b ∈ xs.zip ds, Dv K G b.1 b.2
  | _, _, .nil, b, h => by simp at h
  | _, _, .cons h t, b, hb => by
    rw [List.zip_cons_cons] at hb
    rcases List.mem_cons.mp hb with rfl | hb
    · exact h
    · exact dv_zip t b hb
theorem sortOk_all {ds : List PyData} (h : sortOk ds = true) : PySem.W.AllAlike ds ∧ PySem.W.Sortable ds ∧ ds.length ≤ sizeLine ∧ ∀ d ∈ ds, d.depth ≤ 8 := by
  unfold sortOk at h
  simp only [Bool.and_eq_true] at h
  obtain ⟨⟨⟨h1, h2⟩, h3⟩, h4⟩ := h
  refine ⟨fun d hd e he => ?_, ?_, fits h3, fun d hd => of_decide_eq_true (List.all_eq_true.mp h4 d hd)⟩
  · exact List.all_eq_true.mp (List.all_eq_true.mp h1 d hd) e he
  · rcases Bool.or_eq_true_iff.mp h2 with q | q
    · refine .inl fun d hd => ?_
      have z := List.all_eq_true.mp q d hd
      cases d with
      | tuple xs => cases xs with
        | nil => cases z
        | cons x r => exact ⟨x, r, rfl⟩
      | _ => cases z
    · refine .inr fun d hd => ?_
      have z := List.all_eq_true.mp q d hd
      cases d with
      | tuple xs => cases z
      | none => cases z
      | _ => exact ⟨(fun e => nomatch e), (fun _ e => nomatch e)⟩
def rSortD (K : PySem.W.Frag) : List V → Hp → VK → Prop := fun vs H Q => ∃ (a : Addr) (xs : List V) (ds : List PyData), vs = [.ref a] ∧ H a = some (.lst xs) ∧ DvAll K H xs ds ∧ sortOk ds = true ∧
  ∀ (ys : List V) (p : Addr), (∀ G : Hp, DvAll K G xs ds → DvAll K G ys (sortD ds)) → H p = none → Q (.ref p) (upd H p (.lst ys))
theorem cr_sortD (hu : X.A.units + 65 < cLine) : CallR X (.builtin "sorted") (rSortD X.K) := by
  intro pins s σ H vs us Q I r ⟨a, xs, ds, e0, hH, hd, hok, q⟩
  subst e0
  obtain ⟨h1, h2, h3, h4⟩ := sortOk_all hok
  obtain ⟨its, rv, hl, hz⟩ := I.list (SqL.of hH)
  rw [Vals.ref1 r]
  have hlen : xs.length = ds.length := hd.len
  have ez : (xs.zip ds).map Prod.snd = ds := List.map_snd_zip (by omega)
  have E := each_of I hd rv
  have hbl : (xs.zip ds).length = ds.length := by rw [List.length_zip, hlen, Nat.min_self]
  refine PySem.W.sorted_data (R := fun (u : Value) (b : V × PyData) => RelV b.1 u) (enc := Prod.snd) hl.isList (E.mono fun _ _ z => z.1) (E.mono fun _ _ z => z.2) (by rw [ez]; exact h1) (by rw [ez]; exact h2) (by rw [hbl]; exact h3) (fun b hb => ?_) fun out ho hr => ?_
  · have hm : b.2 ∈ ds := by rw [← ez]; exact List.mem_map_of_mem hb
    have := h4 b.2 hm
    omega
  · have hv := vals_each hr
    obtain ⟨ep, he'⟩ := PyProof.Rows.sortedAll_at s.heap its (List.toArray out)
    have hyl : (((xs.zip ds).mergeSort (PySem.W.dataLe false Prod.snd)).map Prod.fst).length ≤ sizeLine := by
      rw [List.length_map, List.length_mergeSort, hbl]; exact h3
    refine ⟨.ref _, _, I.laid (t' := s.toks) (o := .lst (((xs.zip ds).mergeSort (PySem.W.dataLe false Prod.snd)).map Prod.fst)) (fun _ _ => PyProof.Rows.sortedAll_old) (Nat.le_succ _) ⟨hyl, out, ep, hv, ?_⟩, rfl, q _ _ (fun G hG => ?_) (I.hok.fresh (Nat.le_succ _))⟩
    · rw [he']
    · have hp : ∀ b ∈ (xs.zip ds).mergeSort (PySem.W.dataLe false Prod.snd), Dv X.K G b.1 b.2 := fun b hb => dv_zip hG b ((List.mergeSort_perm _ _).mem_iff.mp hb)
      have z := dv_pairs hp
      have em : ((xs.zip ds).mergeSort (PySem.W.dataLe false Prod.snd)).map Prod.snd = ((xs.zip ds).map Prod.snd).mergeSort (PySem.W.dataLe false id) := List.map_mergeSort (fun a _ b _ => rfl)
      rw [em, ez] at z
      exact z

/-! ### repr -/
mutual
/-- what repr makes of a part -/
theorem dv_K {pins : List (Addr × Obj)} {σ : L2.St} {H : Hp} {s : Shared} (I : Inv X pins σ H s) : ∀ (d : PyData) (v : V) (u : Value), Dv X.K H v d → RelV v u → d.showable = true → d.shown.length ≤ sizeLine → ∃ bs, ReadAtMost s.heap d.depth bs ∧ ReprK X.prog X.w bs s.heap d.depth u d.shown
  | .none, v, u, h, r, hs, hz => by
    obtain ⟨as, q⟩ := Dv.reads I _ v u h r
    exact ReprK.of_reads q hs (PySem.PyData.noDict_hsm rfl) hz
  | .bool b, v, u, h, r, hs, hz => by
    obtain ⟨as, q⟩ := Dv.reads I _ v u h r
    exact ReprK.of_reads q hs (PySem.PyData.noDict_hsm rfl) hz
  | .int i, v, u, h, r, hs, hz => by
    obtain ⟨as, q⟩ := Dv.reads I _ v u h r
    exact ReprK.of_reads q hs (PySem.PyData.noDict_hsm rfl) hz
  | .str x, v, u, h, r, hs, hz => by
    obtain ⟨as, q⟩ := Dv.reads I _ v u h r
    exact ReprK.of_reads q hs (PySem.PyData.noDict_hsm rfl) hz
  | .list ds, v, u, h, r, hs, hz => by
    obtain ⟨as, q⟩ := Dv.reads I _ v u h r
    cases h with
    | lst h1 h2 =>
      cases r
      obtain ⟨its, rv, ⟨o, n, ho, hc, _, hd⟩, _⟩ := I.list (SqL.of h1)
      simp only [PyData.shown] at hz
      obtain ⟨bs, hb, hk⟩ := dvs_K I ds _ its h2 rv (by simpa [PyData.showable] using hs) fun t ht => Nat.le_trans (listText_mem_le ht) hz
      have na := not_mem_of_deeper q (by simp only [PyData.depth]; omega) hb
      refine ⟨_, ReadAtMost.cons q (by simp only [PyData.depth]; omega) hb, ?_⟩
      simp only [PyData.depth, PyData.shown]
      cases its with
      | nil =>
        cases rv
        cases h2
        simp only [PyData.shownAll, listText_nil]
        exact ReprK.listEmpty ho hc hd
      | cons y l => exact ReprK.list ho hc hd na (by simpa using hk.length_eq) fun i z e => hk.item i z (by simpa using e)
  | .tuple ds, v, u, h, r, hs, hz => by
    obtain ⟨as, q⟩ := Dv.reads I _ v u h r
    cases h with
    | tup h1 h2 =>
      cases r
      obtain ⟨its, rv, ⟨o, ho, hc, n, hd⟩, _⟩ := I.tuple h1
      simp only [PyData.shown] at hz
      obtain ⟨bs, hb, hk⟩ := dvs_K I ds _ its h2 rv (by simpa [PyData.showable] using hs) fun t ht => Nat.le_trans (tupleText_mem_le ht) hz
      have na := not_mem_of_deeper q (by simp only [PyData.depth]; omega) hb
      refine ⟨_, ReadAtMost.cons q (by simp only [PyData.depth]; omega) hb, ?_⟩
      simp only [PyData.depth, PyData.shown]
      exact ReprK.tuple ho hc hd na hk
  | .dict kvs, v, u, h, r, hs, hz => by
    cases h with
    | dct l h1 =>
      cases r
      obtain ⟨ob, es, ep, e1, e2, e3, e4, e5, e6⟩ := dict_at I h1
      exact ReprK.of_reads (.dict e1 e2 e3 e4 e5) hs (fun _ z => by
        simp only [List.append_nil, List.mem_singleton] at z
        rw [← z] at e6
        simp at e6) hz
theorem dvs_K {pins : List (Addr × Obj)} {σ : L2.St} {H : Hp} {s : Shared} (I : Inv X pins σ H s) : ∀ (ds : List PyData) (vs : List V) (us : List Value), DvAll X.K H vs ds → Vals vs us → PyData.showableAll ds = true → (∀ t ∈ PyData.shownAll ds, t.length ≤ sizeLine) →
    ∃ bs, ReadAtMost s.heap (PyData.depthAll ds) bs ∧ ReprAllK X.prog X.w bs s.heap (PyData.depthAll ds) us (PyData.shownAll ds)
  | [], _, _, h, r, _, _ => by
    cases h
    cases r
    exact ⟨[], (fun _ z => nomatch z), by simp only [PyData.shownAll]; exact .nil⟩
  | d :: ds, _, _, h, r, hs, hz => by
    cases h with
    | cons h1 h2 =>
      cases r with
      | cons r1 r2 =>
        have hs2 : d.showable = true ∧ PyData.showableAll ds = true := by simpa [PyData.showableAll] using hs
        obtain ⟨b1, m1, k1⟩ := dv_K I d _ _ h1 r1 hs2.1 (hz _ (by simp only [PyData.shownAll]; exact .head _))
        obtain ⟨b2, m2, k2⟩ := dvs_K I ds _ _ h2 r2 hs2.2 fun t ht => hz t (by simp only [PyData.shownAll]; exact .tail _ ht)
        simp only [PyData.depthAll, PyData.shownAll]
        exact ⟨b1 ++ b2, (m1.mono (Nat.le_max_left _ _)).append (m2.mono (Nat.le_max_right _ _)), .cons ((k1.more fun b hb => List.mem_append_left _ hb).level_le (Nat.le_max_left _ _)) (k2.more_le (fun b hb => List.mem_append_right _ hb) (Nat.le_max_right _ _))⟩
end
/-- .. of a whole one -/
theorem dv_shows {pins : List (Addr × Obj)} {σ : L2.St} {H : Hp} {s : Shared} (I : Inv X pins σ H s) : ∀ (d : PyData) (a : Addr), Dv X.K H (.ref a) d → d.showable = true → d.shown.length ≤ sizeLine → ∃ T id, ShowsBy X.prog X.w s.heap a d T id
  | .list ds, a, h, hs, hz => by
    obtain ⟨as, q⟩ := Dv.reads I _ _ _ h rfl
    cases h with
    | lst h1 h2 =>
      obtain ⟨its, rv, ⟨o, n, ho, hc, _, hd⟩, _⟩ := I.list (SqL.of h1)
      simp only [PyData.shown] at hz
      obtain ⟨bs, hb, hk⟩ := dvs_K I ds _ its h2 rv (by simpa [PyData.showable] using hs) fun t ht => Nat.le_trans (listText_mem_le ht) hz
      have na := not_mem_of_deeper q (by simp only [PyData.depth]; omega) hb
      refine ⟨"list", "list.__repr__", PySem.F.slot_list_repr.toG, PySem.F.slot_list_str, PySem.F.slot_list_format, fun t k => ⟨o, k _ _ ho, hc⟩, fun A E t Q g un k0 kQ => ?_⟩
      simp only [PyData.depth] at un
      simp only [PyData.shown] at kQ
      cases its with
      | nil =>
        cases rv
        cases h2
        simp only [PyData.shownAll, listText_nil] at kQ
        exact call_list_repr_empty ⟨o, k0 _ _ ho, hc⟩ (k0 _ _ ho) hd (kQ t.heap _ _ fun _ _ z => z)
      | cons y l => exact call_list_reprK ho hc hd na (by simpa using hk.length_eq) (fun i z e => hk.item i z (by simpa using e)) g (fun b _ => Clear.nil b) un k0 kQ hz
  | .tuple ds, a, h, hs, hz => by
    obtain ⟨as, q⟩ := Dv.reads I _ _ _ h rfl
    cases h with
    | tup h1 h2 =>
      obtain ⟨its, rv, ⟨o, ho, hc, n, hd⟩, _⟩ := I.tuple h1
      simp only [PyData.shown] at hz
      obtain ⟨bs, hb, hk⟩ := dvs_K I ds _ its h2 rv (by simpa [PyData.showable] using hs) fun t ht => Nat.le_trans (tupleText_mem_le ht) hz
      have na := not_mem_of_deeper q (by simp only [PyData.depth]; omega) hb
      refine ⟨"tuple", "tuple.__repr__", PySem.F.slot_tuple_repr, PySem.F.slot_tuple_str, PySem.F.slot_tuple_format, fun t k => ⟨o, k _ _ ho, hc⟩, fun A E t Q g un k0 kQ => ?_⟩
      simp only [PyData.depth] at un
      simp only [PyData.shown] at kQ
      exact call_tuple_reprK ho hc hd na hk g (fun b _ => Clear.nil b) un k0 kQ hz
  | .dict kvs, a, h, hs, hz => by
    cases h with
    | dct l h1 =>
      obtain ⟨ob, es, ep, e1, e2, e3, e4, e5, e6⟩ := dict_at I h1
      exact showsBy_of_reads (.dict e1 e2 e3 e4 e5) hs (fun _ z => by
        simp only [List.append_nil, List.mem_singleton] at z
        rw [← z] at e6
        simp at e6) hz
def rRepr (K : PySem.W.Frag) : List V → Hp → VK → Prop := fun vs H Q => ∃ v d, vs = [v] ∧ Dv K H v d ∧ reprOk d = true ∧ Q (.str d.shown) H
theorem cr_repr (hg : X.A.guards = some []) (hu : X.A.units + 65 < cLine) : CallR X (.builtin "repr") (rRepr X.K) := by
  intro pins s σ H vs us Q I r ⟨v, d, e0, hd, hok, q⟩
  subst e0
  obtain ⟨u, rfl, ru⟩ := vals1 r
  unfold reprOk at hok
  simp only [Bool.and_eq_true, decide_eq_true_eq] at hok
  obtain ⟨⟨h1, h2⟩, h3⟩ := hok
  have big : ∀ {a : Addr}, Dv X.K H (.ref a) d → u = .ref a → wpAny (model X.prog X.w) X.A (call (.builtin "repr") [u]) (EP X pins σ Q) X.xe s := fun {a} hd e => by
    subst e
    obtain ⟨T, id, S⟩ := dv_shows I d a hd h1 h2
    exact call_repr_slot (by omega) (S.typeIs s fun _ _ z => z) S.slotRepr (S.call X.A.in1 X.xe s _ hg (by show X.A.units + 1 + d.depth < cLine; omega) (fun _ _ z => z) fun h' t tk hk => ⟨_, _, rfl, .str d.shown, H, I.kept (t' := tk) hk, ⟨_, rfl⟩, q⟩)
  cases hd with
  | non => cases ru; exact PySem.P.repr_of_none ⟨.str _, H, I.tok _, ⟨_, rfl⟩, q⟩
  | bl b => cases ru; exact PySem.P.repr_of_bool ⟨.str _, H, I.tok _, ⟨_, rfl⟩, q⟩
  | int i =>
    obtain ⟨t, rfl⟩ := ru
    exact PySem.P.repr_of_int (of_decide_eq_true h1) ⟨.str _, H, I.tok _, ⟨_, rfl⟩, q⟩
  | str x =>
    obtain ⟨t, rfl⟩ := ru
    exact PySem.P.repr_of_str ⟨.str _, H, I.tok _, ⟨_, rfl⟩, q⟩ h2
  | lst z1 z2 => cases ru; exact big (.lst z1 z2) rfl
  | tup z1 z2 => cases ru; exact big (.tup z1 z2) rfl
  | dct l z1 => cases ru; exact big (.dct l z1) rfl

/-! ### min, max of a tuple of whole numbers; the text of a tuple -/
theorem foldl_minL : ∀ (ns : List Int) (n : Int), ns.foldl min n = minL (n :: ns)
  | [], _ => rfl
  | [k], n => rfl
  | k :: a :: r, n => by
    rw [List.foldl_cons, foldl_minL (a :: r) (min n k)]
    show min (min n k) (minL (a :: r)) = min n (min k (minL (a :: r)))
    omega
theorem foldl_maxL : ∀ (ns : List Int) (n : Int), ns.foldl max n = maxL (n :: ns)
  | [], _ => rfl
  | [k], n => rfl
  | k :: a :: r, n => by
    rw [List.foldl_cons, foldl_maxL (a :: r) (max n k)]
    show max (max n k) (maxL (a :: r)) = max n (max k (maxL (a :: r)))
    omega
theorem intsOf_map : ∀ {es : List PyData} {l : List Int}, intsOf es = some l → es = l.map .int
  | [], l, h => by cases h; rfl
  | .int i :: es, l, h => by
    unfold intsOf at h
    obtain ⟨l', h1, rfl⟩ := Option.map_eq_some_iff.mp h
    rw [intsOf_map h1]
    rfl
theorem depth_ints (l : List Int) : PyData.depthAll (l.map .int) = 0 := by
  induction l with
  | nil => rfl
  | cons i l ih => rw [List.map_cons, PyData.depthAll, ih]; rfl
theorem alike_ints (l : List Int) : PySem.W.AlikeAll (l.map .int) := by
  constructor
  · intro x hx y hy
    obtain ⟨i, _, rfl⟩ := List.mem_map.mp hx
    obtain ⟨j, _, rfl⟩ := List.mem_map.mp hy
    rfl
  · intro x hx
    obtain ⟨i, _, rfl⟩ := List.mem_map.mp hx
    exact fun e => nomatch e
def rMinT (K : PySem.W.Frag) : List V → Hp → VK → Prop := fun vs H Q => ∃ v es l, vs = [v] ∧ Dv K H v (.tuple es) ∧ intsOf es = some l ∧ l ≠ [] ∧ Q (.int (minL l)) H
def rMaxT (K : PySem.W.Frag) : List V → Hp → VK → Prop := fun vs H Q => ∃ v es l, vs = [v] ∧ Dv K H v (.tuple es) ∧ intsOf es = some l ∧ l ≠ [] ∧ Q (.int (maxL l)) H
theorem cr_minT (hc : X.calm = true) (hu : X.A.units + 65 < cLine) : CallR X (.builtin "min") (rMinT X.K) := by
  intro pins s σ H vs us Q I r ⟨v, es, l, e0, hd, hi, hne, q⟩
  subst e0
  obtain ⟨u, rfl, ru⟩ := vals1 r
  obtain rfl := intsOf_map hi
  obtain ⟨as, q1⟩ := Dv.reads I _ _ _ hd ru
  cases l with
  | nil => exact absurd rfl hne
  | cons n ns =>
    cases q1 with
    | tuple h1 h2 h3 h4 =>
      refine PySem.W.min_tuple_data (I.ok.hd hc) ⟨_, h1, h2, _, h3⟩ h4 (alike_ints (n :: ns)) (by have := depth_ints (n :: ns); rw [List.map_cons] at this; rw [this]; omega) fun i w h' tk bs _ hr hk => ?_
      rw [PySem.W.minD_ints, foldl_minL] at hr
      cases hr
      exact ⟨.int _, H, I.kept hk, ⟨_, rfl⟩, q⟩
theorem cr_maxT (hc : X.calm = true) (hu : X.A.units + 65 < cLine) : CallR X (.builtin "max") (rMaxT X.K) := by
  intro pins s σ H vs us Q I r ⟨v, es, l, e0, hd, hi, hne, q⟩
  subst e0
  obtain ⟨u, rfl, ru⟩ := vals1 r
  obtain rfl := intsOf_map hi
  obtain ⟨as, q1⟩ := Dv.reads I _ _ _ hd ru
  cases l with
  | nil => exact absurd rfl hne
  | cons n ns =>
    cases q1 with
    | tuple h1 h2 h3 h4 =>
      refine PySem.W.max_tuple_data (I.ok.hd hc) ⟨_, h1, h2, _, h3⟩ h4 (alike_ints (n :: ns)) (by have := depth_ints (n :: ns); rw [List.map_cons] at this; rw [this]; omega) fun i w h' tk bs _ hr hk => ?_
      rw [PySem.W.maxD_ints, foldl_maxL] at hr
      cases hr
      exact ⟨.int _, H, I.kept hk, ⟨_, rfl⟩, q⟩
def rStrT (K : PySem.W.Frag) : List V → Hp → VK → Prop := fun vs H Q => ∃ v ds, vs = [v] ∧ Dv K H v (.tuple ds) ∧ (reprOk (.tuple ds) && !(PyData.tuple ds).hasDict) = true ∧ Q (.str (PyData.tuple ds).shown) H
theorem cr_strT (hg : X.A.guards = some []) (hu : X.A.units + 65 < cLine) : CallR X (.type "str") (rStrT X.K) := by
  intro pins s σ H vs us Q I r ⟨v, ds, e0, hd, hok, q⟩
  subst e0
  obtain ⟨u, rfl, ru⟩ := vals1 r
  rw [Bool.and_eq_true] at hok
  obtain ⟨hok, hnd⟩ := hok
  unfold reprOk at hok
  simp only [Bool.and_eq_true, decide_eq_true_eq] at hok
  obtain ⟨⟨h1, h2⟩, h3⟩ := hok
  obtain ⟨as, q1⟩ := Dv.reads I _ _ _ hd ru
  cases hd with
  | tup z1 z2 =>
    cases ru
    refine PySem.str_of_reads q1 h1 (fun e => ?_) hg (by omega) (fun _ _ z => z) (fun h' t tk hk => ⟨.str _, H, I.kept (t' := tk) hk, ⟨_, rfl⟩, q⟩) h2
    rw [e] at hnd
    cases hnd

/-! ### all of them -/
theorem rsOne {K : Kx} {G H : Hp} {ph : List Addr} {r : R} {vs : List V} (h : RsAll K G H ph [r] vs) : ∃ v, vs = [v] ∧ Rs K G H ph r v := by
  cases vs with
  | nil => exact h.elim
  | cons v vs =>
    cases vs with
    | nil => exact ⟨v, rfl, h.1⟩
    | cons _ _ => exact h.2.elim
theorem views_one {rs : List R} {d : PyData} (h : views rs = some [d]) : ∃ r, rs = [r] ∧ r.view = some d := by
  cases rs with
  | nil => cases h
  | cons r rs =>
    unfold views at h
    split at h
    · rename_i d' ds' e1 e2
      cases h
      cases rs with
      | nil => exact ⟨r, rfl, e1⟩
      | cons r2 rs =>
        unfold views at e2
        split at e2 <;> cases e2
    · cases h
theorem minL_spec : ∀ {l : List Int}, l ≠ [] → ∀ m, m ∈ l → (∀ y, y ∈ l → m ≤ y) → m = minL l
  | [x], _, m, h1, _ => by simpa [minL] using h1
  | x :: y :: r, _, m, h1, h2 => by
    have lb : ∀ (l : List Int), l ≠ [] → minL l ∈ l ∧ ∀ z, z ∈ l → minL l ≤ z := by
      intro l
      induction l with
      | nil => intro h; exact absurd rfl h
      | cons a t ih =>
        intro _
        cases t with
        | nil => simp [minL]
        | cons b t =>
          obtain ⟨i1, i2⟩ := ih (by simp)
          have e : minL (a :: b :: t) = min a (minL (b :: t)) := rfl
          rw [e]
          refine ⟨?_, fun z hz => ?_⟩
          · rcases Int.le_total a (minL (b :: t)) with q | q
            · rw [Int.min_eq_left q]; exact List.mem_cons_self
            · rw [Int.min_eq_right q]; exact List.mem_cons_of_mem _ i1
          · rcases List.mem_cons.mp hz with rfl | hz
            · omega
            · have := i2 z hz; omega
    obtain ⟨q1, q2⟩ := lb (x :: y :: r) (by simp)
    have a1 := h2 _ q1
    have a2 := q2 _ h1
    omega
theorem maxL_spec : ∀ {l : List Int}, l ≠ [] → ∀ m, m ∈ l → (∀ y, y ∈ l → y ≤ m) → m = maxL l
  | [x], _, m, h1, _ => by simpa [maxL] using h1
  | x :: y :: r, _, m, h1, h2 => by
    have lb : ∀ (l : List Int), l ≠ [] → maxL l ∈ l ∧ ∀ z, z ∈ l → z ≤ maxL l := by
      intro l
      induction l with
      | nil => intro h; exact absurd rfl h
      | cons a t ih =>
        intro _
        cases t with
        | nil => simp [maxL]
        | cons b t =>
          obtain ⟨i1, i2⟩ := ih (by simp)
          have e : maxL (a :: b :: t) = max a (maxL (b :: t)) := rfl
          rw [e]
          refine ⟨?_, fun z hz => ?_⟩
          · rcases Int.le_total a (maxL (b :: t)) with q | q
            · rw [Int.max_eq_right q]; exact List.mem_cons_of_mem _ i1
            · rw [Int.max_eq_left q]; exact List.mem_cons_self
          · rcases List.mem_cons.mp hz with rfl | hz
            · omega
            · have := i2 z hz; omega
    obtain ⟨q1, q2⟩ := lb (x :: y :: r) (by simp)
    have a1 := h2 _ q1
    have a2 := q2 _ h1
    omega
/-- those that need that no exception is being handled -/
def coldB : Blt → Bool
  | .sum => true | .all => true | .any => true | .min => true | .max => true | .sorted => true
  | _ => false
theorem blt_ok (f : Blt) (hc0 : coldB f = true → X.calm = true) (hg : X.A.guards = some []) (hu : X.A.units + 65 < cLine) : CallR X (bltVal f) (rB (kx X) f) := by
  intro pins s σ H vs us Q I rr ⟨Gb, Hb, phb, G, ph, st, rs, r, w, S, hrs, hfr, hb, k⟩
  -- one looked-at argument
  have gen : f ≠ .len → ∃ ds, views rs = some ds ∧ bltD f ds = some r := fun hne => by
    unfold bltR at hb
    split at hb
    · exact absurd rfl hne
    · cases hv : views rs with
      | none => rw [hv] at hb; cases hb
      | some ds => rw [hv] at hb; exact ⟨ds, rfl, hb⟩
  by_cases hl : f = .len
  · subst hl
    have one : ∃ r0, rs = [r0] ∧ lenR r0 st = some r := by
      unfold bltR at hb
      split at hb
      · rename_i r0 _; exact ⟨r0, rfl, hb⟩
      · rename_i rs0 _ _ hne
        exfalso
        cases hv : views rs0 with
        | none => rw [hv] at hb; cases hb
        | some ds =>
          rw [hv] at hb
          have hb2 : bltD .len ds = some r := hb
          unfold bltD at hb2
          split at hb2 <;> first | contradiction | skip
          · obtain ⟨r0, e, _⟩ := views_one hv; exact hne r0 rfl e
          · obtain ⟨r0, e, _⟩ := views_one hv; exact hne r0 rfl e
    obtain ⟨r0, rfl, hb⟩ := one
    obtain ⟨v, rfl, hr⟩ := rsOne hrs
    have viaView : ∀ {d : PyData}, r0.view = some d → bltD .len [d] = some r → wpAny (model X.prog X.w) X.A (call (.builtin "len") us) (EP X pins σ Q) X.xe s := fun {d} hv hb => by
      cases d with
      | list ds =>
        cases hb
        obtain ⟨a, xs, rfl, h1, h2⟩ := Rs.viewL w hr hv
        refine call_len_seq pins s σ H _ us Q I rr ⟨a, xs, rfl, .inl (SqL.of h1), ?_⟩
        rw [h2.len]
        exact k _ H G ph w S (.int _) trivial
      | tuple ds =>
        cases hb
        obtain ⟨a, xs, rfl, h1, h2⟩ := Rs.viewT w hr hv
        refine call_len_seq pins s σ H _ us Q I rr ⟨a, xs, rfl, .inr h1, ?_⟩
        rw [h2.len]
        exact k _ H G ph w S (.int _) trivial
      | _ => cases hb
    show wpAny _ _ (call (.builtin "len") us) _ _ _
    cases r0 with
    | dat d => exact viaView rfl hb
    | own d => exact viaView (d := .list d) rfl hb
    | brw d => exact viaView (d := .list d) rfl hb
    | ref n =>
      obtain ⟨a, rfl, ha⟩ := hr
      cases es : st[n]? with
      | none =>
        have hb' : ((st[n]?).map fun ds => R.dat (.int ds.length)) = some r := hb
        rw [es] at hb'; cases hb'
      | some ds =>
        have hb' : ((st[n]?).map fun ds => R.dat (.int ds.length)) = some r := hb
        rw [es] at hb'
        cases hb'
        obtain ⟨_, xs, h1, h2⟩ := w.box n a ds ha es
        refine call_len_seq pins s σ H _ us Q I rr ⟨a, xs, rfl, .inl (SqL.of h1), ?_⟩
        rw [h2.len]
        exact k _ H G ph w S (.int _) trivial
    | exc c => exact hr.elim
    | pr _ _ => exact hr.elim
    | exo c => cases hb
    | scr ns =>
      obtain ⟨a, rfl, ha⟩ := hr
      cases hb
      refine call_len_seq pins s σ H _ us Q I rr ⟨a, _, rfl, .inl (SqL.up w.sub ha), ?_⟩
      rw [List.length_map]
      exact k _ H G ph w S (.int _) trivial
  · obtain ⟨ds, hv, hb⟩ := gen hl
    have hdv := views_ok w hrs hv
    have fin : ∀ {d : PyData} {v : V}, r = .dat d → (∀ G : Hp, Dv X.K G v d) → Q v H := fun {d v} e hd => by
      subst e
      exact k v H G ph w S (hd G) trivial
    cases f with
    | len => exact absurd rfl hl
    | abs =>
      unfold bltD at hb
      split at hb <;> first | contradiction | skip
      rename_i i _
      cases hb
      cases hdv with
      | cons h t =>
        cases t; cases h
        refine call_abs pins s σ H _ us Q I rr ⟨i, rfl, ?_⟩
        have e : (if i < 0 then -i else i) = (i.natAbs : Int) := by split <;> omega
        rw [e]
        exact fin rfl fun _ => .int _
    | tup =>
      unfold bltD at hb
      split at hb <;> first | contradiction | skip
      · rename_i es _
        cases hb
        obtain ⟨r0, rfl, ev⟩ := views_one hv
        obtain ⟨v, rfl, hr⟩ := rsOne hrs
        obtain ⟨a, xs, rfl, h1, h2⟩ := Rs.viewL w hr ev
        refine call_tuple_of pins s σ H _ us Q I rr ⟨a, xs, rfl, .inl ⟨SqL.of h1, fun p hp => ?_⟩⟩
        obtain ⟨a1, a2, a3⟩ := new_tup w S h2 hp
        exact k _ _ _ _ a1 a2 a3 trivial
      · rename_i es _
        cases hb
        obtain ⟨r0, rfl, ev⟩ := views_one hv
        obtain ⟨v, rfl, hr⟩ := rsOne hrs
        obtain ⟨a, xs, rfl, h1, h2⟩ := Rs.viewT w hr ev
        refine call_tuple_of pins s σ H _ us Q I rr ⟨a, xs, rfl, .inr ⟨h1, ?_⟩⟩
        cases r0 with
        | dat d => cases ev; exact k _ H G ph w S hr trivial
        | _ => cases ev
    | lst =>
      unfold bltD at hb
      split at hb <;> first | contradiction | skip
      · rename_i es _
        cases hb
        obtain ⟨r0, rfl, ev⟩ := views_one hv
        obtain ⟨v, rfl, hr⟩ := rsOne hrs
        obtain ⟨a, xs, rfl, h1, h2⟩ := Rs.viewL w hr ev
        refine call_list_of pins s σ H _ us Q I rr ⟨a, xs, rfl, .inl (SqL.of h1), fun p hp => ?_⟩
        obtain ⟨a1, a2, a3, a4⟩ := new_own w S h2 hp
        exact k _ _ _ _ a1 a2 a3 a4
      · rename_i es _
        cases hb
        obtain ⟨r0, rfl, ev⟩ := views_one hv
        obtain ⟨v, rfl, hr⟩ := rsOne hrs
        obtain ⟨a, xs, rfl, h1, h2⟩ := Rs.viewT w hr ev
        refine call_list_of pins s σ H _ us Q I rr ⟨a, xs, rfl, .inr h1, fun p hp => ?_⟩
        obtain ⟨a1, a2, a3, a4⟩ := new_own w S h2 hp
        exact k _ _ _ _ a1 a2 a3 a4
    | sum =>
      have hc := hc0 rfl
      unfold bltD at hb
      split at hb <;> first | contradiction | skip
      rename_i es _
      cases hi : intsOf es with
      | none => rw [hi] at hb; cases hb
      | some l =>
        rw [hi] at hb
        cases hb
        cases hdv with
        | cons h t =>
          cases t
          cases h with
          | lst h1 h2 =>
            refine cr_sum hc pins s σ H _ us Q I rr ⟨_, l, rfl, ?_, fin rfl fun _ => .int _⟩
            rw [← h2.ints hi]; exact SqL.of h1
    | all =>
      have hc := hc0 rfl
      unfold bltD at hb
      split at hb <;> first | contradiction | skip
      rename_i es _
      cases hi : boolsOf es with
      | none => rw [hi] at hb; cases hb
      | some l =>
        rw [hi] at hb
        cases hb
        cases hdv with
        | cons h t =>
          cases t
          cases h with
          | lst h1 h2 =>
            refine cr_all hc pins s σ H _ us Q I rr ⟨_, l, rfl, ?_, fin rfl fun _ => .bl _⟩
            rw [← h2.bools hi]; exact SqL.of h1
    | any =>
      have hc := hc0 rfl
      unfold bltD at hb
      split at hb <;> first | contradiction | skip
      rename_i es _
      cases hi : boolsOf es with
      | none => rw [hi] at hb; cases hb
      | some l =>
        rw [hi] at hb
        cases hb
        cases hdv with
        | cons h t =>
          cases t
          cases h with
          | lst h1 h2 =>
            refine cr_any hc pins s σ H _ us Q I rr ⟨_, l, rfl, ?_, fin rfl fun _ => .bl _⟩
            rw [← h2.bools hi]; exact SqL.of h1
    | min =>
      have hc := hc0 rfl
      unfold bltD at hb
      split at hb <;> first | contradiction | skip
      · rename_i es _
        cases hi : intsOf es with
        | none => rw [hi] at hb; cases hb
        | some l =>
          rw [hi] at hb
          simp only [Option.bind_some] at hb
          split at hb
          · cases hb
          · rename_i hne
            cases hb
            cases hdv with
            | cons h t =>
              cases t
              cases h with
              | lst h1 h2 =>
                refine cr_min hc pins s σ H _ us Q I rr ⟨_, l, rfl, by rw [← h2.ints hi]; exact SqL.of h1, List.length_pos_iff.mpr hne, fun m q1 q2 => ?_⟩
                rw [minL_spec hne m q1 q2]
                exact fin rfl fun _ => .int _
      · rename_i i j _
        cases hb
        cases hdv with
        | cons h t =>
          cases t with
          | cons h' t' =>
            cases t'; cases h; cases h'
            refine call_min2 hc pins s σ H _ us Q I rr ⟨i, j, rfl, ?_⟩
            have e : (if j < i then j else i) = min i j := by split <;> omega
            rw [e]
            exact fin rfl fun _ => .int _
      · rename_i es _
        cases hi : intsOf es with
        | none => rw [hi] at hb; cases hb
        | some l =>
          rw [hi] at hb
          simp only [Option.bind_some] at hb
          split at hb
          · cases hb
          · rename_i hne
            cases hb
            cases hdv with
            | cons h t =>
              cases t
              exact cr_minT hc hu pins s σ H _ us Q I rr ⟨_, es, l, rfl, h, hi, hne, fin rfl fun _ => .int _⟩
    | max =>
      have hc := hc0 rfl
      unfold bltD at hb
      split at hb <;> first | contradiction | skip
      · rename_i es _
        cases hi : intsOf es with
        | none => rw [hi] at hb; cases hb
        | some l =>
          rw [hi] at hb
          simp only [Option.bind_some] at hb
          split at hb
          · cases hb
          · rename_i hne
            cases hb
            cases hdv with
            | cons h t =>
              cases t
              cases h with
              | lst h1 h2 =>
                refine cr_max hc pins s σ H _ us Q I rr ⟨_, l, rfl, by rw [← h2.ints hi]; exact SqL.of h1, List.length_pos_iff.mpr hne, fun m q1 q2 => ?_⟩
                rw [maxL_spec hne m q1 q2]
                exact fin rfl fun _ => .int _
      · rename_i i j _
        cases hb
        cases hdv with
        | cons h t =>
          cases t with
          | cons h' t' =>
            cases t'; cases h; cases h'
            refine call_max2 hc pins s σ H _ us Q I rr ⟨i, j, rfl, ?_⟩
            have e : (if j > i then j else i) = max i j := by split <;> omega
            rw [e]
            exact fin rfl fun _ => .int _
      · rename_i es _
        cases hi : intsOf es with
        | none => rw [hi] at hb; cases hb
        | some l =>
          rw [hi] at hb
          simp only [Option.bind_some] at hb
          split at hb
          · cases hb
          · rename_i hne
            cases hb
            cases hdv with
            | cons h t =>
              cases t
              exact cr_maxT hc hu pins s σ H _ us Q I rr ⟨_, es, l, rfl, h, hi, hne, fin rfl fun _ => .int _⟩
    | sorted =>
      unfold bltD at hb
      split at hb <;> first | contradiction | skip
      rename_i es _
      split at hb
      · rename_i hok
        cases hb
        obtain ⟨r0, rfl, ev⟩ := views_one hv
        obtain ⟨v, rfl, hr⟩ := rsOne hrs
        obtain ⟨a, xs, rfl, h1, h2⟩ := Rs.viewL w hr ev
        refine cr_sortD hu pins s σ H _ us Q I rr ⟨a, xs, es, rfl, h1, DvAll.up w.sub es xs h2, hok, fun ys p hy hp => ?_⟩
        obtain ⟨a1, a2, a3, a4⟩ := new_own w S (hy G h2) hp
        exact k _ _ _ _ a1 a2 a3 a4
      · cases hb
    | repr =>
      unfold bltD at hb
      split at hb <;> first | contradiction | skip
      rename_i d _
      split at hb
      · rename_i hok
        cases hb
        cases hdv with
        | cons h t =>
          cases t
          exact cr_repr hg hu pins s σ H _ us Q I rr ⟨_, d, rfl, h, hok, fin rfl fun _ => .str _⟩
      · cases hb
    | str =>
      unfold bltD at hb
      split at hb <;> first | contradiction | skip
      · rename_i i _
        split at hb
        · rename_i hok
          cases hb
          cases hdv with
          | cons h t =>
            cases t; cases h
            exact call_str_int pins s σ H _ us Q I rr ⟨i, rfl, hok, fin rfl fun _ => .str _⟩
        · cases hb
      · split at hb
        · rename_i hok
          cases hb
          cases hdv with
          | cons h t =>
            cases t
            exact cr_strT hg hu pins s σ H _ us Q I rr ⟨_, _, rfl, h, hok, fin rfl fun _ => .str _⟩
        · cases hb
    | int =>
      unfold bltD at hb
      split at hb <;> first | contradiction | skip
      · rename_i b _
        cases hb
        cases hdv with
        | cons h t =>
          cases t; cases h
          exact call_int1 pins s σ H _ us Q I rr (.inr ⟨b, rfl, fin rfl fun _ => .int _⟩)
      · rename_i x _
        split at hb
        · rename_i hl
          cases hn : intText? x with
          | none => rw [hn] at hb; cases hb
          | some n =>
            rw [hn] at hb
            cases hb
            cases hdv with
            | cons h t =>
              cases t; cases h
              exact call_int_str pins s σ H _ us Q I rr ⟨x, n, rfl, hn, hl, fin rfl fun _ => .int _⟩
        · cases hb
    | divmod =>
      unfold bltD at hb
      split at hb <;> first | contradiction | skip
      rename_i i j _
      split at hb
      · rename_i hok
        cases hb
        cases hdv with
        | cons h t =>
          cases t with
          | cons h' t' =>
            cases t'; cases h; cases h'
            refine call_divmodW pins s σ H _ us Q I rr ⟨i, j, rfl, ⟨hok.1, PyProof.noPylong_of_log2 (divOk_ok hok.2).2⟩, fun p hp => ?_⟩
            obtain ⟨a1, a2, a3⟩ := new_tup w S (.cons (.int (i / j)) (.cons (.int (i % j)) .nil)) hp
            exact k _ _ _ _ a1 a2 a3 trivial
      · cases hb
end
end Sy

namespace Sy
open PySem PySem.Spec PyProof.Rows L2

/-! ### lists and tuples alike: true for a list -/
def Sq (K : PySem.W.Frag) : Bool → Hp → Addr → List V → Prop
  | true, H, a, xs => SqL K H a xs
  | false, H, a, xs => SqT K H a xs
def IterIs : Bool → Heap → Addr → Addr → Nat → Prop
  | true, h, it, a, i => h.IsListIter it a i
  | false, h, it, a, i => h.IsTupleIter it a i
def SeqIs : Bool → Heap → Addr → Array Value → Prop
  | true, h, a, its => h.IsList a its
  | false, h, a, its => h.IsTuple a its
def iterObj (k : Bool) (a : Addr) : Obj := { cls := .type (if k then "list_iterator" else "tuple_iterator"), data := .fields #[.ref a, .int 0 0] }
section
variable {X : Cx} {pins : List (Addr × Obj)} {σ : L2.St} {H : Hp} {s : Shared} {k k2 : Bool} {a : Addr} {xs ys : List V}
theorem sq_vals (I : Inv X pins σ H s) (h : Sq X.K k H a xs) : ∃ its : List Value, Vals xs its ∧ SeqIs k s.heap a its.toArray := by
  cases k with
  | true => obtain ⟨its, r, p, _⟩ := I.list h; exact ⟨its, r, p.isList⟩
  | false => obtain ⟨its, r, p, _⟩ := I.tuple h; exact ⟨its, r, p⟩
theorem sq_inj (I : Inv X pins σ H s) (h : Sq X.K k H a xs) (h' : Sq X.K k H a ys) : xs = ys := by
  cases k with
  | true => exact I.list_inj h h'
  | false => exact I.tuple_inj h h'
theorem seq_lt {h : Heap} {its : Array Value} (q : SeqIs k h a its) : a < h.objs.size := by
  cases k with
  | true => obtain ⟨o, e, _⟩ := q; exact Heap.lt_size e
  | false => obtain ⟨o, e, _⟩ := q; exact Heap.lt_size e
theorem seq_keep {h h' : Heap} {its : Array Value} (q : SeqIs k h a its) (kp : ∀ o, h.get? a = some o → h'.get? a = some o) : SeqIs k h' a its := by
  cases k with
  | true => obtain ⟨o, e, r⟩ := q; exact ⟨o, kp o e, r⟩
  | false => obtain ⟨o, e, r⟩ := q; exact ⟨o, kp o e, r⟩
theorem iter_keep {h h' : Heap} {it : Addr} {i : Nat} (q : IterIs k h it a i) (kp : ∀ o, h.get? it = some o → h'.get? it = some o) : IterIs k h' it a i := by
  cases k with
  | true => obtain ⟨o, e, r⟩ := q; exact ⟨o, kp o e, r⟩
  | false => obtain ⟨o, e, r⟩ := q; exact ⟨o, kp o e, r⟩
theorem iter_obj {h : Heap} {it : Addr} {i : Nat} (q : IterIs k h it a i) : ∃ o, h.get? it = some o ∧ ∀ v, o.data ≠ .cell v := by
  cases k with
  | true => obtain ⟨o, e, c, d⟩ := q; exact ⟨o, e, fun v z => by rw [d] at z; cases z⟩
  | false => obtain ⟨o, e, c, d⟩ := q; exact ⟨o, e, fun v z => by rw [d] at z; cases z⟩
theorem iter_new {h : Heap} {it : Addr} (e : h.get? it = some (iterObj k a)) : IterIs k h it a 0 := by
  cases k with
  | true => exact ⟨_, e, rfl, rfl⟩
  | false => exact ⟨_, e, rfl, rfl⟩
theorem draws_sq {prog : Program} {w : World} {A : Around} (hh : A.handled = none) (it t : Addr) (hne : t ≠ it) (items : Array Value) :
    Draws prog w A it [it, t] items.size (fun i v => items[i]? = some v) (fun i h => IterIs k h it t i ∧ SeqIs k h t items) := by
  cases k with
  | true => exact Draws.list hh it t hne items
  | false => exact Draws.tuple hh it t hne items
theorem begins_sq (t : Addr) (items : Array Value) : Begins (.ref t) (iterObj k t) fun h => SeqIs k h t items := by
  cases k with
  | true => exact begins_list t items
  | false => exact begins_tuple t items
end

/-! ### zip of any two of them -/
def Itm (K : PySem.W.Frag) (k1 k2 : Bool) (a b : Addr) : It :=
  ⟨fun i H => ∃ (xs ys : List V) (x y : V), Sq K k1 H a xs ∧ Sq K k2 H b ys ∧ xs[i]? = some x ∧ ys[i]? = some y,
   fun i H v H' => ∃ T x y, v = .ref T ∧ H T = none ∧ H' = upd H T (.tup [x, y]) ∧ (∀ xs, Sq K k1 H a xs → xs[i]? = some x) ∧ ∀ ys, Sq K k2 H b ys → ys[i]? = some y,
   fun i H => ∃ xs ys : List V, Sq K k1 H a xs ∧ Sq K k2 H b ys ∧ i ≤ xs.length ∧ i ≤ ys.length ∧ (xs.length = i ∨ ys.length = i)⟩
/-- the five cells of a zip and the two that are walked lie apart -/
structure Apart5 (z TI TO i1 i2 a b : Addr) : Prop where
  S : ZipSep2 z TI TO i1 i2 [i1, a] [i2, b]
  a1 : a ≠ i1
  b1 : b ≠ i2
  zt : z ≠ i1
  zi : z ≠ i2
  ti : TO ≠ i1
  tj : TO ≠ i2
  ii : i1 ≠ i2
theorem turn_zipM {P : Program} {w : World} {K : PySem.W.Frag} {elts : List Expr} {kk : Nat} {tpos : Pos} {k1 k2 : Bool} {a b z TI TO i1 i2 : Addr} (D : Apart5 z TI TO i1 i2 a b) :
    Turn P w K (.Tuple elts kk tpos) (Itm K k1 k2 a b) [z, TI, TO, i1, i2] z (fun i h => IsZip h z TI TO .none ∧ IsTupOf2 h TI (.ref i1) (.ref i2) ∧ (∃ x y, IsTupOf2 h TO x y) ∧ IterIs k1 h i1 a i ∧ IterIs k2 h i2 b i) where
  mem := List.mem_cons_self
  obj := fun i h st c hc => by
    obtain ⟨hz, hTI, ⟨x, y, hTO⟩, q1, q2⟩ := st
    have hc' : c = z ∨ c = TI ∨ c = TO ∨ c = i1 ∨ c = i2 := by simpa using hc
    rcases hc' with rfl | rfl | rfl | rfl | rfl
    · exact ⟨_, hz, fun v q => nomatch q⟩
    · exact ⟨_, hTI, fun v q => nomatch q⟩
    · exact ⟨_, hTO, fun v q => nomatch q⟩
    · exact iter_obj q1
    · exact iter_obj q2
  keep := fun i h h' st kp => by
    obtain ⟨hz, hTI, ⟨x, y, hTO⟩, q1, q2⟩ := st
    exact ⟨kp z (by simp) _ hz, kp TI (by simp) _ hTI, ⟨x, y, kp TO (by simp) _ hTO⟩, iter_keep q1 (kp i1 (by simp)), iter_keep q2 (kp i2 (by simp))⟩
  item := by
    intro X hP hw hK hc i pins s σ H E I hf st hg
    subst hP hw hK
    obtain ⟨hz, hTI, ⟨x0, y0, hTO⟩, q1, q2⟩ := st
    obtain ⟨xs, ys, x, y, hqx, hqy, hx, hy⟩ := hg
    obtain ⟨its, rv, p1⟩ := sq_vals I hqx
    obtain ⟨jts, rw', p2⟩ := sq_vals I hqy
    obtain ⟨u, hu, ru⟩ := rv.get hx
    obtain ⟨v, hv, rv2⟩ := rw'.get hy
    have hi1 : i < its.toArray.size := by simpa using (List.getElem?_eq_some_iff.mp hu).1
    have hi2 : i < jts.toArray.size := by simpa using (List.getElem?_eq_some_iff.mp hv).1
    have hzl : z < s.heap.objs.size := Heap.lt_size hz
    have D1 := draws_sq (prog := X.prog) (w := X.w) (A := X.A.in1) (k := k1) (show X.A.in1.handled = none from I.ok.hd hc) i1 a D.a1 its.toArray
    have D2 := draws_sq (prog := X.prog) (w := X.w) (A := X.A.in1) (k := k2) (show X.A.in1.handled = none from I.ok.hd hc) i2 b D.b1 jts.toArray
    refine wpAny_pyNext_zipD2_item D.S D1 D2 hz hTI hTO ⟨q1, p1⟩ ⟨q2, p2⟩ hi1 hi2
      fun x1 x2 h' tk e1 e2 hz' hTO' r1 r2 hT hsz hk => ?_
    have eu : x1 = u := by
      have h0 : its.toArray[i]? = some u := by simpa using hu
      rw [h0] at e1; exact (Option.some.inj e1).symm
    have ev : x2 = v := by
      have h0 : jts.toArray[i]? = some v := by simpa using hv
      rw [h0] at e2; exact (Option.some.inj e2).symm
    subst eu ev
    refine ⟨_, rfl, wpAny_letOwnedTupleGo_zip (s := { s with heap := h', toks := tk }) hz' fun h2 z2 sb => ?_⟩
    have hT2 : h2.get? s.heap.objs.size = some { cls := .type "tuple", data := .seq #[x1, x2] } := (sb.2 _ (Nat.ne_of_gt hzl)).trans hT
    have new : ObjOk X.prog X.w (upd H s.heap.objs.size (.tup [x, y])) h2 s.heap.objs.size (.tup [x, y]) :=
      ⟨by show 2 ≤ sizeLine; decide, [x1, x2], .cons ru (.cons rv2 .nil), ⟨_, hT2, rfl, _, rfl⟩⟩
    have I1 : Inv X pins σ (upd H s.heap.objs.size (.tup [x, y])) { s with heap := h2, toks := tk } :=
      I.turnedNew (ch := [z, TI, TO, i1, i2]) (fun c o hb q => (sb.2 c fun e => hb (by simp [e])).trans (hk c o (fun e => hb (by simp [e])) (fun e => hb (by simp [e])) (fun e => hb (by simp [e])) (fun e => hb (by simp [e])) q)) hf (Nat.le_refl _) new
    refine ⟨.ref s.heap.objs.size, _, I1, rfl, ⟨_, x, y, rfl, I.hok.fresh (Nat.le_refl _), rfl, fun l hl => by rw [sq_inj I hl hqx]; exact hx, fun l hl => by rw [sq_inj I hl hqy]; exact hy⟩, ⟨z2, ?_, ⟨x1, x2, ?_⟩, ?_, ?_⟩, fun c hcm => ?_⟩
    · exact (sb.2 _ D.S.TIz).trans (hk _ _ D.S.TIz D.S.TITO D.S.TIi1 D.S.TIi2 hTI)
    · exact (sb.2 _ D.S.TOz).trans hTO'
    · exact iter_keep r1.1 fun o q => (sb.2 _ D.zt.symm).trans q
    · exact iter_keep r2.1 fun o q => (sb.2 _ D.zi.symm).trans q
    · have hlt : c < s.heap.objs.size := by
        have hc' : c = z ∨ c = TI ∨ c = TO ∨ c = i1 ∨ c = i2 := by simpa using hcm
        rcases hc' with rfl | rfl | rfl | rfl | rfl
        · exact hzl
        · exact Heap.lt_size hTI
        · exact Heap.lt_size hTO
        · obtain ⟨_, e1, _⟩ := iter_obj q1; exact Heap.lt_size e1
        · obtain ⟨_, e2, _⟩ := iter_obj q2; exact Heap.lt_size e2
      rw [upd_ne (Nat.ne_of_lt hlt)]
      exact (hf c hcm).1
  done := by
    intro X hP hw hK hc i pins s σ H E I hf st hg
    subst hP hw hK
    obtain ⟨hz, hTI, ⟨x0, y0, hTO⟩, q1, q2⟩ := st
    obtain ⟨xs, ys, hqx, hqy, l1, l2, hend⟩ := hg
    obtain ⟨its, rv, p1⟩ := sq_vals I hqx
    obtain ⟨jts, rw', p2⟩ := sq_vals I hqy
    have e1 := rv.length
    have e2 := rw'.length
    have s1 : its.toArray.size = its.length := List.size_toArray ..
    have s2 : jts.toArray.size = jts.length := List.size_toArray ..
    have D1 := draws_sq (prog := X.prog) (w := X.w) (A := X.A.in1) (k := k1) (show X.A.in1.handled = none from I.ok.hd hc) i1 a D.a1 its.toArray
    have D2 := draws_sq (prog := X.prog) (w := X.w) (A := X.A.in1) (k := k2) (show X.A.in1.handled = none from I.ok.hd hc) i2 b D.b1 jts.toArray
    exact wpAny_pyNext_zipD2_end D.S D1 D2 hz hTI hTO ⟨q1, p1⟩ ⟨q2, p2⟩ (by omega) (by omega) (by omega)
      fun h' tk hk => ⟨rfl, I.turnedL (ch := [z, TI, TO, i1, i2]) (fun c o hb q => hk c o (fun e => hb (by simp [e])) (fun e => hb (by simp [e])) (fun e => hb (by simp [e])) (fun e => hb (by simp [e])) q) hf⟩
  self := fun A i s Q E st h => wpAny_pyIter_zip st.1 h

/-! ### enumerate of any of them -/
def Iem (K : PySem.W.Frag) (k : Bool) (a : Addr) : It :=
  ⟨fun i H => ∃ (xs : List V) (x : V), Sq K k H a xs ∧ xs[i]? = some x,
   fun i H v H' => ∃ T x, v = .ref T ∧ H T = none ∧ H' = upd H T (.tup [.int (i : Nat), x]) ∧ ∀ xs, Sq K k H a xs → xs[i]? = some x,
   fun i H => ∃ xs : List V, Sq K k H a xs ∧ xs.length = i⟩
theorem turn_enumM {P : Program} {w : World} {K : PySem.W.Frag} {elts : List Expr} {kk : Nat} {tpos : Pos} {k : Bool} {a e it : Addr} (hei : e ≠ it) (hea : e ≠ a) (hai : a ≠ it) :
    Turn P w K (.Tuple elts kk tpos) (Iem K k a) [e, it] e (fun i h => (∃ old, IsEnum h e it ((i : Nat) : Int) old) ∧ IterIs k h it a i) where
  mem := List.mem_cons_self
  obj := fun i h st c hc => by
    obtain ⟨⟨old, he⟩, q⟩ := st
    have hc' : c = e ∨ c = it := by simpa using hc
    rcases hc' with rfl | rfl
    · exact ⟨_, he, fun v q => nomatch q⟩
    · exact iter_obj q
  keep := fun i h h' st kp => let ⟨⟨old, he⟩, q⟩ := st; ⟨⟨old, kp e (by simp) _ he⟩, iter_keep q (kp it (by simp))⟩
  item := by
    intro X hP hw hK hc i pins s σ H E I hf st hg
    subst hP hw hK
    obtain ⟨⟨old, he⟩, q⟩ := st
    obtain ⟨xs, x, hq, hx⟩ := hg
    obtain ⟨its, rv, p⟩ := sq_vals I hq
    obtain ⟨u, hu, ru⟩ := rv.get hx
    have hi : i < its.toArray.size := by simpa using (List.getElem?_eq_some_iff.mp hu).1
    have hel : e < s.heap.objs.size := Heap.lt_size he
    have D1 := draws_sq (prog := X.prog) (w := X.w) (A := X.A.in1) (k := k) (show X.A.in1.handled = none from I.ok.hd hc) it a hai its.toArray
    refine wpAny_pyNext_enum_itemC D1 he ⟨q, p⟩ hi hei (by simp [hei, hea]) fun x1 h' tk e1 ho r1 hT hsz hk => ?_
    have eu : x1 = u := by
      have h0 : its.toArray[i]? = some u := by simpa using hu
      rw [h0] at e1; exact (Option.some.inj e1).symm
    subst eu
    refine ⟨_, rfl, wpAny_letOwnedTupleGo_enum (s := { s with heap := h', toks := tk + 1 }) ho fun h2 he2 sb => ?_⟩
    have hT2 : h2.get? s.heap.objs.size = some { cls := .type "tuple", data := .seq #[.int i tk, x1] } := (sb.2 _ (Nat.ne_of_gt hel)).trans hT
    have new : ObjOk X.prog X.w (upd H s.heap.objs.size (.tup [.int (i : Nat), x])) h2 s.heap.objs.size (.tup [.int (i : Nat), x]) :=
      ⟨by show 2 ≤ sizeLine; decide, [.int i tk, x1], .cons ⟨_, rfl⟩ (.cons ru .nil), ⟨_, hT2, rfl, _, rfl⟩⟩
    have I1 : Inv X pins σ (upd H s.heap.objs.size (.tup [.int (i : Nat), x])) { s with heap := h2, toks := tk + 1 } :=
      I.turnedNew (ch := [e, it]) (fun c o hb q => (sb.2 c fun z => hb (by simp [z])).trans (hk c o (fun z => hb (by simp [z])) (fun z => hb (by simp [z])) q)) hf (Nat.le_refl _) new
    refine ⟨.ref s.heap.objs.size, _, I1, rfl, ⟨_, x, rfl, I.hok.fresh (Nat.le_refl _), rfl, fun l hl => by rw [sq_inj I hl hq]; exact hx⟩, ⟨⟨x1, ?_⟩, iter_keep r1.1 fun o q => (sb.2 _ hei.symm).trans q⟩, fun c hcm => ?_⟩
    · have e1 : ((i + 1 : Nat) : Int) = (i : Int) + 1 := by omega
      rw [e1]; exact he2
    · have hlt : c < s.heap.objs.size := by
        have hc' : c = e ∨ c = it := by simpa using hcm
        rcases hc' with rfl | rfl
        · exact hel
        · obtain ⟨_, e1, _⟩ := iter_obj q; exact Heap.lt_size e1
      rw [upd_ne (Nat.ne_of_lt hlt)]
      exact (hf c hcm).1
  done := by
    intro X hP hw hK hc i pins s σ H E I hf st hg
    subst hP hw hK
    obtain ⟨xs, hq, hl⟩ := hg
    obtain ⟨its, rv, p⟩ := sq_vals I hq
    have e1 := rv.length
    have s1 : its.toArray.size = its.length := List.size_toArray ..
    have en : i = its.toArray.size := by omega
    subst en
    have D1 := draws_sq (prog := X.prog) (w := X.w) (A := X.A.in1) (k := k) (show X.A.in1.handled = none from I.ok.hd hc) it a hai its.toArray
    have W := WalksT.enumFrom 0 D1 e hei (by simp [hei, hea]) (by simp)
    have st' : (∃ old, IsEnum s.heap e it (0 + ((its.toArray.size : Nat) : Int)) old) ∧ IterIs k s.heap it a its.toArray.size ∧ SeqIs k s.heap a its.toArray := by
      obtain ⟨⟨old, he⟩, q⟩ := st
      exact ⟨⟨old, by rw [Int.zero_add]; exact he⟩, q, p⟩
    exact W.done s _ _ st' fun h' tk hk => ⟨rfl, I.turnedL (ch := [e, it]) hk hf⟩
  self := fun A i s Q E st h => let ⟨⟨_, he⟩, _⟩ := st; wpAny_pyIter_enum he h
theorem meets_enumM {v : Value} {o : Obj} {Hp0 : Heap → Prop} (B : Begins v o Hp0) :
    Meets (Builtin.«enumerate.__new__» ⟨[.type "enumerate", v], []⟩) (fun _ R s => Hp0 s.heap ∧
      R (.ok (.ret (.ref (s.heap.push o).objs.size))) { s with heap := (s.heap.push o).push { cls := .type "enumerate", data := .fields #[.none, .bool false, .ref s.heap.objs.size, rawInt 0, .none, .none] } }) :=
  .of_wp fun prog w A R s h => by
    obtain ⟨hp, g, d, tk, os⟩ := s; obtain ⟨h1, h⟩ := h
    have hsub := sub_enumerate
    have q1 : ∀ {A' : Around} {E : Value → Shared → Prop} {Q : Value → Shared → Prop}, Q (.ref hp.objs.size) ⟨hp.push o, g, d, tk, os⟩ → wpAny (model prog w) A' (pyIter v) Q E ⟨hp, g, d, tk, os⟩ :=
      fun q => B.iter prog w _ _ ⟨hp, g, d, tk, os⟩ _ h1 q
    wp_walk using q1
    refine wpAny_stack_any fun st => wpAny_pure ?_
    split
    · rename_i c _ _ _ _ _
      cases (c == Value.type "enumerate") <;> (wp_walk using q1; exact ⟨_, rfl, h⟩)
    · wp_walk using q1
      exact ⟨_, rfl, h⟩
def iEnumM (K : PySem.W.Frag) (ta : TA) : TI := fun σ H R => ta σ H fun vs H1 => ∃ k a xs, vs = [.ref a] ∧ Sq K k H1 a xs ∧ R (Iem K k a) H1
theorem pi_enumM {X : Cx} {e : Expr} {ta : TA} {p pos tpos : Pos} {elts : List Expr} {kk : Nat} (hg : Gl X "enumerate") (hm : X.mg "enumerate" = none) (ha : PA X [e] ta) (hs : starEach [e] X.env = [(false, eval e X.env)]) :
    PI X (.Tuple elts kk tpos) (.Call (.Name "enumerate" p) [e] [] pos) (iEnumM X.K ta) := ⟨fun pins s σ H R I h => by
  refine Call_ (ld_blt I hg hm boot_enumerate (PyProof.Rows.callWith_type1 (thn (ha.run pos pins s σ H _ I h) fun us s1 ⟨vs, H1, I1, r1, k, a, xs, ex, hq, q⟩ => ?_) hs rfl))
  subst ex
  obtain ⟨u, rfl, ru⟩ := vals1 r1
  cases ru
  obtain ⟨its, rv, pq⟩ := sq_vals I1 hq
  have hal := seq_lt pq
  refine callType_new F.called_enumerate (by decide) (F.typeCall_enumerate_1 _) (F.newCall_enumerate_1 _) (fun obj => F.args_object_init_2 obj _) F.entry_enumerate_new (meets_enumM (begins_sq (k := k) a its.toArray)) ⟨pq, ?_⟩
  have hz : (s1.heap.push (iterObj k a)).objs.size = s1.heap.objs.size + 1 := Heap.size_push ..
  have g1 : ((s1.heap.push (iterObj k a)).push { cls := .type "enumerate", data := .fields #[.none, .bool false, .ref s1.heap.objs.size, rawInt 0, .none, .none] }).get? s1.heap.objs.size = some (iterObj k a) :=
    Heap.get?_push_of_some _ (Heap.get?_push_size _ (by cases k <;> rfl))
  have g2 := Heap.get?_push_size (s1.heap.push (iterObj k a)) (o := { cls := .type "enumerate", data := .fields #[.none, .bool false, .ref s1.heap.objs.size, rawInt 0, .none, .none] }) rfl
  rw [hz] at g2
  show _ ∧ _
  rw [hz]
  refine ⟨⟨_, g2, rfl⟩, wpAny_pyIter_enum (i := ((0 : Nat) : Int)) (old := .none) g2 ?_⟩
  refine ⟨s1.heap.objs.size + 1, [s1.heap.objs.size + 1, s1.heap.objs.size], _, _, H1, rfl, I1.kept (t' := s1.toks) fun b o x => Heap.get?_push_of_some _ (Heap.get?_push_of_some _ x), turn_enumM (k := k) (a := a) (Nat.succ_ne_self _) (Nat.ne_of_gt (Nat.lt_succ_of_lt hal)) (Nat.ne_of_lt hal), ⟨⟨.none, g2⟩, iter_new g1⟩, fun b hb => ?_, q⟩
  have hle : s1.heap.objs.size ≤ b := by
    have hb' : b = s1.heap.objs.size + 1 ∨ b = s1.heap.objs.size := by simpa using hb
    rcases hb' with q | q
    · rw [q]; exact Nat.le_succ _
    · rw [q]; exact Nat.le_refl _
  exact I1.fpOk hle (I1.hok.fresh hle)⟩
theorem addNe {n i : Nat} (h : 0 < i) : n + i ≠ n := by omega
theorem addNe2 {n i j : Nat} (h : i ≠ j) : n + i ≠ n + j := by omega
def iZipM (K : PySem.W.Frag) (ta : TA) : TI := fun σ H R => ta σ H fun vs H1 => ∃ k1 k2 a b xs ys, vs = [.ref a, .ref b] ∧ Sq K k1 H1 a xs ∧ Sq K k2 H1 b ys ∧ R (Itm K k1 k2 a b) H1
theorem pi_zipM {X : Cx} {e e2 : Expr} {ta : TA} {p pos tpos : Pos} {elts : List Expr} {kk : Nat} (hg : Gl X "zip") (hm : X.mg "zip" = none) (ha : PA X [e, e2] ta)
    (hs : starEach [e, e2] X.env = (false, eval e X.env) :: starEach [e2] X.env) (hpl : (backTo pos (starEach [e2] X.env)).any (·.1) = false) :
    PI X (.Tuple elts kk tpos) (.Call (.Name "zip" p) [e, e2] [] pos) (iZipM X.K ta) := ⟨fun pins s σ H R I h => by
  refine Call_ (ld_blt I hg hm PyProof.Rows.boot_zip (PyProof.Rows.callWith_type1 (thn (ha.run pos pins s σ H _ I h) fun us s1 ⟨vs, H1, I1, r1, k1, k2, a, b, xs, ys, ex, hqx, hqy, q⟩ => ?_) hs hpl))
  subst ex
  obtain ⟨u, u2, rfl, ru, ru2⟩ := vals2 r1
  cases ru
  cases ru2
  obtain ⟨its, rv, p1⟩ := sq_vals I1 hqx
  obtain ⟨jts, rw', p2⟩ := sq_vals I1 hqy
  have hal := seq_lt p1
  have hbl := seq_lt p2
  refine zip_begins2 (begins_sq (k := k1) a its.toArray) (begins_sq (k := k2) b jts.toArray) p1 p2 fun h' hz hTI hTO g1 g2 hsz hk => wpAny_pyIter_zip hz ?_
  have D : Apart5 (s1.heap.objs.size + 4) (s1.heap.objs.size + 2) (s1.heap.objs.size + 3) s1.heap.objs.size (s1.heap.objs.size + 1) a b :=
    ⟨zip_sep2 (fun c hc => by rw [List.mem_singleton.mp hc]; exact hal) (fun c hc => by rw [List.mem_singleton.mp hc]; exact hbl), Nat.ne_of_lt hal, Nat.ne_of_lt (Nat.lt_succ_of_lt hbl), addNe (by decide), addNe2 (by decide), addNe (by decide), addNe2 (by decide), Nat.ne_of_lt (Nat.lt_succ_self _)⟩
  refine ⟨s1.heap.objs.size + 4, [s1.heap.objs.size + 4, s1.heap.objs.size + 2, s1.heap.objs.size + 3, s1.heap.objs.size, s1.heap.objs.size + 1], _, _, H1, rfl, I1.kept (t' := s1.toks) hk, turn_zipM (k1 := k1) (k2 := k2) D, ⟨hz, hTI, ⟨_, _, hTO⟩, iter_new g1, iter_new g2⟩, fun c hc => ?_, q⟩
  have hle : s1.heap.objs.size ≤ c := by
    have hc' : c = s1.heap.objs.size + 4 ∨ c = s1.heap.objs.size + 2 ∨ c = s1.heap.objs.size + 3 ∨ c = s1.heap.objs.size ∨ c = s1.heap.objs.size + 1 := by simpa using hc
    rcases hc' with q | q | q | q | q <;> (rw [q]; first | exact Nat.le_refl _ | exact Nat.le_add_right _ _)
  exact I1.fpOk hle (I1.hok.fresh hle)⟩
section
variable {K : PySem.W.Frag} {a b : Addr} {xs ys : List V} {k k1 k2 : Bool}
theorem walk_sqE : Walk (Iem K k a) xs.length (fun H => Sq K k H a xs) (YPair (fun i => some (.int (i : Nat))) (fun i => xs[i]?)) :=
  ⟨fun i _ hi q => ⟨xs, xs[i], q, List.getElem?_eq_getElem hi⟩, fun _ q => ⟨xs, q, rfl⟩, fun i H v H' _ q ⟨T, x, h1, h2, h3, h4⟩ => ⟨T, _, x, h1, h2, h3, rfl, h4 xs q⟩⟩
theorem walk_sqZ : Walk (Itm K k1 k2 a b) (min xs.length ys.length) (fun H => Sq K k1 H a xs ∧ Sq K k2 H b ys) (YPair (fun i => xs[i]?) (fun i => ys[i]?)) :=
  ⟨fun i _ hi q => ⟨xs, ys, xs[i]'(by omega), ys[i]'(by omega), q.1, q.2, List.getElem?_eq_getElem _, List.getElem?_eq_getElem _⟩, fun _ q => ⟨xs, ys, q.1, q.2, by omega, by omega, by omega⟩,
    fun i H v H' _ q ⟨T, x, y, h1, h2, h3, h4, h5⟩ => ⟨T, x, y, h1, h2, h3, h4 xs q.1, h5 ys q.2⟩⟩
end
end Sy

namespace Sy
open PySem PySem.Spec PyProof.Rows L2

/-! ### what is walked -/
/-- what a walk may lean on: (true) all that was there but the boxes, (false) what lasts -/
def Per (m : Bool) (G H : Hp) (ph : List Addr) (G' H' : Hp) (ph' : List Addr) : Prop := if m = true then Stp G H ph G' H' ph' else ∀ a o, G a = some o → G' a = some o
theorem Per.up {m : Bool} {G H G' H' : Hp} {ph ph' : List Addr} (p : Per m G H ph G' H' ph') : ∀ a o, G a = some o → G' a = some o := by
  cases m with
  | true => exact (show Stp G H ph G' H' ph' from p).g
  | false => exact p
def Lk (K : Kx) (m : Bool) (G H : Hp) (ph : List Addr) (v : V) (d : PyData) : Prop := ∀ ds, seqItems d = some ds → ∃ k a vs, v = .ref a ∧ DvAll K G vs ds ∧ Sq K k H a vs ∧
  ∀ G' H' ph', (∀ a o, G' a = some o → H' a = some o) → Per m G H ph G' H' ph' → Sq K k H' a vs
def LkAll (K : Kx) (m : Bool) (G H : Hp) (ph : List Addr) : List V → List PyData → Prop
  | [], [] => True
  | v :: vs, d :: ds => Lk K m G H ph v d ∧ LkAll K m G H ph vs ds
  | _, _ => False
def looks (m : Bool) : List R → Option (List PyData)
  | [] => some []
  | r :: rs => match r.look m, looks m rs with
    | some d, some ds => some (d :: ds)
    | _, _ => none
section
variable {K : Kx} {G0 H0 G H : Hp} {ph0 ph : List Addr} {st : Bx} {m : Bool}
theorem Lk.ofDv (sub : ∀ a o, G a = some o → H a = some o) {v : V} {d : PyData} (h : Dv K G v d) : Lk K m G H ph v d := fun ds e => by
  cases h with
  | lst h1 h2 =>
    cases e
    exact ⟨true, _, _, rfl, h2, SqL.of (sub _ _ h1), fun G' H' ph' sb p => SqL.of (sb _ _ (p.up _ _ h1))⟩
  | tup h1 h2 =>
    cases e
    exact ⟨false, _, _, rfl, h2, SqT.up sub h1, fun G' H' ph' sb p => SqT.up sb (SqT.up p.up h1)⟩
  | _ => cases e
theorem LkAll.ofDv (sub : ∀ a o, G a = some o → H a = some o) : ∀ {ds : List PyData} {vs : List V}, DvAll K G vs ds → LkAll K m G H ph vs ds
  | _, _, .nil => trivial
  | _, _, .cons h t => ⟨Lk.ofDv sub h, LkAll.ofDv sub t⟩
theorem looks_cap : ∀ {rs : List R}, looks false rs = caps rs
  | [] => rfl
  | r :: rs => by
    unfold looks caps
    rw [looks_cap]
    rfl
theorem looks_view (w : Wd K G H ph st) : ∀ {rs : List R} {vs : List V} {ds : List PyData}, RsAll K G H ph rs vs → looks true rs = some ds → LkAll K true G H ph vs ds
  | [], [], ds, _, e => by cases (show some [] = some ds from e); trivial
  | [], _ :: _, _, h, _ => h.elim
  | _ :: _, [], _, h, _ => h.elim
  | r :: rs, v :: vs, ds, ⟨h, t⟩, e => by
    unfold looks at e
    split at e
    · rename_i d ds' e1 e2
      cases e
      refine ⟨?_, looks_view w t e2⟩
      have e1' : r.view = some d := e1
      have lst : ∀ {ds0 : List PyData}, d = .list ds0 → (∃ a us, v = .ref a ∧ H a = some (.lst us) ∧ G a = none ∧ a ∉ ph ∧ DvAll K G us ds0) → Lk K true G H ph v d := fun {ds0} ed ⟨a, us, ev, h1, h2, h3, h4⟩ ds2 e3 => by
        subst ed
        cases e3
        exact ⟨true, a, us, ev, h4, SqL.of h1, fun G' H' ph' sb p => SqL.of ((show Stp G H ph G' H' ph' from p).fr a _ h1 h3)⟩
      cases r with
      | dat d0 => cases e1'; exact Lk.ofDv w.sub h
      | own d0 => cases e1'; exact lst rfl h
      | brw d0 => cases e1'; exact lst rfl h
      | ref n => cases e1'
      | scr n => cases e1'
      | exc n => cases e1'
      | pr _ _ => cases e1'
      | exo n => cases e1'
    · cases e
theorem looks_ok {rs : List R} {vs : List V} {ds : List PyData} (s : Stp G0 H0 ph0 G H ph) (w : Wd K G H ph st) (h : RsAll K G H ph rs vs) (f : FrL H0 rs vs) (e : looks m rs = some ds) :
    ∃ G2, Wd K G2 H ph st ∧ Stp G0 H0 ph0 G2 H ph ∧ LkAll K m G2 H ph vs ds := by
  cases m with
  | true => exact ⟨G, w, s, looks_view w h e⟩
  | false =>
    rw [looks_cap] at e
    obtain ⟨G2, w2, s2, h2, _⟩ := caps_ok s w h f e
    exact ⟨G2, w2, s2, LkAll.ofDv w2.sub h2⟩
/-- J goes over the items for as long as what it leans on stands -/
def WkI (K : Kx) (m : Bool) (J : It) (G H : Hp) (ph : List Addr) (items : List PyData) : Prop :=
  ∃ (Gc : Hp → Prop) (Y : Nat → Hp → V → Hp → Prop), Walk J items.length Gc Y ∧ (∀ G' H' ph', (∀ a o, G' a = some o → H' a = some o) → Per m G H ph G' H' ph' → Gc H') ∧
    ∀ (i : Nat) x H2 H3 d G2 ph2 st2, items[i]? = some d → Wd K G2 H2 ph2 st2 → Per m G H ph G2 H2 ph2 → Y i H2 x H3 → ∃ G3, Wd K G3 H3 ph2 st2 ∧ Stp G2 H2 ph2 G3 H3 ph2 ∧ Dv K G3 x d
def tI (K : Kx) (m : Bool) (d : En → Bx → Option (List PyData × Bx)) : TI := fun σ H R =>
  ∃ (G : Hp) (ph : List Addr) (env : En) (st : Bx) (items : List PyData) (st' : Bx), Ev K G H ph env st σ ∧ d env st = some (items, st') ∧
    ∀ J H' G' ph', Wd K G' H' ph' st' → Stp G H ph G' H' ph' → WkI K m J G' H' ph' items → R J H'
end
theorem piW {X : Cx} {tg e : Expr} {t t' : TI} (h : PI X tg e t) (w : ∀ σ H R, t' σ H R → t σ H R) : PI X tg e t' := ⟨fun pins s σ H R I q => h.run pins s σ H R I (w σ H R q)⟩
section
variable {X : Cx} {cf : Cf} {m : Bool}
/-! a list or a tuple -/
def itSq (K : PySem.W.Frag) : Bool → Addr → It
  | true, a => Itl K a
  | false, a => Itt K a
theorem walk_sq {K : PySem.W.Frag} {k : Bool} {a : Addr} {xs : List V} : Walk (itSq K k a) xs.length (fun H => Sq K k H a xs) (YAt xs) := by
  cases k with
  | true => exact walk_list
  | false => exact walk_tup
def iSq (K : PySem.W.Frag) (tl : TE) : TI := fun σ H R => tl σ H fun x H1 => ∃ k a xs, x = .ref a ∧ Sq K k H1 a xs ∧ R (itSq K k a) H1
theorem pi_sq {tg l : Expr} {tl : TE} (hl : PE X l tl) : PI X tg l (iSq X.K tl) := ⟨fun pins s σ H R I h => by
  refine thn (hl.run pins s σ H _ I h) fun v s1 ⟨x, H1, I1, r1, k, a, xs, e, hq, q⟩ => ?_
  subst e
  cases r1
  obtain ⟨its, rv, p⟩ := sq_vals I1 hq
  refine (begins_sq (k := k) a its.toArray).iter _ _ _ _ _ _ p ?_
  have g1 : (s1.heap.push (iterObj k a)).get? s1.heap.objs.size = some (iterObj k a) := Heap.get?_push_size _ (by cases k <;> rfl)
  cases k with
  | true => exact pi_one (tk := s1.toks) I1 _ (turn_list a _) ⟨_, g1, rfl, rfl⟩ q
  | false => exact pi_one (tk := s1.toks) I1 _ (turn_tuple a _) ⟨_, g1, rfl, rfl⟩ q⟩
theorem ok_seq {tg a : Expr} {ea : Ex} (ha : PE X a (tE (kx X) (ea.den cf))) : PI X tg a (tI (kx X) m ((Itx.seq ea).den cf m)) :=
  piW (pi_sq ha) fun σ H R ⟨G, ph, env, st, items, st', E, e, k⟩ => by
    simp only [Itx.den] at e
    split at e
    · rename_i x st1 e1
      cases hl : x.look m with
      | none => rw [hl] at e; cases e
      | some d =>
        rw [hl] at e
        simp only [Option.bind_some] at e
        cases hs : seqItems d with
        | none => rw [hs] at e; cases e
        | some ds =>
          rw [hs] at e
          cases e
          refine ⟨G, ph, env, st, x, _, E, e1, fun v H1 G1 ph1 w1 s1 r1 f1 => ?_⟩
          obtain ⟨G2, w2, s2, h2⟩ := looks_ok (m := m) (rs := [x]) (vs := [v]) (ds := [d]) s1 w1 ⟨r1, trivial⟩ ⟨f1, fun _ _ _ _ => by unfold NoAt; trivial, by unfold FrL; trivial⟩ (by unfold looks looks; rw [hl])
          obtain ⟨k0, a0, vs, ev, hd, hq, hp⟩ := h2.1 _ hs
          refine ⟨k0, a0, vs, ev, hq, k _ H1 G2 ph1 w2 s2 ?_⟩
          refine ⟨_, _, (by rw [← hd.len]; exact walk_sq), fun G' H' ph' sb p => hp G' H' ph' sb p, fun i y H2 H3 d0 G3 ph3 st3 hi w3 p3 y3 => ?_⟩
          obtain ⟨eH, ey⟩ := y3
          subst eH
          obtain ⟨z, hz, hdz⟩ := hd.get hi
          rw [hz] at ey
          cases ey
          exact ⟨G3, w3, Stp.refl, Dv.up p3.up d0 _ hdz⟩
    · cases e
/-! the signs of a text -/
theorem ok_sgn {tg a : Expr} {ea : Ex} (ha : PE X a (tE (kx X) (ea.den cf))) : PI X tg a (tI (kx X) m ((Itx.sgn ea).den cf m)) :=
  piW (pi_str ha) fun σ H R ⟨G, ph, env, st, items, st', E, e, k⟩ => by
    simp only [Itx.den] at e
    split at e
    · rename_i z st1 e1
      cases e
      refine ⟨G, ph, env, st, .dat (.str z), _, E, e1, fun v H1 G1 ph1 w1 s1 r1 f1 => ?_⟩
      cases (show Dv X.K G1 v (.str z) from r1)
      refine ⟨z, rfl, k _ H1 G1 ph1 w1 s1 ?_⟩
      have hl : (signs z).length = z.cps.size := by unfold signs; rw [List.length_map, Array.length_toList]
      refine ⟨_, _, (by rw [hl]; exact walk_str), fun _ _ _ _ _ => trivial, fun i y H2 H3 d0 G3 ph3 st3 hi w3 p3 y3 => ?_⟩
      obtain ⟨eH, c, ec, rfl⟩ := y3
      subst eH
      unfold signs at hi
      rw [List.getElem?_map, Array.getElem?_toList, ec] at hi
      cases hi
      exact ⟨G3, w3, Stp.refl, .str _⟩
    · cases e
/-! ranges -/
theorem rngItems_len (lo : Int) (n : Nat) : (rngItems lo n).length = n := by unfold rngItems; rw [List.length_map, List.length_range]
theorem rng_walk {K : Kx} {G H : Hp} {ph : List Addr} {lo : Int} {n : Nat} : WkI K m (Itr lo n) G H ph (rngItems lo n) := by
  refine ⟨_, _, (by rw [rngItems_len]; exact walk_range), fun _ _ _ _ _ => trivial, fun i x H2 H3 d G2 ph2 st2 hi w2 p2 y2 => ?_⟩
  obtain ⟨eH, ex⟩ := y2
  subst eH ex
  have hl := (List.getElem?_eq_some_iff.mp hi).1
  rw [rngItems_len] at hl
  unfold rngItems at hi
  rw [List.getElem?_map, List.getElem?_range hl] at hi
  cases hi
  exact ⟨G2, w2, Stp.refl, .int _⟩
theorem rngOk_ok {i : Int} (h : rngOk i = true) : -(2 ^ 62) ≤ i ∧ i < 2 ^ 62 := by
  have h : i.natAbs.log2 < 61 := of_decide_eq_true h
  by_cases h0 : i.natAbs = 0
  · omega
  · have := (Nat.log2_lt h0).mp h
    omega
theorem rng_den {es : Exs} {env : En} {st : Bx} {items : List PyData} {st' : Bx} (h : (Itx.rng es).den cf m env st = some (items, st')) :
    ∃ rs l, es.den cf env st = some (rs, st') ∧ (∃ ds, views rs = some ds ∧ intsOf ds = some l) ∧ rngD l = some items := by
  simp only [Itx.den] at h
  split at h
  · rename_i rs st1 e1
    cases hv : views rs with
    | none => rw [hv] at h; cases h
    | some ds =>
      rw [hv] at h
      simp only [Option.bind_some] at h
      cases hi : intsOf ds with
      | none => rw [hi] at h; cases h
      | some l =>
        rw [hi] at h
        simp only [Option.bind_some] at h
        cases hr : rngD l with
        | none => rw [hr] at h; cases h
        | some its =>
          rw [hr] at h
          cases h
          exact ⟨rs, l, e1, ⟨ds, hv, hi⟩, hr⟩
  · cases h
theorem den_one {ea : Ex} {env : En} {st st' : Bx} {rs : List R} (h : (Exs.cons ea .nil).den cf env st = some (rs, st')) : ∃ x, rs = [x] := by
  simp only [Exs.den] at h
  split at h
  · cases h; exact ⟨_, rfl⟩
  · cases h
theorem den_two {ea eb : Ex} {env : En} {st st' : Bx} {rs : List R} (h : (Exs.cons ea (.cons eb .nil)).den cf env st = some (rs, st')) : ∃ x y, rs = [x, y] := by
  simp only [Exs.den] at h
  split at h
  · split at h
    · rename_i e2
      cases h
      split at e2
      · cases e2; exact ⟨_, _, rfl⟩
      · cases e2
    · cases h
  · cases h
theorem ok_rng1 {tg a : Expr} {p pos : Pos} {ea : Ex} (hg : Gl X "range") (hm : X.mg "range" = none) (ha : PA X [a] (tAs (kx X) ((Exs.cons ea .nil).den cf))) (hs : starEach [a] X.env = [(false, eval a X.env)]) : PI X tg (.Call (.Name "range" p) [a] [] pos) (tI (kx X) m ((Itx.rng (.cons ea .nil)).den cf m)) := by
  refine ⟨fun pins s σ H R I ⟨G, ph, env, st, items, st', E, e, k⟩ => ?_⟩
  obtain ⟨rs, l, e1, ⟨ds, hv, hi⟩, hr⟩ := rng_den e
  refine (pi_range1 hg hm ha hs).run pins s σ H R I ⟨G, ph, env, st, rs, st', E, e1, fun vs H1 G1 ph1 w1 s1 r1 f1 => ?_⟩
  have hd := (views_ok w1 r1 hv).ints hi
  subst hd
  obtain ⟨x, rfl⟩ := den_one e1
  have hl := r1.len
  rw [List.length_map] at hl
  match l, hl with
  | [j], _ =>
    have hr' : (if rngOk j = true then some (rngItems 0 j.toNat) else none) = some items := hr
    split at hr'
    · rename_i c
      cases hr'
      have c' := rngOk_ok c
      exact ⟨_, rfl, c'.1, c'.2, k _ H1 G1 ph1 w1 s1 rng_walk⟩
    · cases hr'
theorem ok_rng2 {tg a b : Expr} {p pos : Pos} {ea eb : Ex} (hg : Gl X "range") (hm : X.mg "range" = none) (ha : PA X [a, b] (tAs (kx X) ((Exs.cons ea (.cons eb .nil)).den cf))) (hs : starEach [a, b] X.env = [(false, eval a X.env), (false, eval b X.env)]) (hs2 : starEach [b] X.env = [(false, eval b X.env)]) :
    PI X tg (.Call (.Name "range" p) [a, b] [] pos) (tI (kx X) m ((Itx.rng (.cons ea (.cons eb .nil))).den cf m)) := by
  refine ⟨fun pins s σ H R I ⟨G, ph, env, st, items, st', E, e, k⟩ => ?_⟩
  obtain ⟨rs, l, e1, ⟨ds, hv, hi⟩, hr⟩ := rng_den e
  refine (pi_range2 hg hm ha hs hs2).run pins s σ H R I ⟨G, ph, env, st, rs, st', E, e1, fun vs H1 G1 ph1 w1 s1 r1 f1 => ?_⟩
  have hd := (views_ok w1 r1 hv).ints hi
  subst hd
  obtain ⟨x, y, rfl⟩ := den_two e1
  have hl := r1.len
  rw [List.length_map] at hl
  match l, hl with
  | [i, j], _ =>
    have hr' : (if (rngOk i && rngOk j) = true then some (rngItems i (j - i).toNat) else none) = some items := hr
    split at hr'
    · rename_i c
      cases hr'
      have c1 := rngOk_ok (Bool.and_eq_true_iff.mp c).1
      have c2 := rngOk_ok (Bool.and_eq_true_iff.mp c).2
      exact ⟨_, _, rfl, ⟨c1.1, c1.2, c2.1, c2.2⟩, k _ H1 G1 ph1 w1 s1 rng_walk⟩
    · cases hr'
/-! zip, enumerate -/
theorem zipD_len (xs ys : List PyData) : (zipD xs ys).length = min xs.length ys.length := by unfold zipD; rw [List.length_map, List.length_zip]
theorem zipD_get {xs ys : List PyData} {i : Nat} {d : PyData} (h : (zipD xs ys)[i]? = some d) : ∃ x y, xs[i]? = some x ∧ ys[i]? = some y ∧ d = .tuple [x, y] := by
  unfold zipD at h
  rw [List.getElem?_map] at h
  cases e : (xs.zip ys)[i]? with
  | none => rw [e] at h; cases h
  | some p =>
    rw [e] at h
    cases h
    rw [List.getElem?_zip_eq_some] at e
    exact ⟨p.1, p.2, e.1, e.2, rfl⟩
theorem enumD_len (xs : List PyData) : (enumD xs).length = xs.length := by unfold enumD; rw [List.length_map, List.length_zipIdx]
theorem enumD_get {xs : List PyData} {i : Nat} {d : PyData} (h : (enumD xs)[i]? = some d) : ∃ x, xs[i]? = some x ∧ d = .tuple [.int (i : Int), x] := by
  unfold enumD at h
  rw [List.getElem?_map, List.getElem?_zipIdx] at h
  cases e : xs[i]? with
  | none => rw [e] at h; cases h
  | some p =>
    rw [e] at h
    cases h
    exact ⟨p, rfl, by simp⟩
/-- a new pair -/
theorem pair_new {K : Kx} {G H H3 : Hp} {ph : List Addr} {st : Bx} {x y v : V} {d e : PyData} (w : Wd K G H ph st) (hx : Dv K G x d) (hy : Dv K G y e) (h : ∃ T, v = .ref T ∧ H T = none ∧ H3 = upd H T (.tup [x, y])) :
    ∃ G3, Wd K G3 H3 ph st ∧ Stp G H ph G3 H3 ph ∧ Dv K G3 v (.tuple [d, e]) := by
  obtain ⟨T, rfl, hT, rfl⟩ := h
  obtain ⟨a1, a2, a3⟩ := new_tup w (Stp.refl (H := H) (ph := ph)) (.cons hx (.cons hy .nil)) hT
  exact ⟨_, a1, a2, a3⟩
theorem ok_zip {a b : Expr} {ea eb : Ex} {p pos tpos : Pos} {elts : List Expr} {kk : Nat} (hg : Gl X "zip") (hm : X.mg "zip" = none) (ha : PA X [a, b] (tAs (kx X) ((Exs.cons ea (.cons eb .nil)).den cf)))
    (hs : starEach [a, b] X.env = (false, eval a X.env) :: starEach [b] X.env) (hpl : (backTo pos (starEach [b] X.env)).any (·.1) = false) : PI X (.Tuple elts kk tpos) (.Call (.Name "zip" p) [a, b] [] pos) (tI (kx X) m ((Itx.zip ea eb).den cf m)) :=
  piW (pi_zipM hg hm ha hs hpl) fun σ H R ⟨G, ph, env, st, items, st', E, e, k⟩ => by
    simp only [Itx.den] at e
    split at e
    · rename_i x st1 e1
      split at e
      · rename_i y st2 e2
        split at e
        · rename_i xs ys q1 q2
          cases e
          have L : ∃ d1 d2, x.look m = some d1 ∧ seqItems d1 = some xs ∧ y.look m = some d2 ∧ seqItems d2 = some ys := by
            cases h1 : x.look m with
            | none => rw [h1] at q1; cases q1
            | some d1 =>
              cases h2 : y.look m with
              | none => rw [h2] at q2; cases q2
              | some d2 =>
                rw [h1] at q1
                rw [h2] at q2
                exact ⟨d1, d2, rfl, q1, rfl, q2⟩
          obtain ⟨d1, d2, l1, s1', l2, s2'⟩ := L
          refine ⟨G, ph, env, st, [x, y], st', E, by simp only [Exs.den, e1, e2], fun vs H1 G1 ph1 w1 s1 r1 f1 => ?_⟩
          obtain ⟨G2, w2, S2, hk⟩ := looks_ok (m := m) (ds := [d1, d2]) s1 w1 r1 f1 (by unfold looks looks looks; rw [l1, l2])
          match vs, hk with
          | [v1, v2], ⟨k1, k2, _⟩ =>
            obtain ⟨b1, a1, us1, ev1, hd1, hq1, hp1⟩ := k1 _ s1'
            obtain ⟨b2, a2, us2, ev2, hd2, hq2, hp2⟩ := k2 _ s2'
            subst ev1 ev2
            refine ⟨b1, b2, a1, a2, us1, us2, rfl, hq1, hq2, k _ H1 G2 ph1 w2 S2 ?_⟩
            refine ⟨fun H => Sq X.K b1 H a1 us1 ∧ Sq X.K b2 H a2 us2, _, (by rw [zipD_len, ← hd1.len, ← hd2.len]; exact walk_sqZ), fun G' H' ph' sb p => ⟨hp1 G' H' ph' sb p, hp2 G' H' ph' sb p⟩, fun i z H2 H3 d0 G3 ph3 st3 hi w3 p3 y3 => ?_⟩
            obtain ⟨dx, dy, gx, gy, rfl⟩ := zipD_get hi
            obtain ⟨T, vx, vy, t1, t2, t3, t4, t5⟩ := y3
            obtain ⟨z1, hz1, hdz1⟩ := hd1.get gx
            obtain ⟨z2, hz2, hdz2⟩ := hd2.get gy
            have t4 : us1[i]? = some vx := t4
            have t5 : us2[i]? = some vy := t5
            rw [hz1] at t4
            rw [hz2] at t5
            cases t4
            cases t5
            exact pair_new w3 (Dv.up p3.up _ _ hdz1) (Dv.up p3.up _ _ hdz2) ⟨T, t1, t2, t3⟩
        · cases e
      · cases e
    · cases e
theorem ok_enum {a : Expr} {ea : Ex} {p pos tpos : Pos} {elts : List Expr} {kk : Nat} (hg : Gl X "enumerate") (hm : X.mg "enumerate" = none) (ha : PA X [a] (tAs (kx X) ((Exs.cons ea .nil).den cf))) (hs : starEach [a] X.env = [(false, eval a X.env)]) :
    PI X (.Tuple elts kk tpos) (.Call (.Name "enumerate" p) [a] [] pos) (tI (kx X) m ((Itx.enum ea).den cf m)) :=
  piW (pi_enumM hg hm ha hs) fun σ H R ⟨G, ph, env, st, items, st', E, e, k⟩ => by
    simp only [Itx.den] at e
    split at e
    · rename_i x st1 e1
      cases hl : x.look m with
      | none => rw [hl] at e; cases e
      | some d =>
        rw [hl] at e
        simp only [Option.bind_some] at e
        cases hsq : seqItems d with
        | none => rw [hsq] at e; cases e
        | some ds =>
          rw [hsq] at e
          cases e
          refine ⟨G, ph, env, st, [x], st', E, by simp only [Exs.den, e1], fun vs H1 G1 ph1 w1 s1 r1 f1 => ?_⟩
          obtain ⟨G2, w2, S2, hk⟩ := looks_ok (m := m) (ds := [d]) s1 w1 r1 f1 (by unfold looks looks; rw [hl])
          match vs, hk with
          | [v1], ⟨k1, _⟩ =>
            obtain ⟨b1, a1, us1, ev1, hd1, hq1, hp1⟩ := k1 _ hsq
            subst ev1
            refine ⟨b1, a1, us1, rfl, hq1, k _ H1 G2 ph1 w2 S2 ?_⟩
            refine ⟨_, _, (by rw [enumD_len, ← hd1.len]; exact walk_sqE), fun G' H' ph' sb p => hp1 G' H' ph' sb p, fun i z H2 H3 d0 G3 ph3 st3 hi w3 p3 y3 => ?_⟩
            obtain ⟨dx, gx, rfl⟩ := enumD_get hi
            obtain ⟨T, vx, vy, t1, t2, t3, t4, t5⟩ := y3
            obtain ⟨z1, hz1, hdz1⟩ := hd1.get gx
            have t5 : us1[i]? = some vy := t5
            rw [hz1] at t5
            cases t4
            cases t5
            exact pair_new w3 (.int _) (Dv.up p3.up _ _ hdz1) ⟨T, t1, t2, t3⟩
    · cases e

/-! ### isinstance -/
def tyName : Ty → String
  | .int => "int" | .bool => "bool" | .str => "str" | .list => "list" | .tuple => "tuple"
def kindOfD : PyData → String
  | .none => "NoneType" | .bool _ => "bool" | .int _ => "int" | .str _ => "str" | .list _ => "list" | .tuple _ => "tuple" | .dict _ => "dict"
theorem dv_ty {K : PySem.W.Frag} {H : Hp} {v : V} {d : PyData} (h : Dv K H v d) : TyX K H v (.type (kindOfD d)) := by
  cases h with
  | non => exact .base .non
  | bl b => exact .base (.bl b)
  | int i => exact .base (.int i)
  | str x => exact .base (.str x)
  | lst h1 h2 => exact .base (.lst h1)
  | dct l h1 => exact .base (.dK h1)
  | tup h1 h2 =>
    rcases h1 with (h1 | ⟨o, h1⟩) | ⟨o, its, n, h1, h2, _⟩
    · exact .base (.tup h1)
    · exact .fTuple h1
    · exact .kTuple h1 h2
theorem kit_isi (t : Ty) (d : PyData) : kitB (kindOfD d) (tyName t) = some (isiD t d) := by
  cases t <;> cases d <;> simp only [kindOfD, tyName, isiD] <;> decide +kernel
theorem ok_isi {a : Expr} {ea : Ex} {p p2 pos : Pos} (t : Ty) (gi : Gl X "isinstance") (mi : X.mg "isinstance" = none) (gt : Gl X (Str.ofString (tyName t))) (mt : X.mg (Str.ofString (tyName t)) = none) (ha : PE X a (tE (kx X) (ea.den cf)))
    (hs : starEach [a, .Name (Str.ofString (tyName t)) p2] X.env = (false, eval a X.env) :: starEach [.Name (Str.ofString (tyName t)) p2] X.env) : PE X (.Call (.Name "isinstance" p) [a, .Name (Str.ofString (tyName t)) p2] [] pos) (tE (kx X) ((Ex.isi ea t).den cf)) := by
  have hb : ∀ t : Ty, bootBuiltins (Str.ofString (tyName t)) = some (.type (tyName t)) := fun t => by cases t <;> decide +kernel
  have hn : ∀ t : Ty, Str.ofString (tyName t) ≠ "__name__" := fun t => by cases t <;> decide +kernel
  have hd : ∀ t : Ty, (Str.ofString (tyName t) == ("__debug__" : Str)) = false := fun t => by cases t <;> decide +kernel
  refine peW (pe_callB call_isi gi mi PyProof.Rows.boot_isinstance (pa_cons ha (pa_cons (pe_bltn (v := .ty (tyName t)) gt mt (hb t) rfl (hn t) (hd t)) pa_nil) hs) (he := hs)) fun σ H Q ⟨G, ph, env, st, r, st', E, e, k⟩ => ?_
  simp only [Ex.den] at e
  split at e
  · rename_i x st1 e1
    split at e
    · rename_i d hv
      cases e
      refine ⟨G, ph, env, st, x, _, E, e1, fun v H1 G1 ph1 w1 s1 r1 f1 => ?_⟩
      exact ⟨v, .ty (tyName t), _, _, isiD t d, rfl, .ty _, dv_ty (Rs.view w1 r1 hv), kit_ty (kit_isi t d), k _ H1 G1 ph1 w1 s1 (.bl _) trivial⟩
    · cases e
  · cases e
end
end Sy

namespace Sy
open PySem PySem.Spec PyProof.Rows L2

/-! ### targets -/
/-- names of ix are given data -/
inductive Ud (K : PySem.W.Frag) (G : Hp) (ix : List Nat) (env : En) (σ : L2.St) : En → L2.St → Prop
  | refl : Ud K G ix env σ env σ
  | set {env' : En} {σ' : L2.St} {i : Nat} {v : V} {d : PyData} : Ud K G ix env σ env' σ' → i ∈ ix → Dv K G v d → Ud K G ix env σ (env'.set i (some (.dat d))) (σ'.set i (some v))
theorem Ud.mono {K : PySem.W.Frag} {G : Hp} {ix ix' : List Nat} {env env' : En} {σ σ' : L2.St} (h : Ud K G ix env σ env' σ') (s : ∀ i ∈ ix, i ∈ ix') : Ud K G ix' env σ env' σ' := by
  induction h with
  | refl => exact .refl
  | set _ hi hd ih => exact .set ih (s _ hi) hd
theorem Ud.trans {K : PySem.W.Frag} {G : Hp} {ix : List Nat} {env env1 env2 : En} {σ σ1 σ2 : L2.St} (h : Ud K G ix env σ env1 σ1) (q : Ud K G ix env1 σ1 env2 σ2) : Ud K G ix env σ env2 σ2 := by
  induction q with
  | refl => exact h
  | set _ hi hd ih => exact .set ih hi hd
theorem Ud.len {K : PySem.W.Frag} {G : Hp} {ix : List Nat} {env env1 : En} {σ σ1 : L2.St} (h : Ud K G ix env σ env1 σ1) : env1.length = env.length ∧ σ1.length = σ.length := by
  induction h with
  | refl => exact ⟨rfl, rfl⟩
  | set _ hi hd ih => rw [List.length_set, List.length_set]; exact ih
theorem Ev.ud {K : Kx} {G H : Hp} {ph : List Addr} {ix : List Nat} {env env1 : En} {st : Bx} {σ σ1 : L2.St} (e : Ev K G H ph env st σ) (h : Ud K G ix env σ env1 σ1) : Ev K G H ph env1 st σ1 := by
  induction h with
  | refl => exact e
  | @set env' σ' i v d _ hi hd ih =>
    refine ⟨ih.w, by rw [List.length_set, List.length_set]; exact ih.ln, fun j r hj => ?_⟩
    by_cases hij : i = j
    · subst hij
      have hl : i < env'.length := by
        have := (List.getElem?_eq_some_iff.mp hj).1
        rw [List.length_set] at this; exact this
      rw [List.getElem?_set_self hl] at hj
      cases hj
      exact ⟨v, by rw [List.getElem?_set_self (by rw [← ih.ln]; exact hl)], hd⟩
    · rw [List.getElem?_set_ne hij] at hj
      obtain ⟨u, q, z⟩ := ih.sl j r hj
      exact ⟨u, by rw [List.getElem?_set_ne hij]; exact q, z⟩
def gB (K : PySem.W.Frag) (t : Tg) : TG := fun v σ H Q => ∃ (G : Hp) (d : PyData) (env env' : En), (∀ a o, G a = some o → H a = some o) ∧ Dv K G v d ∧ t.bind d env = some env' ∧ ∀ σ', Ud K G t.idx env σ env' σ' → Q σ' H
def gBs (K : PySem.W.Frag) (ts : Tgs) : TGs := fun vs σ H Q => ∃ (G : Hp) (ds : List PyData) (env env' : En), (∀ a o, G a = some o → H a = some o) ∧ DvAll K G vs ds ∧ ts.bind ds env = some env' ∧ ∀ σ', Ud K G ts.idx env σ env' σ' → Q σ' H
theorem pgW {X : Cx} {tg : Expr} {t t' : TG} (h : PG X tg t) (w : ∀ v σ H Q, t' v σ H Q → t v σ H Q) : PG X tg t' := ⟨fun pins s σ H v u Q I r q => h.run pins s σ H v u Q I r (w v σ H Q q)⟩
theorem pgsW {X : Cx} {ts : List Expr} {t t' : TGs} (h : PGs X ts t) (w : ∀ v σ H Q, t' v σ H Q → t v σ H Q) : PGs X ts t' := ⟨fun pins s σ H v u Q I r q => h.run pins s σ H v u Q I r (w v σ H Q q)⟩
theorem PG.or {X : Cx} {tg : Expr} {t t' : TG} (h : PG X tg t) (h' : PG X tg t') : PG X tg (fun v σ H Q => t v σ H Q ∨ t' v σ H Q) := ⟨fun pins s σ H v u Q I r q => by
  rcases q with q | q
  · exact h.run pins s σ H v u Q I r q
  · exact h'.run pins s σ H v u Q I r q⟩
section
variable {X : Cx} {cf : Cf} {m : Bool}
theorem ok_nm {i : Nat} {x : Str} {pos : Pos} (h : PG X (.Name x pos) (gName i)) : PG X (.Name x pos) (gB X.K (.nm i)) :=
  pgW h fun v σ H Q ⟨G, d, env, env', sb, hd, hb, k⟩ => by
    simp only [Tg.bind] at hb
    cases hb
    exact k _ (.set .refl (by simp [Tg.idx]) hd)
theorem ok_gnil : PGs X [] (gBs X.K .nil) := pgsW pgs_nil fun vs σ H Q ⟨G, ds, env, env', sb, hd, hb, k⟩ => by
  cases hd with
  | nil =>
    simp only [Tgs.bind] at hb
    cases hb
    exact ⟨rfl, k _ .refl⟩
  | cons _ _ => simp only [Tgs.bind] at hb; cases hb
theorem ok_gcons {e : Expr} {es : List Expr} {t : Tg} {r : Tgs} (h : PG X e (gB X.K t)) (hr : PGs X es (gBs X.K r)) (hs : (assignEach (e :: es) X.env).map (·.2) = assign e X.env :: (assignEach es X.env).map (·.2)) : PGs X (e :: es) (gBs X.K (.cons t r)) :=
  pgsW (pgs_cons h hr hs) fun vs σ H Q ⟨G, ds, env, env', sb, hd, hb, k⟩ => by
    cases hd with
    | nil => simp only [Tgs.bind] at hb; cases hb
    | cons h1 h2 =>
      simp only [Tgs.bind] at hb
      cases hb1 : t.bind _ env with
      | none => rw [hb1] at hb; cases hb
      | some env1 =>
        rw [hb1] at hb
        refine ⟨_, _, rfl, G, _, env, env1, sb, h1, hb1, fun σ1 u1 => ?_⟩
        refine ⟨G, _, env1, env', sb, h2, hb, fun σ2 u2 => k σ2 ?_⟩
        exact (u1.mono fun i hi => by simp only [Tgs.idx]; exact List.mem_append_left _ hi).trans (u2.mono fun i hi => by simp only [Tgs.idx]; exact List.mem_append_right _ hi)
def Tgs.many : Tgs → Nat
  | .nil => 0
  | .cons _ r => r.many + 1
theorem Tgs.bind_len : ∀ {ts : Tgs} {ds : List PyData} {env env' : En}, ts.bind ds env = some env' → ds.length = ts.many
  | .nil, [], _, _, _ => rfl
  | .nil, _ :: _, _, _, h => by simp only [Tgs.bind] at h; cases h
  | .cons t r, [], _, _, h => by simp only [Tgs.bind] at h; cases h
  | .cons t r, d :: ds, env, env', h => by
    simp only [Tgs.bind] at h
    cases hb1 : t.bind d env with
    | none => rw [hb1] at h; cases h
    | some env1 =>
      rw [hb1] at h
      rw [List.length_cons, Tgs.bind_len (show r.bind ds env1 = some env' from h)]
      rfl
theorem ok_tp {es : List Expr} {ts : Tgs} {k0 : Nat} {pos : Pos} (hc : X.calm = true) (h : PGs X es (gBs X.K ts)) (hn : (assignEach es X.env).length = ts.many) (hst : (assignEach es X.env).findIdx? (·.1) = none) : PG X (.Tuple es k0 pos) (gB X.K (.tp ts)) :=
  pgW (PG.or (pg_tup hc h hn hst) (pg_unl hc h hn hst)) fun v σ H Q ⟨G, d, env, env', sb, hd, hb, k⟩ => by
    cases hd with
    | @lst a xs ds h1 h2 =>
      have hb' : ts.bind ds env = some env' := by simpa only [Tg.bind] using hb
      exact .inr ⟨_, _, rfl, SqL.of (sb _ _ h1), by rw [h2.len]; exact Tgs.bind_len hb', G, _, env, env', sb, h2, hb', k⟩
    | @tup a xs ds h1 h2 =>
      have hb' : ts.bind ds env = some env' := by simpa only [Tg.bind] using hb
      exact .inl ⟨_, _, rfl, SqT.up sb h1, by rw [h2.len]; exact Tgs.bind_len hb', G, _, env, env', sb, h2, hb', k⟩
    | _ => simp only [Tg.bind] at hb; cases hb

/-! ### list comprehensions -/
theorem wipe_set {σ : L2.St} {i : Nat} {v : Option V} : ∀ {vs : List Nat}, i ∈ vs → wipe (σ.set i v) vs = wipe σ vs
  | [], h => nomatch h
  | j :: vs, h => by
    unfold wipe
    by_cases hi : i ∈ vs
    · rw [wipe_set hi]
    · have e : i = j := by
        rcases List.mem_cons.mp h with e | e
        · exact e
        · exact absurd e hi
      subst e
      have comm : ∀ {ws : List Nat}, i ∉ ws → wipe (σ.set i v) ws = (wipe σ ws).set i v := by
        intro ws
        induction ws with
        | nil => intro _; rfl
        | cons w ws ih =>
          intro hn
          unfold wipe
          rw [ih fun q => hn (List.mem_cons_of_mem _ q)]
          exact List.set_comm _ _ fun e => hn (e ▸ List.mem_cons_self)
      rw [comm hi, List.set_set]
theorem wipe_mem_none {σ : L2.St} : ∀ {vs : List Nat} {i : Nat}, i ∈ vs → (wipe σ vs).set i none = wipe σ vs
  | j :: vs, i, h => by
    unfold wipe
    by_cases e : i = j
    · subst e; rw [List.set_set]
    · have hi : i ∈ vs := by
        rcases List.mem_cons.mp h with q | q
        · exact absurd q e
        · exact q
      rw [List.set_comm _ _ (Ne.symm e), wipe_mem_none hi]
theorem wipe_wipe (σ : L2.St) (vs : List Nat) : wipe (wipe σ vs) vs = wipe σ vs := by
  have sub : ∀ {ws : List Nat}, (∀ i ∈ ws, i ∈ vs) → wipe (wipe σ vs) ws = wipe σ vs := by
    intro ws
    induction ws with
    | nil => intro _; rfl
    | cons w ws ih =>
      intro h
      show (wipe (wipe σ vs) ws).set w none = wipe σ vs
      rw [ih fun i hi => h i (List.mem_cons_of_mem _ hi), wipe_mem_none (h w List.mem_cons_self)]
  exact sub fun _ h => h
theorem Ud.wipe {K : PySem.W.Frag} {G : Hp} {ix vs : List Nat} {env env1 : En} {σ σ1 : L2.St} (h : Ud K G ix env σ env1 σ1) (s : ∀ i ∈ ix, i ∈ vs) : L2.wipe σ1 vs = L2.wipe σ vs := by
  induction h with
  | refl => rfl
  | set _ hi hd ih => rw [wipe_set (s _ hi)]; exact ih
theorem wipeE_len (env : En) : ∀ vs : List Nat, (wipeE env vs).length = env.length
  | [] => rfl
  | v :: vs => by unfold wipeE; rw [List.length_set, wipeE_len env vs]
theorem wipeE_some {env : En} {i : Nat} {r : R} : ∀ {vs : List Nat}, (wipeE env vs)[i]? = some (some r) → env[i]? = some (some r) ∧ i ∉ vs
  | [], h => ⟨h, by simp⟩
  | v :: vs, h => by
    unfold wipeE at h
    by_cases hi : v = i
    · subst hi
      by_cases hv : v < (wipeE env vs).length
      · rw [List.getElem?_set_self hv] at h; cases h
      · rw [List.getElem?_eq_none (by simpa using hv)] at h; cases h
    · rw [List.getElem?_set_ne hi] at h
      obtain ⟨h1, h2⟩ := wipeE_some h
      exact ⟨h1, by simp only [List.mem_cons, not_or]; exact ⟨fun e => hi e.symm, h2⟩⟩
theorem wipe_keep {σ : L2.St} {i : Nat} : ∀ {vs : List Nat}, i ∉ vs → (wipe σ vs)[i]? = σ[i]?
  | [], _ => rfl
  | v :: vs, h => by
    unfold wipe
    rw [List.getElem?_set_ne fun e => h (List.mem_cons.mpr (.inl e.symm))]
    exact wipe_keep fun q => h (List.mem_cons_of_mem _ q)
theorem Ev.wipe {K : Kx} {G H : Hp} {ph : List Addr} {env : En} {st : Bx} {σ : L2.St} (e : Ev K G H ph env st σ) (vs : List Nat) : Ev K G H ph (wipeE env vs) st (L2.wipe σ vs) :=
  ⟨e.w, by rw [wipeE_len, wipe_length]; exact e.ln, fun i r h => by
    obtain ⟨h1, h2⟩ := wipeE_some h
    obtain ⟨v, q, z⟩ := e.sl i r h1
    exact ⟨v, by rw [wipe_keep h2]; exact q, z⟩⟩
theorem Wd.put {K : Kx} {G H : Hp} {ph : List Addr} {st : Bx} {p : Addr} {o : HO} (w : Wd K G H ph st) (hg : G p = none) (hn : p ∉ ph) : Wd K G (upd H p o) ph st := by
  refine ⟨fun a u h => ?_, w.nd, w.len, fun n a ds h1 h2 => ?_, w.hd⟩
  · have e : a ≠ p := fun e => by subst e; rw [hg] at h; cases h
    rw [upd_ne e]; exact w.sub a u h
  · obtain ⟨g, vs, h3, h4⟩ := w.box n a ds h1 h2
    have e : a ≠ p := fun e => hn (e ▸ List.mem_of_getElem? h1)
    exact ⟨g, vs, by rw [upd_ne e]; exact h3, h4⟩
theorem Stp.put {G H G1 H1 : Hp} {ph ph1 : List Addr} {p : Addr} {o : HO} (s : Stp G H ph G1 H1 ph1) (h0 : H p = none) : Stp G H ph G1 (upd H1 p o) ph1 := by
  refine ⟨s.g, s.gn, fun a u h n => ?_, s.ph, fun a h => ?_⟩
  · have e : a ≠ p := fun e => by subst e; rw [h0] at h; cases h
    rw [upd_ne e]; exact s.fr a u h n
  · by_cases e : a = p
    · subst e; exact h0
    · rw [upd_ne e] at h; exact s.dom a h
theorem lc_ok {K : Kx} {elt : Ex} {tg : Tg} {it : Itx} {cd : Tso} {ow : List Nat} {g : TG} {tt : TT} {te : TE} (hix : ∀ i ∈ tg.idx, i ∈ ow)
    (hg : ∀ v σ H Q, gB K tg v σ H Q → g v σ H Q) (ht : ∀ σ H Q, tT K (cd.den cf) σ H Q → tt σ H Q) (he : ∀ σ H Q, tE K (elt.den cf) σ H Q → te σ H Q) : ∀ σ H Q, tE K ((Ex.lc elt tg it cd ow).den cf) σ H Q → tLc (tI K true (it.den cf true)) g tt te ow σ H Q := fun σ H Q ⟨G, ph, env, st, r, st', E, e, k⟩ => by
  simp only [Ex.den] at e
  split at e
  · rename_i items st1 e1
    refine ⟨G, ph, env, st, items, st1, E, e1, fun J H1 G1 ph1 w1 s1 wk => ?_⟩
    intro D hD
    obtain ⟨Gc, Y, walk, per, yl⟩ := wk
    generalize hstep : (fun d st => match tg.bind d (wipeE env ow) with
        | some env1 => match cd.den cf env1 st with
          | some (true, st2) => match elt.den cf env1 st2 with
            | some (r, st3) => r.cap.map fun y => (some y, st3)
            | none => none
          | some (false, st2) => some (none, st2)
          | none => none
        | none => none : PyData → Bx → Option (Option PyData × Bx)) = step at e
    split at e
    · rename_i acc st2 e2
      cases e
      refine lc_it walk (fun i Hi => ∃ Gi phi sti a av, Wd K Gi Hi phi sti ∧ Stp G1 H1 ph1 Gi Hi phi ∧ Hi D = some (.lst av) ∧ Gi D = none ∧ D ∉ phi ∧ DvAll K Gi av a ∧ lcGo step (items.drop i) a sti = some (acc, st')) ?_ ?_ ?_ ?_
      · obtain ⟨a1, a2, ⟨_, _, _, a3, a4, a5, _⟩, _⟩ := new_own w1 (Stp.refl (G := G1) (H := H1) (ph := ph1)) (.nil : DvAll K G1 [] []) hD
        obtain ⟨_, _, ev, a3, a4, a5, _⟩ := (new_own w1 (Stp.refl (G := G1) (H := H1) (ph := ph1)) (.nil : DvAll K G1 [] []) hD).2.2.1
        cases ev
        exact ⟨G1, ph1, st1, [], [], a1, a2, upd_same, a4, a5, .nil, e2⟩
      · rintro i Hi _ ⟨Gi, phi, sti, a, av, wi, si, _⟩
        exact per Gi Hi phi wi.sub si
      · rintro i x Hi H3 hi ⟨Gi, phi, sti, a, av, wi, si, hDi, gDi, nDi, hav, go⟩ y3
        have hd : items[i]? = some items[i] := List.getElem?_eq_getElem hi
        rw [List.drop_eq_getElem_cons hi] at go
        unfold lcGo at go
        obtain ⟨G3, w3, s3, hx⟩ := yl i x Hi H3 items[i] Gi phi sti hd wi si y3
        have S3 := si.trans s3
        have hD3 := s3.fr D _ hDi nDi
        have gD3 := s3.Gnone hDi gDi
        have hav3 := DvAll.up s3.g a av hav
        rw [← hstep] at go
        dsimp only at go
        cases hb : tg.bind items[i] (wipeE env ow) with
        | none => rw [hb] at go; cases go
        | some env1 =>
          rw [hb] at go
          dsimp only at go
          refine hg _ _ _ _ ⟨G3, items[i], wipeE env ow, env1, w3.sub, hx, hb, fun σ2 u2 => ?_⟩
          refine ⟨by rw [u2.wipe hix, wipe_wipe], ?_⟩
          have E3 : Ev K G3 H3 phi env1 sti σ2 := (((E.step s1 w1).step S3 w3).wipe ow).ud u2
          cases hc : cd.den cf env1 sti with
          | none => rw [hc] at go; cases go
          | some cb =>
            obtain ⟨cb, st4⟩ := cb
            rw [hc] at go
            refine ht _ _ _ ⟨G3, phi, env1, sti, cb, st4, E3, hc, fun H4 G4 ph4 w4 s4 => ?_⟩
            have hD4 := s4.fr D _ hD3 nDi
            have gD4 := s4.Gnone hD3 gD3
            have nD4 := s4.notin hD3 nDi
            cases cb with
            | false =>
              dsimp only at go
              exact iteN ⟨G4, ph4, st4, a, av, w4, S3.trans s4, hD4, gD4, nD4, DvAll.up s4.g a av hav3, by rw [← hstep]; exact go⟩
            | true =>
              dsimp only at go
              refine iteP (he _ _ _ ?_)
              cases hl : elt.den cf env1 st4 with
              | none => rw [hl] at go; cases go
              | some rr =>
                obtain ⟨r5, st5⟩ := rr
                rw [hl] at go
                dsimp only at go
                refine ⟨G4, ph4, env1, st4, r5, st5, E3.step s4 w4, hl, fun v H5 G5 ph5 w5 s5 q5 f5 => ?_⟩
                cases hy : r5.cap with
                | none => rw [hy] at go; cases go
                | some y =>
                  rw [hy] at go
                  dsimp only [Option.map_some] at go
                  split at go
                  · rename_i hlen
                    obtain ⟨G6, w6, s6, hd6, up6, sm6⟩ := cap_ok s5 w5 q5 f5 hy
                    have hD5 := s5.fr D _ hD4 nD4
                    have nD5 := s5.notin hD4 nD4
                    have gD6 : G6 D = none := by
                      rcases sm6 D with z | ⟨ds, z1, z2⟩
                      · rw [z]; exact s5.Gnone hD4 gD4
                      · subst z1
                        have := f5 D z2
                        rw [hD4] at this; cases this
                    have av6 : DvAll K G6 av a := DvAll.up (fun a o h => up6 a o (s5.g a o (s4.g a o h))) a av hav3
                    refine ⟨av, hD5, by rw [av6.len]; exact hlen, G6, ph5, st5, a ++ [y], av ++ [v], w6.put gD6 nD5, ((S3.trans s4).trans s6).put hD, upd_same, gD6, nD5, av6.app (.one hd6), by rw [← hstep]; exact go⟩
                  · cases go
      · rintro Hn ⟨Gn, phn, stn, a, av, wn, sn, hDn, gDn, nDn, hav, go⟩
        rw [List.drop_length] at go
        unfold lcGo at go
        cases go
        exact k (.ref D) Hn Gn phn wn (s1.trans sn) ⟨D, av, rfl, hDn, gDn, nDn, hav⟩ fun a ea => by cases ea; exact s1.dom D hD
    · cases e
  · cases e
end
end Sy

namespace Sy
open PySem PySem.Spec PyProof.Rows L2

/-! ### within a def: (G0, H0, ph0) the entry -/
/-- kp: lists of one's own that a loop goes over, by their names: none other has them -/
structure Kept (kp : List (Nat × Addr × List V)) (G H : Hp) (ph : List Addr) (env : En) (σ : L2.St) : Prop where
  at_ : ∀ p ∈ kp, σ[p.1]? = some (some (.ref p.2.1)) ∧ H p.2.1 = some (.lst p.2.2) ∧ G p.2.1 = none ∧ p.2.1 ∉ ph
  no : ∀ p ∈ kp, ∀ (j : Nat) es, env[j]? = some (some (.own es)) → σ[j]? ≠ some (some (.ref p.2.1))
structure Rl (K : Kx) (H0 G0 : Hp) (ph0 : List Addr) (kp : List (Nat × Addr × List V)) (G H : Hp) (ph : List Addr) (env : En) (st : Bx) (σ : L2.St) : Prop where
  e : Ev K G H ph env st σ
  s : Stp G0 H0 ph0 G H ph
  fr : ∀ (i : Nat) ds a, env[i]? = some (some (.own ds)) → σ[i]? = some (some (.ref a)) → H0 a = none
  dj : ∀ (i j : Nat) ds es a, env[i]? = some (some (.own ds)) → env[j]? = some (some (.own es)) → σ[i]? = some (some (.ref a)) → σ[j]? = some (some (.ref a)) → i = j
  nb : ∀ (i : Nat) ds, env[i]? ≠ some (some (.brw ds))
  kv : Kept kp G H ph env σ
section
variable {K : Kx} {kp : List (Nat × Addr × List V)} {H0 G0 G H G1 H1 : Hp} {ph0 ph ph1 : List Addr} {env : En} {st st1 : Bx} {σ : L2.St}
theorem Rl.step (r : Rl K H0 G0 ph0 kp G H ph env st σ) (s : Stp G H ph G1 H1 ph1) (w : Wd K G1 H1 ph1 st1) : Rl K H0 G0 ph0 kp G1 H1 ph1 env st1 σ := ⟨r.e.step s w, r.s.trans s, r.fr, r.dj, r.nb, fun p hp => by
  obtain ⟨h1, h2, h3, h4⟩ := r.kv.at_ p hp
  exact ⟨h1, s.fr _ _ h2 h4, s.Gnone h2 h3, s.notin h2 h4⟩, r.kv.no⟩
theorem set_get {α : Type} {l : List (Option α)} {i j : Nat} {x y : α} (h : (l.set i (some x))[j]? = some (some y)) : (i = j ∧ x = y) ∨ (i ≠ j ∧ l[j]? = some (some y)) := by
  by_cases e : i = j
  · subst e
    have hl : i < l.length := by
      have := (List.getElem?_eq_some_iff.mp h).1
      rw [List.length_set] at this; exact this
    rw [List.getElem?_set_self hl] at h
    cases h
    exact .inl ⟨rfl, rfl⟩
  · rw [List.getElem?_set_ne e] at h
    exact .inr ⟨e, h⟩
theorem set_lt {α : Type} {l : List (Option α)} {i j : Nat} {x y : α} (h : (l.set i (some x))[j]? = some (some y)) : j < l.length := by
  have := (List.getElem?_eq_some_iff.mp h).1
  rw [List.length_set] at this; exact this
/-- a name is given a value -/
theorem Rl.put (r : Rl K H0 G0 ph0 kp G H ph env st σ) {i : Nat} {x : R} {v : V} (hx : Rs K G H ph x v) (nbx : ∀ ds, x ≠ .brw ds)
    (hk : ∀ p ∈ kp, p.1 ≠ i) (own : ∀ ds a, x = .own ds → v = .ref a → H0 a = none ∧ (∀ p ∈ kp, p.2.1 ≠ a) ∧ ∀ (j : Nat) es, env[j]? = some (some (.own es)) → σ[j]? = some (some (.ref a)) → j = i) : Rl K H0 G0 ph0 kp G H ph (env.set i (some x)) st (σ.set i (some v)) := by
  refine ⟨⟨r.e.w, by rw [List.length_set, List.length_set]; exact r.e.ln, fun j y hj => ?_⟩, r.s, fun j ds a hj hs => ?_, fun j l ds es a hj hl hs ht => ?_, fun j ds hj => ?_, fun p hp => ?_, fun p hp j es hj hs => ?_⟩
  · have hlt := set_lt hj
    rcases set_get hj with ⟨rfl, rfl⟩ | ⟨ne, hj⟩
    · exact ⟨v, List.getElem?_set_self (by rw [← r.e.ln]; exact hlt), hx⟩
    · obtain ⟨u, q, z⟩ := r.e.sl j y hj
      exact ⟨u, by rw [List.getElem?_set_ne ne]; exact q, z⟩
  · rcases set_get hj with ⟨rfl, rfl⟩ | ⟨ne, hj⟩
    · rcases set_get hs with ⟨_, rfl⟩ | ⟨ne, _⟩
      · exact (own ds a rfl rfl).1
      · exact absurd rfl ne
    · rw [List.getElem?_set_ne ne] at hs
      exact r.fr j ds a hj hs
  · rcases set_get hj with ⟨rfl, rfl⟩ | ⟨ne, hj⟩
    · rcases set_get hl with ⟨rfl, _⟩ | ⟨ne', hl⟩
      · rfl
      · rcases set_get hs with ⟨_, rfl⟩ | ⟨ne, _⟩
        · rw [List.getElem?_set_ne ne'] at ht
          exact ((own ds a rfl rfl).2.2 l es hl ht).symm
        · exact absurd rfl ne
    · rw [List.getElem?_set_ne ne] at hs
      skip
      rcases set_get hl with ⟨e1, e2⟩ | ⟨ne', hl⟩
      · rcases set_get ht with ⟨_, e3⟩ | ⟨ne, _⟩
        · rw [← e1]; exact (own es a e2 e3).2.2 j ds hj hs
        · exact absurd e1 ne
      · rw [List.getElem?_set_ne ne'] at ht
        exact r.dj j l ds es a hj hl hs ht
  · rcases set_get hj with ⟨rfl, rfl⟩ | ⟨ne, hj⟩
    · exact nbx ds rfl
    · exact r.nb j ds hj
  · obtain ⟨h1, h2⟩ := r.kv.at_ p hp
    exact ⟨by rw [List.getElem?_set_ne (hk p hp).symm]; exact h1, h2⟩
  · rcases set_get hj with ⟨rfl, rfl⟩ | ⟨ne, hj⟩
    · rcases set_get hs with ⟨_, rfl⟩ | ⟨ne, _⟩
      · exact (own es _ rfl rfl).2.1 p hp rfl
      · exact absurd rfl ne
    · rw [List.getElem?_set_ne ne] at hs
      exact r.kv.no p hp j es hj hs
/-- another's own list was there ahead -/
theorem Rl.old (r : Rl K H0 G0 ph0 kp G H ph env st σ) {j : Nat} {es : List PyData} {a : Addr} (h : env[j]? = some (some (.own es))) (q : σ[j]? = some (some (.ref a))) : ∃ o, H a = some o := by
  obtain ⟨v, hv, b, vs, e, h1, _⟩ := r.e.sl j _ h
  rw [q] at hv
  cases hv
  cases e
  exact ⟨_, h1⟩
theorem Rl.ud (r : Rl K H0 G0 ph0 kp G H ph env st σ) {ix : List Nat} {env1 : En} {σ1 : L2.St} (hk : ∀ p ∈ kp, p.1 ∉ ix) (u : Ud K G ix env σ env1 σ1) : Rl K H0 G0 ph0 kp G H ph env1 st σ1 := by
  induction u with
  | refl => exact r
  | set _ hi hd ih => exact ih.put hd (fun _ z => nomatch z) (fun p hp e => hk p hp (e ▸ hi)) fun _ _ z => nomatch z
end
def tS (K : Kx) (H0 G0 : Hp) (ph0 : List Addr) (kp : List (Nat × Addr × List V)) (W : WX) (nv : Nat) (d : En → Bx → Option Out) : TS := fun D σ H =>
  ∃ (G : Hp) (ph : List Addr) (env : En) (st : Bx) (o : Out), Rl K H0 G0 ph0 kp G H ph env st σ ∧ d env st = some o ∧
    (∀ env' st', o = .nx env' st' → ∀ σ' H' G' ph', Rl K H0 G0 ph0 kp G' H' ph' env' st' σ' → (∀ a u, G a = some u → G' a = some u) → D.nx σ' H') ∧
    (∀ r st', o = .rt r st' → (∀ v H' G' ph', Wd K G' H' ph' st' → Stp G0 H0 ph0 G' H' ph' → RsF K G' H' ph' r v → FrF G' H0 r v → D.rt v H') ∧
      ∀ x, r = .exc x → ∀ σ' H' G' ph', σ'.length = nv → Wd K G' H' ph' st' → Stp G0 H0 ph0 G' H' ph' → ∀ C, ClsOf K.K x C → W (.ref C) none σ' H')
theorem psW {X : Cx} {s : Stmt} {t t' : TS} (h : PS X s t) (w : ∀ D σ H, t' D σ H → t D σ H) : PS X s t' := ⟨fun pins s σ H D I q => h.run pins s σ H D I (w D σ H q)⟩
theorem pssW {X : Cx} {s : List Stmt} {t t' : TS} (h : PSs X s t) (w : ∀ D σ H, t' D σ H → t D σ H) : PSs X s t' := ⟨fun pins s σ H D I q => h.run pins s σ H D I (w D σ H q)⟩
section
variable {X : Cx} {cf : Cf} {H0 G0 : Hp} {ph0 : List Addr} {kp : List (Nat × Addr × List V)} {W : WX} {nv : Nat}
theorem ok_snil : PSs X [] (tS (kx X) H0 G0 ph0 kp W nv (Stms.nil.den cf)) := pssW pss_nil fun D σ H ⟨G, ph, env, st, o, r, e, k1, k2⟩ => by
  simp only [Stms.den] at e
  cases e
  exact k1 _ _ rfl σ H G ph r fun _ _ q => q
theorem ok_scons {s : Stmt} {ss : List Stmt} {d : Stm} {ds : Stms} (h : PS X s (tS (kx X) H0 G0 ph0 kp W nv (d.den cf))) (hr : PSs X ss (tS (kx X) H0 G0 ph0 kp W nv (ds.den cf))) : PSs X (s :: ss) (tS (kx X) H0 G0 ph0 kp W nv ((Stms.cons d ds).den cf)) :=
  pssW (pss_cons h hr) fun D σ H ⟨G, ph, env, st, o, r, e, k1, k2⟩ => by
    simp only [Stms.den] at e
    cases h1 : d.den cf env st with
    | none => rw [h1] at e; cases e
    | some o1 =>
      rw [h1] at e
      refine ⟨G, ph, env, st, o1, r, h1, fun env1 st1 eo σ1 H1 G1 ph1 r1 u1 => ?_, fun r' st1 eo => ?_⟩
      · subst eo
        exact ⟨G1, ph1, env1, st1, o, r1, e, fun env' st' eo σ' H' G' ph' r' u' => k1 env' st' eo σ' H' G' ph' r' fun a u q => u' a u (u1 a u q), k2⟩
      · subst eo
        cases e
        exact k2 r' st1 rfl
theorem ok_frz {ss : List Stmt} {i : Nat} {ds : Stms} (hr : PSs X ss (tS (kx X) H0 G0 ph0 kp W nv (ds.den cf))) : PSs X ss (tS (kx X) H0 G0 ph0 kp W nv ((Stms.cons (.frz i) ds).den cf)) :=
  pssW hr fun D σ H ⟨G, ph, env, st, o, r, e, k1, k2⟩ => by
    simp only [Stms.den, Stm.den] at e
    cases hi : env[i]? with
    | none => rw [hi] at e; exact ⟨G, ph, env, st, o, r, e, k1, k2⟩
    | some x =>
      cases x with
      | none => rw [hi] at e; exact ⟨G, ph, env, st, o, r, e, k1, k2⟩
      | some x =>
        cases x with
        | own l =>
          rw [hi] at e
          obtain ⟨v, hv, a, vs, rfl, h1, h2, h3, h4⟩ := r.e.sl i _ hi
          have w1 : Wd (kx X) (upd G a (.lst vs)) H ph st := r.e.w.frz h1 h3
          have up : ∀ b u, G b = some u → upd G a (.lst vs) b = some u := fun b u q => by
            have ne : b ≠ a := fun ne => by subst ne; rw [h2] at q; cases q
            rw [upd_ne ne]; exact q
          have s1 : Stp G0 H0 ph0 (upd G a (.lst vs)) H ph := r.s.frz h1 (r.fr i l a hi hv) h2
          have nd : Dv X.K (upd G a (.lst vs)) (.ref a) (.list l) := .lst upd_same (DvAll.up up l vs h4)
          refine ⟨upd G a (.lst vs), ph, env.set i (some (.dat (.list l))), st, o, ?_, e, fun env' st' eo σ' H' G' ph' r' u' => k1 env' st' eo σ' H' G' ph' r' fun a u q => u' a u (up a u q), k2⟩
          -- the slots
          have es : σ = σ.set i (some (.ref a)) := by
            apply List.ext_getElem?
            intro j
            by_cases ij : i = j
            · subst ij
              rw [hv, List.getElem?_set_self (List.getElem?_eq_some_iff.mp hv).1]
            · rw [List.getElem?_set_ne ij]
          rw [es]
          refine ⟨⟨w1, by rw [List.length_set, List.length_set]; exact r.e.ln, fun j y hj => ?_⟩, s1, fun j ds a' hj hs => ?_, fun j m ds es' a' hj hm hs ht => ?_, fun j ds hj => ?_, fun p hp => ?_, fun p hp j es' hj hs => ?_⟩
          · have hlt := set_lt hj
            rcases set_get hj with ⟨rfl, rfl⟩ | ⟨ne, hj⟩
            · exact ⟨.ref a, List.getElem?_set_self (by rw [← r.e.ln]; exact hlt), nd⟩
            · obtain ⟨u, q, z⟩ := r.e.sl j y hj
              refine ⟨u, by rw [List.getElem?_set_ne ne]; exact q, Rs.froze (a := a) up (fun b => ?_) z ?_⟩
              · by_cases eb : b = a
                · exact .inr eb
                · exact .inl (upd_ne eb)
              · cases y with
                | own l2 => exact .inl fun ev => by subst ev; exact ne (r.dj i j l l2 a hi hj hv q)
                | brw l2 => exact absurd hj (r.nb j l2)
                | dat d => exact .inr fun _ => ⟨(fun z => nomatch z), (fun z => nomatch z)⟩
                | ref d => exact .inr fun _ => ⟨(fun z => nomatch z), (fun z => nomatch z)⟩
                | scr d => exact .inr fun _ => ⟨(fun z => nomatch z), (fun z => nomatch z)⟩
                | exc d => exact z.elim
                | pr _ _ => exact z.elim
                | exo d => exact .inr fun _ => ⟨(fun z => nomatch z), (fun z => nomatch z)⟩
          · rcases set_get hj with ⟨rfl, z⟩ | ⟨ne, hj⟩
            · cases z
            · rw [List.getElem?_set_ne ne] at hs
              exact r.fr j ds a' hj hs
          · rcases set_get hj with ⟨rfl, z⟩ | ⟨ne, hj⟩
            · cases z
            · rcases set_get hm with ⟨rfl, z⟩ | ⟨ne', hm⟩
              · cases z
              · rw [List.getElem?_set_ne ne] at hs
                rw [List.getElem?_set_ne ne'] at ht
                exact r.dj j m ds es' a' hj hm hs ht
          · rcases set_get hj with ⟨rfl, z⟩ | ⟨ne, hj⟩
            · cases z
            · exact r.nb j ds hj
          · obtain ⟨q1, q2, q3, q4⟩ := r.kv.at_ p hp
            have pa : p.2.1 ≠ a := fun e => r.kv.no p hp i l hi (by rw [e]; exact hv)
            exact ⟨by rw [← es]; exact q1, q2, by rw [upd_ne pa]; exact q3, q4⟩
          · rcases set_get hj with ⟨rfl, z⟩ | ⟨ne, hj⟩
            · cases z
            · rw [← es] at hs
              exact r.kv.no p hp j es' hj hs
        | _ => rw [hi] at e; exact ⟨G, ph, env, st, o, r, e, k1, k2⟩
/-! ### small statements -/
theorem ok_snever {s : Stmt} : PS X s (tS (kx X) H0 G0 ph0 kp W nv (Stm.never.den cf)) := ⟨fun _ _ _ _ _ _ ⟨_, _, _, _, _, _, e, _⟩ => by simp only [Stm.den] at e; cases e⟩
theorem ok_pass {pos : Pos} : PS X (.Pass pos) (tS (kx X) H0 G0 ph0 kp W nv (Stm.pass.den cf)) := psW ps_pass fun D σ H ⟨G, ph, env, st, o, r, e, k1, k2⟩ => by
  simp only [Stm.den] at e
  cases e
  exact k1 _ _ rfl σ H G ph r fun _ _ q => q
theorem hold_some {x r : R} (h : x.hold = some r) : x = r ∧ ∀ ds, r ≠ .brw ds := by
  cases x with
  | brw ds => cases h
  | exc ds => cases h
  | pr _ _ => cases h
  | _ => cases h; exact ⟨rfl, fun _ z => nomatch z⟩
theorem hold_np {x r : R} (h : x.hold = some r) : ∀ ds d, x ≠ .pr ds d := fun ds d e => by subst e; cases h
theorem kept_ne {G H : Hp} {ph : List Addr} {env : En} {st : Bx} {σ : L2.St} (r : Rl (kx X) H0 G0 ph0 kp G H ph env st σ) {a : Addr} (hn : H a = none) : ∀ p ∈ kp, p.2.1 ≠ a := fun p hp e => by
  have q := (r.kv.at_ p hp).2.1
  rw [e, hn] at q
  cases q
theorem asgW {e : Ex} {i : Nat} {te : TE} (hk : ∀ p ∈ kp, p.1 ≠ i) (mono : ∀ σ H Q, tE (kx X) (e.den cf) σ H Q → te σ H Q) : ∀ D σ H, tS (kx X) H0 G0 ph0 kp W nv ((Stm.asg i e).den cf) D σ H → tAsg te (gName i) D σ H := fun D σ H ⟨G, ph, env, st, o, r, ed, k1, k2⟩ => by
  simp only [Stm.den] at ed
  cases h1 : e.den cf env st with
  | none => rw [h1] at ed; cases ed
  | some p =>
    obtain ⟨x, st1⟩ := p
    rw [h1] at ed
    dsimp only at ed
    cases hh : x.hold with
    | none => rw [hh] at ed; cases ed
    | some y =>
      rw [hh] at ed
      cases ed
      obtain ⟨rfl, nb⟩ := hold_some hh
      refine mono _ _ _ ⟨G, ph, env, st, x, st1, r.e, h1, fun v H1 G1 ph1 w1 s1 r1 f1 => ?_⟩
      refine k1 _ _ rfl _ _ G1 ph1 ((r.step s1 w1).put r1 nb hk fun ds a ex ev => ?_) s1.g
      subst ex
      have hn : H a = none := f1 a ev
      refine ⟨r.s.dom a hn, kept_ne r hn, fun j es hj hs => ?_⟩
      obtain ⟨o, ho⟩ := r.old hj hs
      rw [hn] at ho; cases ho
theorem ok_asg {i : Nat} {x : Str} {e : Expr} {ee : Ex} {pos pos' : Pos} (hk : ∀ p ∈ kp, p.1 ≠ i) (hN : X.N.Nodup) (hi : X.N[i]? = some x) (hx : Loc X.env.scope x) (he : PE X e (tE (kx X) (ee.den cf))) (hs : swapsWith e (some (.Name x pos')) pos.line X.env = pure false) (hf : X.fn x = true ∨ X.env.scope.names.lookup x = some .local) :
    PS X (.Assign [.Name x pos'] e pos) (tS (kx X) H0 G0 ph0 kp W nv ((Stm.asg i ee).den cf)) := psW (ps_set hN hi hx he hs hf) (asgW hk fun _ _ _ h => h)
theorem ok_par {i j : Nat} {x y : Str} {a b : Expr} {ea eb : Ex} {px py pt pos : Pos} {kt k2 pt2} (hki : ∀ p ∈ kp, p.1 ≠ i) (hkj : ∀ p ∈ kp, p.1 ≠ j) (hc : X.calm = true) (hN : X.N.Nodup) (hi : X.N[i]? = some x) (hj : X.N[j]? = some y) (hij : i ≠ j)
    (hx : X.env.scope.names.lookup x = some .local) (hy : X.env.scope.names.lookup y = some .local) (ha : PA X [a, b] (tAs (kx X) ((Exs.cons ea (.cons eb .nil)).den cf)))
    (hw : swappedStores [.Tuple [.Name x px, .Name y py] kt pt] (.Tuple [a, b] k2 pt2) X.env = pure (some [x, y])) (hs : swapsWithSole [.Tuple [.Name x px, .Name y py] kt pt] (.Tuple [a, b] k2 pt2) pos.line X.env = pure false) :
    PS X (.Assign [.Tuple [.Name x px, .Name y py] kt pt] (.Tuple [a, b] k2 pt2) pos) (tS (kx X) H0 G0 ph0 kp W nv ((Stm.par i j ea eb).den cf)) :=
  psW (ps_par hc hN hi hj hij hx hy ha hw hs) fun D σ H ⟨G, ph, env, st, o, r, ed, k1, k2⟩ => by
    simp only [Stm.den] at ed
    cases h1 : ea.den cf env st with
    | none => rw [h1] at ed; cases ed
    | some p =>
      obtain ⟨x1, st1⟩ := p
      rw [h1] at ed
      dsimp only at ed
      cases h2 : eb.den cf env st1 with
      | none => rw [h2] at ed; cases ed
      | some p =>
        obtain ⟨x2, st2⟩ := p
        rw [h2] at ed
        dsimp only at ed
        cases q1 : x1.hold with
        | none => rw [q1] at ed; cases ed
        | some y1 =>
          cases q2 : x2.hold with
          | none => rw [q1, q2] at ed; cases ed
          | some y2 =>
            rw [q1, q2] at ed
            cases ed
            obtain ⟨rfl, nb1⟩ := hold_some q1
            obtain ⟨rfl, nb2⟩ := hold_some q2
            refine ⟨G, ph, env, st, [x1, x2], st2, r.e, by simp only [Exs.den, h1, h2], fun vs H1 G1 ph1 w1 s1 r1 f1 => ?_⟩
            match vs, r1, f1 with
            | [v, u], ⟨ra, rb, _⟩, ⟨fa, na, fb, _⟩ =>
              have fresh : ∀ {x : R} {v : V}, FrO H x v → ∀ ds a, x = .own ds → v = .ref a → H0 a = none ∧ (∀ p ∈ kp, p.2.1 ≠ a) ∧ ∀ (j : Nat) es, env[j]? = some (some (.own es)) → σ[j]? = some (some (.ref a)) → False := fun {x v} f ds a ex ev => by
                subst ex
                have hn : H a = none := f a ev
                refine ⟨r.s.dom a hn, kept_ne r hn, fun j es hj hs => ?_⟩
                obtain ⟨o, ho⟩ := r.old hj hs
                rw [hn] at ho; cases ho
              refine ⟨v, u, rfl, k1 _ _ rfl _ _ G1 ph1 ?_ s1.g⟩
              have R1 : Rl (kx X) H0 G0 ph0 kp G1 H1 ph1 (env.set i (some x1)) st2 (σ.set i (some v)) := (r.step s1 w1).put ra nb1 hki fun ds a ex ev => ⟨(fresh fa ds a ex ev).1, (fresh fa ds a ex ev).2.1, fun j es hj hs => ((fresh fa ds a ex ev).2.2 j es hj hs).elim⟩
              refine R1.put rb nb2 hkj fun ds a ex ev => ⟨(fresh fb ds a ex ev).1, (fresh fb ds a ex ev).2.1, fun l es hl hs => ?_⟩
              rcases set_get hl with ⟨rfl, rfl⟩ | ⟨ne, hl⟩
              · rcases set_get hs with ⟨_, rfl⟩ | ⟨ne, _⟩
                · have z := na es a rfl rfl
                  subst ex
                  exact absurd ev z.1
                · exact absurd rfl ne
              · rw [List.getElem?_set_ne ne] at hs
                exact ((fresh fb ds a ex ev).2.2 l es hl hs).elim
theorem ok_par3 {i j l : Nat} {x y z : Str} {a b c : Expr} {ea eb ec : Ex} {px py pz pt pos : Pos} {kt k2 pt2} (hki : ∀ p ∈ kp, p.1 ≠ i) (hkj : ∀ p ∈ kp, p.1 ≠ j) (hkl : ∀ p ∈ kp, p.1 ≠ l) (hc : X.calm = true) (hN : X.N.Nodup) (hi : X.N[i]? = some x) (hj : X.N[j]? = some y) (hl : X.N[l]? = some z) (hij : i ≠ j) (hil : i ≠ l) (hjl : j ≠ l)
    (hx : X.env.scope.names.lookup x = some .local) (hy : X.env.scope.names.lookup y = some .local) (hz : X.env.scope.names.lookup z = some .local) (ha : PA X [a, b, c] (tAs (kx X) ((Exs.cons ea (.cons eb (.cons ec .nil))).den cf)))
    (hw : swappedStores [.Tuple [.Name x px, .Name y py, .Name z pz] kt pt] (.Tuple [a, b, c] k2 pt2) X.env = pure (some [x, y, z]))
    (hs : swapsWithSole [.Tuple [.Name x px, .Name y py, .Name z pz] kt pt] (.Tuple [a, b, c] k2 pt2) pos.line X.env = pure false) :
    PS X (.Assign [.Tuple [.Name x px, .Name y py, .Name z pz] kt pt] (.Tuple [a, b, c] k2 pt2) pos) (tS (kx X) H0 G0 ph0 kp W nv ((Stm.par3 i j l ea eb ec).den cf)) :=
  psW (ps_par3 hc hN hi hj hl hij hil hjl hx hy hz ha hw hs) fun D σ H ⟨G, ph, env, st, o, r, ed, k1, k2⟩ => by
    simp only [Stm.den] at ed
    split at ed
    · rename_i rs st1 e1
      split at ed
      · rename_i d1 d2 d3 e2
        cases ed
        refine ⟨G, ph, env, st, rs, st1, r.e, e1, fun vs H1 G1 ph1 w1 s1 r1 f1 => ?_⟩
        obtain ⟨G2, w2, s2, h2, _⟩ := caps_ok s1 w1 r1 f1 e2
        cases h2 with
        | cons q1 h2 =>
          cases h2 with
          | cons q2 h2 =>
            cases h2 with
            | cons q3 h2 =>
              cases h2
              refine ⟨_, _, _, rfl, k1 _ _ rfl _ _ G2 ph1 ?_ s2.g⟩
              exact (((r.step s2 w2).put (x := .dat d1) q1 (fun _ z => nomatch z) hki fun _ _ z => nomatch z).put (x := .dat d2) q2 (fun _ z => nomatch z) hkj fun _ _ z => nomatch z).put (x := .dat d3) q3 (fun _ z => nomatch z) hkl fun _ _ z => nomatch z
      · cases ed
    · cases ed
theorem ok_unp {tg e : Expr} {t : Tg} {ee : Ex} {pos : Pos} (hk : ∀ p ∈ kp, p.1 ∉ t.idx) (he : PE X e (tE (kx X) (ee.den cf))) (hg : PG X tg (gB X.K t)) (hs : swapsWithSole [tg] e pos.line X.env = pure false) (hw : swappedStores [tg] e X.env = pure none) (h1 : (assignEach [tg] X.env).map (·.2) = [assign tg X.env]) :
    PS X (.Assign [tg] e pos) (tS (kx X) H0 G0 ph0 kp W nv ((Stm.unp t ee).den cf)) := psW (ps_asg he hg hs hw h1) fun D σ H ⟨G, ph, env, st, o, r, ed, k1, k2⟩ => by
  simp only [Stm.den] at ed
  cases q1 : ee.den cf env st with
  | none => rw [q1] at ed; cases ed
  | some p =>
    obtain ⟨x, st1⟩ := p
    rw [q1] at ed
    dsimp only at ed
    cases hcap : x.cap with
    | none => rw [hcap] at ed; cases ed
    | some d =>
      rw [hcap] at ed
      simp only [Option.bind_some] at ed
      cases hb : t.bind d env with
      | none => rw [hb] at ed; cases ed
      | some env1 =>
        rw [hb] at ed
        cases ed
        refine ⟨G, ph, env, st, x, st1, r.e, q1, fun v H1 G1 ph1 w1 s1 r1 f1 => ?_⟩
        obtain ⟨G2, w2, s2, hd, up, _⟩ := cap_ok s1 w1 r1 f1 hcap
        exact ⟨G2, d, env, env1, w2.sub, hd, hb, fun σ1 u => k1 _ _ rfl _ _ G2 ph1 ((r.step s2 w2).ud hk u) s2.g⟩
theorem ok_exp {e : Expr} {ee : Ex} {pos : Pos} (he : PE X e (tE (kx X) (ee.den cf))) (hs : swapsWith e none pos.line X.env = pure false) : PS X (.Expr e pos) (tS (kx X) H0 G0 ph0 kp W nv ((Stm.exp ee).den cf)) :=
  psW (ps_expr he hs) fun D σ H ⟨G, ph, env, st, o, r, ed, k1, k2⟩ => by
    simp only [Stm.den] at ed
    cases q1 : ee.den cf env st with
    | none => rw [q1] at ed; cases ed
    | some p =>
      obtain ⟨x, st1⟩ := p
      rw [q1] at ed
      cases ed
      exact ⟨G, ph, env, st, x, st1, r.e, q1, fun v H1 G1 ph1 w1 s1 r1 f1 => k1 _ _ rfl _ _ G1 ph1 (r.step s1 w1) s1.g⟩
theorem ok_ret {e : Expr} {ee : Ex} {pos : Pos} (he : PE X e (tE (kx X) (ee.den cf))) : PS X (.Return (some e) pos) (tS (kx X) H0 G0 ph0 kp W nv ((Stm.ret ee).den cf)) :=
  psW (ps_ret he) fun D σ H ⟨G, ph, env, st, o, r, ed, k1, k2⟩ => by
    simp only [Stm.den] at ed
    cases q1 : ee.den cf env st with
    | none => rw [q1] at ed; cases ed
    | some p =>
      obtain ⟨x, st1⟩ := p
      rw [q1] at ed
      dsimp only at ed
      cases hh : x.hold with
      | none => rw [hh] at ed; cases ed
      | some y =>
        rw [hh] at ed
        cases ed
        obtain ⟨rfl, nb⟩ := hold_some hh
        exact ⟨G, ph, env, st, x, st1, r.e, q1, fun v H1 G1 ph1 w1 s1 r1 f1 => (k2 _ _ rfl).1 v H1 G1 ph1 w1 (r.s.trans s1) r1.f (r1.ff (f1.before r.s))⟩
theorem ok_retv {i : Nat} {x : Str} {p pos : Pos} (h : PE X (.Name x p) (tVar i)) : PS X (.Return (some (.Name x p)) pos) (tS (kx X) H0 G0 ph0 kp W nv ((Stm.retv i).den cf)) :=
  psW (ps_ret h) fun D σ H ⟨G, ph, env, st, o, r, ed, k1, k2⟩ => by
    simp only [Stm.den] at ed
    split at ed
    · rename_i y hy
      cases ed
      obtain ⟨v, hv, hr⟩ := r.e.sl i y hy
      refine ⟨v, hv, (k2 _ _ rfl).1 v H G ph r.e.w r.s hr.f (hr.ff ?_)⟩
      cases y with
      | own ds => exact fun a ev => r.fr i ds a hy (by rw [hv, ev])
      | _ => trivial
    · cases ed
/-- return x, e: x a list of one's own -/
theorem ok_retP {i : Nat} {x : Str} {e : Expr} {ee : Ex} {p pos tp : Pos} {k0} (h : PE X (.Name x p) (tVar i)) (he : PE X e (tE (kx X) (ee.den cf))) (s1 : starEach [.Name x p, e] X.env = (false, eval (.Name x p) X.env) :: starEach [e] X.env) (s2 : starEach [e] X.env = (false, eval e X.env) :: starEach [] X.env) :
    PS X (.Return (some (.Tuple [.Name x p, e] k0 tp)) pos) (tS (kx X) H0 G0 ph0 kp W nv ((Stm.retP i ee).den cf)) :=
  psW (ps_ret (pe_tup (pa_cons h (pa_cons he pa_nil s2) s1))) fun D σ H ⟨G, ph, env, st, o, r, ed, k1, k2⟩ => by
    simp only [Stm.den] at ed
    split at ed
    · rename_i ds hi
      split at ed
      · rename_i d st1 e1
        cases ed
        obtain ⟨v, hv, a, vs, rfl, h1, h2, h3, h4⟩ := r.e.sl i _ hi
        refine ⟨.ref a, hv, G, ph, env, st, .dat d, st1, r.e, e1, fun u H1 G1 ph1 w1 s1 r1 f1 => ⟨(show 2 ≤ sizeLine by decide), fun q hq => ?_⟩⟩
        have g1 : H1 a = some (.lst vs) := s1.fr a _ h1 h3
        have g2 : G1 a = none := s1.Gnone h1 h2
        have g3 : a ∉ ph1 := s1.notin h1 h3
        have qa : a ≠ q := fun e => by subst e; rw [hq] at g1; cases g1
        have sg := Stp.newG (o := .tup [.ref a, u]) w1 hq
        refine (k2 _ _ rfl).1 (.ref q) _ _ ph1 (w1.newG hq) (r.s.trans (s1.trans sg)) ⟨q, a, vs, u, rfl, upd_same, by rw [upd_ne qa]; exact g1, by rw [upd_ne qa]; exact g2, g3, DvAll.up (fun b o e => sg.g b o (s1.g b o e)) ds vs h4, Dv.up sg.g d u r1⟩ fun t b w et eg => ?_
        cases et
        rw [upd_same] at eg
        cases eg
        exact r.fr i ds a hi hv
      · cases ed
    · cases ed
theorem ok_if {c : Expr} {a b : List Stmt} {t : Ts} {sa sb : Stms} {pos : Pos} (hc : PT X c (tT (kx X) (t.den cf))) (ha : PSs X a (tS (kx X) H0 G0 ph0 kp W nv (sa.den cf))) (hb : PSs X b (tS (kx X) H0 G0 ph0 kp W nv (sb.den cf))) : PS X (.If c a b pos) (tS (kx X) H0 G0 ph0 kp W nv ((Stm.iff t sa sb).den cf)) :=
  psW (ps_if hc ha hb) fun D σ H ⟨G, ph, env, st, o, r, ed, k1, k2⟩ => by
    simp only [Stm.den] at ed
    split at ed
    · rename_i st1 e1
      exact ⟨G, ph, env, st, true, st1, r.e, e1, fun H1 G1 ph1 w1 s1 => iteP ⟨G1, ph1, env, st1, o, r.step s1 w1, ed, fun env' st' eo σ' H' G' ph' r' u' => k1 env' st' eo σ' H' G' ph' r' fun a u q => u' a u (s1.g a u q), k2⟩⟩
    · rename_i st1 e1
      exact ⟨G, ph, env, st, false, st1, r.e, e1, fun H1 G1 ph1 w1 s1 => iteN ⟨G1, ph1, env, st1, o, r.step s1 w1, ed, fun env' st' eo σ' H' G' ph' r' u' => k1 env' st' eo σ' H' G' ph' r' fun a u q => u' a u (s1.g a u q), k2⟩⟩
    · cases ed
end
end Sy

namespace Sy
open PySem PySem.Spec PyProof.Rows L2

section
variable {K : Kx} {kp : List (Nat × Addr × List V)} {H0 G0 G H : Hp} {ph0 ph : List Addr} {env : En} {st : Bx} {σ : L2.St}
theorem nodup_inj {α : Type} : ∀ {l : List α} {n m : Nat} {a : α}, l.Nodup → l[n]? = some a → l[m]? = some a → n = m
  | [], _, _, _, _, h, _ => by simp at h
  | x :: l, 0, 0, _, _, _, _ => rfl
  | x :: l, 0, m + 1, a, nd, h, k => by
    simp at h k; subst h
    exact absurd (List.mem_of_getElem? k) (List.nodup_cons.mp nd).1
  | x :: l, n + 1, 0, a, nd, h, k => by
    simp at h k; subst k
    exact absurd (List.mem_of_getElem? h) (List.nodup_cons.mp nd).1
  | x :: l, n + 1, m + 1, a, nd, h, k => by
    simp at h k
    rw [nodup_inj (List.nodup_cons.mp nd).2 h k]
/-- a box is written -/
theorem Wd.setB (w : Wd K G H ph st) {n : Nat} {a : Addr} {vs : List V} {ds : List PyData} (hp : ph[n]? = some a) (hn : (st[n]?).isSome = true) (hd : DvAll K G vs ds) : Wd K G (upd H a (.lst vs)) ph (st.set n ds) := by
  obtain ⟨d0, hd0⟩ := Option.isSome_iff_exists.mp hn
  obtain ⟨g, us, h1, h2⟩ := w.box n a d0 hp hd0
  refine ⟨fun b u h => ?_, w.nd, by rw [List.length_set]; exact w.len, fun m b es k1 k2 => ?_, w.hd⟩
  · have e : b ≠ a := fun e => by subst e; rw [g] at h; cases h
    rw [upd_ne e]; exact w.sub b u h
  · by_cases e : n = m
    · subst e
      rw [hp] at k1; cases k1
      have hl := (List.getElem?_eq_some_iff.mp hd0).1
      rw [List.getElem?_set_self hl] at k2
      cases k2
      exact ⟨g, vs, upd_same, hd⟩
    · rw [List.getElem?_set_ne e] at k2
      obtain ⟨g', us', h3, h4⟩ := w.box m b es k1 k2
      have ne : b ≠ a := fun q => by
        subst q
        obtain ⟨l1, e1⟩ := List.getElem?_eq_some_iff.mp hp
        obtain ⟨l2, e2⟩ := List.getElem?_eq_some_iff.mp k1
        exact e (nodup_inj w.nd hp k1)
      exact ⟨g', us', by rw [upd_ne ne]; exact h3, h4⟩
theorem Stp.setB {G H G1 H1 : Hp} {ph ph1 : List Addr} {a : Addr} {vs : List V} (s : Stp G H ph G1 H1 ph1) (ha : a ∈ ph1) (g : G1 a = none) : Stp G H ph G1 (upd H1 a (.lst vs)) ph1 := by
  refine ⟨s.g, s.gn, fun b u h n => ?_, s.ph, fun b h => ?_⟩
  · have e : b ≠ a := fun e => by subst e; exact s.notin h n ha
    rw [upd_ne e]; exact s.fr b u h n
  · by_cases e : b = a
    · subst e; rw [upd_same] at h; cases h
    · rw [upd_ne e] at h; exact s.dom b h
theorem Rs.setB {a : Addr} {vs : List V} (ha : a ∈ ph) {r : R} {v : V} (h : Rs K G H ph r v) : Rs K G (upd H a (.lst vs)) ph r v := by
  cases r with
  | dat d => exact h
  | ref n => exact h
  | scr n => exact h
  | exc n => exact h
  | pr _ _ => exact h
  | exo n => exact h
  | own d =>
    obtain ⟨b, us, e, h1, h2, h3, h4⟩ := h
    exact ⟨b, us, e, by rw [upd_ne fun q => h3 (by rw [q]; exact ha)]; exact h1, h2, h3, h4⟩
  | brw d =>
    obtain ⟨b, us, e, h1, h2, h3, h4⟩ := h
    exact ⟨b, us, e, by rw [upd_ne fun q => h3 (by rw [q]; exact ha)]; exact h1, h2, h3, h4⟩
theorem Rl.setB (r : Rl K H0 G0 ph0 kp G H ph env st σ) {n : Nat} {a : Addr} {vs : List V} {ds : List PyData} (hp : ph[n]? = some a) (hn : (st[n]?).isSome = true) (hd : DvAll K G vs ds) : Rl K H0 G0 ph0 kp G (upd H a (.lst vs)) ph env (st.set n ds) σ := by
  have ha : a ∈ ph := List.mem_of_getElem? hp
  obtain ⟨d0, hd0⟩ := Option.isSome_iff_exists.mp hn
  obtain ⟨g, _⟩ := r.e.w.box n a d0 hp hd0
  refine ⟨⟨r.e.w.setB hp hn hd, r.e.ln, fun i x hi => ?_⟩, r.s.setB ha g, r.fr, r.dj, r.nb, fun p hp => ?_, r.kv.no⟩
  rotate_left
  · obtain ⟨q1, q2, q3, q4⟩ := r.kv.at_ p hp
    exact ⟨q1, by rw [upd_ne fun e => q4 (by rw [e]; exact ha)]; exact q2, q3, q4⟩
  obtain ⟨v, q, z⟩ := r.e.sl i x hi
  exact ⟨v, q, z.setB ha⟩
/-- a list of one's own is changed -/
theorem Rl.mut (r : Rl K H0 G0 ph0 kp G H ph env st σ) {i : Nat} {a : Addr} {ds es : List PyData} {vs : List V} (hi : env[i]? = some (some (.own ds))) (hs : σ[i]? = some (some (.ref a))) (g : G a = none) (np : a ∉ ph) (hd : DvAll K G vs es) : Rl K H0 G0 ph0 kp G (upd H a (.lst vs)) ph (env.set i (some (.own es))) st σ := by
  have sp : Stp G0 H0 ph0 G (upd H a (.lst vs)) ph := r.s.put (r.fr i ds a hi hs)
  have oth : ∀ (j : Nat) y, i ≠ j → env[j]? = some (some y) → ∀ v, σ[j]? = some (some v) → Rs K G H ph y v → Rs K G (upd H a (.lst vs)) ph y v := fun j y ne hj v hv h => by
    cases y with
    | dat d => exact h
    | ref n => exact h
    | scr n => exact h
    | exc n => exact h
    | pr _ _ => exact h
    | exo n => exact h
    | own d =>
      obtain ⟨b, us, e, h1, h2, h3, h4⟩ := h
      subst e
      exact ⟨b, us, rfl, by rw [upd_ne fun q => ne (r.dj i j ds d a hi hj hs (by rw [hv, q]))]; exact h1, h2, h3, h4⟩
    | brw d => exact absurd hj (r.nb j d)
  refine ⟨⟨r.e.w.put g np, by rw [List.length_set]; exact r.e.ln, fun j y hj => ?_⟩, sp, fun j d b hj hb => ?_, fun j l d e b hj hl hb hc => ?_, fun j d hj => ?_, fun p hp => ?_, fun p hp j e hj hb => ?_⟩
  · rcases set_get hj with ⟨rfl, rfl⟩ | ⟨ne, hj⟩
    · exact ⟨.ref a, hs, a, vs, rfl, upd_same, g, np, hd⟩
    · obtain ⟨v, q, z⟩ := r.e.sl j y hj
      exact ⟨v, q, oth j y ne hj v q z⟩
  · rcases set_get hj with ⟨rfl, z⟩ | ⟨ne, hj⟩
    · exact r.fr _ ds b hi hb
    · exact r.fr j d b hj hb
  · rcases set_get hj with ⟨rfl, z⟩ | ⟨ne, hj⟩
    · rcases set_get hl with ⟨rfl, _⟩ | ⟨ne', hl⟩
      · rfl
      · exact r.dj _ l ds e b hi hl hb hc
    · rcases set_get hl with ⟨rfl, _⟩ | ⟨ne', hl⟩
      · exact r.dj j _ d ds b hj hi hb hc
      · exact r.dj j l d e b hj hl hb hc
  · rcases set_get hj with ⟨rfl, z⟩ | ⟨ne, hj⟩
    · cases z
    · exact r.nb j d hj
  · obtain ⟨q1, q2, q3, q4⟩ := r.kv.at_ p hp
    exact ⟨q1, by rw [upd_ne fun z => r.kv.no p hp i ds hi (by rw [z]; exact hs)]; exact q2, q3, q4⟩
  · rcases set_get hj with ⟨rfl, z⟩ | ⟨ne, hj⟩
    · exact r.kv.no p hp _ ds hi hb
    · exact r.kv.no p hp j e hj hb
end
section
variable {X : Cx} {cf : Cf} {H0 G0 : Hp} {ph0 : List Addr} {kp : List (Nat × Addr × List V)} {W : WX} {nv : Nat}
/-! ### o[i] = e on a box -/
theorem ok_setB {o i e : Expr} {eo ei ee : Ex} {tpos pos : Pos} (he : PE X e (tE (kx X) (ee.den cf))) (ho : PE X o (tE (kx X) (eo.den cf))) (hi : PE X i (tE (kx X) (ei.den cf)))
    (ha : ∀ v, assign (.Subscript o i tpos) X.env v = (do
      let ov ← holding [v] (eval o X.env)
      let iv ← holding [v, ov] (eval i X.env)
      standAt tpos
      holding [v, ov, iv] (setItem ov iv v)
      release [v, ov, iv] []))
    (hs : swapsWithSole [.Subscript o i tpos] e pos.line X.env = pure false) (hw : swappedStores [.Subscript o i tpos] e X.env = pure none)
    (h1 : (assignEach [.Subscript o i tpos] X.env).map (·.2) = [assign (.Subscript o i tpos) X.env]) :
    PS X (.Assign [.Subscript o i tpos] e pos) (tS (kx X) H0 G0 ph0 kp W nv ((Stm.setB eo ei ee).den cf)) :=
  psW (ps_asg he (pg_sub ho hi set_list ha) hs hw h1) fun D σ H ⟨G, ph, env, st, ot, r, ed, k1, k2⟩ => by
    simp only [Stm.den] at ed
    cases q1 : ee.den cf env st with
    | none => rw [q1] at ed; cases ed
    | some p =>
      obtain ⟨x, st1⟩ := p
      rw [q1] at ed
      dsimp only at ed
      cases q2 : eo.den cf env st1 with
      | none => rw [q2] at ed; cases ed
      | some p =>
        obtain ⟨y, st2⟩ := p
        rw [q2] at ed
        cases y with
        | ref n =>
          dsimp only at ed
          cases q3 : ei.den cf env st2 with
          | none => rw [q3] at ed; cases ed
          | some p =>
            obtain ⟨z, st3⟩ := p
            rw [q3] at ed
            cases z with
            | dat z =>
              cases z with
              | int k =>
                dsimp only at ed
                cases hcap : x.cap with
                | none => rw [hcap] at ed; cases ed
                | some d =>
                  cases hbx : st3[n]? with
                  | none => rw [hcap, hbx] at ed; cases ed
                  | some ds =>
                    rw [hcap, hbx] at ed
                    dsimp only at ed
                    cases hix : ixN ds.length k with
                    | none => rw [hix] at ed; cases ed
                    | some j =>
                      rw [hix] at ed
                      cases ed
                      refine ⟨G, ph, env, st, x, st1, r.e, q1, fun v H1 G1 ph1 w1 s1 r1 f1 => ?_⟩
                      obtain ⟨G1', w1', s1', hd1, _, _⟩ := cap_ok s1 w1 r1 f1 hcap
                      refine ⟨G1', ph1, env, st1, .ref n, st2, r.e.step s1' w1', q2, fun v2 H2 G2 ph2 w2 s2 r2 f2 => ?_⟩
                      refine ⟨G2, ph2, env, st2, .dat (.int k), st3, (r.e.step s1' w1').step s2 w2, q3, fun v3 H3 G3 ph3 w3 s3 r3 f3 => ?_⟩
                      cases (show Dv X.K G3 v3 (.int k) from r3)
                      obtain ⟨a, ev, hpa⟩ := Rs.step s3 r2
                      obtain ⟨g, vs, hb1, hb2⟩ := w3.box n a ds hpa hbx
                      have hd3 : Dv X.K G3 v d := Dv.up s3.g d _ (Dv.up s2.g d _ hd1)
                      refine ⟨a, vs, k, j, ev, rfl, hb1, by rw [hb2.len]; exact hix, ?_⟩
                      exact k1 _ _ rfl _ _ G3 ph3 ((((r.step s1' w1').step s2 w2).step s3 w3).setB hpa (by rw [hbx]; rfl) (hb2.set j hd3)) fun a u q => s3.g a u (s2.g a u (s1'.g a u q))
              | _ => cases ed
            | _ => cases ed
        | _ => cases ed
/-! ### x.append(e), x.extend(e) -/
theorem ok_app {i : Nat} {e : Expr} {ee : Ex} {x : Str} {px apos cpos pos : Pos} (hv : PE X (.Name x px) (tVar i)) (he : PE X e (tE (kx X) (ee.den cf)))
    (h : PE X (.Call (.Attribute (.Name x px) "append" apos) [e] [] cpos) (tBM X.K "list" rAppend (tVar i) (tCons (tE (kx X) (ee.den cf)) tNil)))
    (hs : swapsWith (.Call (.Attribute (.Name x px) "append" apos) [e] [] cpos) none pos.line X.env = pure false) :
    PS X (.Expr (.Call (.Attribute (.Name x px) "append" apos) [e] [] cpos) pos) (tS (kx X) H0 G0 ph0 kp W nv ((Stm.app i ee).den cf)) :=
  psW (ps_expr h hs) fun D σ H ⟨G, ph, env, st, ot, r, ed, k1, k2⟩ => by
    simp only [Stm.den] at ed
    split at ed
    · rename_i ds hi
      cases q1 : ee.den cf env st with
      | none => rw [q1] at ed; cases ed
      | some p =>
        obtain ⟨y, st1⟩ := p
        rw [q1] at ed
        dsimp only at ed
        cases hcap : y.cap with
        | none => rw [hcap] at ed; cases ed
        | some d =>
          rw [hcap] at ed
          dsimp only at ed
          split at ed
          · rename_i hlen
            cases ed
            obtain ⟨v, hv, a, vs, ev, b1, b2, b3, b4⟩ := r.e.sl i _ hi
            subst ev
            refine ⟨.ref a, hv, .inl ⟨rfl, vs, SqL.of b1⟩, ?_⟩
            refine ⟨G, ph, env, st, y, st1, r.e, q1, fun v1 H1 G1 ph1 w1 s1 r1 f1 => ?_⟩
            obtain ⟨G2, w2, s2, hd2, up, sm⟩ := cap_ok s1 w1 r1 f1 hcap
            have hl1 : H1 a = some (.lst vs) := s1.fr a _ b1 b3
            have b5 : DvAll X.K G2 vs ds := DvAll.up s2.g ds vs b4
            refine ⟨a, vs, v1, rfl, rfl, hl1, by rw [b5.len]; exact hlen, ?_⟩
            exact k1 _ _ rfl _ _ G2 ph1 ((r.step s2 w2).mut hi hv (s2.Gnone b1 b2) (s2.notin b1 b3) (b5.app (.one hd2))) s2.g
          · cases ed
    · cases ed
theorem ok_ext {i : Nat} {e : Expr} {ee : Ex} {x : Str} {px apos cpos pos : Pos} (hv : PE X (.Name x px) (tVar i)) (he : PE X e (tE (kx X) (ee.den cf)))
    (h : PE X (.Call (.Attribute (.Name x px) "extend" apos) [e] [] cpos) (tBM X.K "list" rExtend (tVar i) (tCons (tE (kx X) (ee.den cf)) tNil)))
    (hs : swapsWith (.Call (.Attribute (.Name x px) "extend" apos) [e] [] cpos) none pos.line X.env = pure false) :
    PS X (.Expr (.Call (.Attribute (.Name x px) "extend" apos) [e] [] cpos) pos) (tS (kx X) H0 G0 ph0 kp W nv ((Stm.ext i ee).den cf)) :=
  psW (ps_expr h hs) fun D σ H ⟨G, ph, env, st, ot, r, ed, k1, k2⟩ => by
    simp only [Stm.den] at ed
    split at ed
    · rename_i ds hi
      split at ed
      · rename_i y st1 q1
        split at ed
        · rename_i es hvw
          split at ed
          · rename_i hlen
            cases ed
            obtain ⟨v, hv, a, vs, ev, b1, b2, b3, b4⟩ := r.e.sl i _ hi
            subst ev
            refine ⟨.ref a, hv, .inl ⟨rfl, vs, SqL.of b1⟩, ?_⟩
            refine ⟨G, ph, env, st, y, st1, r.e, q1, fun v1 H1 G1 ph1 w1 s1 r1 f1 => ?_⟩
            obtain ⟨b, us, eb, c1, c4⟩ := r1.viewL w1 hvw
            have hl1 : H1 a = some (.lst vs) := s1.fr a _ b1 b3
            have b5 : DvAll X.K G1 vs ds := DvAll.up s1.g ds vs b4
            subst eb
            refine ⟨a, b, vs, us, rfl, rfl, hl1, c1, by rw [b5.len, c4.len]; exact fits hlen, ?_⟩
            exact k1 _ _ rfl _ _ G1 ph1 ((r.step s1 w1).mut hi hv (s1.Gnone b1 b2) (s1.notin b1 b3) (b5.app c4)) s1.g
          · cases ed
        · cases ed
      · cases ed
    · cases ed
/-! ### x[i] = e on a list of one's own -/
theorem ok_setO {n : Nat} {x : Str} {px : Pos} {i e : Expr} {ei ee : Ex} {tpos pos : Pos} (he : PE X e (tE (kx X) (ee.den cf))) (ho : PE X (.Name x px) (tVar n)) (hi : PE X i (tE (kx X) (ei.den cf)))
    (ha : ∀ v, assign (.Subscript (.Name x px) i tpos) X.env v = (do
      let ov ← holding [v] (eval (.Name x px) X.env)
      let iv ← holding [v, ov] (eval i X.env)
      standAt tpos
      holding [v, ov, iv] (setItem ov iv v)
      release [v, ov, iv] []))
    (hs : swapsWithSole [.Subscript (.Name x px) i tpos] e pos.line X.env = pure false) (hw : swappedStores [.Subscript (.Name x px) i tpos] e X.env = pure none)
    (h1 : (assignEach [.Subscript (.Name x px) i tpos] X.env).map (·.2) = [assign (.Subscript (.Name x px) i tpos) X.env]) :
    PS X (.Assign [.Subscript (.Name x px) i tpos] e pos) (tS (kx X) H0 G0 ph0 kp W nv ((Stm.setO n ei ee).den cf)) :=
  psW (ps_asg he (pg_sub ho hi set_list ha) hs hw h1) fun D σ H ⟨G, ph, env, st, ot, r, ed, k1, k2⟩ => by
    simp only [Stm.den] at ed
    split at ed
    · rename_i ds hn
      split at ed
      · rename_i y st1 q1
        split at ed
        · rename_i q st2 q2
          split at ed
          · rename_i d j hcap hix
            cases ed
            obtain ⟨v, hv, a, vs, ev, b1, b2, b3, b4⟩ := r.e.sl n _ hn
            subst ev
            refine ⟨G, ph, env, st, y, st1, r.e, q1, fun v1 H1 G1 ph1 w1 s1 r1 f1 => ?_⟩
            obtain ⟨G2, w2, s2, hd2, up, sm⟩ := cap_ok s1 w1 r1 f1 hcap
            refine ⟨.ref a, hv, ?_⟩
            refine ⟨G2, ph1, env, st1, .dat (.int q), st2, r.e.step s2 w2, q2, fun v3 H3 G3 ph3 w3 s3 r3 f3 => ?_⟩
            cases (show Dv X.K G3 v3 (.int q) from r3)
            have S := s2.trans s3
            have b5 : DvAll X.K G3 vs ds := DvAll.up S.g ds vs b4
            refine ⟨a, vs, q, j, rfl, rfl, S.fr a _ b1 b3, by rw [b5.len]; exact hix, ?_⟩
            exact k1 _ _ rfl _ _ G3 ph3 (((r.step s2 w2).step s3 w3).mut hn hv (S.Gnone b1 b2) (S.notin b1 b3) (b5.set j (Dv.up s3.g d _ hd2))) S.g
          · cases ed
        · cases ed
      · cases ed
    · cases ed
/-! ### while -/
theorem whlN_next {c : En → Bx → Option (Bool × Bx)} {b : En → Bx → Option Out} {m : Nat} {env : En} {st : Bx} {o : Out} (h : whlN c b m env st = some o) :
    ∃ d st1, c env st = some (d, st1) ∧ (d = false → o = .nx env st1) ∧ (d = true → ∃ m', m = m' + 1 ∧ ∃ o1, b env st1 = some o1 ∧
      (∀ r st2, o1 = .rt r st2 → o = .rt r st2) ∧ (∀ env2 st2, o1 = .nx env2 st2 → whlN c b m' env2 st2 = some o)) := by
  cases m with
  | zero => cases h
  | succ m =>
    unfold whlN at h
    cases q : c env st with
    | none => rw [q] at h; cases h
    | some p =>
      obtain ⟨d, st1⟩ := p
      rw [q] at h
      refine ⟨d, st1, rfl, fun e => ?_, fun e => ?_⟩
      · subst e; cases h; rfl
      · subst e
        dsimp only at h
        cases q2 : b env st1 with
        | none => rw [q2] at h; cases h
        | some o1 =>
          rw [q2] at h
          refine ⟨m, rfl, o1, rfl, fun r st2 e => ?_, fun env2 st2 e => ?_⟩
          · subst e; cases h; rfl
          · subst e; exact h
theorem whlD_some {c : En → Bx → Option (Bool × Bx)} {b : En → Bx → Option Out} {env : En} {st : Bx} {o : Out} (h : whlD c b env st = some o) : ∃ n, whlN c b n env st = some o := by
  unfold whlD at h
  split at h
  · exact ⟨_, h⟩
  · cases h
theorem ok_whl {c : Expr} {body : List Stmt} {t : Ts} {b : Stms} {pos : Pos} (hp : PassesOwn (model X.prog X.w) X.A X.env X.xe) (hc : PT X c (tT (kx X) (t.den cf))) (hb : PSs X body (tS (kx X) H0 G0 ph0 kp W nv (b.den cf))) : PS X (.While c body [] pos) (tS (kx X) H0 G0 ph0 kp W nv ((Stm.whl t b).den cf)) :=
  psW (ps_while hp hc hb) fun D σ H ⟨G, ph, env, st, o, r, ed, k1, k2⟩ => by
    simp only [Stm.den] at ed
    obtain ⟨n, hn⟩ := whlD_some ed
    let Gb := G
    refine ⟨fun m σ H => ∃ G ph env st, Rl (kx X) H0 G0 ph0 kp G H ph env st σ ∧ (∀ a u, Gb a = some u → G a = some u) ∧ whlN (t.den cf) (b.den cf) m env st = some o, ⟨n, G, ph, env, st, r, fun _ _ q => q, hn⟩, ?_⟩
    rintro m σ1 H1 ⟨G1, ph1, env1, st1, r1, up1, q1⟩
    obtain ⟨d, st2, qc, qf, qt⟩ := whlN_next q1
    refine ⟨G1, ph1, env1, st1, d, st2, r1.e, qc, fun H2 G2 ph2 w2 s2 => ?_⟩
    cases d with
    | false =>
      rw [if_neg (by decide)]
      exact k1 _ _ (qf rfl) _ _ G2 ph2 (r1.step s2 w2) fun a u q => s2.g a u (up1 a u q)
    | true =>
      rw [if_pos rfl]
      obtain ⟨m', em, o1, qb, qr, qn⟩ := qt rfl
      refine ⟨fun σ H => ∃ G ph env st, Rl (kx X) H0 G0 ph0 kp G H ph env st σ ∧ (∀ a u, Gb a = some u → G a = some u) ∧ whlN (t.den cf) (b.den cf) m' env st = some o, fun σ' H' z => ⟨m', by omega, z⟩, ?_⟩
      refine ⟨G2, ph2, env1, st2, o1, r1.step s2 w2, qb, fun env' st' e σ' H' G' ph' r' u' => ⟨G', ph', env', st', r', fun a u q => u' a u (s2.g a u (up1 a u q)), qn _ _ e⟩, fun r' st' e => k2 _ _ (qr _ _ e)⟩
/-! ### for -/
theorem ok_for {tg iter : Expr} {body : List Stmt} {t : Tg} {it : Itx} {b : Stms} {pos : Pos} (hk : ∀ p ∈ kp, p.1 ∉ t.idx) (hp : PassesOwn (model X.prog X.w) X.A X.env X.xe) (hc : X.calm = true) (hi : PI X tg iter (tI (kx X) false (it.den cf false))) (hg : PG X tg (gB X.K t)) (hb : PSs X body (tS (kx X) H0 G0 ph0 kp W nv (b.den cf)))
    (hs : ∀ x, foldedSetIterable iter X.env x = pure x) : PS X (.For tg iter body [] pos) (tS (kx X) H0 G0 ph0 kp W nv ((Stm.forr t it b).den cf)) :=
  psW (ps_for hp hc hi hg hb hs) fun D σ H ⟨G, ph, env, st, o, r, ed, k1, k2⟩ => by
    simp only [Stm.den] at ed
    cases q0 : it.den cf false env st with
    | none => rw [q0] at ed; cases ed
    | some p =>
      obtain ⟨items, st1⟩ := p
      rw [q0] at ed
      dsimp only at ed
      refine ⟨G, ph, env, st, items, st1, r.e, q0, fun J H1 G1 ph1 w1 s1 wk => ?_⟩
      obtain ⟨Gc, Y, walk, per, yl⟩ := wk
      generalize hstep : (fun d env st => (t.bind d env).bind fun env1 => b.den cf env1 st : PyData → En → Bx → Option Out) = step at ed
      refine for_it walk (fun i σi Hi => ∃ Gi phi envi sti, Rl (kx X) H0 G0 ph0 kp Gi Hi phi envi sti σi ∧ (∀ a u, G1 a = some u → Gi a = some u) ∧ forGo step (items.drop i) envi sti = some o) ?_ ?_ ?_ ?_
      · exact ⟨G1, ph1, env, st1, r.step s1 w1, fun _ _ h => h, ed⟩
      · rintro i σi Hi _ ⟨Gi, phi, envi, sti, ri, up, _⟩
        exact per Gi Hi phi ri.e.w.sub up
      · rintro i x σi Hi H3 hi ⟨Gi, phi, envi, sti, ri, up, go⟩ y3
        have hd : items[i]? = some items[i] := List.getElem?_eq_getElem hi
        rw [List.drop_eq_getElem_cons hi] at go
        unfold forGo at go
        obtain ⟨G3, w3, s3, hx⟩ := yl i x Hi H3 items[i] Gi phi sti hd ri.e.w up y3
        have r3 := ri.step s3 w3
        rw [← hstep] at go
        dsimp only at go
        cases qb : t.bind items[i] envi with
        | none => rw [qb] at go; cases go
        | some env1 =>
          rw [qb] at go
          simp only [Option.bind_some] at go
          refine ⟨G3, items[i], envi, env1, w3.sub, hx, qb, fun σ2 u2 => ?_⟩
          have r4 := r3.ud hk u2
          cases qd : b.den cf env1 sti with
          | none => rw [qd] at go; cases go
          | some o1 =>
            rw [qd] at go
            refine ⟨G3, phi, env1, sti, o1, r4, qd, fun env' st' e σ' H' G' ph' r' u' => ?_, fun r' st' e => ?_⟩
            · subst e
              dsimp only at go
              exact ⟨G', ph', env', st', r', fun a u q => u' a u (s3.g a u (up a u q)), by rw [← hstep]; exact go⟩
            · subst e
              dsimp only at go
              cases go
              exact k2 _ _ rfl
      · rintro σn Hn ⟨Gn, phn, envn, stn, rn, up, go⟩
        rw [List.drop_length] at go
        unfold forGo at go
        cases go
        exact k1 _ _ rfl _ _ Gn phn rn fun a u q => up a u (s1.g a u q)
/-! ### comprehensions as expressions -/
theorem ok_ifs0 : PTs X [] (tT (kx X) (Tso.no.den cf)) := ⟨fun pins s σ H Q I ⟨G, ph, env, st, b, st', E, e, k⟩ => by
  simp only [Tso.den] at e
  cases e
  exact pts_nil.run pins s σ H Q I (show Q true H from k H G ph E.w Stp.refl)⟩
theorem ok_ifs1 {a : Expr} {t : Ts} (h : PT X a (tT (kx X) (t.den cf))) : PTs X [a] (tT (kx X) ((Tso.yes t).den cf)) := ⟨fun pins s σ H Q I ⟨G, ph, env, st, b, st', E, e, k⟩ => by
  simp only [Tso.den] at e
  exact (pts_one h).run pins s σ H Q I ⟨G, ph, env, st, b, st', E, e, k⟩⟩
theorem ok_lc {elt tg iter : Expr} {ifs : List Expr} {scope : Scope} {own : List (Str × Nat)} {pos : Pos} {el : Ex} {t : Tg} {it : Itx} {cd : Tso} (hc : X.calm = true) (hN : X.N.Nodup) (hi : PI X tg iter (tI (kx X) true (it.den cf true))) (ok : BlkOk X.N X.env.scope scope own)
    (hix : ∀ i ∈ t.idx, i ∈ own.map (·.2))
    (hg : ∀ (s : Shared) (H : Hp) (C : Addr) (cl : List (Str × Addr)) (fp : List Addr), PG (X.blk s H scope (compEnvC scope cl C X.env) fp) tg (gB X.K t)) (ht : ∀ (s : Shared) (H : Hp) (C : Addr) (cl : List (Str × Addr)) (fp : List Addr), PTs (X.blk s H scope (compEnvC scope cl C X.env) fp) ifs (tT (kx X) (cd.den cf)))
    (he : ∀ (s : Shared) (H : Hp) (C : Addr) (cl : List (Str × Addr)) (fp : List Addr), PE (X.blk s H scope (compEnvC scope cl C X.env) fp) elt (tE (kx X) (el.den cf))) (hs : ∀ x, foldedSetIterable iter X.env x = pure x) :
    PE X (.ListComp elt [⟨tg, iter, ifs, 0⟩] scope pos) (tE (kx X) ((Ex.lc el t it cd (own.map (·.2))).den cf)) :=
  peW (pe_lc hc hN hi ok hg ht he hs) (lc_ok hix (fun _ _ _ _ h => h) (fun _ _ _ h => h) fun _ _ _ h => h)
theorem ok_setLc {i : Nat} {y : Str} {py : Pos} {elt tg iter : Expr} {ifs : List Expr} {scope : Scope} {own : List (Str × Nat)} {pos spos : Pos} {el : Ex} {t : Tg} {it : Itx} {cd : Tso} (hk : ∀ p ∈ kp, p.1 ≠ i) (hc : X.calm = true) (hN : X.N.Nodup) (hy : X.N[i]? = some y) (hyl : X.env.scope.names.lookup y = some .local)
    (hsw : swapsWith (.ListComp elt [⟨tg, iter, ifs, 0⟩] scope pos) (some (.Name y py)) spos.line X.env = pure true) (hi : PI X tg iter (tI (kx X) true (it.den cf true))) (ok : BlkOk X.N X.env.scope scope own)
    (hix : ∀ i ∈ t.idx, i ∈ own.map (·.2))
    (hg : ∀ (s : Shared) (H : Hp) (C : Addr) (cl : List (Str × Addr)) (fp : List Addr), PG (X.blk s H scope (compEnvC scope cl C X.env) fp) tg (gB X.K t)) (ht : ∀ (s : Shared) (H : Hp) (C : Addr) (cl : List (Str × Addr)) (fp : List Addr), PTs (X.blk s H scope (compEnvC scope cl C X.env) fp) ifs (tT (kx X) (cd.den cf)))
    (he : ∀ (s : Shared) (H : Hp) (C : Addr) (cl : List (Str × Addr)) (fp : List Addr), PE (X.blk s H scope (compEnvC scope cl C X.env) fp) elt (tE (kx X) (el.den cf))) (hs : ∀ x, foldedSetIterable iter X.env x = pure x) :
    PS X (.Assign [.Name y py] (.ListComp elt [⟨tg, iter, ifs, 0⟩] scope pos) spos) (tS (kx X) H0 G0 ph0 kp W nv ((Stm.asg i (.lc el t it cd (own.map (·.2)))).den cf)) :=
  psW (ps_setLc hc hN hy hyl hsw hi ok hg ht he hs) (asgW hk (lc_ok hix (fun _ _ _ _ h => h) (fun _ _ _ h => h) fun _ _ _ h => h))
end
end Sy

namespace Sy
open PySem PySem.Spec PyProof.Rows L2
section
variable {X : Cx} {cf : Cf}
/-! ### dicts that are only handed on -/
theorem new_dct {G H Hb : Hp} {ph ph0 : List Addr} {G0 : Hp} {K : Kx} {st : Bx} {p : Addr} (l : List (Key × Int)) (w : Wd K G H ph st) (s : Stp G0 Hb ph0 G H ph) (hp : H p = none) :
    Wd K (upd G p (.dK (kvV l))) (upd H p (.dK (kvV l))) ph st ∧ Stp G0 Hb ph0 (upd G p (.dK (kvV l))) (upd H p (.dK (kvV l))) ph ∧ Rs K (upd G p (.dK (kvV l))) (upd H p (.dK (kvV l))) ph (.dat (.dict (kvD l))) (.ref p) :=
  ⟨w.newG hp, s.trans (Stp.newG w hp), .dct l upd_same⟩
theorem ok_dct0 {pos : Pos} : PE X (.Dict [] [] pos) (tE (kx X) ((Ex.dct []).den cf)) := peW pe_dnewK fun σ H Q ⟨G, ph, env, st, r, st', E, e, k⟩ => by
  simp only [Ex.den] at e
  cases e
  intro p hp
  obtain ⟨a1, a2, a3⟩ := new_dct [] E.w Stp.refl hp
  exact k _ _ _ _ a1 a2 a3 trivial
theorem ok_dct1 {x : String} {i : Int} {j j2 p1 p2 pos} : PE X (.Dict [some (.Constant (.str (Str.ofString x)) j p1)] [.Constant (.int i) j2 p2] pos) (tE (kx X) ((Ex.dct [(x, i)]).den cf)) :=
  peW (pe_disp (pps_cons pe_str pe_int pps_nil) rfl rfl (by simp) (by simp)) fun σ H Q ⟨G, ph, env, st, r, st', E, e, k⟩ => by
    simp only [Ex.den] at e
    cases e
    intro p hp
    refine ⟨upd_same, [(.inr (Str.ofString x), .int i)], rfl, by simp, ?_⟩
    rw [upd_upd]
    obtain ⟨a1, a2, a3⟩ := new_dct [(.inr (Str.ofString x), i)] E.w Stp.refl hp
    exact k _ _ _ _ a1 a2 a3 trivial
/-! ### isinstance of an exception -/
def rIsX (K : PySem.W.Frag) (uv : Value) : List V → Hp → VK → Prop := fun vs H Q => ∃ (a : Addr) (c : V) (oe : Obj) (t : HO) (C : Addr) (ws : Array Value) (b : Bool), vs = [.ref a, c] ∧ (∀ u, RelV c u → u = uv) ∧ H a = some (.frz oe t) ∧
  oe.cls = .ref C ∧ oe.dict = none ∧ oe.data = .fields ws ∧ ExcC K C ∧ PySem.W.kitOne K (.ref C) uv = some b ∧ Q (.bl b) H
theorem cr_isX {uv : Value} : CallR X (.builtin "isinstance") (rIsX X.K uv) := by
  intro pins s σ H vs us Q I r h
  obtain ⟨a, c, oe, t, C, ws, b, rfl, hcv, hH, z1, z2, z3, F, e, q⟩ := h
  cases r with
  | cons rx rr =>
    cases rr with
    | cons rt rr =>
      cases rr
      cases rx
      have ec := hcv _ rt
      subst ec
      obtain ⟨hget, _⟩ := I.hok a _ hH
      have J : PySem.W.InstAt s.heap a oe C none := by
        obtain ⟨oc, od, oda, osl⟩ := oe
        dsimp only at z1 z2 z3
        subst z1 z2 z3
        exact ⟨hget, rfl, rfl, trivial⟩
      exact PySem.W.kia_one (PySem.W.handS_kitx_exc F.hg F.hk F.hs F.hd F.ha F.hn F.ht F.hm) I.kIn J e (fun z => nomatch z) fun tk => ⟨.bl b, H, I.kept (t' := tk) fun _ _ z => z, rfl, q⟩
theorem ok_isx {a : Expr} {ea : Ex} {T : String} {xs : List String} {tv : V} {uv : Value} {p p2 pos : Pos} (gi : Gl X "isinstance") (mi : X.mg "isinstance" = none) (ha : PE X a (tE (kx X) (ea.den cf))) (ht : PE X (.Name (Str.ofString T) p2) (tC tv)) (rv : ∀ u, RelV tv u → u = uv)
    (hx : ∀ c ∈ xs, ∀ C, ClsOf X.K c C → ExcC X.K C ∧ PySem.W.kitOne X.K (.ref C) uv = some (subX c T)) (hs : starEach [a, .Name (Str.ofString T) p2] X.env = (false, eval a X.env) :: starEach [.Name (Str.ofString T) p2] X.env) :
    PE X (.Call (.Name "isinstance" p) [a, .Name (Str.ofString T) p2] [] pos) (tE (kx X) ((Ex.isx ea T xs).den cf)) := by
  refine peW (pe_callB (cr_isX (uv := uv)) gi mi PyProof.Rows.boot_isinstance (pa_cons ha (pa_cons ht pa_nil) hs) (he := hs)) fun σ H Q ⟨G, ph, env, st, r, st', E, e, k⟩ => ?_
  simp only [Ex.den] at e
  split at e
  · rename_i c st1 e1
    split at e
    · rename_i hc
      cases e
      refine ⟨G, ph, env, st, _, _, E, e1, fun v H1 G1 ph1 w1 s1 r1 f1 => ?_⟩
      obtain ⟨a', oe, t, C, ws, rfl, h1, h2, h3, h4, h5, h6⟩ := (show IsEx (kx X) G1 c v from r1)
      obtain ⟨F, q⟩ := hx c hc C h3
      exact ⟨a', tv, oe, t, C, ws, subX c T, rfl, rv, w1.sub _ _ h2, h4, h5, h6, F, q, k _ H1 G1 ph1 w1 s1 (.bl _) trivial⟩
    · cases e
  · cases e
/-! ### list(range(..)) -/
theorem rgV_dv {K : PySem.W.Frag} {G : Hp} (a b : Int) : DvAll K G (rgV a b) (rngItems a (b - a).toNat) := by
  unfold rgV rngItems
  generalize List.range (b - a).toNat = l
  induction l with
  | nil => exact .nil
  | cons x l ih => exact .cons (.int _) ih
theorem lrg_den {es : Exs} {env : En} {st : Bx} {r : R} {st' : Bx} (h : (Ex.lrg es).den cf env st = some (r, st')) :
    ∃ rs l ds items, es.den cf env st = some (rs, st') ∧ views rs = some ds ∧ intsOf ds = some l ∧ rngD l = some items ∧ items.length ≤ 2 ^ 24 ∧ r = .own items := by
  simp only [Ex.den] at h
  split at h
  · rename_i rs st1 e1
    cases hv : views rs with
    | none => rw [hv] at h; cases h
    | some ds =>
      rw [hv] at h
      simp only [Option.bind_some] at h
      cases hi : intsOf ds with
      | none => rw [hi] at h; cases h
      | some l =>
        rw [hi] at h
        simp only [Option.bind_some] at h
        cases hr : rngD l with
        | none => rw [hr] at h; cases h
        | some its =>
          rw [hr] at h
          simp only [Option.bind_some] at h
          split at h
          · rename_i hl
            cases h
            exact ⟨rs, l, ds, its, e1, hv, hi, hr, hl, rfl⟩
          · cases h
  · cases h
theorem ok_lrg1 {a : Expr} {ea : Ex} {p p2 pos2 pos : Pos} (hc : X.calm = true) (gl : Gl X "list") (ml : X.mg "list" = none) (gr : Gl X "range") (mr : X.mg "range" = none) (ha : PE X a (tE (kx X) (ea.den cf))) (na : starEach [a] X.env = (false, eval a X.env) :: starEach [] X.env) :
    PE X (.Call (.Name "list" p) [.Call (.Name "range" p2) [a] [] pos2] [] pos) (tE (kx X) ((Ex.lrg (.cons ea .nil)).den cf)) :=
  peW (pe_listRg hc gl ml (prg_1 gr mr ha na)) fun σ H Q ⟨G, ph, env, st, r, st', E, e, k⟩ => by
    obtain ⟨rs, l, ds, items, e1, hv, hi, hr, hl, rfl⟩ := lrg_den e
    simp only [Exs.den] at e1
    split at e1
    · rename_i x st1 ex
      cases e1
      refine ⟨G, ph, env, st, x, _, E, ex, fun v H1 G1 ph1 w1 s1 r1 f1 => ?_⟩
      have hd := (views_ok w1 (rs := [x]) (vs := [v]) ⟨r1, trivial⟩ hv).ints hi
      match l, hd with
      | [n], hd =>
        cases hd
        have hr' : (if rngOk n = true then some (rngItems 0 n.toNat) else none) = some items := hr
        split at hr'
        · rename_i c
          cases hr'
          have c' := rngOk_ok c
          rw [rngItems_len] at hl
          refine ⟨n, rfl, ⟨by omega, by omega, c'.1, c'.2, by rw [Int.sub_zero]; exact hl⟩, fun p hp => ?_⟩
          have hd := rgV_dv (K := X.K) (G := G1) 0 n
          rw [Int.sub_zero] at hd
          obtain ⟨a1, a2, a3, a4⟩ := new_own w1 s1 hd hp
          exact k _ _ _ _ a1 a2 a3 a4
        · cases hr'
    · cases e1
theorem ok_lrg2 {a b : Expr} {ea eb : Ex} {p p2 pos2 pos : Pos} (hc : X.calm = true) (gl : Gl X "list") (ml : X.mg "list" = none) (gr : Gl X "range") (mr : X.mg "range" = none) (ha : PE X a (tE (kx X) (ea.den cf))) (hb : PE X b (tE (kx X) (eb.den cf)))
    (na : starEach [a, b] X.env = (false, eval a X.env) :: starEach [b] X.env) (nb : starEach [b] X.env = (false, eval b X.env) :: starEach [] X.env) (hp : (backTo pos2 (starEach [b] X.env)).any (·.1) = false) :
    PE X (.Call (.Name "list" p) [.Call (.Name "range" p2) [a, b] [] pos2] [] pos) (tE (kx X) ((Ex.lrg (.cons ea (.cons eb .nil))).den cf)) :=
  peW (pe_listRg hc gl ml (prg_2 gr mr ha hb na nb hp)) fun σ H Q ⟨G, ph, env, st, r, st', E, e, k⟩ => by
    obtain ⟨rs, l, ds, items, e1, hv, hi, hr, hl, rfl⟩ := lrg_den e
    simp only [Exs.den] at e1
    split at e1
    · rename_i x st1 ex
      split at e1
      · rename_i ys st2 ey
        cases e1
        split at ey
        · rename_i y st3 ey2
          cases ey
          refine ⟨G, ph, env, st, x, st1, E, ex, fun v H1 G1 ph1 w1 s1 r1 f1 => ?_⟩
          refine ⟨G1, ph1, env, st1, y, _, E.step s1 w1, ey2, fun u H2 G2 ph2 w2 s2 r2 f2 => ?_⟩
          have hd := (views_ok w2 (rs := [x, y]) (vs := [v, u]) ⟨r1.step s2, r2, trivial⟩ hv).ints hi
          match l, hd with
          | [m, n], hd =>
            cases hd
            have hr' : (if (rngOk m && rngOk n) = true then some (rngItems m (n - m).toNat) else none) = some items := hr
            split at hr'
            · rename_i c
              cases hr'
              have c1 := rngOk_ok (Bool.and_eq_true_iff.mp c).1
              have c2 := rngOk_ok (Bool.and_eq_true_iff.mp c).2
              rw [rngItems_len] at hl
              refine ⟨m, n, rfl, rfl, ⟨c1.1, c1.2, c2.1, c2.2, hl⟩, fun p hp => ?_⟩
              obtain ⟨a1, a2, a3, a4⟩ := new_own w2 (s1.trans s2) (rgV_dv m n) hp
              exact k _ _ _ _ a1 a2 a3 a4
            · cases hr'
        · cases ey
      · cases e1
    · cases e1
/-! ### methods -/
def mthName : Mth → String
  | .count => "count" | .index => "index" | .split => "split" | .join => "join"
def mthTy : Mth → String
  | .count => "list" | .index => "list" | .split => "str" | .join => "str"
theorem dv_dp {K : PySem.W.Frag} {H : Hp} : ∀ {v : V} {d : PyData}, Dv K H v d → True := fun _ => trivial
theorem mth_den {m : Mth} {eo ea : Ex} {env : En} {st : Bx} {r : R} {st' : Bx} (h : (Ex.mth m eo ea).den cf env st = some (r, st')) :
    ∃ x st1 y d e, eo.den cf env st = some (x, st1) ∧ ea.den cf env st1 = some (y, st') ∧ x.view = some d ∧ y.view = some e ∧ mthD m d e = some r := by
  simp only [Ex.den] at h
  split at h
  · rename_i x st1 e1
    split at h
    · rename_i y st2 e2
      split at h
      · rename_i d d2 v1 v2
        cases hr : mthD m d d2 with
        | none => rw [hr] at h; cases h
        | some c =>
          rw [hr] at h
          cases h
          exact ⟨x, st1, y, d, d2, e1, e2, v1, v2, hr⟩
      · cases h
    · cases h
  · cases h
theorem join_get {K : PySem.W.Frag} {H : Hp} : ∀ {ds : List PyData} {vs : List V} {l : List Str}, DvAll K H vs ds → strsOf ds = some l → vs = l.map V.str
  | [], _, _, .nil, e => by
    cases (show some [] = some _ from e)
    rfl
  | .str i :: r, _, l, .cons h t, e => by
    cases h
    cases q : strsOf r with
    | none => rw [strsOf, q] at e; cases e
    | some m =>
      rw [strsOf, q] at e
      cases e
      rw [join_get t q]
      rfl
  | .none :: _, _, _, .cons _ _, e => by cases e
  | .bool _ :: _, _, _, .cons _ _, e => by cases e
  | .int _ :: _, _, _, .cons _ _, e => by cases e
  | .list _ :: _, _, _, .cons _ _, e => by cases e
  | .tuple _ :: _, _, _, .cons _ _, e => by cases e
  | .dict _ :: _, _, _, .cons _ _, e => by cases e
theorem strs_dv {K : PySem.W.Frag} {G : Hp} (l : List Str) : DvAll K G (l.map V.str) (l.map PyData.str) := by
  induction l with
  | nil => exact .nil
  | cons x l ih => exact .cons (.str _) ih
/-- o.m(e): by values -/
def rMth (K : Kx) (m : Mth) : V → List V → Hp → VK → Prop := fun x xs H Q => ∃ (y : V) (G : Hp) (ph : List Addr) (st : Bx) (ro ra r : R) (d e : PyData) (G0 H0 : Hp) (ph0 : List Addr), xs = [y] ∧ Wd K G H ph st ∧ Stp G0 H0 ph0 G H ph ∧ Rs K G H ph ro x ∧ Rs K G H ph ra y ∧ ro.view = some d ∧ ra.view = some e ∧ mthD m d e = some r ∧
  ∀ v H' G' ph', Wd K G' H' ph' st → Stp G0 H0 ph0 G' H' ph' → Rs K G' H' ph' r v → FrO H0 r v → Q v H'
theorem mthW {m : Mth} {eo ea : Ex} : ∀ σ H Q, tE (kx X) ((Ex.mth m eo ea).den cf) σ H Q → tBM X.K (mthTy m) (rMth (kx X) m) (tE (kx X) (eo.den cf)) (tCons (tE (kx X) (ea.den cf)) tNil) σ H Q := fun σ H Q ⟨G, ph, env, st, r, st', E, e, k⟩ => by
  obtain ⟨x, st1, y, d, d2, e1, e2, v1, v2, hr⟩ := mth_den e
  refine ⟨G, ph, env, st, x, st1, E, e1, fun v H1 G1 ph1 w1 s1 r1 f1 => ⟨?_, ?_⟩⟩
  · cases m with
    | count =>
      cases d with
      | list ds => obtain ⟨a, vs, rfl, h1, h2⟩ := Rs.viewL w1 r1 v1; exact .inl ⟨rfl, vs, SqL.of h1⟩
      | _ => cases hr
    | index =>
      cases d with
      | list ds => obtain ⟨a, vs, rfl, h1, h2⟩ := Rs.viewL w1 r1 v1; exact .inl ⟨rfl, vs, SqL.of h1⟩
      | _ => cases hr
    | split =>
      cases d with
      | str z => cases Rs.view w1 r1 v1; rfl
      | _ => cases hr
    | join =>
      cases d with
      | str z => cases Rs.view w1 r1 v1; rfl
      | _ => cases hr
  · refine ⟨G1, ph1, env, st1, y, st', E.step s1 w1, e2, fun u H2 G2 ph2 w2 s2 r2 f2 => ?_⟩
    exact ⟨u, G2, ph2, st', x, y, r, d, d2, G, H, ph, rfl, w2, s1.trans s2, r1.step s2, r2, v1, v2, hr, k⟩
theorem eqAts {pins : List (Addr × Obj)} {σ : L2.St} {H : Hp} {s : Shared} (I : Inv X pins σ H s) {ds : List PyData} {xs : List V} {its : List Value} {y : V} {u : Value} {e : PyData} (hu : X.A.units + 65 < cLine) (hd : DvAll X.K H xs ds) (rv : Vals xs its) (he : Dv X.K H y e) (ru : RelV y u)
    (h1 : SeqAt.shaped e = true) (h2 : SeqAt.shaped (.list ds) = true) : (∀ z, z ∈ its.toArray → SeqAt.EqAt X.A.in1 s z u (PyData.eqv (SeqAt.readOf s.heap z) e)) ∧ its.map (SeqAt.readOf s.heap) = ds := by
  obtain ⟨as, r1⟩ := DvAll.reads I ds xs its hd rv
  obtain ⟨bs, r2⟩ := Dv.reads I e y u he ru
  exact ⟨SeqAt.items_eqAt (vs := its.toArray) (show ReadsAll s.heap its.toArray.toList ds as from r1) r2 (SeqAt.canLay_of_shaped h2) (SeqAt.canLay_of_shaped h1) (room_in_shaped h1 hu), SeqAt.readsAll_map ds its as (SeqAt.canLay_of_shaped h2) r1⟩
theorem mt_mth (m : Mth) (hu : X.A.units + 65 < cLine) : MtR X (mthTy m ++ "." ++ mthName m) (rMth (kx X) m) := by
  intro pins s σ H x xs v us Q I rx rxs ⟨y, G, ph, st, ro, ra, r, d, e, G0, H0, ph0, e0, w, S, hro, hra, v1, v2, hr, k⟩
  subst e0
  obtain ⟨u, rfl, ru⟩ := vals1 rxs
  cases m with
  | count =>
    cases d with
    | list ds =>
      obtain ⟨a, vs, rfl, h1, h2⟩ := Rs.viewL w hro v1
      cases rx
      unfold mthD at hr
      dsimp only at hr
      split at hr
      · rename_i hok
        cases hr
        rw [Bool.and_eq_true] at hok
        obtain ⟨its, rv, ⟨⟨cls, dd, data, sls⟩, n, ho, hc, hdn, hdt⟩, hlen⟩ := I.list (SqL.of h1)
        simp only at hc hdt
        subst hc hdt
        obtain ⟨q1, q2⟩ := eqAts I hu (DvAll.up w.sub ds vs h2) rv (Rs.view w hra v2) ru hok.1 hok.2
        refine call_meets PySem.F.slot_list_count ⟨_, ho, rfl⟩ PySem.F.entry_list_count (PySem.F.args_list_count_2 _ _) (SeqAt.list_countAt a its.toArray n dd sls u (fun z => PyData.eqv (SeqAt.readOf s.heap z) e)) ⟨ho, q1, ?_⟩
        refine ⟨.int _, H, I.tok _, ⟨_, rfl⟩, ?_⟩
        have ec : its.toArray.toList.countP (fun z => PyData.eqv (SeqAt.readOf s.heap z) e) = ds.countP fun z => PyData.eqv z e := by
          rw [← q2, List.countP_map]
          rfl
        rw [ec]
        exact k _ H G ph w S (.int _) trivial
      · cases hr
    | _ => cases hr
  | index =>
    cases d with
    | list ds =>
      obtain ⟨a, vs, rfl, h1, h2⟩ := Rs.viewL w hro v1
      cases rx
      unfold mthD at hr
      dsimp only at hr
      split at hr
      · rename_i hok
        rw [Bool.and_eq_true] at hok
        cases hf : ds.findIdx? (fun z => PyData.eqv z e) with
        | none => rw [hf] at hr; cases hr
        | some j =>
          rw [hf] at hr
          cases hr
          obtain ⟨its, rv, ⟨⟨cls, dd, data, sls⟩, n, ho, hc, hdn, hdt⟩, hlen⟩ := I.list (SqL.of h1)
          simp only at hc hdt
          subst hc hdt
          obtain ⟨q1, q2⟩ := eqAts I hu (DvAll.up w.sub ds vs h2) rv (Rs.view w hra v2) ru hok.1 hok.2
          rw [List.findIdx?_eq_some_iff_getElem] at hf
          obtain ⟨hj, hjt, hjm⟩ := hf
          have hlen2 : its.length = ds.length := by rw [← q2, List.length_map]
          have at_ : ∀ (m : Nat) (hm : m < its.toArray.size) (hm2 : m < ds.length), SeqAt.readOf s.heap its.toArray[m] = ds[m] := fun m hm hm2 => by
            have q3 : (its.map (SeqAt.readOf s.heap))[m]'(by rw [q2]; exact hm2) = ds[m] := by simp only [q2]
            rw [List.getElem_map] at q3
            simpa using q3
          have hjs : j < its.toArray.size := by simpa [hlen2] using hj
          have sl := sizeLine_eq
          have hvl := rv.length
          refine call_meets PySem.F.slot_list_index ⟨_, ho, rfl⟩ PySem.F.entry_list_index (PySem.F.args_list_index_2 _ _)
            (SeqAt.list_indexAt a its.toArray n dd sls u (fun z => PyData.eqv (SeqAt.readOf s.heap z) e) j hjs (by have := hjs; simp at this; omega) ?_ ?_) ⟨ho, q1, ?_⟩
          · show PyData.eqv (SeqAt.readOf s.heap its.toArray[j]) e = true
            rw [at_ j hjs hj]; exact hjt
          · intro m hm1 hm
            have hm2 : m < ds.length := Nat.lt_trans hm hj
            show PyData.eqv (SeqAt.readOf s.heap its.toArray[m]) e = false
            rw [at_ m hm1 hm2]
            simpa using hjm m hm
          · exact ⟨.int _, H, I.tok _, ⟨_, rfl⟩, k _ H G ph w S (.int _) trivial⟩
      · cases hr
    | _ => cases hr
  | split =>
    cases d with
    | str z =>
      cases e with
      | str z2 =>
        unfold mthD at hr
        dsimp only at hr
        split at hr
        · rename_i hok
          cases hr
          cases Rs.view w hro v1
          cases Rs.view w hra v2
          refine mt_split pins s σ H _ _ _ _ Q I rx rxs ⟨z, z2, rfl, rfl, hok.1, hok.2, fun p hp => ?_⟩
          obtain ⟨a1, a2, a3, a4⟩ := new_own w S (strs_dv (Txt.split z z2)) hp
          exact k _ _ _ _ a1 a2 a3 a4
        · cases hr
      | _ => cases hr
    | _ => cases hr
  | join =>
    cases d with
    | str z =>
      cases e with
      | list ds =>
        unfold mthD at hr
        dsimp only at hr
        cases hs : strsOf ds with
        | none => rw [hs] at hr; cases hr
        | some ys =>
          rw [hs] at hr
          simp only [Option.bind_some] at hr
          split at hr
          · rename_i hok
            cases hr
            cases Rs.view w hro v1
            obtain ⟨a, vs, rfl, h1, h2⟩ := Rs.viewL w hra v2
            refine mt_join pins s σ H _ _ _ _ Q I rx rxs ⟨z, a, ys, rfl, rfl, .inl ?_, hok, k _ H G ph w S (.str _) trivial⟩
            rw [← join_get h2 hs]; exact SqL.of h1
          · cases hr
      | _ => cases hr
    | _ => cases hr
theorem ok_mth {o a : Expr} {eo ea : Ex} {apos cpos : Pos} (m : Mth) (hu : X.A.units + 65 < cLine) (ho : PE X o (tE (kx X) (eo.den cf))) (ha : PE X a (tE (kx X) (ea.den cf))) (hb : attributeBase o (Str.ofString (mthName m)) X.env (eval o X.env) = eval o X.env) (hl : (apos.endLine == cpos.line) = true) (hn : starEach [a] X.env = (false, eval a X.env) :: starEach [] X.env) :
    PE X (.Call (.Attribute o (Str.ofString (mthName m)) apos) [a] [] cpos) (tE (kx X) ((Ex.mth m eo ea).den cf)) := by
  have few : ((backTo cpos (starEach [a] X.env)).all (fun x => !x.1) && (backToKw cpos (keywordEach [] X.env)).all (fun x => x.1.isSome) && decide (([a] : List Expr).length + ([] : List Keyword).length + (if ([] : List Keyword).isEmpty then 0 else 1) < 30)) = true := by
    rw [hn]; rfl
  have q := mt_mth (X := X) m hu
  cases m with
  | count => exact peW (pe_bm PySem.F.plainAttrs_list PySem.F.slot_list_count PySem.F.type_list_count q ho (pa_cons ha pa_nil hn) hb few hl hn rfl) mthW
  | index => exact peW (pe_bm PySem.F.plainAttrs_list PySem.F.slot_list_index PySem.F.type_list_index q ho (pa_cons ha pa_nil hn) hb few hl hn rfl) mthW
  | split => exact peW (pe_bm PySem.F.plainAttrs_str PySem.F.slot_str_split PySem.F.type_str_split q ho (pa_cons ha pa_nil hn) hb few hl hn rfl) mthW
  | join => exact peW (pe_bm PySem.F.plainAttrs_str PySem.F.slot_str_join PySem.F.type_str_join q ho (pa_cons ha pa_nil hn) hb few hl hn rfl) mthW
/-! ### a or b as a value -/
theorem ok_or1E {b : Expr} {eb : Ex} {pos : Pos} (hb : PE X b (tE (kx X) (eb.den cf))) : PE X (.BoolOp .Or [b] pos) (tE (kx X) (eb.den cf)) := pe_one hb
theorem truth_of {K : PySem.W.Frag} {H : Hp} {v : V} {d : PyData} {b : Bool} (h : Dv K H v d) (e : truthD d = some b) : TruV K v H b := by
  cases h with
  | str x =>
    unfold truthD at e
    dsimp only at e
    split at e
    · rename_i hl
      cases e
      refine ⟨hl, ?_⟩
      by_cases z : x.length = 0
      · simp [z]
      · rw [decide_eq_true z]
        symm
        rw [bne_iff_ne]
        omega
    · cases e
  | @lst a xs ds h1 h2 =>
    cases e
    refine .inl ⟨xs, SqL.of h1, ?_⟩
    cases h2 <;> simp
  | @tup a xs ds h1 h2 =>
    cases e
    refine .inr (.inl ⟨xs, h1, ?_⟩)
    cases h2 <;> simp
  | _ => cases e
theorem ok_orv {a b : Expr} {ea eb : Ex} {pos : Pos} (ha : PE X a (tE (kx X) (ea.den cf))) (hb : PE X b (tE (kx X) (eb.den cf))) : PE X (.BoolOp .Or [a, b] pos) (tE (kx X) ((Ex.orv ea eb).den cf)) :=
  peW (pe_orT ha (pe_one hb)) fun σ H Q ⟨G, ph, env, st, r, st', E, e, k⟩ => by
    simp only [Ex.den] at e
    split at e
    · rename_i x st1 e1
      refine ⟨G, ph, env, st, x, st1, E, e1, fun v H1 G1 ph1 w1 s1 r1 f1 => ?_⟩
      cases hv : x.view with
      | none => rw [hv] at e; cases e
      | some d =>
        rw [hv] at e
        simp only [Option.bind_some] at e
        cases ht : truthD d with
        | none => rw [ht] at e; cases e
        | some c =>
          rw [ht] at e
          refine ⟨c, truth_of (Rs.view w1 r1 hv) ht, ?_⟩
          cases c with
          | true =>
            cases e
            exact iteP (k v H1 G1 ph1 w1 s1 r1 f1)
          | false =>
            dsimp only at e
            exact iteN ⟨G1, ph1, env, st1, r, st', E.step s1 w1, e, fun u H2 G2 ph2 w2 s2 r2 f2 => k u H2 G2 ph2 w2 (s1.trans s2) r2 (f2.before s1)⟩
    · cases e
end
end Sy

namespace Sy
open PySem PySem.Spec PyProof.Rows L2
/-! ### [.. for x in range(n) if ..] where an exception is being handled -/
/-- the handled one stands in H, its context None -/
def HotF (A : Around) (H : Hp) : Prop := ∃ (x : Addr) (oe : Obj) (t : HO) (ws : Array Value), A.handled = some (.ref x) ∧ H x = some (.frz oe t) ∧ oe.data = .fields ws ∧ ws[2]? = some .none
theorem HotF.at_ {X : Cx} {pins : List (Addr × Obj)} {σ : L2.St} {H : Hp} {s : Shared} (h : HotF X.A H) (I : Inv X pins σ H s) : ∃ x, HotX.HotAt X.A x s.heap := by
  obtain ⟨x, oe, t, ws, h1, h2, h3, h4⟩ := h
  exact ⟨x, h1, oe, ws, (I.hok x _ h2).1, h3, h4⟩
def tLcH (A : Around) (ta : TA) (g : TG) (tt : TT) (te : TE) (vs : List Nat) : TE := fun σ H Q => ta σ H fun zs H1 => ∃ n : Int, zs = [.int n] ∧ -(2 ^ 62) ≤ n ∧ n < 2 ^ 62 ∧
  ∀ D, H1 D = none → ∃ W : Nat → Hp → Prop, W 0 (upd H1 D (.lst [])) ∧ ∀ i H, W i H → HotF A H ∧ ((n.toNat ≤ i ∧ Q (.ref D) H) ∨ (i < n.toNat ∧
    g (.int i) (wipe σ vs) H fun σ2 H2 => wipe σ2 vs = wipe σ vs ∧ tt σ2 H2 fun b H3 =>
      if b = true then te σ2 H3 fun y H4 => ∃ acc, H4 D = some (.lst acc) ∧ acc.length < sizeLine ∧ W (i + 1) (upd H4 D (.lst (acc ++ [y]))) else W (i + 1) H3))
section
variable {X : Cx}
/-- range(n), walked -/
def RgIt (X : Cx) (pins : List (Addr × Obj)) (σ : L2.St) (R : Int → Hp → Prop) (itv : Value) (s2 : Shared) : Prop :=
  ∃ (it : Addr) (H2 : Hp) (n : Int), itv = .ref it ∧ Inv X pins σ H2 s2 ∧ IsRangeIter s2.heap it 0 (n.toNat : Int) 1 ∧ FpOk X pins H2 it ∧ R n H2
theorem rg_it {a : Expr} {rp rpos : Pos} {ta : TA} {pins : List (Addr × Obj)} {s : Shared} {σ : L2.St} {H : Hp} {R : Int → Hp → Prop} (gr : Gl X "range") (mr : X.mg "range" = none) (ha : PA X [a] ta) (hsa : starEach [a] X.env = [(false, eval a X.env)]) (I : Inv X pins σ H s)
    (h : ta σ H fun zs H1 => ∃ n : Int, zs = [.int n] ∧ -(2 ^ 62) ≤ n ∧ n < 2 ^ 62 ∧ R n H1) :
    wpAny (model X.prog X.w) X.A (eval (.Call (.Name "range" rp) [a] [] rpos) X.env) (fun v s1 => wpAny (model X.prog X.w) X.A (pyIter v) (RgIt X pins σ R) X.xe s1) X.xe s := by
  refine Call_ (ld_blt I gr mr PyProof.Rows.boot_range (PyProof.Rows.callWith_type1 (thn (ha.run rpos pins s σ H _ I h) fun us s1 ⟨zs, H1, I1, r1, n, ezs, n1, n2, q⟩ => ?_) hsa rfl))
  subst ezs
  cases r1 with
  | cons ru rr =>
    cases rr
    obtain ⟨tk, rfl⟩ := ru
    refine call_range_1 ?_
    refine wpAny_pyIter_range (IsRange.new ..) (small_one (by omega) (by omega) n1 n2) ?_
    have J1 : Inv X pins σ H1 { s1 with heap := s1.heap.push { cls := .type "range", data := .fields #[.int 0 s1.toks, .int n tk, .int 1 (s1.toks + 1)] }, toks := s1.toks + 1 + 1 } := I1.kept fun b o z => Heap.get?_push_of_some _ z
    have rsz : Builtin.Range.rangeSize 0 n 1 = (n.toNat : Int) := by
      rw [rangeSize_one]
      split <;> omega
    refine ⟨_, H1, n, rfl, J1.kept (t' := s1.toks + 1 + 1) fun b o z => Heap.get?_push_of_some _ z, ?_, J1.fpOk (Nat.le_refl _) (J1.hok.fresh (Nat.le_refl _)), q⟩
    rw [← rsz]
    exact Heap.get?_push_size _ rfl
theorem lc_hot {elt tg a : Expr} {ifs : List Expr} {scope : Scope} {own : List (Str × Nat)} {rp rpos pos : Pos} {ta : TA} {g : TG} {tt : TT} {te : TE} (hN : X.N.Nodup) (gr : Gl X "range") (mr : X.mg "range" = none) (ha : PA X [a] ta) (hsa : starEach [a] X.env = [(false, eval a X.env)])
    (ok : BlkOk X.N X.env.scope scope own) (hg : ∀ (s : Shared) (H : Hp) (C : Addr) (cl : List (Str × Addr)) (fp : List Addr), PG (X.blk s H scope (compEnvC scope cl C X.env) fp) tg g)
    (ht : ∀ (s : Shared) (H : Hp) (C : Addr) (cl : List (Str × Addr)) (fp : List Addr), PTs (X.blk s H scope (compEnvC scope cl C X.env) fp) ifs tt) (he : ∀ (s : Shared) (H : Hp) (C : Addr) (cl : List (Str × Addr)) (fp : List Addr), PE (X.blk s H scope (compEnvC scope cl C X.env) fp) elt te) :
    PE X (.ListComp elt [⟨tg, .Call (.Name "range" rp) [a] [] rpos, ifs, 0⟩] scope pos) (tLcH X.A ta g tt te (own.map (·.2))) := by
  refine ⟨fun pins s σ H Q I h => ?_⟩
  rw [eval_ListComp]
  have frees : ∀ y ∈ scope.names, y.2 = .free → ∃ c, X.env.cells.lookup y.1 = some c := fun y my ey => (ok.free y my ey).elim (fun z => I.ok.has _ (.inl z)) fun z => I.ok.has _ (.inr z)
  refine wpAny_comprehension_free (use := none) rfl (fun _ => rfl) (closure_ok frees) ok.kind (fun y my ey => by rw [ok.uniq y my, ey]) ?_
  refine thn (rg_it gr mr ha hsa I h) fun xv s1 hx => thn hx fun itv t2 ⟨it, H1, n, eit, J2, iter0, fpi, q⟩ => ?_
  subst eit
  have itlt : it < t2.heap.objs.size := Heap.lt_size iter0
  -- the new list, the block
  refine wpAny_newObj_type (newEnv_comp ?_) (Nat.zero_le _)
  generalize hDa : t2.heap.objs.size = D
  have hDn : H1 D = none := J2.hok.fresh (Nat.le_of_eq hDa)
  obtain ⟨W, w0, turn⟩ := q D hDn
  generalize ht3 : ({ t2 with heap := t2.heap.push { cls := .type "list", data := .seq ([] : List Value).toArray } } : Shared) = t3
  have hp3 : t3.heap = t2.heap.push { cls := .type "list", data := .seq ([] : List Value).toArray } := by rw [← ht3]
  have J3 : Inv X pins σ (upd H1 D (.lst [])) t3 := by
    rw [← ht3]
    refine J2.laid (t' := t2.toks) (fun b o z => Heap.get?_push_of_some _ z) (Nat.le_of_eq hDa) ⟨Nat.zero_le _, [], 0, .nil, ?_⟩
    rw [← hDa]
    exact Heap.get?_push_size _ rfl
  have fpi3 : ∀ b ∈ [it], FpOk X pins (upd H1 D (.lst [])) b ∧ b < t3.heap.objs.size := fun b hb => by
    have eb : b = it := by simpa using hb
    subst eb
    refine ⟨⟨?_, fpi.2⟩, by rw [hp3, Heap.size_push]; exact Nat.lt_succ_of_lt itlt⟩
    rw [upd_ne (by rw [← hDa]; exact Nat.ne_of_lt itlt)]
    exact fpi.1
  have iter3 : IsRangeIter t3.heap it 0 (n.toNat : Int) 1 := by
    unfold IsRangeIter
    rw [hp3]
    exact Heap.get?_push_of_some _ iter0
  have J4 := block_start J3 ok hN fpi3
  have pg := hg t3 (upd H1 D (.lst [])) t3.heap.objs.size (cellsFrom (t3.heap.objs.size + 1) scope.names (cloFrom X.env.cells scope.names [])) [it]
  have pt := ht t3 (upd H1 D (.lst [])) t3.heap.objs.size (cellsFrom (t3.heap.objs.size + 1) scope.names (cloFrom X.env.cells scope.names [])) [it]
  have pe := he t3 (upd H1 D (.lst [])) t3.heap.objs.size (cellsFrom (t3.heap.objs.size + 1) scope.names (cloFrom X.env.cells scope.names [])) [it]
  show codeAny _ _ (.compStart (.ListComp elt [⟨tg, .Call (.Name "range" rp) [a] [] rpos, ifs, 0⟩] scope pos) 0 (.ref it) (.ref D) (compEnvC scope (cellsFrom (t3.heap.objs.size + 1) scope.names (cloFrom X.env.cells scope.names [])) t3.heap.objs.size X.env)) (compPost (model X.prog X.w) X.A X.xe none (EP X pins σ Q) (.ref D) t3.heap.objs.size) { t3 with heap := pushCells (t3.heap.push { cls := .type "dict", data := .dict #[] }) scope.names }
  generalize hcv : compEnvC scope (cellsFrom (t3.heap.objs.size + 1) scope.names (cloFrom X.env.cells scope.names [])) t3.heap.objs.size X.env = cv at J4 pg pt pe ⊢
  have cvL : cv.locals = t3.heap.objs.size := by rw [← hcv]; rfl
  have itnone : (upd H1 D (.lst [])) it = none := (fpi3 it (by simp)).1.1
  generalize hH3 : upd H1 D (.lst []) = H3 at J3 J4 pg pt pe w0 itnone fpi3
  generalize ht4 : ({ t3 with heap := pushCells (t3.heap.push { cls := .type "dict", data := .dict #[] }) scope.names } : Shared) = t4 at J4 ⊢
  have iter4 : IsRangeIter t4.heap it 0 (n.toNat : Int) 1 := by
    unfold IsRangeIter
    rw [← ht4]
    exact pushCells_keeps _ _ _ _ (Heap.get?_push_of_some _ iter3)
  let BX : Cx := X.blk t3 H3 scope cv [it]
  have still : ∀ {σ' : L2.St} {H' : Hp} {s' : Shared}, Inv BX [] σ' H' s' → H' it = none → FpOk BX [] H' it := fun {σ' H' s'} J' z =>
    ⟨z, (J'.ok.exf it (List.mem_singleton.mpr rfl)).1, J'.ok.exfs it (List.mem_singleton.mpr rfl), .inl (List.mem_singleton.mpr rfl), fun x c e => (J'.ok.exf it (List.mem_singleton.mpr rfl)).2 x c e, fun p hp => by cases hp⟩
  have isIt : ∀ {h : Heap} {x l : Int}, IsRangeIter h it x l 1 → ∃ o, h.get? it = some o ∧ ∀ v, o.data ≠ .cell v := fun z => ⟨_, z, fun v e => by
    have e' : Data.fields _ = Data.cell v := e
    cases e'⟩
  have loop : codeAny (model X.prog X.w) X.A (.compLoop (.ListComp elt [⟨tg, .Call (.Name "range" rp) [a] [] rpos, ifs, 0⟩] scope pos) 0 (.ref it) (.ref D) cv) (compPost (model X.prog X.w) X.A X.xe none (EP X pins σ Q) (.ref D) t3.heap.objs.size) t4 := by
    refine compLoop_any (fun m s' => ∃ (i : Nat) (H' : Hp), m + i = n.toNat ∧ Inv BX [] (wipe σ (own.map (·.2))) H' s' ∧ IsRangeIter s'.heap it (i : Int) ((n.toNat : Int) - (i : Int)) 1 ∧ H' it = none ∧ W i H') ?_ n.toNat ⟨0, H3, rfl, J4, by simpa using iter4, itnone, w0⟩
    rintro m t5 ⟨i, H5, em, J5, iter5, n5, w5⟩
    obtain ⟨hot, way⟩ := turn i H5 w5
    obtain ⟨f0, f1, f2, f3, f4, f5⟩ := still J5 n5
    rcases way with ⟨stop, qq⟩ | ⟨go, step⟩
    · obtain ⟨x, hat⟩ := HotF.at_ (X := BX) hot J5
      have last : wpAny (model X.prog X.w) X.A (pyNext (.ref it)) (fun r s6 => r = none ∧ Inv BX [] (wipe σ (own.map (·.2))) H5 s6) (fun _ _ => False) t5 :=
        HotX.pyNext_range_end_hot hat iter5 (by omega) fun h' eb => ⟨rfl, J5.turned (t' := t5.toks) (fun b o _ e => eb b o e) f0 f1 f3 f4 f5⟩
      refine thnF last fun r t6 ⟨hr, J6⟩ => ?_
      subst hr
      have J7 : Inv X pins σ H5 t6 := J3.call' (ch := [it]) J6.os J6.base J6.hok J6.bare fun b hb => ⟨(fpi3 b hb).1.2.2.2.1, (fpi3 b hb).1.2.1, (fpi3 b hb).1.2.2.2.2.1, (fpi3 b hb).1.2.2.2.2.2⟩
      have cn : H5 t3.heap.objs.size = none := by
        have z : H5 cv.locals = none := J6.free
        rw [cvL] at z
        exact z
      obtain ⟨vm, vn, _⟩ := J6.loc
      have vn : t6.heap.Ns cv.locals vm := vn
      rw [cvL] at vn
      obtain ⟨g0, g1, g2, g3, g4, g5⟩ := J3.fpOk (Nat.le_refl _) cn
      exact ⟨vm, vn, fun h'' sb => ⟨.ref D, H5, J7.turned (t' := t6.toks) (fun b o hb e => (sb.2 b hb).trans e) g0 g1 g3 g4 g5, rfl, qq⟩⟩
    · have next : wpAny (model X.prog X.w) X.A (pyNext (.ref it)) (fun r s6 => ∃ u, r = some u ∧ wpAny (model X.prog X.w) X.A (letOwnedTupleGo tg (.ref it) u) (fun _ s7 => Inv BX [] (wipe σ (own.map (·.2))) H5 s7 ∧ RelV (.int (i : Int)) u ∧ IsRangeIter s7.heap it ((i + 1 : Nat) : Int) ((n.toNat : Int) - ((i + 1 : Nat) : Int)) 1) (fun _ _ => False) s6) (fun _ _ => False) t5 := by
        refine wpAny_pyNext_range_item iter5 (by omega) fun h' st' sb => ?_
        have st2 : IsRangeIter h' it ((i + 1 : Nat) : Int) ((n.toNat : Int) - ((i + 1 : Nat) : Int)) 1 := by
          have e1 : ((i + 1 : Nat) : Int) = (i : Int) + 1 := by omega
          rw [e1, show (n.toNat : Int) - ((i : Int) + 1) = (n.toNat : Int) - (i : Int) - 1 by omega]
          exact st'
        have J6 : Inv BX [] (wipe σ (own.map (·.2))) H5 { t5 with heap := h', toks := t5.toks + 1 } := J5.turned (fun b o hb e => (sb.2 b hb).trans e) f0 f1 f3 f4 f5
        exact ⟨_, rfl, go_of (s := { t5 with heap := h', toks := t5.toks + 1 }) (n := "range_iterator") st2 rfl rfl (by decide) ⟨J6, ⟨t5.toks, rfl⟩, st2⟩⟩
      refine thnF next fun r t6 ⟨u, hr, h6⟩ => ?_
      subst hr
      refine thnF h6 fun _ t7 ⟨J7, r7, iter7⟩ => ?_
      have J7' := J7.pinned (fp := [it]) (fun b hb => by
        have eb : b = it := by simpa using hb
        subst eb
        exact still J7 n5) (fun b hb => by
        have eb : b = it := by simpa using hb
        subst eb
        exact isIt iter7)
      refine thnF (pg.run _ t7 _ H5 _ u _ J7' r7 step) fun _ t8 ⟨σ8, H8, J8, hw8, q8⟩ => ?_
      refine thnF (pt.run _ t8 σ8 H8 _ J8 q8) fun b t9 ⟨H9, J9, q9⟩ => ?_
      have fin : ∀ {s' : Shared} {H' : Hp}, Inv BX ([] ++ pinsAt [it] t7.heap) σ8 H' s' → W (i + 1) H' → ∃ m', m' < m ∧ ∃ (i : Nat) (H' : Hp), m' + i = n.toNat ∧ Inv BX [] (wipe σ (own.map (·.2))) H' s' ∧ IsRangeIter s'.heap it (i : Int) ((n.toNat : Int) - (i : Int)) 1 ∧ H' it = none ∧ W i H' := fun {s' H'} J' w' => by
        obtain ⟨o7, e7, _⟩ := isIt iter7
        have z := J'.pin (it, o7) (List.mem_append_right _ (List.mem_append_right _ (mem_pinsAt (List.mem_singleton.mpr rfl) e7)))
        have hl : (wipe σ (own.map (·.2))).length = σ8.length := by rw [← hw8, wipe_length]
        refine ⟨m - 1, by omega, i + 1, H', by omega, (J'.unpinned (pins := [])).weak hl (fun j v e => ?_), ?_, z.2.1, w'⟩
        · rw [← hw8] at e
          exact (wipe_some e).1
        · have i7 : t7.heap.get? it = some _ := iter7
          rw [e7] at i7
          unfold IsRangeIter
          rw [← i7]
          exact z.1
      cases b with
      | false =>
        rw [if_neg Bool.false_ne_true] at q9
        exact fin J9 q9
      | true =>
        rw [if_pos rfl] at q9
        refine thnF (pe.run _ t9 σ8 H9 _ J9 q9) fun z t10 ⟨yv, H10, J10, r10, acc, hD10, hz10, nx⟩ => ?_
        exact app_ok (X := BX) J10 hD10 hz10 r10 fun t11 J11 => fin J11 nx
  exact codeAny_compStart_list loop (wpAny_pyIter_rangeiter iter4 loop)
/-- .. of a term -/
theorem lcH_ok {cf : Cf} {elt ea : Ex} {tg : Tg} {cd : Tso} {ow : List Nat} {g : TG} {tt : TT} {te : TE} (hh : ∃ u, X.A.handled = some u) (hix : ∀ i ∈ tg.idx, i ∈ ow)
    (hg : ∀ v σ H Q, gB X.K tg v σ H Q → g v σ H Q) (ht : ∀ σ H Q, tT (kx X) (cd.den cf) σ H Q → tt σ H Q) (he : ∀ σ H Q, tE (kx X) (elt.den cf) σ H Q → te σ H Q) :
    ∀ σ H Q, tE (kx X) ((Ex.lc elt tg (.rng (.cons ea .nil)) cd ow).den cf) σ H Q → tLcH X.A (tAs (kx X) ((Exs.cons ea .nil).den cf)) g tt te ow σ H Q := fun σ H Q ⟨G, ph, env, st, r, st', E, e, k⟩ => by
  simp only [Ex.den] at e
  generalize hstep : (fun d st => match tg.bind d (wipeE env ow) with
      | some env1 => match cd.den cf env1 st with
        | some (true, st2) => match elt.den cf env1 st2 with
          | some (r, st3) => r.cap.map fun y => (some y, st3)
          | none => none
        | some (false, st2) => some (none, st2)
        | none => none
      | none => none : PyData → Bx → Option (Option PyData × Bx)) = step at e
  cases q0 : (Itx.rng (.cons ea .nil)).den cf true env st with
  | none => rw [q0] at e; cases e
  | some p =>
    obtain ⟨items, st1⟩ := p
    rw [q0] at e
    dsimp only at e
    obtain ⟨rs, l, e1, ⟨ds, hv, hi⟩, hr⟩ := rng_den q0
    obtain ⟨x0, rfl⟩ := den_one e1
    refine ⟨G, ph, env, st, [x0], st1, E, e1, fun vs H1 G1 ph1 w1 s1 r1 f1 => ?_⟩
    have hd := (views_ok w1 r1 hv).ints hi
    have hl := r1.len
    subst hd
    rw [List.length_map] at hl
    match l, hl with
    | [j], _ =>
      have hr' : (if rngOk j = true then some (rngItems 0 j.toNat) else none) = some items := hr
      split at hr'
      · rename_i c
        have c' := rngOk_ok c
        have ei : rngItems 0 j.toNat = items := Option.some.inj hr'
        refine ⟨j, rfl, c'.1, c'.2, fun D hD => ?_⟩
        cases e2 : lcGo step items [] st1 with
        | none => rw [e2] at e; cases e
        | some p =>
          obtain ⟨acc, st2⟩ := p
          rw [e2] at e
          cases e
          refine ⟨fun i Hi => ∃ Gi phi sti a av, Wd (kx X) Gi Hi phi sti ∧ Stp G1 H1 ph1 Gi Hi phi ∧ Hi D = some (.lst av) ∧ Gi D = none ∧ D ∉ phi ∧ DvAll X.K Gi av a ∧ lcGo step (items.drop i) a sti = some (acc, st'), ?_, ?_⟩
          · obtain ⟨_, _, ev, a3, a4, a5, _⟩ := (new_own w1 (Stp.refl (G := G1) (H := H1) (ph := ph1)) (.nil : DvAll X.K G1 [] []) hD).2.2.1
            obtain ⟨b1, b2, _⟩ := new_own w1 (Stp.refl (G := G1) (H := H1) (ph := ph1)) (.nil : DvAll X.K G1 [] []) hD
            cases ev
            exact ⟨G1, ph1, st1, [], [], b1, b2, upd_same, a4, a5, .nil, e2⟩
          · rintro i Hi ⟨Gi, phi, sti, a, av, wi, si, hDi, gDi, nDi, hav, go⟩
            refine ⟨?_, ?_⟩
            · obtain ⟨u, hu⟩ := hh
              obtain ⟨xa, oe, t, ws, eu, z1, z2, z3⟩ := wi.hd u hu
              exact ⟨xa, oe, t, ws, by rw [hu, eu], wi.sub _ _ z1, z2, z3⟩
            by_cases hlt : i < j.toNat
            · refine .inr ⟨hlt, ?_⟩
              have hli : i < items.length := by rw [← ei, rngItems_len]; exact hlt
              have eit : items[i] = .int (i : Int) := by
                have z : (rngItems 0 j.toNat)[i]? = some (.int (i : Int)) := by
                  unfold rngItems
                  rw [List.getElem?_map, List.getElem?_range hlt]
                  simp
                rw [ei, List.getElem?_eq_getElem hli] at z
                exact Option.some.inj z
              rw [List.drop_eq_getElem_cons hli, eit] at go
              unfold lcGo at go
              rw [← hstep] at go
              dsimp only at go
              cases hb : tg.bind (.int (i : Int)) (wipeE env ow) with
              | none => rw [hb] at go; cases go
              | some env1 =>
                rw [hb] at go
                dsimp only at go
                refine hg _ _ _ _ ⟨Gi, .int (i : Int), wipeE env ow, env1, wi.sub, .int _, hb, fun σ2 u2 => ?_⟩
                refine ⟨by rw [u2.wipe hix, wipe_wipe], ?_⟩
                have E3 : Ev (kx X) Gi Hi phi env1 sti σ2 := (((E.step s1 w1).step si wi).wipe ow).ud u2
                cases hc : cd.den cf env1 sti with
                | none => rw [hc] at go; cases go
                | some cb =>
                  obtain ⟨cb, st4⟩ := cb
                  rw [hc] at go
                  refine ht _ _ _ ⟨Gi, phi, env1, sti, cb, st4, E3, hc, fun H4 G4 ph4 w4 s4 => ?_⟩
                  have hD4 := s4.fr D _ hDi nDi
                  have gD4 := s4.Gnone hDi gDi
                  have nD4 := s4.notin hDi nDi
                  cases cb with
                  | false =>
                    dsimp only at go
                    exact iteN ⟨G4, ph4, st4, a, av, w4, si.trans s4, hD4, gD4, nD4, DvAll.up s4.g a av hav, by rw [← hstep]; exact go⟩
                  | true =>
                    dsimp only at go
                    refine iteP (he _ _ _ ?_)
                    cases hl : elt.den cf env1 st4 with
                    | none => rw [hl] at go; cases go
                    | some rr =>
                      obtain ⟨r5, st5⟩ := rr
                      rw [hl] at go
                      dsimp only at go
                      refine ⟨G4, ph4, env1, st4, r5, st5, E3.step s4 w4, hl, fun v H5 G5 ph5 w5 s5 q5 f5 => ?_⟩
                      cases hy : r5.cap with
                      | none => rw [hy] at go; cases go
                      | some y =>
                        rw [hy] at go
                        dsimp only [Option.map_some] at go
                        split at go
                        · rename_i hlen
                          obtain ⟨G6, w6, s6, hd6, up6, sm6⟩ := cap_ok s5 w5 q5 f5 hy
                          have hD5 := s5.fr D _ hD4 nD4
                          have nD5 := s5.notin hD4 nD4
                          have gD6 : G6 D = none := by
                            rcases sm6 D with z | ⟨ds, z1, z2⟩
                            · rw [z]; exact s5.Gnone hD4 gD4
                            · subst z1
                              have := f5 D z2
                              rw [hD4] at this; cases this
                          have av6 : DvAll X.K G6 av a := DvAll.up (fun a o h => up6 a o (s5.g a o (s4.g a o h))) a av hav
                          refine ⟨av, hD5, by rw [av6.len]; exact hlen, G6, ph5, st5, a ++ [y], av ++ [v], w6.put gD6 nD5, ((si.trans s4).trans s6).put hD, upd_same, gD6, nD5, av6.app (.one hd6), by rw [← hstep]; exact go⟩
                        · cases go
            · refine .inl ⟨by omega, ?_⟩
              have hld : items.length ≤ i := by rw [← ei, rngItems_len]; omega
              rw [List.drop_eq_nil_of_le hld] at go
              unfold lcGo at go
              cases go
              exact k (.ref D) Hi Gi phi wi (s1.trans si) ⟨D, av, rfl, hDi, gDi, nDi, hav⟩ fun a ea => by cases ea; exact s1.dom D hD
      · cases hr'
theorem ok_lcH {cf : Cf} {elt tg a : Expr} {ifs : List Expr} {scope : Scope} {own : List (Str × Nat)} {rp rpos pos : Pos} {el ea : Ex} {t : Tg} {cd : Tso} (hh : ∃ u, X.A.handled = some u) (hN : X.N.Nodup) (gr : Gl X "range") (mr : X.mg "range" = none)
    (ha : PA X [a] (tAs (kx X) ((Exs.cons ea .nil).den cf))) (hsa : starEach [a] X.env = [(false, eval a X.env)]) (ok : BlkOk X.N X.env.scope scope own) (hix : ∀ i ∈ t.idx, i ∈ own.map (·.2))
    (hg : ∀ (s : Shared) (H : Hp) (C : Addr) (cl : List (Str × Addr)) (fp : List Addr), PG (X.blk s H scope (compEnvC scope cl C X.env) fp) tg (gB X.K t))
    (ht : ∀ (s : Shared) (H : Hp) (C : Addr) (cl : List (Str × Addr)) (fp : List Addr), PTs (X.blk s H scope (compEnvC scope cl C X.env) fp) ifs (tT (kx X) (cd.den cf)))
    (he : ∀ (s : Shared) (H : Hp) (C : Addr) (cl : List (Str × Addr)) (fp : List Addr), PE (X.blk s H scope (compEnvC scope cl C X.env) fp) elt (tE (kx X) (el.den cf))) :
    PE X (.ListComp elt [⟨tg, .Call (.Name "range" rp) [a] [] rpos, ifs, 0⟩] scope pos) (tE (kx X) ((Ex.lc el t (.rng (.cons ea .nil)) cd (own.map (·.2))).den cf)) :=
  peW (lc_hot hN gr mr ha hsa ok hg ht he) (lcH_ok hh hix (fun _ _ _ _ h => h) (fun _ _ _ h => h) fun _ _ _ h => h)
end
end Sy

namespace Sy
open PySem PySem.Spec PyProof.Rows L2
/-! ### the name of an except clause goes, where it is a cell -/
section
variable {X : Cx} {pins : List (Addr × Obj)} {σ : L2.St} {H : Hp} {s : Shared}
theorem cell_out {i : Nat} {x : Str} {c : Addr} {v : Option Value} {h' : Heap} {tk : Nat} (I : Inv X pins σ H s) (hN : X.N.Nodup) (hi : X.N[i]? = some x) (hk : X.env.kindOf x = some .cell) (hfn : X.fn x = true) (hc : X.env.cells.lookup x = some c) (z : s.heap.IsCell c v)
    (hc' : h'.IsCell c none) (hs : Heap.SameBut c s.heap h') : Inv X pins (σ.set i none) H { s with heap := h', toks := tk } := by
  obtain ⟨m, hn, hl⟩ := I.loc
  obtain ⟨oc, hoc, hocd⟩ := id z
  have low : ∀ {b : Addr} {o : Obj}, X.s_0.heap.get? b = some o → b ≠ c := fun {b o} e => Nat.ne_of_lt (Nat.lt_of_lt_of_le (Heap.lt_size e) (I.ok.cab x c hfn hc))
  refine ⟨I.ok, I.os, I.bare, ⟨fun b o e n hb hx => (hs.2 b (low e)).trans (I.base.keep b o e n hb hx), fun b o e n hb hx => ?_, I.base.free, fun b o e hx => ?_, I.base.tups, I.base.frzs, I.base.tbls⟩, ⟨m, hn.sameBut hs (Ne.symm (I.cne x c hc)), fun j y w e1 e2 e3 => ?_⟩,
    fun y c' e => ?_, I.free, I.freeC, fun p hp => ?_, fun b o e => ?_, by rw [List.length_set]; exact I.len⟩
  · obtain ⟨sl, e1⟩ := I.base.slot b o e n hb hx
    exact ⟨sl, (hs.2 b (low e)).trans e1⟩
  · obtain ⟨o', e1⟩ := I.base.there b o e hx
    exact ⟨o', (hs.2 b (low e)).trans e1⟩
  · have ij : i ≠ j := fun ij => by
      subst ij
      by_cases hlt : i < σ.length
      · rw [List.getElem?_set_self hlt] at e2; cases e2
      · rw [List.getElem?_eq_none (by rw [List.length_set]; omega)] at e2; cases e2
    rw [List.getElem?_set_ne ij] at e2
    obtain ⟨u', r', q⟩ := hl j y w e1 e2 e3
    refine ⟨u', r', ?_⟩
    rcases q with q | ⟨k, c', e, z'⟩
    · exact .inl q
    · refine .inr ⟨k, c', e, z'.sameBut hs fun ec => ?_⟩
      subst ec
      exact ij (nodup_ix hN hi (I.ok.inj _ _ _ e hc ▸ e1))
  · by_cases hcc : c' = c
    · subst hcc; exact ⟨_, hc'⟩
    · obtain ⟨w2, z2⟩ := I.cell y c' e
      exact ⟨w2, z2.sameBut hs hcc⟩
  · obtain ⟨e, n, ne, nf, d⟩ := I.pin p hp
    refine ⟨(hs.2 p.1 fun q => ?_).trans e, n, ne, nf, d⟩
    rw [q, hoc] at e
    have q' : oc = p.2 := Option.some.inj e
    exact d v (by rw [← q']; exact hocd)
  · refine (I.hok b o e).stay (fun b' u hb q => (hs.2 b' fun w => ?_).trans q) (fun _ q => q) fun _ _ q => q
    subst w
    rcases hb with hb | hb
    · subst hb; rw [I.freeC x _ hc] at e; cases e
    · rw [I.freeC x _ hc] at hb; cases hb
theorem cell_goes {M : Model} {A : Around} {E : Value → Shared → Prop} {i : Nat} {n : Str} {pos : Pos} {Q : Unit → Shared → Prop} (I : Inv X pins σ H s) (hN : X.N.Nodup) (hi : X.N[i]? = some n) (hk : X.env.kindOf n = some .cell) (hfn : X.fn n = true)
    (h : ∀ s', Inv X pins (σ.set i none) H s' → Q () s') : wpAny M A (do bindName X.env n .none; unbindBehindTheSuite X.env n pos) Q E s := by
  refine wpAny_bind (wpAny_bindName (store_ok (v := .non) I hN hi (.inr hk) rfl (fun s1 I1 => ?_) (.inl hfn)))
  unfold unbindBehindTheSuite
  refine wpAny_onRaise ?_
  unfold unbindName
  refine wpAny_bind (wpAny_point (wpAny_bind ?_))
  unfold deleteName
  simp only [hk]
  obtain ⟨c, hc⟩ := I1.ok.has n (.inl hk)
  have hlt : i < σ.length := by rw [I.len]; exact (List.getElem?_eq_some_iff.mp hi).1
  obtain ⟨m, hn, hl⟩ := I1.loc
  obtain ⟨u, ru, lk⟩ := hl i n .non hi (List.getElem?_set_self hlt) (.inr (.inl hk))
  have cellIs : s1.heap.IsCell c (some u) := by
    rcases lk with ⟨k, _⟩ | ⟨_, c2, e2, z⟩
    · rw [hk] at k; cases k
    · rw [hc] at e2; cases e2; exact z
  refine wpAny_bind (wpAny_cellOf hc (wpAny_bind (wpAny_cellGet cellIs ?_)))
  rw [if_pos (show (some u).isSome = true from rfl)]
  refine wpAny_cellSet cellIs (fun h' hc' hs => wpAny_point ?_)
  have J := cell_out (tk := s1.toks) I1 hN hi hk hfn hc cellIs hc' hs
  rw [List.set_set] at J
  exact h _ J
end
end Sy

namespace Sy
open PySem PySem.Spec PyProof.Rows L2
/-! ### try: body, except x as n: suite; the exception is known to the heap within the suite -/
def del (H : Hp) (a : Addr) : Hp := fun b => if b = a then none else H b
theorem del_same {H : Hp} {a : Addr} : del H a a = none := if_pos rfl
theorem del_ne {H : Hp} {a b : Addr} (h : b ≠ a) : del H a b = H b := if_neg h
theorem del_some {H : Hp} {a b : Addr} {o : HO} (h : del H a b = some o) : b ≠ a ∧ H b = some o := by
  by_cases e : b = a
  · subst e; rw [del_same] at h; cases h
  · rw [del_ne e] at h; exact ⟨e, h⟩
/-- how it stands there -/
abbrev exO (oe : Obj) : HO := .frz oe (.own 0)
section
variable {X : Cx} {pins pn : List (Addr × Obj)} {σ σ1 : L2.St} {H H1 : Hp} {s s1 : Shared} {a : Addr} {oe : Obj}
theorem suite_in (ok : X.Ok) (I : Inv (X.suite a ((a, oe) :: pn)) [] σ H s) (fr : X.s_0.heap.get? a = none) (np : ∀ p ∈ pn, p.1 ≠ a) : Inv (X.suite a pn) [] σ (upd H a (exO oe)) s := by
  obtain ⟨hget, na, nL, nF, nc⟩ := I.pin (a, oe) (List.mem_append_left _ List.mem_cons_self)
  have ne : ∀ b o, H b = some o → b ≠ a := fun b o e z => by subst z; rw [na] at e; cases e
  refine ⟨ok.suite _ _, I.os, I.bare, ⟨I.base.keep, I.base.slot, fun b o e n hx => ?_, I.base.there, fun b xs e => ?_, fun b o u e => ?_, fun b ps e => ?_⟩, I.loc, I.cell, ?_, fun x c e => ?_, fun p hp => ?_, fun b o e => ?_, I.len⟩
  · have ba : b ≠ a := fun z => by subst z; rw [fr] at e; cases e
    rw [upd_ne ba]; exact I.base.free b o e n hx
  · have q := I.base.tups b xs e
    rw [upd_ne (ne _ _ q)]; exact q
  · have q := I.base.frzs b o u e
    rw [upd_ne (ne _ _ q)]; exact q
  · obtain ⟨m, q⟩ := I.base.tbls b ps e
    exact ⟨m, by rw [upd_ne (ne _ _ q)]; exact q⟩
  · show upd H a (exO oe) X.env.locals = none
    rw [upd_ne (fun z => nL z.symm)]; exact I.free
  · have ca : c ≠ a := fun z => by
      obtain ⟨v, o, e1, e2⟩ := I.cell x c e
      rw [z] at e1
      rw [hget] at e1
      cases e1
      exact nc v e2
    rw [upd_ne ca]; exact I.freeC x c e
  · have hp' : p ∈ pn := by simpa using hp
    obtain ⟨q1, q2, q3⟩ := I.pin p (List.mem_append_left _ (List.mem_cons_of_mem _ hp'))
    exact ⟨q1, by rw [upd_ne (np p hp')]; exact q2, q3⟩
  · by_cases ba : b = a
    · subst ba
      rw [upd_same] at e
      cases e
      exact ⟨hget, _, hget⟩
    · rw [upd_ne ba] at e
      exact (I.hok b o e).stay (fun _ _ _ q => q) (fun c q => by rw [upd_ne (ne _ _ q)]; exact q) fun c xs q => by rw [upd_ne (ne _ _ q)]; exact q
theorem suite_out (ok : X.Ok) (I : Inv X pins σ1 H1 s1) (na : H1 a = none) (J : Inv (X.suite a (X.pn ++ pins)) [] σ H s) (h : H a = some (exO oe)) : Inv X pins σ (del H a) s := by
  refine ⟨ok, J.os, J.bare, ⟨J.base.keep, J.base.slot, fun b o e n hx => ?_, J.base.there, fun b xs e => ?_, fun b o u e => ?_, fun b ps e => ?_⟩, J.loc, J.cell, ?_, fun x c e => ?_, fun p hp => ?_, fun b o e => ?_, J.len⟩
  · by_cases ba : b = a
    · subst ba; exact del_same
    · rw [del_ne ba]; exact J.base.free b o e n hx
  · have ba : b ≠ a := fun z => by have q := I.base.tups b xs e; rw [z, na] at q; cases q
    rw [del_ne ba]; exact J.base.tups b xs e
  · have ba : b ≠ a := fun z => by have q := I.base.frzs b o u e; rw [z, na] at q; cases q
    rw [del_ne ba]; exact J.base.frzs b o u e
  · have ba : b ≠ a := fun z => by obtain ⟨m, q⟩ := I.base.tbls b ps e; rw [z, na] at q; cases q
    obtain ⟨m, q⟩ := J.base.tbls b ps e
    exact ⟨m, by rw [del_ne ba]; exact q⟩
  · by_cases ba : X.env.locals = a
    · rw [ba]; exact del_same
    · rw [del_ne ba]; exact J.free
  · by_cases ba : c = a
    · subst ba; exact del_same
    · rw [del_ne ba]; exact J.freeC x c e
  · obtain ⟨q1, q2, q3⟩ := J.pin p (by rw [List.append_nil]; exact hp)
    refine ⟨q1, ?_, q3⟩
    by_cases ba : p.1 = a
    · rw [ba]; exact del_same
    · rw [del_ne ba]; exact q2
  · obtain ⟨ba, q⟩ := del_some e
    refine (J.hok b o q).stay (fun _ _ _ z => z) (fun c z => ?_) fun c xs z => ?_
    · rw [del_ne fun w => by rw [w, h] at z; cases z]; exact z
    · rw [del_ne fun w => by rw [w, h] at z; cases z]; exact z
end
theorem goes_ok {X : Cx} {pins : List (Addr × Obj)} {σ : L2.St} {H : Hp} {s : Shared} {M : Model} {A : Around} {E : Value → Shared → Prop} {i : Nat} {n : Str} {pos : Pos} {Q : Unit → Shared → Prop} (I : Inv X pins σ H s) (hN : X.N.Nodup) (hi : X.N[i]? = some n)
    (hl : X.env.kindOf n = some .local ∨ (X.env.kindOf n = some .cell ∧ X.fn n = true)) (h : ∀ s', Inv X pins (σ.set i none) H s' → Q () s') : wpAny M A (do bindName X.env n .none; unbindBehindTheSuite X.env n pos) Q E s :=
  hl.elim (fun z => gone_ok I hN hi z h) fun z => cell_goes I hN hi z.1 z.2 h
/-- what the clause wishes -/
def wF (K : PySem.W.Frag) (c : Value) (i : Nat) (ts : Addr → Obj → Value → Option Addr → TS) (Wout : WX) (D : Ends) : WX := fun cls d σ H =>
  ∃ b, PySem.W.exmOne K cls c = some b ∧ (b = true → ∀ a oe, H a = none → L2N.Zn cls d oe → (∃ vs, oe.data = .fields vs) →
    ts a oe cls d { nx := fun _ _ => False, rt := fun v H' => H' a = some (exO oe) ∧ D.rt v (del H' a) } (σ.set i (some (.ref a))) (upd H a (exO oe))) ∧ (b = false → Wout cls d σ H)
section
variable {X : Cx} {x n : Str} {c : Value} {i : Nat} {body suite : List Stmt} {b0 : Stmt} {np pos pos1 : Pos} {tb : WX → TS} {ts : Addr → Obj → Value → Option Addr → TS} {Wout : WX}
theorem try_F (hs : X.stack = X.env :: X.outer) (hf : X.env.frame = some X.env.locals) (hex : X.ex = []) (hN : X.N.Nodup) (hi : X.N[i]? = some n) (hln : X.env.kindOf n = some .local ∨ (X.env.kindOf n = some .cell ∧ X.fn n = true)) (hc : Names X x c) (tk : L2N.Takes X Wout)
    (hb : ∀ (W : WX) (pn : List (Addr × Obj)) (xe : Value → Shared → Prop), L2N.Takes (X.tr pn xe) W → PassesOwn (model X.prog X.w) X.A X.env xe → PSs (X.tr pn xe) body (tb W))
    (hsu : ∀ (a : Addr) (oe : Obj) (cls : Value) (d : Option Addr) (pn : List (Addr × Obj)), L2N.Zn cls d oe → (∃ vs, oe.data = .fields vs) → PSs (X.suite a pn) (b0 :: suite) (ts a oe cls d)) :
    PS X (.Try body [.ExceptHandler (some (.Name x np)) (some n) (b0 :: suite) pos1] [] [] pos) (fun D σ H => tb (wF X.K c i ts Wout D) D σ H) := ⟨fun pins s σ H D I h => by
  have xok := I.ok
  have frs1 : X.A.frames = some (X.env :: X.outer) := by rw [xok.frames, hs]
  refine wpAny_Try_except (wpAny_mono ((hb (wF X.K c i ts Wout D) (X.pn ++ pins) (fun e t1 => wpAny (model X.prog X.w) X.A (noteFrame e X.env) (fun _ t2 => wpAny (model X.prog X.w) X.A (setFlight e none) (fun _ t3 =>
    wpAny (model X.prog X.w) X.A (handleBy e X.env [.ExceptHandler (some (.Name x np)) (some n) (b0 :: suite) pos1]) (SP X pins D) X.xe t3) X.xe t2) X.xe t1) (fun u t0 air => ?_) PassesOwn.looking).run [] s σ H D (I.toTry _) h) (fun f t1 hq => ?_) fun e t1 he => he)
  · obtain ⟨a, B, sI, _, σ1, H1, cls, d, rfl, J0, nb, up, sky, na, os, ag, b, hb1, hyes, hno⟩ := air
    have J : Inv X pins σ1 H1 sI := J0.ofTry xok
    rw [show (X.tr (X.pn ++ pins) _).stack = X.env :: X.outer from hs] at sky
    refine L2N.Sky.land (M := model X.prog X.w) L2N.Zn.steady frs1 hf sky fun h3 fl3 up3 => ?_
    have K3 : Inv X pins σ1 H1 { t0 with heap := h3 } := J.landed nb fl3.1 (up.trans up3) os ag
    obtain ⟨oe3, ws3, at3, z3, d3⟩ := fl3.there
    have noFr : a ∉ frs (X.env :: X.outer) := fun hm => by
      obtain ⟨_, o', e', hnf⟩ := fl3.2.2.1.mem hm
      rw [at3] at e'
      cases e'
      exact hnf _ d3
    have nL : a ≠ X.env.locals := fun z => noFr (List.mem_filterMap.mpr ⟨X.env, List.mem_cons_self, by rw [hf, z]⟩)
    have nF : a ∉ X.fs := fun hm => by
      obtain ⟨e, he, q⟩ := List.mem_filterMap.mp hm
      exact noFr (List.mem_filterMap.mpr ⟨e, List.mem_cons_of_mem _ he, q⟩)
    have new : sI.heap.get? a = none := by
      cases q : sI.heap.get? a with
      | none => rfl
      | some o =>
        have z := nb a o q (by rw [show (X.tr (X.pn ++ pins) _).stack = X.env :: X.outer from hs]; exact noFr)
        rw [fl3.2.1] at z
        cases z
    have new0 : X.s_0.heap.get? a = none := by
      cases q : X.s_0.heap.get? a with
      | none => rfl
      | some o =>
        obtain ⟨o', z⟩ := J.base.there a o q (by rw [hex]; simp)
        rw [new] at z
        cases z
    have npin : ∀ p ∈ X.pn ++ pins, p.1 ≠ a := fun p hp z => by
      have q := (J.pin p hp).1
      rw [z, new] at q
      cases q
    have S3 := K3.suite at3 d3 na nL nF
    refine wpAny_handleBy_cons (codeAny_handlers_test ?_) (by intro q; cases q)
    have looks := PySem.W.exm_one (M := model X.prog X.w) (K3.kIn) (show PySem.W.Looks (model X.prog X.w) h3 (typeOf (.ref a)) cls from fun A Q E s k q => wpAny_typeOf_ref (k _ _ at3) (by rw [z3.1]; exact q)) hb1
    have named : ∀ {Q E : Value → Shared → Prop}, Q c { t0 with heap := h3 } → wpAny (model X.prog X.w) (X.A.mark (some (.ref a))) (eval (.Name x np) X.env) Q E { t0 with heap := h3 } := fun {Q E} q => by
      rcases hc with ⟨hg, hdb, hm | ⟨hm, hv, hn⟩⟩
      · exact ld_glob (X := X.suite a ((a, oe3) :: (X.pn ++ pins))) S3 hg hm q hdb
      · exact ld_blt (X := X.suite a ((a, oe3) :: (X.pn ++ pins))) S3 hg hm hv q hn hdb
    refine named (looks.here ?_)
    cases b with
    | true =>
      refine codeAny_handlers_suite_as (HandSPX.lands_againZ fl3 fun h4 fl4 up4 => ?_)
      have K4 : Inv X pins σ1 H1 { t0 with heap := h4 } := J.landed nb fl4.1 ((up.trans up3).trans up4) os ag
      obtain ⟨oe4, ws4, at4, z4, d4⟩ := fl4.there
      refine store_ok (X := X.suite a ((a, oe4) :: (X.pn ++ pins))) (v := .ref a) (K4.suite at4 d4 na nL nF) hN hi (hln.elim .inl fun z => .inr z.1) rfl (fun t5 S5 => ?_) (hln.elim .inr fun z => .inl z.2)
      refine wpAny_mono ((hsu a oe4 cls d (X.pn ++ pins) z4 ⟨_, d4⟩).run [] t5 _ _ _ (suite_in xok S5 new0 npin) (hyes rfl a oe4 na z4 ⟨_, d4⟩)) (fun f t6 hq => ?_) fun _ _ z => z.elim
      cases f with
      | ret u =>
        obtain ⟨v6, σ6, H6, S6, r6, e6, q6⟩ := hq
        exact goes_ok (suite_out xok K4 na S6 e6) hN hi hln fun t7 J7 => ⟨_, _, _, J7, r6, q6⟩
      | next => obtain ⟨_, _, _, q6⟩ := hq; exact False.elim q6
      | brk => obtain ⟨_, _, _, q6⟩ := hq; exact False.elim q6
      | cont => obtain ⟨_, _, _, q6⟩ := hq; exact False.elim q6
    | false =>
      show wpAny _ X.A (handleBy (.ref a) X.env []) _ _ _
      refine wpAny_handleBy_nil ?_
      obtain ⟨_, _, _, oe, vs, T, oT, ts', he, hz, hd, h1, hr⟩ := id fl3
      unfold PySem.passOn
      refine wpAny_bind (wpAny_field he hd h1 ?_)
      rw [if_neg (show ¬ ((Value.ref T == Value.none) = true) by simp)]
      have out : wpAny (model X.prog X.w) X.A (setFlight (.ref a) X.env.frame) (fun _ t4 => wpAny (model X.prog X.w) X.A (throw (.ref a) : Sem Flow) (SP X pins D) X.xe t4) X.xe { t0 with heap := h3 } := by
        rw [hf]
        exact HandSPX.setFlight_upZ fl3 fun h4 hh4 up4 => wpAny_throw (tk _ _ ⟨a, B, sI, pins, σ1, H1, cls, d, rfl, J, nb, (up.trans up3).trans up4, .inr (.inr (by rw [hs]; exact hh4)), na, os, ag, hno rfl⟩)
      first
        | exact wpAny_bind (wpAny_pure (wpAny_bind out))
        | exact wpAny_bind out
  · cases f with
    | next => obtain ⟨σ1, H1, J, q⟩ := hq; exact wpAny_execs_nil ⟨σ1, H1, J.ofTry xok, q⟩
    | brk => obtain ⟨σ1, H1, J, q⟩ := hq; exact ⟨σ1, H1, J.ofTry xok, q⟩
    | cont => obtain ⟨σ1, H1, J, q⟩ := hq; exact ⟨σ1, H1, J.ofTry xok, q⟩
    | ret u => obtain ⟨v, σ1, H1, J, r, q⟩ := hq; exact ⟨v, σ1, H1, J.ofTry xok, r, q⟩⟩
end
end Sy

namespace Sy
open PySem PySem.Spec PyProof.Rows L2
section
variable {X : Cx} {cf : Cf} {H0 G0 : Hp} {ph0 : List Addr} {kp : List (Nat × Addr × List V)} {W : WX} {nv : Nat}
/-! ### calls that may raise, as statements; raise -/
abbrev lenW (n : Nat) (W : WX) : WX := fun c d σ H => σ.length = n → W c d σ H
theorem takes_len (tk : L2N.Takes X W) : L2N.Takes X (lenW X.N.length W) := fun u s' ⟨a, B, sI, pins, σ, H, cls, d, e, I, nb, up, sky, na, os, ag, w⟩ => tk u s' ⟨a, B, sI, pins, σ, H, cls, d, e, I, nb, up, sky, na, os, ag, w I.len⟩
theorem ok_expC {e : Expr} {f : String} {es : Exs} {pos : Pos} (hn : nv = X.N.length) (he : PE X e (tX (kx X) (lenW X.N.length W) (callD cf f es))) (hs : swapsWith e none pos.line X.env = pure false) : PS X (.Expr e pos) (tS (kx X) H0 G0 ph0 kp W nv ((Stm.expC f es).den cf)) :=
  psW (ps_expr he hs) fun D σ H ⟨G, ph, env, st, o, r, ed, k1, k2⟩ => by
    simp only [Stm.den] at ed
    cases q1 : callD cf f es env st with
    | none => rw [q1] at ed; cases ed
    | some p =>
      obtain ⟨x, st1⟩ := p
      rw [q1] at ed
      dsimp only at ed
      refine ⟨G, ph, env, st, x, st1, r.e, q1, fun v H1 G1 ph1 w1 s1 r1 f1 => ?_, fun c ec H1 G1 ph1 w1 s1 C hC hl => ?_⟩
      · cases x with
        | exc c => exact r1.elim
        | pr _ _ => cases ed
        | _ => cases ed; exact k1 _ _ rfl _ _ G1 ph1 (r.step s1 w1) s1.g
      · subst ec
        cases ed
        exact (k2 _ _ rfl).2 c rfl σ H1 G1 ph1 (hl.trans hn.symm) w1 (r.s.trans s1) C hC
theorem ok_retC {e : Expr} {f : String} {es : Exs} {pos : Pos} (hn : nv = X.N.length) (he : PE X e (tX (kx X) (lenW X.N.length W) (callD cf f es))) : PS X (.Return (some e) pos) (tS (kx X) H0 G0 ph0 kp W nv ((Stm.retC f es).den cf)) :=
  psW (ps_ret he) fun D σ H ⟨G, ph, env, st, o, r, ed, k1, k2⟩ => by
    simp only [Stm.den] at ed
    cases q1 : callD cf f es env st with
    | none => rw [q1] at ed; cases ed
    | some p =>
      obtain ⟨x, st1⟩ := p
      rw [q1] at ed
      dsimp only at ed
      refine ⟨G, ph, env, st, x, st1, r.e, q1, fun v H1 G1 ph1 w1 s1 r1 f1 => ?_, fun c ec H1 G1 ph1 w1 s1 C hC hl => ?_⟩
      · have fin : x.hold.map (fun q => Out.rt q st1) = some o → D.rt v H1 := fun ed => by
          cases hh : x.hold with
          | none => rw [hh] at ed; cases ed
          | some y =>
            rw [hh] at ed
            cases ed
            obtain ⟨rfl, nb⟩ := hold_some hh
            exact (k2 _ _ rfl).1 v H1 G1 ph1 w1 (r.s.trans s1) r1 (f1.before r.s)
        cases x with
        | exc c => exact r1.elim
        | _ => exact fin ed
      · subst ec
        cases ed
        exact (k2 _ _ rfl).2 c rfl σ H1 G1 ph1 (hl.trans hn.symm) w1 (r.s.trans s1) C hC
theorem ok_asgC {i : Nat} {x : Str} {e : Expr} {f : String} {es : Exs} {pos pos' : Pos} (hk : ∀ p ∈ kp, p.1 ≠ i) (hn : nv = X.N.length) (hN : X.N.Nodup) (hi : X.N[i]? = some x) (hx : Loc X.env.scope x) (he : PE X e (tX (kx X) (lenW X.N.length W) (callD cf f es))) (hs : swapsWith e (some (.Name x pos')) pos.line X.env = pure false)
    (hf : X.fn x = true ∨ X.env.scope.names.lookup x = some .local) : PS X (.Assign [.Name x pos'] e pos) (tS (kx X) H0 G0 ph0 kp W nv ((Stm.asgC i f es).den cf)) :=
  psW (ps_set hN hi hx he hs hf) fun D σ H ⟨G, ph, env, st, o, r, ed, k1, k2⟩ => by
    simp only [Stm.den] at ed
    cases q1 : callD cf f es env st with
    | none => rw [q1] at ed; cases ed
    | some p =>
      obtain ⟨x, st1⟩ := p
      rw [q1] at ed
      dsimp only at ed
      refine ⟨G, ph, env, st, x, st1, r.e, q1, fun v H1 G1 ph1 w1 s1 r1 f1 => ?_, fun c ec H1 G1 ph1 w1 s1 C hC hl => ?_⟩
      · have fin : x.hold.map (fun q => Out.nx (env.set i (some q)) st1) = some o → gName i v σ H1 D.nx := fun ed => by
          cases hh : x.hold with
          | none => rw [hh] at ed; cases ed
          | some y =>
            rw [hh] at ed
            cases ed
            have np := hold_np hh
            obtain ⟨rfl, nb⟩ := hold_some hh
            have r1 := r1.rs np
            have f1 := f1.fo np
            refine k1 _ _ rfl _ _ G1 ph1 ((r.step s1 w1).put r1 nb hk fun ds a ex ev => ?_) s1.g
            subst ex
            have hn : H a = none := f1 a ev
            refine ⟨r.s.dom a hn, kept_ne r hn, fun j es hj hs => ?_⟩
            obtain ⟨o, ho⟩ := r.old hj hs
            rw [hn] at ho; cases ho
        cases x with
        | exc c => exact r1.elim
        | _ => exact fin ed
      · subst ec
        cases ed
        exact (k2 _ _ rfl).2 c rfl σ H1 G1 ph1 (hl.trans hn.symm) w1 (r.s.trans s1) C hC
/-- a class that may be raised -/
structure XcK (K : PySem.W.Frag) (mg : Str → Option Value) (c : String) (C : Addr) : Prop where
  cls : ClsOf K c C
  mg : mg (Str.ofString c) = some (.ref C)
  kp : PySem.W.keepIn K (.ref C) = true
  sub : PySem.W.subIn K (.ref C) (.type "BaseException") = some true
  ty : PySem.W.typeIn K (.ref C) = some (.type "type")
  mkx : PySem.W.excIn K C [.type "ValueError", .type "Exception", .type "BaseException", .type "object"] "ValueError.__new__" = true
abbrev XcOk (X : Cx) (c : String) (C : Addr) : Prop := XcK X.K X.mg c C
theorem cls_one {K : PySem.W.Frag} {c : String} {C C1 : Addr} (h : ClsOf K c C) (q : ClsOf K c C1) : C = C1 := by
  unfold ClsOf at h q
  rw [h] at q
  cases q
  rfl
theorem ok_raise {c : String} {C : Addr} {m : Str} {j : Nat} {p p2 cpos pos : Pos} (hn : nv = X.N.length) (hc : X.calm = true) (tk : L2N.Takes X W) (F : XcOk X c C) (gl : Gl X (Str.ofString c)) (hdb : (Str.ofString c == ("__debug__" : Str)) = false) :
    PS X (.Raise (some (.Call (.Name (Str.ofString c) p) [.Constant (.str m) j p2] [] cpos)) none pos) (tS (kx X) H0 G0 ph0 kp W nv ((Stm.raise c).den cf)) :=
  psW (L2N.ps_raise hc (takes_len tk) (L2N.pmk_own PySem.F.excBase_ValueError F.mkx F.mg F.kp (raises_own F.sub F.ty) gl hdb)) fun D σ H ⟨G, ph, env, st, o, r, ed, k1, k2⟩ => by
    simp only [Stm.den] at ed
    cases ed
    intro hl
    exact (k2 _ _ rfl).2 c rfl σ H G ph (hl.trans hn.symm) r.e.w r.s C F.cls
/-! ### a handler -/
mutual
theorem Dv.del {K : PySem.W.Frag} {G : Hp} {a : Addr} {oe : Obj} (ha : G a = some (exO oe)) : ∀ (d : PyData) (v : V), Dv K G v d → Dv K (del G a) v d
  | .none, _, h => by cases h; exact .non
  | .bool b, _, h => by cases h; exact .bl b
  | .int i, _, h => by cases h; exact .int i
  | .str x, _, h => by cases h; exact .str x
  | .list ds, _, h => by
    cases h with
    | lst h1 h2 => exact .lst (by rw [del_ne fun e => by rw [e, ha] at h1; cases h1]; exact h1) (DvAll.del ha ds _ h2)
  | .tuple ds, _, h => by
    cases h with
    | tup h1 h2 =>
      refine .tup ?_ (DvAll.del ha ds _ h2)
      rcases h1 with (h1 | ⟨o, h1⟩) | h1
      · exact .inl (.inl (by rw [del_ne fun e => by rw [e, ha] at h1; cases h1]; exact h1))
      · exact .inl (.inr ⟨o, by rw [del_ne fun e => by rw [e, ha] at h1; cases h1]; exact h1⟩)
      · exact .inr h1
  | .dict _, _, h => by
    cases h with
    | dct l h1 => exact .dct l (by rw [del_ne fun e => by rw [e, ha] at h1; cases h1]; exact h1)
theorem DvAll.del {K : PySem.W.Frag} {G : Hp} {a : Addr} {oe : Obj} (ha : G a = some (exO oe)) : ∀ (ds : List PyData) (vs : List V), DvAll K G vs ds → DvAll K (del G a) vs ds
  | [], _, h => by cases h; exact .nil
  | d :: ds, _, h => by
    cases h with
    | cons h1 h2 => exact .cons (Dv.del ha d _ h1) (DvAll.del ha ds _ h2)
end
theorem ok_try {cSE C0 : Value} {i : Nat} {n x : Str} {xs : List String} {body suite : List Stmt} {b0 : Stmt} {eb eh : Stms} {np pos pos1 : Pos} (hs : X.stack = X.env :: X.outer) (hf : X.env.frame = some X.env.locals) (hex : X.ex = []) (hcalm : X.calm = true) (hN : X.N.Nodup) (hi : X.N[i]? = some n)
    (hln : X.env.kindOf n = some .local ∨ (X.env.kindOf n = some .cell ∧ X.fn n = true)) (hc : Names X x cSE) (tk : L2N.Takes X W) (hnv : nv = X.N.length) (hd : X.A.handled = none) (hx : ∀ c ∈ xs, ∀ C, ClsOf X.K c C → PySem.W.exmOne X.K (.ref C) cSE = some true)
    (hb : ∀ (W : WX) (pn : List (Addr × Obj)) (xe : Value → Shared → Prop), L2N.Takes (X.tr pn xe) W → PassesOwn (model X.prog X.w) X.A X.env xe → PSs (X.tr pn xe) body (tS (kx X) H0 G0 ph0 kp W nv (eb.den cf)))
    (hsu : ∀ (a : Addr) (pn : List (Addr × Obj)) (Ha Ga : Hp) (pa : List Addr), PSs (X.suite a pn) (b0 :: suite) (tS ⟨X.K, some (.ref a)⟩ Ha Ga pa [] (fun _ _ _ _ => False) nv (eh.den cf))) :
    PS X (.Try body [.ExceptHandler (some (.Name x np)) (some n) (b0 :: suite) pos1] [] [] pos) (tS (kx X) H0 G0 ph0 kp W nv ((Stm.tryE nv xs eb i eh).den cf)) :=
  psW (try_F (tb := fun W => tS (kx X) H0 G0 ph0 kp W nv (eb.den cf)) (ts := fun a oe cls d D σ H => ∃ Ha Ga pa, tS ⟨X.K, some (.ref a)⟩ Ha Ga pa [] (fun _ _ _ _ => False) nv (eh.den cf) D σ H) hs hf hex hN hi hln hc tk hb
    (fun a oe cls d pn _ _ => ⟨fun pins s σ H D I ⟨Ha, Ga, pa, h⟩ => (hsu a pn Ha Ga pa).run pins s σ H D I h⟩)) fun D σ H ⟨G, ph, env, st, o, r, ed, k1, k2⟩ => by
    simp only [Stm.den] at ed
    cases q1 : eb.den cf env st with
    | none => rw [q1] at ed; cases ed
    | some o1 =>
      rw [q1] at ed
      refine ⟨G, ph, env, st, o1, r, q1, fun env' st' eo => ?_, fun rr st' eo => ?_⟩
      · subst eo
        cases ed
        exact k1 _ _ rfl
      · subst eo
        by_cases hex : ∃ c, rr = .exc c
        · obtain ⟨c, rfl⟩ := hex
          refine ⟨fun v H' G' ph' _ _ hv => hv.elim, fun c' ec σ' H' G' ph' hl w' s' C hC => ?_⟩
          cases ec
          dsimp only at ed
          split at ed
          · rename_i hcx
            refine ⟨true, hx c hcx.1 C hC, fun _ a oe na zn ⟨ws, dv⟩ => ?_, (fun z => nomatch z)⟩
            cases q2 : eh.den cf (exEnv nv i c) st' with
            | none => rw [q2] at ed; cases ed
            | some o2 =>
              rw [q2] at ed
              have wn := w'.newG (o := exO oe) na
              have Gn : G' a = none := by
                cases e : G' a with
                | none => rfl
                | some u => have z := w'.sub a u e; rw [na] at z; cases z
              have H0n : H0 a = none := s'.dom a na
              have G0n : G0 a = none := by
                cases e : G0 a with
                | none => rfl
                | some u => have z := s'.g a u e; rw [Gn] at z; cases z
              refine ⟨upd H' a (exO oe), upd G' a (exO oe), ph', upd G' a (exO oe), ph', exEnv nv i c, st', o2, ?_, q2, fun env2 st2 eo => ?_, fun r2 st2 eo => ⟨fun v H2 G2 ph2 w2 s2 v2 f2 => ?_, fun x ex => ?_⟩⟩
              · refine ⟨⟨⟨wn.sub, wn.nd, wn.len, wn.box, ?_⟩, ?_, fun j y hj => ?_⟩, Stp.refl, fun j ds b hj => ?_, fun j l ds es b hj => ?_, fun j ds hj => ?_, ⟨(fun p hp => nomatch hp), fun p hp => nomatch hp⟩⟩
                · intro u hu
                  cases hu
                  exact ⟨a, oe, .own 0, ws, rfl, upd_same, dv, zn.2.2 ws dv⟩
                · unfold exEnv
                  rw [List.length_set, List.length_set, List.length_replicate, hl]
                · unfold exEnv at hj
                  rcases set_get hj with ⟨rfl, rfl⟩ | ⟨_, hj⟩
                  · have hlt := (List.getElem?_eq_some_iff.mp hj).1
                    rw [List.length_set, List.length_replicate] at hlt
                    exact ⟨.ref a, List.getElem?_set_self (by rw [hl]; exact hlt), a, oe, .own 0, C, ws, rfl, rfl, upd_same, hC, zn.1, zn.2.1, dv⟩
                  · rw [List.getElem?_replicate] at hj
                    split at hj <;> cases hj
                all_goals
                  unfold exEnv at hj
                  rcases set_get hj with ⟨_, z⟩ | ⟨_, hj⟩
                  · cases z
                  · rw [List.getElem?_replicate] at hj
                    split at hj <;> cases hj
              · subst eo
                cases ed
              · subst eo
                have Ga2 : G2 a = some (exO oe) := s2.g a _ upd_same
                have Ha2 : H2 a = some (exO oe) := w2.sub a _ Ga2
                refine ⟨Ha2, ?_⟩
                have wd : Wd (kx X) (del G2 a) (del H2 a) ph2 st2 := by
                  refine ⟨fun b u e => ?_, w2.nd, w2.len, fun m b ds h1 h2 => ?_, fun u hu => ?_⟩
                  · obtain ⟨ba, e⟩ := del_some e
                    rw [del_ne ba]; exact w2.sub b u e
                  · obtain ⟨g, vs, e1, e2⟩ := w2.box m b ds h1 h2
                    have ba : b ≠ a := fun z => by rw [z, Ga2] at g; cases g
                    exact ⟨by rw [del_ne ba]; exact g, vs, by rw [del_ne ba]; exact e1, DvAll.del Ga2 ds vs e2⟩
                  · have hu' : X.A.handled = some u := hu
                    rw [hd] at hu'
                    cases hu'
                have sd : Stp G0 H0 ph0 (del G2 a) (del H2 a) ph2 := by
                  have h1n : ∀ b, upd H' a (exO oe) b = none → H' b = none := fun b z => by
                    by_cases ba : b = a
                    · rw [ba]; exact na
                    · rw [upd_ne ba] at z; exact z
                  refine ⟨fun b u e => ?_, fun b u e => ?_, fun b u e nb => ?_, ?_, fun b e => ?_⟩
                  · have ba : b ≠ a := fun z => by rw [z, G0n] at e; cases e
                    rw [del_ne ba]
                    exact s2.g b u (by rw [upd_ne ba]; exact s'.g b u e)
                  · obtain ⟨ba, e⟩ := del_some e
                    rcases s2.gn b u e with z | z
                    · rw [upd_ne ba] at z; exact s'.gn b u z
                    · exact .inr (s'.dom b (h1n b z))
                  · have ba : b ≠ a := fun z => by rw [z, H0n] at e; cases e
                    rw [del_ne ba]
                    exact s2.fr b u (by rw [upd_ne ba]; exact s'.fr b u e nb) (s'.notin e nb)
                  · obtain ⟨p1, e1, q1⟩ := s'.ph
                    obtain ⟨p2, e2, q2⟩ := s2.ph
                    refine ⟨p1 ++ p2, by rw [e2, e1, List.append_assoc], fun b m => ?_⟩
                    rcases List.mem_append.mp m with m | m
                    · exact q1 b m
                    · exact s'.dom b (h1n b (q2 b m))
                  · by_cases ba : b = a
                    · rw [ba]; exact H0n
                    · rw [del_ne ba] at e; exact s'.dom b (h1n b (s2.dom b e))
                have h1n : ∀ b, upd H' a (exO oe) b = none → H0 b = none := fun b z => by
                  refine s'.dom b ?_
                  by_cases ba : b = a
                  · rw [ba]; exact na
                  · rw [upd_ne ba] at z; exact z
                split at ed
                · rename_i d st3 e3
                  cases e3
                  cases ed
                  exact (k2 _ _ rfl).1 v _ _ ph2 wd sd (Dv.del Ga2 d v v2) trivial
                · rename_i ds st3 e3
                  cases e3
                  cases ed
                  obtain ⟨p, vs, rfl, e1, e2, e4, e5⟩ := v2
                  have pa : p ≠ a := fun z => by rw [z, Ga2] at e2; cases e2
                  exact (k2 _ _ rfl).1 (.ref p) _ _ ph2 wd sd ⟨p, vs, rfl, by rw [del_ne pa]; exact e1, by rw [del_ne pa]; exact e2, e4, DvAll.del Ga2 ds vs e5⟩ fun b eb => by cases eb; exact h1n p (f2 p rfl)
                · cases ed
              · subst eo
                subst ex
                cases ed
          · cases ed
        · have eo : o = .rt rr st' := by
            cases rr with
            | exc c => exact absurd ⟨c, rfl⟩ hex
            | _ => cases ed; rfl
          subst eo
          exact ⟨(k2 _ _ rfl).1, fun x ex => absurd ⟨x, ex⟩ hex⟩
end
end Sy

namespace Sy
open PySem PySem.Spec PyProof.Rows L2
/-! ### for x in l, l a list of one's own that is changed later -/
section
variable {K : Kx} {kp : List (Nat × Addr × List V)} {H0 G0 G H : Hp} {ph0 ph : List Addr} {env : En} {st : Bx} {σ : L2.St}
theorem none_get {l : En} {i j : Nat} {r : R} (h : (l.set i none)[j]? = some (some r)) : i ≠ j ∧ l[j]? = some (some r) := by
  by_cases e : i = j
  · subst e
    by_cases hl : i < l.length
    · rw [List.getElem?_set_self hl] at h; cases h
    · rw [List.getElem?_eq_none (by simpa using hl)] at h; cases h
  · rw [List.getElem?_set_ne e] at h
    exact ⟨e, h⟩
theorem Rl.keep (r : Rl K H0 G0 ph0 kp G H ph env st σ) {i : Nat} {ds : List PyData} (hi : env[i]? = some (some (.own ds))) : ∃ a vs, σ[i]? = some (some (.ref a)) ∧ DvAll K G vs ds ∧ H0 a = none ∧ (∀ p ∈ kp, p.2.1 ≠ a) ∧ Rl K H0 G0 ph0 ((i, a, vs) :: kp) G H ph (env.set i none) st σ := by
  obtain ⟨v, hv, a, vs, rfl, h1, h2, h3, h4⟩ := r.e.sl i _ hi
  refine ⟨a, vs, hv, h4, r.fr i ds a hi hv, fun p hp e => r.kv.no p hp i ds hi (by rw [e]; exact hv), ⟨r.e.w, by rw [List.length_set]; exact r.e.ln, fun j y hj => r.e.sl j y (none_get hj).2⟩, r.s, fun j es b hj => r.fr j es b (none_get hj).2, fun j l es fs b hj hl => r.dj j l es fs b (none_get hj).2 (none_get hl).2, fun j es hj => r.nb j es (none_get hj).2, fun p hp => ?_, fun p hp j es hj hs => ?_⟩
  · rcases List.mem_cons.mp hp with rfl | hp
    · exact ⟨hv, h1, h2, h3⟩
    · exact r.kv.at_ p hp
  · obtain ⟨ne, hj⟩ := none_get hj
    rcases List.mem_cons.mp hp with rfl | hp
    · exact ne (r.dj i j ds es a hi hj hv hs)
    · exact r.kv.no p hp j es hj hs
theorem Rl.unkeep {i : Nat} {a : Addr} {vs : List V} {ds : List PyData} (r : Rl K H0 G0 ph0 ((i, a, vs) :: kp) G H ph env st σ) (hd : DvAll K G vs ds) (h0 : H0 a = none) (na : ∀ p ∈ kp, p.2.1 ≠ a) : Rl K H0 G0 ph0 kp G H ph (env.set i (some (.own ds))) st σ := by
  obtain ⟨q1, q2, q3, q4⟩ := r.kv.at_ _ List.mem_cons_self
  have no := r.kv.no _ List.mem_cons_self
  have q1 : σ[i]? = some (some (.ref a)) := q1
  refine ⟨⟨r.e.w, by rw [List.length_set]; exact r.e.ln, fun j y hj => ?_⟩, r.s, fun j es b hj hs => ?_, fun j l es fs b hj hl hs ht => ?_, fun j es hj => ?_, fun p hp => r.kv.at_ p (List.mem_cons_of_mem _ hp), fun p hp j es hj hs => ?_⟩
  · rcases set_get hj with ⟨rfl, rfl⟩ | ⟨ne, hj⟩
    · exact ⟨.ref a, q1, a, vs, rfl, q2, q3, q4, hd⟩
    · exact r.e.sl j y hj
  · rcases set_get hj with ⟨rfl, z⟩ | ⟨ne, hj⟩
    · rw [q1] at hs; cases hs; exact h0
    · exact r.fr j es b hj hs
  · rcases set_get hj with ⟨rfl, z⟩ | ⟨ne, hj⟩
    · rcases set_get hl with ⟨rfl, _⟩ | ⟨ne', hl⟩
      · rfl
      · rw [q1] at hs; cases hs
        exact absurd ht (no l fs hl)
    · rcases set_get hl with ⟨rfl, _⟩ | ⟨ne', hl⟩
      · rw [q1] at ht; cases ht
        exact absurd hs (no j es hj)
      · exact r.dj j l es fs b hj hl hs ht
  · rcases set_get hj with ⟨rfl, z⟩ | ⟨ne, hj⟩
    · cases z
    · exact r.nb j es hj
  · rcases set_get hj with ⟨rfl, z⟩ | ⟨ne, hj⟩
    · rw [q1] at hs
      cases hs
      exact na p hp rfl
    · exact r.kv.no p (List.mem_cons_of_mem _ hp) j es hj hs
end
section
variable {X : Cx} {cf : Cf} {H0 G0 : Hp} {ph0 : List Addr} {kp : List (Nat × Addr × List V)} {W : WX} {nv : Nat}
theorem ok_forO {tg : Expr} {x : Str} {px pos : Pos} {body : List Stmt} {i : Nat} {t : Tg} {b : Stms} (hk : ∀ p ∈ kp, p.1 ∉ t.idx) (hki : i ∉ t.idx) (hp : PassesOwn (model X.prog X.w) X.A X.env X.xe) (hc : X.calm = true) (hv : PE X (.Name x px) (tVar i)) (hg : PG X tg (gB X.K t))
    (hb : ∀ a vs, PSs X body (tS (kx X) H0 G0 ph0 ((i, a, vs) :: kp) W nv (b.den cf))) : PS X (.For tg (.Name x px) body [] pos) (tS (kx X) H0 G0 ph0 kp W nv ((Stm.forO i t b).den cf)) := by
  have hb' : PSs X body (fun D σ H => ∃ a vs, tS (kx X) H0 G0 ph0 ((i, a, vs) :: kp) W nv (b.den cf) D σ H) := ⟨fun pins s σ H D I ⟨a, vs, q⟩ => (hb a vs).run pins s σ H D I q⟩
  refine psW (ps_for hp hc (pi_sq hv) hg hb' fun _ => rfl) fun D σ H ⟨G, ph, env, st, o, r, ed, k1, k2⟩ => ?_
  simp only [Stm.den] at ed
  split at ed
  · rename_i ds hi
    obtain ⟨a, vs, hs, hd, h0, na, r0⟩ := r.keep hi
    generalize hstep : (fun d env st => (t.bind d env).bind fun env1 => b.den cf env1 st : PyData → En → Bx → Option Out) = step at ed
    obtain ⟨_, hH, _, _⟩ := r0.kv.at_ _ List.mem_cons_self
    refine ⟨.ref a, hs, true, a, vs, rfl, SqL.of hH, ?_⟩
    cases hgo : forGo step ds (env.set i none) st with
    | none => rw [hgo] at ed; cases ed
    | some o1 =>
      rw [hgo] at ed
      have hk' : ∀ p ∈ (i, a, vs) :: kp, p.1 ∉ t.idx := fun p hp => by
        rcases List.mem_cons.mp hp with rfl | hp
        · exact hki
        · exact hk p hp
      refine for_it (tb := fun D σ H => ∃ a vs, tS (kx X) H0 G0 ph0 ((i, a, vs) :: kp) W nv (b.den cf) D σ H) (g := gB X.K t) (D := D) (walk_sq (K := X.K) (a := a) (k := true) (xs := vs)) (fun j σi Hi => ∃ Gi phi envi sti, Rl (kx X) H0 G0 ph0 ((i, a, vs) :: kp) Gi Hi phi envi sti σi ∧ (∀ a u, G a = some u → Gi a = some u) ∧ forGo step (ds.drop j) envi sti = some o1) ?_ ?_ ?_ ?_
      · exact ⟨G, ph, env.set i none, st, r0, fun _ _ h => h, by rw [List.drop_zero]; exact hgo⟩
      · rintro j σi Hi _ ⟨Gi, phi, envi, sti, ri, up, _⟩
        obtain ⟨_, q2, _, _⟩ := ri.kv.at_ _ List.mem_cons_self
        exact SqL.of q2
      · rintro j y σi Hi H3 hj ⟨Gi, phi, envi, sti, ri, up, go⟩ y3
        obtain ⟨eH, ey⟩ := y3
        subst eH
        have hjd : j < ds.length := by rw [← hd.len]; exact hj
        have hgd : ds[j]? = some ds[j] := List.getElem?_eq_getElem hjd
        obtain ⟨z, hz, hdz⟩ := hd.get hgd
        rw [hz] at ey
        cases ey
        rw [List.drop_eq_getElem_cons hjd] at go
        unfold forGo at go
        rw [← hstep] at go
        dsimp only at go
        cases qb : t.bind ds[j] envi with
        | none => rw [qb] at go; cases go
        | some env1 =>
          rw [qb] at go
          simp only [Option.bind_some] at go
          refine ⟨Gi, ds[j], envi, env1, ri.e.w.sub, Dv.up up _ _ hdz, qb, fun σ2 u2 => ⟨a, vs, ?_⟩⟩
          have r4 := ri.ud hk' u2
          cases qd : b.den cf env1 sti with
          | none => rw [qd] at go; cases go
          | some o2 =>
            rw [qd] at go
            refine ⟨Gi, phi, env1, sti, o2, r4, qd, fun env' st' e σ' H' G' ph' r' u' => ?_, fun r' st' e => ?_⟩
            · subst e
              dsimp only at go
              exact ⟨G', ph', env', st', r', fun a u q => u' a u (up a u q), by rw [← hstep]; exact go⟩
            · subst e
              dsimp only at go
              cases go
              cases ed
              exact k2 _ _ rfl
      · rintro σn Hn ⟨Gn, phn, envn, stn, rn, up, go⟩
        have hll : vs.length = ds.length := hd.len
        rw [hll, List.drop_length] at go
        unfold forGo at go
        cases go
        cases ed
        exact k1 _ _ rfl _ _ Gn phn (rn.unkeep (DvAll.up up ds vs hd) h0 na) up
  · cases ed
end
end Sy

namespace Sy
open PySem PySem.Spec PyProof.Rows L2

/-! ### the text beside its term: what is checked -/
/-- where a text stands: the slots' names, the scope, which cells are one's own -/
structure Cc where
  N : List Str
  sc : Scope
  fn : Str → Bool
  hot : Bool := false
  kp : List Nat := []
/-- what the module has: defs, built-ins that no global hides -/
structure Sg where
  fs : List String
  bs : List String
  gs : List (String × PyData)
  hs : List String := []
  xs : List String := []
  ts : List String := []
def Cc.blk (c : Cc) (scope : Scope) : Cc := ⟨c.N, relS scope c.sc, fun x => scope.names.lookup x == some .cell, c.hot, c.kp⟩
def Cc.suite (c : Cc) : Cc := { c with hot := true, kp := [] }
def Cc.keep (c : Cc) (i : Nat) : Cc := { c with kp := i :: c.kp }
def Cc.free (c : Cc) (i : Nat) : Bool := !decide (i ∈ c.kp)
def plBase : Expr → Bool
  | .Call _ _ _ _ => false
  | _ => true
def isR1 : Itx → Bool
  | .rng (.cons _ .nil) => true
  | _ => false
def isR12 : Exs → Bool
  | .cons _ .nil => true
  | .cons _ (.cons _ .nil) => true
  | _ => false
def nmB (c : Cc) (i : Nat) (x : Str) : Bool := decide (c.N[i]? = some x)
def visB (sc : Scope) (x : Str) : Bool := match sc.names.lookup x with
  | some .local => true
  | some .cell => true
  | some .free => true
  | _ => false
def dbgB (x : Str) : Bool := !(x == ("__debug__" : Str)) && !(x == ("__classdict__" : Str))
def varB (c : Cc) (i : Nat) (x : Str) : Bool := nmB c i x && visB c.sc x && dbgB x
def locB (c : Cc) (x : Str) : Bool := decide (c.sc.names.lookup x = some .local)
def putB (c : Cc) (i : Nat) (x : Str) : Bool := nmB c i x && (match c.sc.names.lookup x with
  | some .local => true
  | some .cell => c.fn x
  | _ => false)
def glB (c : Cc) (x : Str) : Bool := decide (c.sc.names.lookup x = some .globalImplicit)
def noStar : Expr → Bool
  | .Starred _ _ => false
  | _ => true
def isComp : Expr → Bool
  | .ListComp _ _ _ _ => true
  | .SetComp _ _ _ _ => true
  | .DictComp _ _ _ _ _ => true
  | _ => false
def isSet : Expr → Bool
  | .Set _ _ _ => true
  | _ => false
def isSlice : Expr → Bool
  | .Slice _ _ _ _ => true
  | _ => false
def isTuple : Expr → Bool
  | .Tuple _ _ _ => true
  | _ => false
def plainT : Expr → Bool
  | .UnaryOp _ _ _ => false
  | .BoolOp _ _ _ => false
  | .IfExp _ _ _ _ => false
  | .Compare _ _ _ _ => false
  | _ => true
def swB (c : Cc) (scope : Scope) (t : Str) (pos vpos : Pos) : Bool :=
  (if c.sc.kind.isAnnotationScope then ScopeKind.function else c.sc.kind) == .function && c.sc.names.lookup t == some .local && pos.line == vpos.line && !(scope.names.any fun (n, k) => n == t && (k == .local || k == .cell))
def parB (c : Cc) (x y : Str) (px py : Pos) (a b : Expr) : Bool :=
  c.sc.kind == .function && locB c x && locB c y && py.line == px.line && !(x == y) && noStar a && noStar b && !(foldedForSure 8 a && foldedForSure 8 b) && !(constantsAlone 8 a && constantsAlone 8 b)
def par3B (c : Cc) (x y z : Str) (px py pz : Pos) (a b d : Expr) : Bool :=
  c.sc.kind == .function && locB c x && locB c y && locB c z && py.line == px.line && pz.line == px.line && !(x == y) && !(x == z) && !(y == z) && noStar a && noStar b && noStar d && !(foldedForSure 8 a && (foldedForSure 8 b && foldedForSure 8 d)) && !(constantsAlone 8 a && (constantsAlone 8 b && constantsAlone 8 d))
def nonLoc (c : Cc) : Expr → Bool
  | .Name x _ => !locB c x
  | _ => true
def unpB (c : Cc) (es : List Expr) (e : Expr) : Bool := match e with
  | .Tuple vs _ _ => vs.all (foldedForSure 8) || es.any (nonLoc c)
  | _ => true
def constB : PyData → Const → Bool
  | .none, .none => true
  | .bool b, .bool b' => b == b'
  | .int i, .int j => decide (i = j)
  | .str x, .str y => decide (x = y)
  | _, _ => false

/-! two data alike, decided -/
mutual
def sameD : PyData → PyData → Bool
  | .none, .none => true
  | .bool a, .bool b => a == b
  | .int i, .int j => decide (i = j)
  | .str x, .str y => decide (x = y)
  | .list xs, .list ys => sameDs xs ys
  | .tuple xs, .tuple ys => sameDs xs ys
  | _, _ => false
def sameDs : List PyData → List PyData → Bool
  | [], [] => true
  | d :: ds, e :: es => sameD d e && sameDs ds es
  | _, _ => false
end
mutual
theorem sameD_eq : ∀ {d e : PyData}, sameD d e = true → d = e
  | .none, .none, _ => rfl
  | .bool a, .bool b, h => by unfold sameD at h; rw [beq_iff_eq.mp h]
  | .int i, .int j, h => by unfold sameD at h; rw [of_decide_eq_true h]
  | .str x, .str y, h => by unfold sameD at h; rw [of_decide_eq_true h]
  | .list xs, .list ys, h => by unfold sameD at h; rw [sameDs_eq h]
  | .tuple xs, .tuple ys, h => by unfold sameD at h; rw [sameDs_eq h]
theorem sameDs_eq : ∀ {d e : List PyData}, sameDs d e = true → d = e
  | [], [], _ => rfl
  | d :: ds, e :: es, h => by
    unfold sameDs at h
    rw [Bool.and_eq_true] at h
    rw [sameD_eq h.1, sameDs_eq h.2]
end
section
variable {X : Cx}
theorem star1 {e : Expr} (es : List Expr) (env : Env) (h : noStar e = true) : starEach (e :: es) env = (false, eval e env) :: starEach es env := by
  cases e <;> first | rfl | cases h
theorem back0 (pos : Pos) (env : Env) : ∀ {es : List Expr}, es.all noStar = true → (backTo pos (starEach es env)).any (·.1) = false
  | [], _ => rfl
  | e :: es, h => by
    rw [List.all_cons, Bool.and_eq_true] at h
    rw [star1 es env h.1]
    show (false || (backTo pos (starEach es env)).any (·.1)) = false
    rw [back0 pos env h.2]
    rfl
theorem asg1 {e : Expr} (es : List Expr) (env : Env) (h : noStar e = true) : assignEach (e :: es) env = (false, assign e env) :: assignEach es env := by
  cases e <;> first | rfl | cases h
theorem asgLen (env : Env) : ∀ {es : List Expr}, es.all noStar = true → (assignEach es env).length = es.length ∧ (assignEach es env).findIdx? (·.1) = none
  | [], _ => ⟨rfl, rfl⟩
  | e :: es, h => by
    rw [List.all_cons, Bool.and_eq_true] at h
    obtain ⟨h1, h2⟩ := asgLen env h.2
    rw [asg1 es env h.1]
    refine ⟨by rw [List.length_cons, List.length_cons, h1], ?_⟩
    rw [List.findIdx?_cons]
    simp [h2]
theorem swN {e : Expr} {t : Option Expr} {l : Nat} {env : Env} (h : isComp e = false) : swapsWith e t l env = pure false := by
  cases e <;> first | rfl | cases h
theorem swL {elt : Expr} {gs : List Comprehension} {scope : Scope} {pos py : Pos} {y : Str} {l : Nat} {env : Env} {c : Cc} (hs : env.scope = c.sc) : swapsWith (.ListComp elt gs scope pos) (some (.Name y py)) l env = pure (swB c scope y py pos) := by
  unfold swB
  rw [← hs]
  rfl
theorem swT {e : Expr} {es : List Expr} {k : Nat} {p : Pos} {l : Nat} {env : Env} : swapsWithSole [.Tuple es k p] e l env = pure false := by
  cases e <;> rfl
theorem swS {e o i : Expr} {p : Pos} {l : Nat} {env : Env} : swapsWithSole [.Subscript o i p] e l env = pure false := by
  cases e <;> rfl
theorem ssS {e o i : Expr} {p : Pos} {env : Env} : swappedStores [.Subscript o i p] e env = pure none := by
  cases e <;> rfl
theorem folds {e : Expr} (h : isSet e = false) (env : Env) : ∀ x, foldedSetIterable e env x = pure x := fun x => by
  cases e <;> first | rfl | cases h
theorem plT {e : Expr} {env : Env} (h : plainT e = true) : ∀ whole, isTrue e env whole = (do let v ← whole; standAt e.pos; holding [v] (truthy v)) := fun whole => by
  cases e <;> first | rfl | cases h
theorem plIx {b : Expr} (h : isSlice b = false) : PlainIx b := fun o i => by
  cases b <;> first | rfl | cases h
theorem noMark {o : CmpOp} {b : Expr} (h : isSet b = false) : behindInMarks o b = false := by
  cases b <;> first | rfl | cases h
def rvB : Expr → Bool
  | .Slice none none (some (.UnaryOp .USub (.Constant (.int i) _ _) _)) _ => i == 1
  | _ => false
theorem rvB_eq {e : Expr} (h : rvB e = true) : ∃ k p1 p2 p3, e = .Slice none none (some (.UnaryOp .USub (.Constant (.int 1) k p1) p2)) p3 := by
  unfold rvB at h
  split at h
  · rename_i i k p1 p2 p3
    rw [beq_iff_eq] at h
    subst h
    exact ⟨_, _, _, _, rfl⟩
  · cases h
theorem fm_lt {α β : Type} {f : α → Option β} : ∀ {l : List α}, (∃ a ∈ l, f a = none) → (l.filterMap f).length < l.length
  | [], ⟨_, h, _⟩ => nomatch h
  | a :: l, ⟨b, h, e⟩ => by
    rw [List.filterMap_cons, List.length_cons]
    cases hf : f a with
    | none =>
      have := List.length_filterMap_le f l
      dsimp only
      omega
    | some y =>
      rcases List.mem_cons.mp h with rfl | h
      · rw [hf] at e; cases e
      · have := fm_lt ⟨b, h, e⟩
        dsimp only
        rw [List.length_cons]
        omega
theorem ite_non {α : Type} {c : Prop} [Decidable c] {x y : α} (h : ¬ c → y = x) : (if c then x else y) = x := by
  by_cases z : c
  · rw [if_pos z]
  · rw [if_neg z, h z]
theorem ssT {c : Cc} {e : Expr} {es : List Expr} {k : Nat} {p : Pos} {env : Env} (hs : env.scope = c.sc) (h : unpB c es e = true) : swappedStores [.Tuple es k p] e env = pure none := by
  cases e with
  | Tuple vs k2 p2 =>
    unfold unpB at h
    dsimp only at h
    rw [Bool.or_eq_true] at h
    rcases h with h | h
    · unfold swappedStores
      simp only [h, if_true]
      repeat' split
      all_goals rfl
    · obtain ⟨a, ha, hn⟩ := List.any_eq_true.mp h
      have key : ∀ f : Expr → Option Str, (∀ x q, env.kindOf x ≠ some .local → f (.Name x q) = none) → (∀ b, (∀ x q, b ≠ .Name x q) → f b = none) → ((es.filterMap f).length != es.length) = true := fun f f1 f2 => by
        have hf : f a = none := by
          cases a with
          | Name x q =>
            refine f1 x q fun hk => ?_
            unfold nonLoc locB at hn
            unfold Env.kindOf at hk
            rw [hs] at hk
            dsimp only at hn
            rw [hk] at hn
            simp at hn
          | _ => exact f2 _ (fun x q z => by cases z)
        have := fm_lt ⟨a, ha, hf⟩
        rw [bne_iff_ne]
        omega
      unfold swappedStores
      refine ite_non fun _ => ite_non fun _ => ?_
      refine Eq.trans (if_pos ?_) rfl
      rw [Bool.or_eq_true]
      refine .inl (key _ (fun x q hk => ?_) fun b hb => ?_)
      · refine if_neg fun z => ?_
        rw [Bool.and_eq_true, beq_iff_eq] at z
        exact hk z.1
      · cases b <;> first | rfl | exact absurd rfl (hb _ _)
  | _ => rfl
theorem ssP {c : Cc} {x y : Str} {px py : Pos} {a b : Expr} {kt k2 : Nat} {pt p2 : Pos} {env : Env} (hs : env.scope = c.sc) (h : parB c x y px py a b = true) : swappedStores [.Tuple [.Name x px, .Name y py] kt pt] (.Tuple [a, b] k2 p2) env = pure (some [x, y]) := by
  unfold parB locB at h
  simp only [Bool.and_eq_true, decide_eq_true_eq, Bool.not_eq_true', beq_iff_eq, beq_eq_false_iff_ne] at h
  obtain ⟨⟨⟨⟨⟨⟨⟨⟨h1, h2⟩, h3⟩, h4⟩, h5⟩, h6⟩, h7⟩, h8⟩, h9⟩ := h
  have kx : env.kindOf x = some .local := by unfold Env.kindOf; rw [hs]; exact h2
  have ky : env.kindOf y = some .local := by unfold Env.kindOf; rw [hs]; exact h3
  have bk : env.blockKind = .function := by unfold Env.blockKind; rw [hs, h1]; rfl
  have st : ∀ p : Expr → Bool, (∀ e, noStar e = true → p e = false) → ¬ ([a, b].any p = true) := fun p q => by
    rw [List.any_cons, List.any_cons, List.any_nil, q a h6, q b h7]; decide
  have f8 : ([a, b].all (foldedForSure 8)) = false := by rw [List.all_cons, List.all_cons, List.all_nil, Bool.and_true]; exact h8
  have f9 : ([a, b].all (constantsAlone 8)) = false := by rw [List.all_cons, List.all_cons, List.all_nil, Bool.and_true]; exact h9
  have nm : ∀ p : Expr → Option Str, p (.Name x px) = some x → p (.Name y py) = some y → List.filterMap p [.Name x px, .Name y py] = [x, y] := fun p q1 q2 => by
    rw [List.filterMap_cons, q1]
    show x :: List.filterMap p [.Name y py] = _
    rw [List.filterMap_cons, q2]
    rfl
  have yx : (y == x) = false := by rw [beq_eq_false_iff_ne]; exact fun e => h5 e.symm
  have dd : ([x, y].eraseDups) = [x, y] := by
    rw [List.eraseDups_cons, List.filter_cons, yx]
    simp [List.eraseDups_cons]
  unfold swappedStores
  simp only [bk, f8, f9]
  refine (if_neg (by simp)).trans ?_
  refine (if_neg (st _ fun e he => by cases e <;> first | rfl | cases he)).trans ?_
  rw [nm _ (by simp [kx, Expr.pos]) (by simp [ky, h4, Expr.pos]), dd]
  rfl
theorem ssP3 {c : Cc} {x y z : Str} {px py pz : Pos} {a b d : Expr} {kt k2 : Nat} {pt p2 : Pos} {env : Env} (hs : env.scope = c.sc) (h : par3B c x y z px py pz a b d = true) : swappedStores [.Tuple [.Name x px, .Name y py, .Name z pz] kt pt] (.Tuple [a, b, d] k2 p2) env = pure (some [x, y, z]) := by
  unfold par3B locB at h
  simp only [Bool.and_eq_true, decide_eq_true_eq, Bool.not_eq_true', beq_iff_eq, beq_eq_false_iff_ne] at h
  obtain ⟨⟨⟨⟨⟨⟨⟨⟨⟨⟨⟨⟨⟨h1, h2⟩, h3⟩, h4⟩, h5⟩, h6⟩, h7⟩, h8⟩, h9⟩, ha⟩, hb⟩, hd⟩, hf⟩, hg⟩ := h
  have kx : env.kindOf x = some .local := by unfold Env.kindOf; rw [hs]; exact h2
  have ky : env.kindOf y = some .local := by unfold Env.kindOf; rw [hs]; exact h3
  have kz : env.kindOf z = some .local := by unfold Env.kindOf; rw [hs]; exact h4
  have bk : env.blockKind = .function := by unfold Env.blockKind; rw [hs, h1]; rfl
  have st : ∀ p : Expr → Bool, (∀ e, noStar e = true → p e = false) → ¬ ([a, b, d].any p = true) := fun p q => by
    rw [List.any_cons, List.any_cons, List.any_cons, List.any_nil, q a ha, q b hb, q d hd]; decide
  have f8 : ([a, b, d].all (foldedForSure 8)) = false := by rw [List.all_cons, List.all_cons, List.all_cons, List.all_nil, Bool.and_true]; exact hf
  have f9 : ([a, b, d].all (constantsAlone 8)) = false := by rw [List.all_cons, List.all_cons, List.all_cons, List.all_nil, Bool.and_true]; exact hg
  have nm : ∀ p : Expr → Option Str, p (.Name x px) = some x → p (.Name y py) = some y → p (.Name z pz) = some z → List.filterMap p [.Name x px, .Name y py, .Name z pz] = [x, y, z] := fun p q1 q2 q3 => by
    rw [List.filterMap_cons, q1]
    show x :: List.filterMap p [.Name y py, .Name z pz] = _
    rw [List.filterMap_cons, q2]
    show x :: y :: List.filterMap p [.Name z pz] = _
    rw [List.filterMap_cons, q3]
    rfl
  have yx : (y == x) = false := by rw [beq_eq_false_iff_ne]; exact fun e => h7 e.symm
  have zx : (z == x) = false := by rw [beq_eq_false_iff_ne]; exact fun e => h8 e.symm
  have zy : (z == y) = false := by rw [beq_eq_false_iff_ne]; exact fun e => h9 e.symm
  have dd : ([x, y, z].eraseDups) = [x, y, z] := by
    rw [List.eraseDups_cons, List.filter_cons, yx]
    simp [List.eraseDups_cons, zx, List.filter_cons, zy]
  unfold swappedStores
  simp only [bk, f8, f9]
  refine (if_neg (by simp)).trans ?_
  refine (if_neg (st _ fun e he => by cases e <;> first | rfl | cases he)).trans ?_
  rw [nm _ (by simp [kx, Expr.pos]) (by simp [ky, h5, Expr.pos]) (by simp [kz, h6, Expr.pos]), dd]
  rfl
end
/-! ### the check -/
def opB : Bop → Operator → Bool
  | .add, .Add => true | .sub, .Sub => true | .mul, .Mult => true | .fdiv, .FloorDiv => true | .mod, .Mod => true | .pow, .Pow => true
  | _, _ => false
def cpB (o : Cop) (q : CmpOp) : Bool := decide (q = cOf o)
def isB (neg : Bool) (q : CmpOp) : Bool := decide (q = if neg then .IsNot else .Is)
def ownOf (c : Cc) (ow : List Nat) : List (Str × Nat) := ow.filterMap fun i => (c.N[i]?).map fun x => (x, i)
def lcB (c : Cc) (scope : Scope) (ow ix : List Nat) : Bool :=
  blkC c.N c.sc scope (ownOf c ow) && decide ((ownOf c ow).map (·.2) = ow) && ix.all fun i => decide (i ∈ ow)
mutual
def chkG (c : Cc) : Tg → Expr → Bool
  | .nm i, e => match e with
    | .Name x _ => putB c i x
    | _ => false
  | .tp ts, e => match e with
    | .Tuple es _ _ => !c.hot && chkGs c ts es
    | _ => false
def chkGs (c : Cc) : Tgs → List Expr → Bool
  | .nil, es => match es with
    | [] => true
    | _ => false
  | .cons t r, es => match es with
    | e :: es => noStar e && chkG c t e && chkGs c r es
    | _ => false
end
mutual
def chkE (S : Sg) : Ex → Cc → Expr → Bool
  | .c d, _, e => match e with
    | .Constant k _ _ => constB d k
    | _ => false
  | .v i, c, e => match e with
    | .Name x _ => varB c i x
    | _ => false
  | .g x d, c, e => match e with
    | .Name y _ => decide (y = Str.ofString x) && glB c y && dbgB y && (S.gs.any fun p => decide (p.1 = x) && sameD p.2 d)
    | _ => false
  | .never, _, _ => true
  | .bin o a b, c, e => match e with
    | .BinOp l p r _ => opB o p && chkE S a c l && chkE S b c r
    | _ => false
  | .neg a, c, e => match e with
    | .UnaryOp .USub l _ => chkE S a c l
    | _ => false
  | .tst t, c, e => chkT S t c e
  | .ite t a b, c, e => match e with
    | .IfExp q l r _ => chkT S t c q && chkE S a c l && chkE S b c r
    | _ => false
  | .tup es, c, e => match e with
    | .Tuple l _ _ => chkEs S es c l
    | _ => false
  | .lst es, c, e => match e with
    | .List l _ => chkEs S es c l
    | _ => false
  | .box es, c, e => match e with
    | .List l _ => chkEs S es c l
    | _ => false
  | .ix a b, c, e => match e with
    | .Subscript l r _ => !isSlice r && chkE S a c l && chkE S b c r
    | _ => false
  | .sl a lo hi, c, e => match e with
    | .Subscript l (.Slice p q none _) _ => chkE S a c l && chkO S lo c p && chkO S hi c q
    | _ => false
  | .rev a, c, e => match e with
    | .Subscript l q _ => rvB q && chkE S a c l
    | _ => false
  | .ixP f es k, c, e => match e with
    | .Subscript (.Call (.Name x _) (a :: l) [] _) (.Constant (.int j) _ _) _ => decide (x = Str.ofString f) && (if c.hot then decide (f ∈ S.hs) else decide (f ∈ S.fs)) && glB c x && dbgB x && decide (j = if k then 0 else 1) && chkEs S es c (a :: l)
    | _ => false
  | .call f es, c, e => match e with
    | .Call (.Name x _) l [] _ => decide (x = Str.ofString f) && (if c.hot then decide (f ∈ S.hs) else decide (f ∈ S.fs)) && glB c x && dbgB x && chkEs S es c l
    | _ => false
  | .blt f es, c, e => match e with
    | .Call (.Name x _) (a :: l) [] _ => decide (x = Str.ofString (bltName f)) && decide (bltName f ∈ S.bs) && glB c x && !(c.hot && coldB f) && chkEs S es c (a :: l)
    | _ => false
  | .isi a t, c, e => match e with
    | .Call (.Name x _) [l, .Name y _] [] _ => decide (x = Str.ofString "isinstance") && decide ("isinstance" ∈ S.bs) && glB c x && decide (y = Str.ofString (tyName t)) && decide (tyName t ∈ S.bs) && glB c y && noStar l && chkE S a c l
    | _ => false
  | .isx a t xs, c, e => match e with
    | .Call (.Name x _) [l, .Name y _] [] _ => decide (x = Str.ofString "isinstance") && decide ("isinstance" ∈ S.bs) && glB c x && decide (y = Str.ofString t) && decide (t ∈ S.ts) && glB c y && dbgB y && noStar l && (xs.all fun z => decide (z ∈ S.xs)) && chkE S a c l
    | _ => false
  | .dct l, _, e => match e with
    | .Dict [] [] _ => l.isEmpty
    | .Dict [some (.Constant (.str s) _ _)] [.Constant (.int j) _ _] _ => (match l with
      | [(x, i)] => decide (s = Str.ofString x) && decide (i = j)
      | _ => false)
    | _ => false
  | .lrg es, c, e => match e with
    | .Call (.Name x _) [.Call (.Name y _) l [] _] [] _ => !c.hot && decide (x = Str.ofString "list") && decide ("list" ∈ S.bs) && glB c x && decide (y = Str.ofString "range") && decide ("range" ∈ S.bs) && glB c y && chkEs S es c l && isR12 es
    | _ => false
  | .mth m o a, c, e => match e with
    | .Call (.Attribute l nm apos) [r] [] cpos => decide (nm = Str.ofString (mthName m)) && plBase l && apos.endLine == cpos.line && noStar r && chkE S o c l && chkE S a c r
    | _ => false
  | .orv a b, c, e => match e with
    | .BoolOp .Or [l, r] _ => chkE S a c l && chkE S b c r
    | _ => false
  | .lc el t it cd ow, c, e => match e with
    | .ListComp elt [⟨tg, iter, ifs, 0⟩] scope _ => (!c.hot || isR1 it) && lcB c scope ow t.idx && !isSet iter && chkI S it c tg iter && chkG (c.blk scope) t tg && chkC S cd (c.blk scope) ifs && chkE S el (c.blk scope) elt
    | _ => false
def chkEs (S : Sg) : Exs → Cc → List Expr → Bool
  | .nil, _, es => match es with
    | [] => true
    | _ => false
  | .cons a r, c, es => match es with
    | e :: es => noStar e && chkE S a c e && chkEs S r c es
    | _ => false
def chkO (S : Sg) : Exo → Cc → Option Expr → Bool
  | .no, _, o => match o with
    | none => true
    | _ => false
  | .yes a, c, o => match o with
    | some e => chkE S a c e
    | _ => false
def chkT (S : Sg) : Ts → Cc → Expr → Bool
  | .val a, c, e => plainT e && chkE S a c e
  | .cmp o a b, c, e => match e with
    | .Compare l [q] [r] _ => cpB o q && !isSet r && chkE S a c l && chkE S b c r
    | _ => false
  | .chn a r, c, e => match e with
    | .Compare l (q1 :: q2 :: qs) (e1 :: e2 :: es) _ => !lastMarks (q1 :: q2 :: qs) (e1 :: e2 :: es) && chkE S a c l && chkH S r c (q1 :: q2 :: qs) (e1 :: e2 :: es)
    | _ => false
  | .isn a neg, c, e => match e with
    | .Compare l [q] [.Constant .none _ _] _ => isB neg q && chkE S a c l
    | _ => false
  | .isb a neg k, c, e => match e with
    | .Compare l [q] [.Constant (.bool b) _ _] _ => isB neg q && (k == b) && chkE S a c l
    | _ => false
  | .and ts, c, e => match e with
    | .BoolOp .And es _ => chkTs S ts c es
    | _ => false
  | .or ts, c, e => match e with
    | .BoolOp .Or es _ => chkTs S ts c es
    | _ => false
  | .not t, c, e => match e with
    | .UnaryOp .Not l _ => chkT S t c l
    | _ => false
def chkH (S : Sg) : Chn → Cc → List CmpOp → List Expr → Bool
  | .last o b, c, qs, es => match qs, es with
    | [q], [e] => cpB o q && chkE S b c e
    | _, _ => false
  | .link o b r, c, qs, es => match qs, es with
    | q :: qs, e :: es => cpB o q && chkE S b c e && chkH S r c qs es
    | _, _ => false
def chkTs (S : Sg) : Tss → Cc → List Expr → Bool
  | .one t, c, es => match es with
    | [e] => chkT S t c e
    | _ => false
  | .cons t r, c, es => match es with
    | e :: e2 :: es => chkT S t c e && chkTs S r c (e2 :: es)
    | _ => false
def chkC (S : Sg) : Tso → Cc → List Expr → Bool
  | .no, _, es => match es with
    | [] => true
    | _ => false
  | .yes t, c, es => match es with
    | [e] => chkT S t c e
    | _ => false
/-- tg: the target beside it -/
def chkI (S : Sg) : Itx → Cc → Expr → Expr → Bool
  | .seq a, c, _, e => chkE S a c e
  | .sgn a, c, _, e => chkE S a c e
  | .rng es, c, _, e => match e with
    | .Call (.Name x _) l [] _ => decide (x = Str.ofString "range") && decide ("range" ∈ S.bs) && glB c x && chkEs S es c l && (match es with
      | .cons _ .nil => true
      | .cons _ (.cons _ .nil) => true
      | _ => false)
    | _ => false
  | .zip a b, c, tg, e => match e with
    | .Call (.Name x _) [l, r] [] _ => isTuple tg && decide (x = Str.ofString "zip") && decide ("zip" ∈ S.bs) && glB c x && noStar l && noStar r && chkE S a c l && chkE S b c r
    | _ => false
  | .enum a, c, tg, e => match e with
    | .Call (.Name x _) [l] [] _ => isTuple tg && decide (x = Str.ofString "enumerate") && decide ("enumerate" ∈ S.bs) && glB c x && noStar l && chkE S a c l
    | _ => false
end
/-- o.append(e): the method, on one line -/
def mthB (c : Cc) (i : Nat) (m : String) (x a : Str) (apos cpos : Pos) : Bool := varB c i x && decide (a = Str.ofString m) && apos.endLine == cpos.line
mutual
def chkS (S : Sg) : Stm → Cc → Stmt → Bool
  | .never, _, _ => true
  | .pass, _, s => match s with
    | .Pass _ => true
    | _ => false
  | .asg i e, c, s => match s with
    | .Assign [.Name x p] v pos => chkE S e c v && nmB c i x && c.free i && (match e, v with
      | .lc _ _ _ _ _, .ListComp _ _ scope vp => locB c x && (if c.hot then !swB c scope x p vp && putB c i x else swB c scope x p vp || putB c i x)
      | _, _ => !isComp v && putB c i x)
    | _ => false
  | .par i j a b, c, s => match s with
    | .Assign [.Tuple [.Name x px, .Name y py] _ _] (.Tuple [l, r] _ _) _ => !c.hot && c.free i && c.free j && nmB c i x && nmB c j y && parB c x y px py l r && chkE S a c l && chkE S b c r
    | _ => false
  | .par3 i j l a b d, c, s => match s with
    | .Assign [.Tuple [.Name x px, .Name y py, .Name z pz] _ _] (.Tuple [p, q, r] _ _) _ => !c.hot && c.free i && c.free j && c.free l && nmB c i x && nmB c j y && nmB c l z && par3B c x y z px py pz p q r && chkE S a c p && chkE S b c q && chkE S d c r
    | _ => false
  | .setO i k e, c, s => match s with
    | .Assign [.Subscript (.Name x _) r _] v _ => varB c i x && !isSlice r && chkE S k c r && chkE S e c v
    | _ => false
  | .unp t e, c, s => match s with
    | .Assign [.Tuple es k p] v _ => t.idx.all c.free && unpB c es v && chkG c t (.Tuple es k p) && chkE S e c v
    | _ => false
  | .setB o i e, c, s => match s with
    | .Assign [.Subscript l r _] v _ => !isSlice r && chkE S o c l && chkE S i c r && chkE S e c v
    | _ => false
  | .exp e, c, s => match s with
    | .Expr v _ => !isComp v && chkE S e c v
    | _ => false
  | .app i e, c, s => match s with
    | .Expr (.Call (.Attribute (.Name x _) a apos) [v] [] cpos) _ => mthB c i "append" x a apos cpos && noStar v && chkE S e c v
    | _ => false
  | .ext i e, c, s => match s with
    | .Expr (.Call (.Attribute (.Name x _) a apos) [v] [] cpos) _ => mthB c i "extend" x a apos cpos && noStar v && chkE S e c v
    | _ => false
  | .iff t a b, c, s => match s with
    | .If q l r _ => chkT S t c q && chkSs S a c l && chkSs S b c r
    | _ => false
  | .whl t b, c, s => match s with
    | .While q l [] _ => chkT S t c q && chkSs S b c l
    | _ => false
  | .forr t it b, c, s => match s with
    | .For tg iter l [] _ => !c.hot && t.idx.all c.free && !isSet iter && chkI S it c tg iter && chkG c t tg && chkSs S b c l
    | _ => false
  | .ret e, c, s => match s with
    | .Return (some v) _ => chkE S e c v
    | _ => false
  | .retv i, c, s => match s with
    | .Return (some (.Name x _)) _ => varB c i x
    | _ => false
  | .frz _, _, _ => false
  | .expC f es, c, s => match s with
    | .Expr (.Call (.Name x _) l [] _) _ => !c.hot && decide (x = Str.ofString f) && decide (f ∈ S.fs) && glB c x && dbgB x && chkEs S es c l
    | _ => false
  | .retC f es, c, s => match s with
    | .Return (some (.Call (.Name x _) l [] _)) _ => !c.hot && decide (x = Str.ofString f) && decide (f ∈ S.fs) && glB c x && dbgB x && chkEs S es c l
    | _ => false
  | .asgC i f es, c, s => match s with
    | .Assign [.Name y _] (.Call (.Name x _) l [] _) _ => !c.hot && c.free i && putB c i y && decide (x = Str.ofString f) && decide (f ∈ S.fs) && glB c x && dbgB x && chkEs S es c l
    | _ => false
  | .raise k, c, s => match s with
    | .Raise (some (.Call (.Name x _) [.Constant (.str _) _ _] [] _)) none _ => !c.hot && decide (x = Str.ofString k) && decide (k ∈ S.xs) && glB c x && dbgB x
    | _ => false
  | .tryE nv xs b i h, c, s => match s with
    | .Try body [.ExceptHandler (some (.Name x _)) (some n) (b0 :: suite) _] [] [] _ => !c.hot && decide (x = Str.ofString "StepError") && decide ("StepError" ∈ S.ts) && glB c x && putB c i n && decide (nv = c.N.length) && (xs.all fun z => decide (z ∈ S.xs)) && chkSs S b c body && chkSs S h c.suite (b0 :: suite)
    | _ => false
  | .forO i t b, c, s => match s with
    | .For tg (.Name x _) l [] _ => !c.hot && varB c i x && c.free i && t.idx.all c.free && !decide (i ∈ t.idx) && chkG c t tg && chkSs S b (c.keep i) l
    | _ => false
  | .retP i e, c, s => match s with
    | .Return (some (.Tuple [.Name x _, v] _ _)) _ => varB c i x && noStar v && chkE S e c v
    | _ => false
def chkSs (S : Sg) : Stms → Cc → List Stmt → Bool
  | .nil, _, ss => match ss with
    | [] => true
    | _ => false
  | .cons d r, c, ss => match d with
    | .frz _ => chkSs S r c ss
    | d => match ss with
      | s :: ss => chkS S d c s && chkSs S r c ss
      | _ => false
end
end Sy

namespace Sy
open PySem PySem.Spec PyProof.Rows L2

/-- a type that isinstance is asked for -/
def TyK (K : PySem.W.Frag) (mg : Str → Option Value) (xs : List String) (t : String) : Prop := ∃ (tv : V) (uv : Value), (∀ u, RelV tv u → u = uv) ∧ (∀ c ∈ xs, ∀ C, ClsOf K c C → ExcC K C ∧ PySem.W.kitOne K (.ref C) uv = some (subX c t)) ∧
  ((∃ C, tv = .ref C ∧ uv = .ref C ∧ mg (Str.ofString t) = some (.ref C) ∧ (t = "StepError" → ∀ c ∈ xs, ∀ C1, ClsOf K c C1 → PySem.W.exmOne K (.ref C1) (.ref C) = some true)) ∨
    (tv = .ty t ∧ uv = .type t ∧ mg (Str.ofString t) = none ∧ bootBuiltins (Str.ofString t) = some (.type t) ∧ Str.ofString t ≠ "__name__"))
abbrev TyFact (X : Cx) (xs : List String) (t : String) : Prop := TyK X.K X.mg xs t
/-- a def that may be called where an exception is handled -/
def CalH (X : Cx) (f : String) (c : List R → Bx → Option (R × Bx)) : Prop :=
  ∃ (k : Nat) (a : Addr) (fd : FuncData) (ps : List Str), Fk true X.prog X.w X.K X.mg X.base k a fd ps c ∧ L2H.RoomH k X.A ∧ X.mg (Str.ofString f) = some (.ref a) ∧ PySem.W.keepIn X.K (.ref a) = true ∧ Binds X.K fd ps [] ∧
    (∀ as st r, c as st = some r → as.length = ps.length)
/-- the context stands as the check takes it -/
structure Good (X : Cx) (c : Cc) (cf : Cf) (S : Sg) : Prop where
  hN : X.N = c.N
  nd : c.N.Nodup
  sc : X.env.scope = c.sc
  fn : X.fn = c.fn
  cold : c.hot = false → X.calm = true ∧ X.A.handled = none
  hotc : c.hot = true → ∃ u, X.A.handled = some u
  gd : X.A.guards = some []
  un : X.A.units + 65 < cLine
  cal : c.hot = false → ∀ f ∈ S.fs, Cal false X f (cf f)
  calh : ∀ f ∈ S.hs, CalH X f (cf f)
  bs : ∀ x ∈ S.bs, X.mg (Str.ofString x) = none
  gs : ∀ p ∈ S.gs, ∃ u w, X.mg (Str.ofString p.1) = some u ∧ RelV w u ∧ ∀ G : Hp, Dv X.K G w p.2
  xs : ∀ x ∈ S.xs, ∃ C, XcOk X x C
  ts : ∀ t ∈ S.ts, TyFact X S.xs t
/-- .. for statements -/
structure GoodS (X : Cx) (c : Cc) (cf : Cf) (S : Sg) (W : WX) : Prop extends Good X c cf S where
  pass : PassesOwn (model X.prog X.w) X.A X.env X.xe
  tk : c.hot = false → L2N.Takes X W
  st : X.stack = X.env :: X.outer
  fr : X.env.frame = some X.env.locals
  ex : X.ex = []
section
variable {X : Cx} {c : Cc} {cf : Cf} {S : Sg}
theorem Good.call (g : Good X c cf S) {f : String} (h : (if c.hot then decide (f ∈ S.hs) else decide (f ∈ S.fs)) = true) : Cal c.hot X f (cf f) := by
  cases e : c.hot with
  | false =>
    rw [e] at h
    exact g.cal e f (of_decide_eq_true h)
  | true =>
    rw [e] at h
    obtain ⟨k, a, fd, ps, F, r, q1, q2, q3, q4⟩ := g.calh f (of_decide_eq_true h)
    exact ⟨k, a, fd, ps, F, ⟨(fun z => nomatch z), (fun _ => g.hotc e), r, g.gd⟩, q1, q2, q3, q4⟩
theorem Good.blk (g : Good X c cf S) {s : Shared} {H : Hp} {scope : Scope} {C : Addr} {cl : List (Str × Addr)} {fp : List Addr} : Good (X.blk s H scope (compEnvC scope cl C X.env) fp) (c.blk scope) cf S := by
  refine ⟨g.hN, g.nd, ?_, rfl, g.cold, g.hotc, g.gd, g.un, fun h f hf => g.cal h f hf, fun f hf => g.calh f hf, fun x hx => g.bs x hx, fun p hp => g.gs p hp, fun x hx => g.xs x hx, fun t ht => g.ts t ht⟩
  show relS scope X.env.scope = relS scope c.sc
  rw [g.sc]
theorem Good.nm (g : Good X c cf S) {i : Nat} {x : Str} (h : nmB c i x = true) : X.N[i]? = some x := by rw [g.hN]; exact of_decide_eq_true h
theorem Good.gl (g : Good X c cf S) {x : Str} (h : glB c x = true) : Gl X x := by
  show X.env.scope.names.lookup x = _
  rw [g.sc]; exact of_decide_eq_true h
theorem Good.loc (g : Good X c cf S) {x : Str} (h : locB c x = true) : X.env.scope.names.lookup x = some .local := by rw [g.sc]; exact of_decide_eq_true h
theorem dbg_no {x : Str} (h : dbgB x = true) : (x == ("__debug__" : Str)) = false ∧ (x == ("__classdict__" : Str)) = false := by
  unfold dbgB at h
  simpa using h
theorem Good.var (g : Good X c cf S) {i : Nat} {x : Str} {pos : Pos} (h : varB c i x = true) : PE X (.Name x pos) (tVar i) := by
  unfold varB at h
  simp only [Bool.and_eq_true] at h
  obtain ⟨⟨h1, h2⟩, h3⟩ := h
  obtain ⟨d1, d2⟩ := dbg_no h3
  refine pe_var (g.nm h1) ?_ d1 d2
  unfold visB at h2
  rw [← g.sc] at h2
  split at h2
  · rename_i e; exact .inl e
  · rename_i e; exact .inr (.inl e)
  · rename_i e; exact .inr (.inr e)
  · cases h2
theorem Good.put (g : Good X c cf S) {i : Nat} {x : Str} (h : putB c i x = true) : X.N[i]? = some x ∧ Loc X.env.scope x ∧ (X.fn x = true ∨ X.env.scope.names.lookup x = some .local) := by
  unfold putB at h
  simp only [Bool.and_eq_true] at h
  obtain ⟨h1, h2⟩ := h
  rw [← g.sc, ← g.fn] at h2
  refine ⟨g.nm h1, ?_⟩
  split at h2
  · rename_i e; exact ⟨.inl e, .inr e⟩
  · rename_i e; exact ⟨.inr e, .inl h2⟩
  · cases h2
theorem Good.put2 (g : Good X c cf S) {i : Nat} {x : Str} (h : putB c i x = true) : X.env.kindOf x = some .local ∨ (X.env.kindOf x = some .cell ∧ X.fn x = true) := by
  unfold putB at h
  simp only [Bool.and_eq_true] at h
  obtain ⟨_, h2⟩ := h
  rw [← g.sc, ← g.fn] at h2
  unfold Env.kindOf
  split at h2
  · rename_i e; exact .inl e
  · rename_i e; exact .inr ⟨e, h2⟩
  · cases h2
theorem Good.ndX (g : Good X c cf S) : X.N.Nodup := by rw [g.hN]; exact g.nd
end
/-! ### targets -/
mutual
theorem sG {cf : Cf} {S : Sg} : ∀ (t : Tg) {X : Cx} {c : Cc} {e : Expr}, Good X c cf S → chkG c t e = true → PG X e (gB X.K t)
  | .nm i, X, c, e, g, h => by
    (unfold chkG at h)
    split at h
    · obtain ⟨h1, h2, h3⟩ := g.put h
      exact ok_nm (pg_name g.ndX h1 h2 h3)
    · cases h
  | .tp ts, X, c, e, g, h => by
    (unfold chkG at h)
    split at h
    · rw [Bool.and_eq_true, Bool.not_eq_true'] at h
      obtain ⟨h1, h2, h3⟩ := sGs ts g h.2
      obtain ⟨h4, h5⟩ := asgLen X.env h2
      exact ok_tp (g.cold h.1).1 h1 (h4.trans h3) h5
    · cases h
theorem sGs {cf : Cf} {S : Sg} : ∀ (ts : Tgs) {X : Cx} {c : Cc} {es : List Expr}, Good X c cf S → chkGs c ts es = true → PGs X es (gBs X.K ts) ∧ es.all noStar = true ∧ es.length = ts.many
  | .nil, X, c, es, g, h => by
    (unfold chkGs at h)
    split at h
    · exact ⟨ok_gnil, rfl, rfl⟩
    · cases h
  | .cons t r, X, c, es, g, h => by
    (unfold chkGs at h)
    split at h
    · simp only [Bool.and_eq_true] at h
      obtain ⟨⟨h1, h2⟩, h3⟩ := h
      obtain ⟨q1, q2, q3⟩ := sGs r g h3
      refine ⟨ok_gcons (sG t g h2) q1 (by rw [asg1 _ _ h1]; rfl), by rw [List.all_cons, h1, q2]; rfl, by rw [List.length_cons, q3]; rfl⟩
    · cases h
end
/-! ### expressions -/
theorem opB_eq {o : Bop} {p : Operator} (h : opB o p = true) : p = opOf o := by
  cases o <;> cases p <;> first | rfl | cases h
theorem lcB_ok {X : Cx} {c : Cc} {cf : Cf} {S : Sg} (g : Good X c cf S) {scope : Scope} {ow ix : List Nat} (h : lcB c scope ow ix = true) : BlkOk X.N X.env.scope scope (ownOf c ow) ∧ (ownOf c ow).map (·.2) = ow ∧ ∀ i ∈ ix, i ∈ (ownOf c ow).map (·.2) := by
  unfold lcB at h
  simp only [Bool.and_eq_true, decide_eq_true_eq, List.all_eq_true] at h
  obtain ⟨⟨h1, h2⟩, h3⟩ := h
  refine ⟨?_, h2, fun i hi => by rw [h2]; exact h3 i hi⟩
  rw [g.hN, g.sc]
  exact blkOk_by h1
mutual
theorem sE {cf : Cf} {S : Sg} : ∀ (d : Ex) {X : Cx} {c : Cc} {e : Expr}, Good X c cf S → chkE S d c e = true → PE X e (tE (kx X) (d.den cf))
  | .c d, X, c, e, g, h => by
    (unfold chkE at h)
    split at h
    · rename_i k _ _
      cases d <;> cases k <;> first | cases h | skip
      · exact ok_non
      · cases beq_iff_eq.mp h; exact ok_bl
      · cases of_decide_eq_true h; exact ok_int
      · cases of_decide_eq_true h; exact ok_str
    · cases h
  | .v i, X, c, e, g, h => by
    (unfold chkE at h)
    split at h
    · exact ok_var (g.var h)
    · cases h
  | .g x d, X, c, e, g, h => by
    (unfold chkE at h)
    split at h
    · simp only [Bool.and_eq_true, List.any_eq_true] at h
      obtain ⟨⟨⟨h1, h2⟩, h3⟩, p, hp, h4, h5⟩ := h
      obtain ⟨u, w, q1, q2, q3⟩ := g.gs p hp
      cases of_decide_eq_true h1
      have e5 := sameD_eq h5
      have e4 : p.1 = x := of_decide_eq_true h4
      rw [e4] at q1
      rw [e5] at q3
      exact ok_glob (pe_glob (g.gl h2) q1 q2 (dbg_no h3).1) q3
    · cases h
  | .never, X, c, e, g, h => ok_never
  | .bin o a b, X, c, e, g, h => by
    (unfold chkE at h)
    split at h
    · simp only [Bool.and_eq_true] at h
      obtain ⟨⟨h1, h2⟩, h3⟩ := h
      rw [opB_eq h1]
      exact ok_bin o (sE a g h2) (sE b g h3)
    · cases h
  | .neg a, X, c, e, g, h => by
    (unfold chkE at h)
    split at h
    · exact ok_neg (sE a g h)
    · cases h
  | .tst t, X, c, e, g, h => by
    (unfold chkE at h)
    exact ok_tst (sT t g h).2
  | .ite t a b, X, c, e, g, h => by
    (unfold chkE at h)
    split at h
    · simp only [Bool.and_eq_true] at h
      obtain ⟨⟨h1, h2⟩, h3⟩ := h
      exact ok_ite (sT t g h1).1 (sE a g h2) (sE b g h3)
    · cases h
  | .tup es, X, c, e, g, h => by
    (unfold chkE at h)
    split at h
    · exact ok_tup (sEs es g h).1
    · cases h
  | .lst es, X, c, e, g, h => by
    (unfold chkE at h)
    split at h
    · exact ok_lst (sEs es g h).1
    · cases h
  | .box es, X, c, e, g, h => by
    (unfold chkE at h)
    split at h
    · exact ok_box (sEs es g h).1
    · cases h
  | .ix a b, X, c, e, g, h => by
    (unfold chkE at h)
    split at h
    · simp only [Bool.and_eq_true, Bool.not_eq_true'] at h
      obtain ⟨⟨h1, h2⟩, h3⟩ := h
      exact ok_ix (sE a g h2) (sE b g h3) (plIx h1)
    · cases h
  | .sl a lo hi, X, c, e, g, h => by
    (unfold chkE at h)
    split at h
    · simp only [Bool.and_eq_true] at h
      obtain ⟨⟨h1, h2⟩, h3⟩ := h
      exact ok_sl (sE a g h1) (sO lo g h2) (sO hi g h3)
    · cases h
  | .rev a, X, c, e, g, h => by
    (unfold chkE at h)
    split at h
    · rw [Bool.and_eq_true] at h
      obtain ⟨k, p1, p2, p3, e0⟩ := rvB_eq h.1
      subst e0
      exact ok_rev (sE a g h.2)
    · cases h
  | .ixP f es k, X, c, e, g, h => by
    (unfold chkE at h)
    split at h
    · rename_i x _ a l _ j _ _ _
      rw [Bool.and_eq_true, Bool.and_eq_true, Bool.and_eq_true, Bool.and_eq_true, Bool.and_eq_true, decide_eq_true_eq, decide_eq_true_eq] at h
      obtain ⟨⟨⟨⟨⟨h1, h2⟩, h3⟩, h4⟩, h6⟩, h5⟩ := h
      subst h1
      obtain ⟨q1, q2⟩ := sEs es g h5
      rw [List.all_cons, Bool.and_eq_true] at q2
      exact ok_ixP (ok_callP (g.call h2) (g.gl h3) (dbg_no h4).1 q1 (star1 _ _ q2.1) (back0 _ _ q2.2)) (by rw [h6]; exact pe_int) (plIx rfl)
    · cases h
  | .call f es, X, c, e, g, h => by
    (unfold chkE at h)
    split at h
    · rename_i l _
      rw [Bool.and_eq_true, Bool.and_eq_true, Bool.and_eq_true, Bool.and_eq_true, decide_eq_true_eq] at h
      obtain ⟨⟨⟨⟨h1, h2⟩, h3⟩, h4⟩, h5⟩ := h
      subst h1
      obtain ⟨q1, q2⟩ := sEs es g h5
      cases l with
      | nil =>
        cases es with
        | nil => exact ok_call0 (g.call h2) (g.gl h3) (dbg_no h4).1
        | cons a r => (unfold chkEs at h5); cases h5
      | cons a l =>
        rw [List.all_cons, Bool.and_eq_true] at q2
        exact ok_call (g.call h2) (g.gl h3) (dbg_no h4).1 q1 (star1 _ _ q2.1) (back0 _ _ q2.2)
    · cases h
  | .blt f es, X, c, e, g, h => by
    (unfold chkE at h)
    split at h
    · simp only [Bool.and_eq_true, decide_eq_true_eq, Bool.not_eq_true', Bool.and_eq_false_iff] at h
      obtain ⟨⟨⟨⟨h1, h2⟩, h3⟩, h4⟩, h5⟩ := h
      subst h1
      obtain ⟨q1, q2⟩ := sEs es g h5
      rw [List.all_cons, Bool.and_eq_true] at q2
      exact ok_blt (blt_ok f (fun hf => h4.elim (fun z => (g.cold z).1) fun z => by rw [hf] at z; cases z) g.gd g.un) (g.gl h3) (g.bs _ h2) q1 (star1 _ _ q2.1) (back0 _ _ q2.2)
    · cases h
  | .isi a t, X, c, e, g, h => by
    (unfold chkE at h)
    split at h
    · simp only [Bool.and_eq_true, decide_eq_true_eq] at h
      obtain ⟨⟨⟨⟨⟨⟨⟨h1, h2⟩, h3⟩, h4⟩, h5⟩, h6⟩, h7⟩, h8⟩ := h
      subst h1 h4
      exact ok_isi t (g.gl h3) (g.bs _ h2) (g.gl h6) (g.bs _ h5) (sE a g h8) (star1 _ _ h7)
    · cases h
  | .isx a t xs, X, c, e, g, h => by
    (unfold chkE at h)
    split at h
    · simp only [Bool.and_eq_true, decide_eq_true_eq, List.all_eq_true] at h
      obtain ⟨⟨⟨⟨⟨⟨⟨⟨⟨h1, h2⟩, h3⟩, h4⟩, h5⟩, h6⟩, h7⟩, h8⟩, h9⟩, h10⟩ := h
      subst h1 h4
      obtain ⟨tv, uv, f1, f2, f3⟩ := g.ts t h5
      refine ok_isx (g.gl h3) (g.bs _ h2) (sE a g h10) ?_ f1 (fun z hz => f2 z (h9 z hz)) (star1 _ _ h8)
      rcases f3 with ⟨C, e1, e2, e3, _⟩ | ⟨e1, e2, e3, e4, e5⟩
      · subst e1
        exact pe_glob (g.gl h6) e3 rfl (dbg_no h7).1
      · subst e1
        exact pe_bltn (g.gl h6) e3 e4 rfl e5 (dbg_no h7).1
    · cases h
  | .dct l, X, c, e, g, h => by
    (unfold chkE at h)
    split at h
    · cases l with
      | nil => exact ok_dct0
      | cons p l => cases h
    · split at h
      · rw [Bool.and_eq_true] at h
        cases of_decide_eq_true h.1
        cases of_decide_eq_true h.2
        exact ok_dct1
      · cases h
    · cases h
  | .lrg es, X, c, e, g, h => by
    (unfold chkE at h)
    split at h
    · rename_i l _ _
      simp only [Bool.and_eq_true, decide_eq_true_eq, Bool.not_eq_true'] at h
      obtain ⟨⟨⟨⟨⟨⟨⟨⟨h0, h1⟩, h2⟩, h3⟩, h4⟩, h5⟩, h6⟩, h7⟩, h8⟩ := h
      subst h1 h4
      have hc := (g.cold h0).1
      cases es with
      | nil => cases h8
      | cons a r =>
        cases r with
        | nil =>
          (unfold chkEs at h7)
          split at h7
          · simp only [Bool.and_eq_true] at h7
            obtain ⟨⟨k1, k2⟩, k3⟩ := h7
            (unfold chkEs at k3)
            split at k3
            · exact ok_lrg1 hc (g.gl h3) (g.bs _ h2) (g.gl h6) (g.bs _ h5) (sE a g k2) (star1 _ _ k1)
            · cases k3
          · cases h7
        | cons b r =>
          cases r with
          | nil =>
            (unfold chkEs at h7)
            split at h7
            · simp only [Bool.and_eq_true] at h7
              obtain ⟨⟨k1, k2⟩, k3⟩ := h7
              (unfold chkEs at k3)
              split at k3
              · simp only [Bool.and_eq_true] at k3
                obtain ⟨⟨m1, m2⟩, m3⟩ := k3
                (unfold chkEs at m3)
                split at m3
                · exact ok_lrg2 hc (g.gl h3) (g.bs _ h2) (g.gl h6) (g.bs _ h5) (sE a g k2) (sE b g m2) (star1 _ _ k1) (star1 _ _ m1) (back0 _ _ (by rw [List.all_cons, m1]; rfl))
                · cases m3
              · cases k3
            · cases h7
          | cons d r => cases h8
    · cases h
  | .mth m o a, X, c, e, g, h => by
    (unfold chkE at h)
    split at h
    · rename_i l nm apos r cpos
      simp only [Bool.and_eq_true, decide_eq_true_eq] at h
      obtain ⟨⟨⟨⟨⟨h1, h2⟩, h3⟩, h4⟩, h5⟩, h6⟩ := h
      subst h1
      refine ok_mth m g.un (sE o g h5) (sE a g h6) ?_ h3 (star1 _ _ h4)
      cases l <;> first | rfl | cases h2
    · cases h
  | .orv a b, X, c, e, g, h => by
    (unfold chkE at h)
    split at h
    · rw [Bool.and_eq_true] at h
      exact ok_orv (sE a g h.1) (sE b g h.2)
    · cases h
  | .lc el t it cd ow, X, c, e, g, h => by
    (unfold chkE at h)
    split at h
    · simp only [Bool.and_eq_true, Bool.not_eq_true', Bool.or_eq_true] at h
      obtain ⟨⟨⟨⟨⟨⟨h0, h1⟩, h2⟩, h3⟩, h4⟩, h5⟩, h6⟩ := h
      obtain ⟨b1, b2, b3⟩ := lcB_ok g h1
      rw [← b2]
      by_cases hot : c.hot = false
      · exact ok_lc (g.cold hot).1 g.ndX (sI it true g h3) b1 b3 (fun s H C cl fp => sG t (g.blk) h4) (fun s H C cl fp => sC cd (g.blk) h5) (fun s H C cl fp => sE el (g.blk) h6) (folds h2 _)
      · have hr := h0.resolve_left hot
        cases it with
        | rng es =>
          cases es with
          | nil => cases hr
          | cons ea r =>
            cases r with
            | cons b r => cases hr
            | nil =>
              (unfold chkI at h3)
              split at h3
              · simp only [Bool.and_eq_true, decide_eq_true_eq] at h3
                obtain ⟨⟨⟨⟨k1, k2⟩, k3⟩, k4⟩, k5⟩ := h3
                subst k1
                (unfold chkEs at k4)
                split at k4
                · simp only [Bool.and_eq_true] at k4
                  obtain ⟨⟨m1, m2⟩, m3⟩ := k4
                  (unfold chkEs at m3)
                  split at m3
                  · exact ok_lcH (g.hotc (by simpa using hot)) g.ndX (g.gl k3) (g.bs _ k2) (ok_cons (sE ea g m2) ok_nil (star1 _ _ m1)) (star1 _ _ m1) b1 b3 (fun s H C cl fp => sG t (g.blk) h4) (fun s H C cl fp => sC cd (g.blk) h5) (fun s H C cl fp => sE el (g.blk) h6)
                  · cases m3
                · cases k4
              · cases h3
        | _ => cases hr
    · cases h
theorem sEs {cf : Cf} {S : Sg} : ∀ (d : Exs) {X : Cx} {c : Cc} {e : List Expr}, Good X c cf S → chkEs S d c e = true → PA X e (tAs (kx X) (d.den cf)) ∧ e.all noStar = true
  | .nil, X, c, e, g, h => by
    (unfold chkEs at h)
    split at h
    · exact ⟨ok_nil, rfl⟩
    · cases h
  | .cons a r, X, c, e, g, h => by
    (unfold chkEs at h)
    split at h
    · simp only [Bool.and_eq_true] at h
      obtain ⟨⟨h1, h2⟩, h3⟩ := h
      obtain ⟨q1, q2⟩ := sEs r g h3
      exact ⟨ok_cons (sE a g h2) q1 (star1 _ _ h1), by rw [List.all_cons, h1, q2]; rfl⟩
    · cases h
theorem sO {cf : Cf} {S : Sg} : ∀ (d : Exo) {X : Cx} {c : Cc} {e : Option Expr}, Good X c cf S → chkO S d c e = true → PO X e (tO (kx X) (d.den cf))
  | .no, X, c, e, g, h => by
    (unfold chkO at h)
    split at h
    · exact ok_no
    · cases h
  | .yes a, X, c, e, g, h => by
    (unfold chkO at h)
    split at h
    · exact ok_yes (sE a g h)
    · cases h
theorem sT {cf : Cf} {S : Sg} : ∀ (d : Ts) {X : Cx} {c : Cc} {e : Expr}, Good X c cf S → chkT S d c e = true → PT X e (tT (kx X) (d.den cf)) ∧ PE X e (tE (kx X) (asV (d.den cf)))
  | .val a, X, c, e, g, h => by
    (unfold chkT at h; rw [Bool.and_eq_true] at h)
    exact ⟨ok_valT (sE a g h.2) (plT h.1), ok_valV (sE a g h.2)⟩
  | .cmp o a b, X, c, e, g, h => by
    (unfold chkT at h)
    split at h
    · simp only [Bool.and_eq_true, Bool.not_eq_true'] at h
      obtain ⟨⟨⟨h1, h2⟩, h3⟩, h4⟩ := h
      cases of_decide_eq_true h1
      exact ⟨ok_cmpT o g.un (sE a g h3) (sE b g h4) (noMark h2), ok_cmpV o g.un (sE a g h3) (sE b g h4) (noMark h2)⟩
    · cases h
  | .chn a r, X, c, e, g, h => by
    (unfold chkT at h)
    split at h
    · simp only [Bool.and_eq_true, Bool.not_eq_true'] at h
      obtain ⟨⟨h1, h2⟩, h3⟩ := h
      exact ⟨ok_chnT g.un (sE a g h2) (sH r g h3) h1, ok_chnV g.un (sE a g h2) (sH r g h3) h1⟩
    · cases h
  | .isn a neg, X, c, e, g, h => by
    (unfold chkT at h)
    split at h
    · simp only [Bool.and_eq_true] at h
      cases of_decide_eq_true h.1
      exact ⟨ok_isnT neg (sE a g h.2), ok_isnV neg (sE a g h.2)⟩
    · cases h
  | .isb a neg k, X, c, e, g, h => by
    (unfold chkT at h)
    split at h
    · simp only [Bool.and_eq_true] at h
      obtain ⟨⟨h1, h2⟩, h3⟩ := h
      cases of_decide_eq_true h1
      cases beq_iff_eq.mp h2
      exact ⟨ok_isbT neg k (sE a g h3), ok_isbV neg k (sE a g h3)⟩
    · cases h
  | .and ts, X, c, e, g, h => by
    (unfold chkT at h)
    split at h
    · rename_i es pos
      have q := (sTs ts g h).1 pos
      refine ⟨(ptW q.1.pt fun σ H Q z => by simpa only [Ts.den] using z), peW q.2 fun σ H Q z => ?_⟩
      have e : asV ((Ts.and ts).den cf) = asV (ts.all cf) := by funext env st; simp only [asV, Ts.den]
      rw [e] at z; exact z
    · cases h
  | .or ts, X, c, e, g, h => by
    (unfold chkT at h)
    split at h
    · rename_i es pos
      have q := (sTs ts g h).2 pos
      refine ⟨(ptW q.1.pt fun σ H Q z => by simpa only [Ts.den] using z), peW q.2 fun σ H Q z => ?_⟩
      have e : asV ((Ts.or ts).den cf) = asV (ts.any cf) := by funext env st; simp only [asV, Ts.den]
      rw [e] at z; exact z
    · cases h
  | .not t, X, c, e, g, h => by
    (unfold chkT at h)
    split at h
    · exact ⟨ok_notT (sT t g h).1, ok_notV (sT t g h).2⟩
    · cases h
theorem sH {cf : Cf} {S : Sg} : ∀ (d : Chn) {X : Cx} {c : Cc} {qs : List CmpOp} {es : List Expr}, Good X c cf S → chkH S d c qs es = true → ChnOk X cf d qs es
  | .last o b, X, c, qs, es, g, h => by
    (unfold chkH at h)
    split at h
    · simp only [Bool.and_eq_true] at h
      exact ⟨of_decide_eq_true h.1, sE b g h.2⟩
    · cases h
  | .link o b r, X, c, qs, es, g, h => by
    (unfold chkH at h)
    split at h
    · simp only [Bool.and_eq_true] at h
      exact ⟨of_decide_eq_true h.1.1, sE b g h.1.2, sH r g h.2⟩
    · cases h
theorem sTs {cf : Cf} {S : Sg} : ∀ (d : Tss) {X : Cx} {c : Cc} {es : List Expr}, Good X c cf S → chkTs S d c es = true →
    (∀ pos, PW X (.BoolOp .And es pos) (tT (kx X) (d.all cf)) ∧ PE X (.BoolOp .And es pos) (tE (kx X) (asV (d.all cf)))) ∧ (∀ pos, PW X (.BoolOp .Or es pos) (tT (kx X) (d.any cf)) ∧ PE X (.BoolOp .Or es pos) (tE (kx X) (asV (d.any cf))))
  | .one t, X, c, es, g, h => by
    (unfold chkTs at h)
    split at h
    · have q := sT t g h
      exact ⟨fun pos => ⟨ok_and1W q.1, ok_and1V q.2⟩, fun pos => ⟨ok_or1W q.1, ok_or1V q.2⟩⟩
    · cases h
  | .cons t r, X, c, es, g, h => by
    (unfold chkTs at h)
    split at h
    · simp only [Bool.and_eq_true] at h
      have q := sT t g h.1
      have z := sTs r g h.2
      exact ⟨fun pos => ⟨ok_andW q.1 (z.1 pos).1, ok_andV q.2 (z.1 pos).2⟩, fun pos => ⟨ok_orW q.1 (z.2 pos).1, ok_orV q.2 (z.2 pos).2⟩⟩
    · cases h
theorem sC {cf : Cf} {S : Sg} : ∀ (d : Tso) {X : Cx} {c : Cc} {es : List Expr}, Good X c cf S → chkC S d c es = true → PTs X es (tT (kx X) (d.den cf))
  | .no, X, c, es, g, h => by
    (unfold chkC at h)
    split at h
    · exact ok_ifs0
    · cases h
  | .yes t, X, c, es, g, h => by
    (unfold chkC at h)
    split at h
    · exact ok_ifs1 (sT t g h).1
    · cases h
theorem sI {cf : Cf} {S : Sg} : ∀ (d : Itx) (m : Bool) {X : Cx} {c : Cc} {tg e : Expr}, Good X c cf S → chkI S d c tg e = true → PI X tg e (tI (kx X) m (d.den cf m))
  | .seq a, m, X, c, tg, e, g, h => by
    (unfold chkI at h)
    exact ok_seq (sE a g h)
  | .sgn a, m, X, c, tg, e, g, h => by
    (unfold chkI at h)
    exact ok_sgn (sE a g h)
  | .rng es, m, X, c, tg, e, g, h => by
    (unfold chkI at h)
    split at h
    · rename_i l _
      simp only [Bool.and_eq_true, decide_eq_true_eq] at h
      obtain ⟨⟨⟨⟨h1, h2⟩, h3⟩, h4⟩, h5⟩ := h
      subst h1
      obtain ⟨q1, q2⟩ := sEs es g h4
      split at h5
      · cases l with
        | nil => (unfold chkEs at h4); cases h4
        | cons a l =>
          (unfold chkEs at h4; rw [Bool.and_eq_true] at h4; unfold chkEs at h4)
          cases l with
          | nil =>
            rw [List.all_cons, Bool.and_eq_true] at q2
            exact ok_rng1 (g.gl h3) (g.bs _ h2) q1 (star1 _ _ q2.1)
          | cons b l => cases h4.2
      · cases l with
        | nil => (unfold chkEs at h4); cases h4
        | cons a l =>
          (unfold chkEs at h4; rw [Bool.and_eq_true] at h4)
          cases l with
          | nil => (unfold chkEs at h4); cases h4.2
          | cons b l =>
            (unfold chkEs at h4; rw [Bool.and_eq_true] at h4; unfold chkEs at h4)
            cases l with
            | nil =>
              rw [List.all_cons, Bool.and_eq_true, List.all_cons, Bool.and_eq_true] at q2
              exact ok_rng2 (g.gl h3) (g.bs _ h2) q1 (by rw [star1 _ _ q2.1, star1 _ _ q2.2.1]; rfl) (star1 _ _ q2.2.1)
            | cons b l =>
              have z := h4.2
              dsimp only at z
              rw [Bool.and_eq_true] at z
              cases z.2
      · cases h5
    · cases h
  | .zip a b, m, X, c, tg, e, g, h => by
    (unfold chkI at h)
    split at h
    · simp only [Bool.and_eq_true, decide_eq_true_eq] at h
      obtain ⟨⟨⟨⟨⟨⟨⟨h0, h1⟩, h2⟩, h3⟩, h4⟩, h5⟩, h6⟩, h7⟩ := h
      subst h1
      cases tg <;> first | cases h0 | skip
      exact ok_zip (g.gl h3) (g.bs _ h2) (ok_cons (sE a g h6) (ok_cons (sE b g h7) ok_nil (star1 _ _ h5)) (star1 _ _ h4)) (star1 _ _ h4) (back0 _ _ (by rw [List.all_cons, h5]; rfl))
    · cases h
  | .enum a, m, X, c, tg, e, g, h => by
    (unfold chkI at h)
    split at h
    · simp only [Bool.and_eq_true, decide_eq_true_eq] at h
      obtain ⟨⟨⟨⟨⟨h0, h1⟩, h2⟩, h3⟩, h4⟩, h5⟩ := h
      subst h1
      cases tg <;> first | cases h0 | skip
      exact ok_enum (g.gl h3) (g.bs _ h2) (ok_cons (sE a g h5) ok_nil (star1 _ _ h4)) (star1 _ _ h4)
    · cases h
end
end Sy

namespace Sy
open PySem PySem.Spec PyProof.Rows L2

theorem attr1 {x : Str} {p : Pos} {a : Str} {env : Env} : attributeBase (.Name x p) a env (eval (.Name x p) env) = eval (.Name x p) env := rfl
theorem mth_ok {X : Cx} {c : Cc} {cf : Cf} {S : Sg} (g : Good X c cf S) {i : Nat} {m : String} {x a : Str} {px apos cpos : Pos} {v : Expr} {T id : String} {r : V → List V → Hp → VK → Prop} {te : TE} (h : mthB c i m x a apos cpos = true) (hv : noStar v = true) (he : PE X v te)
    (pa : PySem.PlainAttrs T) (slot : PySem.Slot T (Str.ofString m) id) (hty : typeOf (.builtin id) = pure (.type "method_descriptor")) (hm : MtR X id r) :
    PE X (.Name x px) (tVar i) ∧ a = Str.ofString m ∧ PE X (.Call (.Attribute (.Name x px) a apos) [v] [] cpos) (tBM X.K T r (tVar i) (tCons te tNil)) := by
  unfold mthB at h
  simp only [Bool.and_eq_true, decide_eq_true_eq] at h
  obtain ⟨⟨h1, h2⟩, h3⟩ := h
  subst h2
  have s1 := star1 [] X.env hv
  refine ⟨g.var h1, rfl, pe_bm pa slot hty hm (g.var h1) (pa_cons he pa_nil s1) attr1 ?_ h3 s1 rfl⟩
  rw [s1]
  rfl
section
variable {X : Cx} {c : Cc} {cf : Cf} {S : Sg} {W : WX}
theorem free_ne {kp : List (Nat × Addr × List V)} {i : Nat} (hk : ∀ p ∈ kp, p.1 ∈ c.kp) (h : c.free i = true) : ∀ p ∈ kp, p.1 ≠ i := fun p hp e => by
  unfold Cc.free at h
  rw [Bool.not_eq_true', decide_eq_false_iff_not] at h
  exact h (e ▸ hk p hp)
theorem free_all {kp : List (Nat × Addr × List V)} {ix : List Nat} (hk : ∀ p ∈ kp, p.1 ∈ c.kp) (h : ix.all c.free = true) : ∀ p ∈ kp, p.1 ∉ ix := fun p hp e => free_ne hk (List.all_eq_true.mp h _ e) p hp rfl
theorem GoodS.tr (g : GoodS X c cf S W) {pn : List (Addr × Obj)} {xe : Value → Shared → Prop} {W1 : WX} (tk : L2N.Takes (X.tr pn xe) W1) (ps : PassesOwn (model X.prog X.w) X.A X.env xe) : GoodS (X.tr pn xe) c cf S W1 :=
  ⟨⟨g.hN, g.nd, g.sc, g.fn, g.cold, g.hotc, g.gd, g.un, g.cal, g.calh, g.bs, g.gs, fun x hx => g.xs x hx, g.ts⟩, ps, fun _ => tk, g.st, g.fr, g.ex⟩
theorem GoodS.suite (g : GoodS X c cf S W) (a : Addr) (pn : List (Addr × Obj)) : GoodS (X.suite a pn) c.suite cf S (fun _ _ _ _ => False) :=
  ⟨⟨g.hN, g.nd, g.sc, g.fn, (fun z => nomatch z), fun _ => ⟨.ref a, rfl⟩, g.gd, g.un, (fun z => nomatch z), fun f hf => by
    obtain ⟨k, ad, fd, ps, F, r, q⟩ := g.calh f hf
    exact ⟨k, ad, fd, ps, F, ⟨r.dp, r.un⟩, q⟩, g.bs, g.gs, fun x hx => g.xs x hx, g.ts⟩, PassesOwn.never, (fun z => nomatch z), g.st, g.fr, g.ex⟩
theorem GoodS.keep (g : GoodS X c cf S W) (i : Nat) : GoodS X (c.keep i) cf S W :=
  ⟨⟨g.hN, g.nd, g.sc, g.fn, g.cold, g.hotc, g.gd, g.un, g.cal, g.calh, g.bs, g.gs, g.xs, g.ts⟩, g.pass, g.tk, g.st, g.fr, g.ex⟩
/-- a call of a def, an exception too -/
theorem sX {f : String} {es : Exs} {l : List Expr} {p pos : Pos} {x : Str} (g : GoodS X c cf S W) (hot : c.hot = false) (h1 : x = Str.ofString f) (h2 : f ∈ S.fs) (h3 : glB c x = true) (h4 : dbgB x = true) (h5 : chkEs S es c l = true) : PE X (.Call (.Name x p) l [] pos) (tX (kx X) (lenW X.N.length W) (callD cf f es)) := by
  subst h1
  obtain ⟨q1, q2⟩ := sEs es g.toGood h5
  have tk := takes_len (g.tk hot)
  cases l with
  | nil =>
    cases es with
    | nil => exact ok_callX0 tk (g.cal hot f h2) (g.gl h3) (dbg_no h4).1
    | cons a r => (unfold chkEs at h5); cases h5
  | cons a l =>
    rw [List.all_cons, Bool.and_eq_true] at q2
    exact ok_callX tk (g.cal hot f h2) (g.gl h3) (dbg_no h4).1 q1 (star1 _ _ q2.1) (back0 _ _ q2.2)
end
mutual
theorem sS {cf : Cf} {S : Sg} : ∀ (d : Stm) {X : Cx} {c : Cc} {s : Stmt} {H0 G0 : Hp} {ph0 : List Addr} {kp : List (Nat × Addr × List V)} {W : WX} {nv : Nat}, GoodS X c cf S W → nv = X.N.length → (∀ p ∈ kp, p.1 ∈ c.kp) → chkS S d c s = true → PS X s (tS (kx X) H0 G0 ph0 kp W nv (d.den cf))
  | .never, X, c, s, H0, G0, ph0, kp, W, nv, g, hn, hk, h => ok_snever
  | .pass, X, c, s, H0, G0, ph0, kp, W, nv, g, hn, hk, h => by
    unfold chkS at h
    split at h
    · exact ok_pass
    · cases h
  | .asg i e, X, c, s, H0, G0, ph0, kp, W, nv, g, hn, hk, h => by
    unfold chkS at h
    split at h
    · rename_i x p v pos
      simp only [Bool.and_eq_true] at h
      obtain ⟨⟨⟨h1, h2⟩, hf⟩, h3⟩ := h
      have hfi := free_ne hk hf
      split at h3
      · rename_i el t it cd ow elt gs scope vp
        rw [Bool.and_eq_true] at h3
        have hl := g.loc h3.1
        have h4 : (swB c scope x p vp = true ∧ c.hot = false) ∨ (swB c scope x p vp = false ∧ putB c i x = true) := by
          have h5 := h3.2
          cases hh : c.hot with
          | true =>
            rw [hh] at h5
            simp only [if_true, Bool.and_eq_true, Bool.not_eq_true'] at h5
            exact .inr h5
          | false =>
            rw [hh] at h5
            simp only [Bool.false_eq_true, if_false, Bool.or_eq_true] at h5
            cases hw : swB c scope x p vp with
            | true => exact .inl ⟨rfl, rfl⟩
            | false =>
              rw [hw] at h5
              exact .inr ⟨rfl, h5.resolve_left Bool.false_ne_true⟩
        rcases h4 with ⟨hw, hot⟩ | ⟨hw, hput⟩
        · unfold chkE at h1
          split at h1
          · rename_i q
            cases q
            simp only [Bool.and_eq_true, Bool.not_eq_true'] at h1
            obtain ⟨⟨⟨⟨⟨⟨_, k1⟩, k2⟩, k3⟩, k4⟩, k5⟩, k6⟩ := h1
            obtain ⟨b1, b2, b3⟩ := lcB_ok g.toGood k1
            rw [← b2]
            exact ok_setLc hfi (g.cold hot).1 g.ndX (g.nm h2) hl ((swL g.sc).trans (by rw [hw])) (sI it true g.toGood k3) b1 b3 (fun s H C cl fp => sG t (g.toGood.blk) k4) (fun s H C cl fp => sC cd (g.toGood.blk) k5) (fun s H C cl fp => sE el (g.toGood.blk) k6) (folds k2 _)
          · cases h1
        · obtain ⟨q1, q2, q3⟩ := g.put hput
          exact ok_asg hfi g.ndX q1 q2 (sE _ g.toGood h1) ((swL g.sc).trans (by rw [hw])) q3
      · rw [Bool.and_eq_true, Bool.not_eq_true'] at h3
        obtain ⟨q1, q2, q3⟩ := g.put h3.2
        exact ok_asg hfi g.ndX q1 q2 (sE e g.toGood h1) (swN h3.1) q3
    · cases h
  | .par i j a b, X, c, s, H0, G0, ph0, kp, W, nv, g, hn, hk, h => by
    unfold chkS at h
    split at h
    · simp only [Bool.and_eq_true] at h
      obtain ⟨⟨⟨⟨⟨⟨⟨h0, ha⟩, hb⟩, h1⟩, h2⟩, h3⟩, h4⟩, h5⟩ := h
      have hp := ssP (kt := 0) (k2 := 0) (pt := ⟨0, 0, 0, 0⟩) (p2 := ⟨0, 0, 0, 0⟩) g.sc h3
      have hp2 := h3
      unfold parB at h3
      simp only [Bool.and_eq_true, Bool.not_eq_true'] at h3
      obtain ⟨⟨⟨⟨⟨⟨⟨⟨k1, k2⟩, k3⟩, k4⟩, k5⟩, k6⟩, k7⟩, k8⟩, k9⟩ := h3
      have n1 := g.nm h1
      have n2 := g.nm h2
      have hij : i ≠ j := fun e => by
        subst e
        rw [n1] at n2
        cases n2
        simp at k5
      exact ok_par (free_ne hk ha) (free_ne hk hb) (g.cold (by simpa using h0)).1 g.ndX n1 n2 hij (g.loc k2) (g.loc k3) (ok_cons (sE a g.toGood h4) (ok_cons (sE b g.toGood h5) ok_nil (star1 _ _ k7)) (star1 _ _ k6)) (ssP g.sc hp2) swT
    · cases h
  | .par3 i j l a b d, X, c, s, H0, G0, ph0, kp, W, nv, g, hn, hk, h => by
    unfold chkS at h
    split at h
    · simp only [Bool.and_eq_true] at h
      obtain ⟨⟨⟨⟨⟨⟨⟨⟨⟨⟨h0, f1⟩, f2⟩, f3⟩, h1⟩, h2⟩, h3⟩, h4⟩, h5⟩, h6⟩, h7⟩ := h
      have hp := h4
      unfold par3B at h4
      simp only [Bool.and_eq_true, Bool.not_eq_true'] at h4
      obtain ⟨⟨⟨⟨⟨⟨⟨⟨⟨⟨⟨⟨⟨k1, k2⟩, k3⟩, k4⟩, k5⟩, k6⟩, k7⟩, k8⟩, k9⟩, ka⟩, kb⟩, kd⟩, kf⟩, kg⟩ := h4
      have n1 := g.nm h1
      have n2 := g.nm h2
      have n3 := g.nm h3
      have ne : ∀ {p q : Nat} {u v : Str}, X.N[p]? = some u → X.N[q]? = some v → (u == v) = false → p ≠ q := fun {p q u v} m1 m2 e z => by
        subst z
        rw [m1] at m2
        cases m2
        simp at e
      exact ok_par3 (free_ne hk f1) (free_ne hk f2) (free_ne hk f3) (g.cold (by simpa using h0)).1 g.ndX n1 n2 n3 (ne n1 n2 k7) (ne n1 n3 k8) (ne n2 n3 k9) (g.loc k2) (g.loc k3) (g.loc k4)
        (ok_cons (sE a g.toGood h5) (ok_cons (sE b g.toGood h6) (ok_cons (sE d g.toGood h7) ok_nil (star1 _ _ kd)) (star1 _ _ kb)) (star1 _ _ ka)) (ssP3 g.sc hp) swT
    · cases h
  | .setO i k e, X, c, s, H0, G0, ph0, kp, W, nv, g, hn, hk, h => by
    unfold chkS at h
    split at h
    · rename_i x xp r tp v pos
      simp only [Bool.and_eq_true, Bool.not_eq_true'] at h
      obtain ⟨⟨⟨h1, h2⟩, h3⟩, h4⟩ := h
      refine ok_setO (sE e g.toGood h4) (g.var h1) (sE k g.toGood h3) (fun v => ?_) swS ssS rfl
      cases r <;> first | rfl | cases h2
    · cases h
  | .unp t e, X, c, s, H0, G0, ph0, kp, W, nv, g, hn, hk, h => by
    unfold chkS at h
    split at h
    · simp only [Bool.and_eq_true] at h
      obtain ⟨⟨⟨h0, h1⟩, h2⟩, h3⟩ := h
      exact ok_unp (free_all hk h0) (sE e g.toGood h3) (sG t g.toGood h2) swT (ssT g.sc h1) rfl
    · cases h
  | .setB o i e, X, c, s, H0, G0, ph0, kp, W, nv, g, hn, hk, h => by
    unfold chkS at h
    split at h
    · rename_i l r tp v pos
      simp only [Bool.and_eq_true, Bool.not_eq_true'] at h
      obtain ⟨⟨⟨h1, h2⟩, h3⟩, h4⟩ := h
      refine ok_setB (sE e g.toGood h4) (sE o g.toGood h2) (sE i g.toGood h3) (fun v => ?_) swS ssS rfl
      cases r <;> first | rfl | cases h1
    · cases h
  | .exp e, X, c, s, H0, G0, ph0, kp, W, nv, g, hn, hk, h => by
    unfold chkS at h
    split at h
    · rw [Bool.and_eq_true, Bool.not_eq_true'] at h
      exact ok_exp (sE e g.toGood h.2) (swN h.1)
    · cases h
  | .app i e, X, c, s, H0, G0, ph0, kp, W, nv, g, hn, hk, h => by
    unfold chkS at h
    split at h
    · simp only [Bool.and_eq_true] at h
      obtain ⟨⟨h1, h2⟩, h3⟩ := h
      have he := sE e g.toGood h3
      obtain ⟨q1, q2, q3⟩ := mth_ok g.toGood h1 h2 he PySem.F.plainAttrs_list PySem.F.slot_list_append PySem.F.type_list_append mt_append
      subst q2
      exact ok_app q1 he q3 (swN rfl)
    · cases h
  | .ext i e, X, c, s, H0, G0, ph0, kp, W, nv, g, hn, hk, h => by
    unfold chkS at h
    split at h
    · simp only [Bool.and_eq_true] at h
      obtain ⟨⟨h1, h2⟩, h3⟩ := h
      have he := sE e g.toGood h3
      obtain ⟨q1, q2, q3⟩ := mth_ok g.toGood h1 h2 he PySem.F.plainAttrs_list PySem.F.slot_list_extend PySem.F.type_list_extend mt_extend
      subst q2
      exact ok_ext q1 he q3 (swN rfl)
    · cases h
  | .iff t a b, X, c, s, H0, G0, ph0, kp, W, nv, g, hn, hk, h => by
    unfold chkS at h
    split at h
    · simp only [Bool.and_eq_true] at h
      obtain ⟨⟨h1, h2⟩, h3⟩ := h
      exact ok_if (sT t g.toGood h1).1 (sSs a g hn hk h2) (sSs b g hn hk h3)
    · cases h
  | .whl t b, X, c, s, H0, G0, ph0, kp, W, nv, g, hn, hk, h => by
    unfold chkS at h
    split at h
    · rw [Bool.and_eq_true] at h
      exact ok_whl g.pass (sT t g.toGood h.1).1 (sSs b g hn hk h.2)
    · cases h
  | .forr t it b, X, c, s, H0, G0, ph0, kp, W, nv, g, hn, hk, h => by
    unfold chkS at h
    split at h
    · simp only [Bool.and_eq_true, Bool.not_eq_true'] at h
      obtain ⟨⟨⟨⟨⟨h0, hf⟩, h1⟩, h2⟩, h3⟩, h4⟩ := h
      exact ok_for (free_all hk hf) g.pass (g.cold h0).1 (sI it false g.toGood h2) (sG t g.toGood h3) (sSs b g hn hk h4) (folds h1 _)
    · cases h
  | .ret e, X, c, s, H0, G0, ph0, kp, W, nv, g, hn, hk, h => by
    unfold chkS at h
    split at h
    · exact ok_ret (sE e g.toGood h)
    · cases h
  | .retv i, X, c, s, H0, G0, ph0, kp, W, nv, g, hn, hk, h => by
    unfold chkS at h
    split at h
    · exact ok_retv (g.var h)
    · cases h
  | .frz i, X, c, s, H0, G0, ph0, kp, W, nv, g, hn, hk, h => by
    unfold chkS at h
    cases h
  | .expC f es, X, c, s, H0, G0, ph0, kp, W, nv, g, hn, hk, h => by
    unfold chkS at h
    split at h
    · simp only [Bool.and_eq_true, decide_eq_true_eq, Bool.not_eq_true'] at h
      obtain ⟨⟨⟨⟨⟨h0, h1⟩, h2⟩, h3⟩, h4⟩, h5⟩ := h
      exact ok_expC hn (sX g h0 h1 h2 h3 h4 h5) (swN rfl)
    · cases h
  | .retC f es, X, c, s, H0, G0, ph0, kp, W, nv, g, hn, hk, h => by
    unfold chkS at h
    split at h
    · simp only [Bool.and_eq_true, decide_eq_true_eq, Bool.not_eq_true'] at h
      obtain ⟨⟨⟨⟨⟨h0, h1⟩, h2⟩, h3⟩, h4⟩, h5⟩ := h
      exact ok_retC hn (sX g h0 h1 h2 h3 h4 h5)
    · cases h
  | .asgC i f es, X, c, s, H0, G0, ph0, kp, W, nv, g, hn, hk, h => by
    unfold chkS at h
    split at h
    · simp only [Bool.and_eq_true, decide_eq_true_eq, Bool.not_eq_true'] at h
      obtain ⟨⟨⟨⟨⟨⟨⟨h0, hf⟩, hp⟩, h1⟩, h2⟩, h3⟩, h4⟩, h5⟩ := h
      obtain ⟨q1, q2, q3⟩ := g.put hp
      exact ok_asgC (free_ne hk hf) hn g.ndX q1 q2 (sX g h0 h1 h2 h3 h4 h5) (swN rfl) q3
    · cases h
  | .raise k, X, c, s, H0, G0, ph0, kp, W, nv, g, hn, hk, h => by
    unfold chkS at h
    split at h
    · simp only [Bool.and_eq_true, decide_eq_true_eq, Bool.not_eq_true'] at h
      obtain ⟨⟨⟨⟨h0, h1⟩, h2⟩, h3⟩, h4⟩ := h
      subst h1
      obtain ⟨C, F⟩ := g.xs k h2
      exact ok_raise hn (g.cold h0).1 (g.tk h0) F (g.gl h3) (dbg_no h4).1
    · cases h
  | .tryE n xs b i h1, X, c, s, H0, G0, ph0, kp, W, nv, g, hn, hk, h => by
    unfold chkS at h
    split at h
    · rename_i body x xp nm b0 suite hpos pos
      simp only [Bool.and_eq_true, decide_eq_true_eq, Bool.not_eq_true', List.all_eq_true] at h
      obtain ⟨⟨⟨⟨⟨⟨⟨⟨h0, h1'⟩, h2⟩, h3⟩, h4⟩, h6⟩, h7⟩, h8⟩, h9⟩ := h
      subst h1'
      have en : n = nv := by rw [h6, hn, g.hN]
      subst en
      obtain ⟨tv, uv, f1, f2, f3⟩ := g.ts "StepError" h2
      rcases f3 with ⟨C, e1, e2, e3, e4⟩ | ⟨e1, e2, e3, e4, e5⟩
      · refine ok_try (cSE := .ref C) (C0 := .none) g.st g.fr g.ex (g.cold h0).1 g.ndX (g.put h4).1 (g.put2 h4) ⟨g.gl h3, by decide +kernel, .inl e3⟩ (g.tk h0) hn (g.cold h0).2 (fun c0 hc0 C1 hC1 => by subst e2; exact e4 rfl c0 (h7 c0 hc0) C1 hC1) (fun W1 pn xe tk ps => sSs b (g.tr tk ps) hn hk h8)
          (fun a pn Ha Ga pa => sSs h1 (g.suite a pn) hn (fun p hp => nomatch hp) h9)
      · exfalso
        exact absurd e4 (by decide +kernel)
    · cases h
  | .retP i e, X, c, s, H0, G0, ph0, kp, W, nv, g, hn, hk, h => by
    unfold chkS at h
    split at h
    · simp only [Bool.and_eq_true] at h
      obtain ⟨⟨h1, h2⟩, h3⟩ := h
      exact ok_retP (g.var h1) (sE e g.toGood h3) (star1 _ _ rfl) (star1 _ _ h2)
    · cases h
  | .forO i t b, X, c, s, H0, G0, ph0, kp, W, nv, g, hn, hk, h => by
    unfold chkS at h
    split at h
    · simp only [Bool.and_eq_true, decide_eq_true_eq, Bool.not_eq_true', decide_eq_false_iff_not] at h
      obtain ⟨⟨⟨⟨⟨⟨h0, h1⟩, h2⟩, h3⟩, h4⟩, h5⟩, h6⟩ := h
      refine ok_forO (free_all hk h3) h4 g.pass (g.cold h0).1 (g.var h1) (sG t g.toGood h5) fun a vs => sSs b (g.keep i) hn (fun p hp => ?_) h6
      rcases List.mem_cons.mp hp with rfl | hp
      · exact List.mem_cons_self
      · exact List.mem_cons_of_mem _ (hk p hp)
    · cases h
theorem sSs {cf : Cf} {S : Sg} : ∀ (d : Stms) {X : Cx} {c : Cc} {s : List Stmt} {H0 G0 : Hp} {ph0 : List Addr} {kp : List (Nat × Addr × List V)} {W : WX} {nv : Nat}, GoodS X c cf S W → nv = X.N.length → (∀ p ∈ kp, p.1 ∈ c.kp) → chkSs S d c s = true → PSs X s (tS (kx X) H0 G0 ph0 kp W nv (d.den cf))
  | .nil, X, c, s, H0, G0, ph0, kp, W, nv, g, hn, hk, h => by
    unfold chkSs at h
    split at h
    · exact ok_snil
    · cases h
  | .cons d r, X, c, ss, H0, G0, ph0, kp, W, nv, g, hn, hk, h => by
    unfold chkSs at h
    split at h
    · exact ok_frz (sSs r g hn hk h)
    · split at h
      · rw [Bool.and_eq_true] at h
        exact ok_scons (sS d g hn hk h.1) (sSs r g hn hk h.2)
      · cases h
end
end Sy

namespace Sy
open PySem PySem.Spec PyProof.Rows L2

/-- a def beside its term -/
structure Df where
  name : String
  fn : Fn
  ps : List Str
  N : List Str
  st : Stmt
def scopeB (N ps : List Str) (sc : Scope) : Bool :=
  (match sc.kind with | .function => true | _ => false) && !sc.isCoroutine && !sc.isGenerator && decide N.Nodup && decide (N.take ps.length = ps) &&
    (ps.all fun x => match sc.names.lookup x with | some .local => true | some .cell => true | _ => false) && (sc.names.all fun y => match y.2 with | .free => false | _ => true)
theorem scopeB_ok {N ps : List Str} {sc : Scope} (h : scopeB N ps sc = true) : FnScope N ps sc := by
  unfold scopeB at h
  simp only [Bool.and_eq_true, decide_eq_true_eq, Bool.not_eq_true', List.all_eq_true] at h
  obtain ⟨⟨⟨⟨⟨⟨h1, h2⟩, h3⟩, h4⟩, h5⟩, h6⟩, h7⟩ := h
  refine ⟨?_, h2, h3, h4, h5, fun x hx => ?_, fun y hy e => ?_⟩
  · split at h1
    · assumption
    · cases h1
  · have q := h6 x hx
    split at q
    · exact .inl (by assumption)
    · exact .inr (by assumption)
    · cases q
  · have q := h7 y hy
    rw [e] at q
    cases q
def chkW (hot : Bool) (S : Sg) (d : Df) : Bool := scopeB d.N d.ps (defScope d.st) && decide (d.fn.np = d.ps.length) && decide (d.fn.nv = d.N.length) && chkSs S d.fn.body ⟨d.N, defScope d.st, fun _ => true, hot, []⟩ (defBody d.st)
def chkD (S : Sg) (d : Df) : Bool := chkW false S d
/-- .. where an exception is handled, too -/
def chkH2 (S : Sg) (d : Df) : Bool := chkW true S d
def tbOf : List Df → String → Option Fn
  | [], _ => none
  | d :: ds, f => if d.name = f then some d.fn else tbOf ds f
theorem tbOf_mem : ∀ {ds : List Df} {f : String} {fn : Fn}, tbOf ds f = some fn → ∃ d ∈ ds, d.name = f ∧ d.fn = fn
  | d :: ds, f, fn, h => by
    unfold tbOf at h
    split at h
    · rename_i e; cases h; exact ⟨d, List.mem_cons_self, e, rfl⟩
    · obtain ⟨d', m, q⟩ := tbOf_mem h; exact ⟨d', List.mem_cons_of_mem _ m, q⟩
theorem tbOf_find : ∀ {ds : List Df}, (ds.map (·.name)).Nodup → ∀ d ∈ ds, tbOf ds d.name = some d.fn
  | d :: ds, nd, e, h => by
    unfold tbOf
    rw [List.map_cons, List.nodup_cons] at nd
    rcases List.mem_cons.mp h with rfl | h
    · rw [if_pos rfl]
    · rw [if_neg fun q => nd.1 (by rw [q]; exact List.mem_map_of_mem h)]
      exact tbOf_find nd.2 e h
/-- the def stands in the module -/
def Has (K : PySem.W.Frag) (mg : Str → Option Value) (d : Df) : Prop := ∃ f fd, mg (Str.ofString d.name) = some (.ref f) ∧ L2.Fun K (Str.ofString d.name) (Str.ofString d.name) d.st f fd ∧ Binds K fd d.ps []

section
variable {P : Program} {w : World} {K : PySem.W.Frag} {mg : Str → Option Value} {base : Heap}
theorem start_get {N : List Str} {vs : List V} {i : Nat} {v : V} (h : vs[i]? = some v) : (start N vs)[i]? = some (some v) := by
  unfold L2.start
  rw [List.getElem?_append_left (by rw [List.length_map]; exact (List.getElem?_eq_some_iff.mp h).1), List.getElem?_map, h]
  rfl
theorem env0_get {as : List R} {n i : Nat} {r : R} (h : (as.map some ++ List.replicate n none)[i]? = some (some r)) : as[i]? = some r := by
  by_cases hl : i < as.length
  · rw [List.getElem?_append_left (by rw [List.length_map]; exact hl), List.getElem?_map] at h
    cases q : as[i]? with
    | none => rw [q] at h; cases h
    | some x => rw [q] at h; cases h; rfl
  · rw [List.getElem?_append_right (by rw [List.length_map]; omega), List.getElem?_replicate] at h
    split at h <;> cases h
theorem RsAll.get {K : Kx} {G H : Hp} {ph : List Addr} : ∀ {rs : List R} {vs : List V} {i : Nat} {r : R}, RsAll K G H ph rs vs → rs[i]? = some r → ∃ v, vs[i]? = some v ∧ Rs K G H ph r v
  | [], _, _, _, _, h => by simp at h
  | _ :: _, [], _, _, h, _ => h.elim
  | _ :: _, v :: _, 0, _, h, e => by simp at e; subst e; exact ⟨v, rfl, h.1⟩
  | _ :: rs, _ :: vs, i + 1, r, h, e => by
    obtain ⟨v, h1, h2⟩ := RsAll.get (i := i) h.2 (by simpa using e)
    exact ⟨v, by simpa using h1, h2⟩
theorem entry {K : Kx} {G H : Hp} {ph : List Addr} {st : Bx} {as : List R} {vs : List V} {N : List Str} {nv np : Nat} (w1 : Wd K G H ph st) (h : RsAll K G H ph as vs) (pl : ∀ a ∈ as, ∀ ds, a ≠ .own ds ∧ a ≠ .brw ds) (e1 : nv = N.length) (e2 : as.length = np) (e3 : np ≤ N.length) :
    Rl K H G ph [] G H ph (as.map some ++ List.replicate (nv - np) none) st (start N vs) := by
  have hl := h.len
  have noOwn : ∀ (i : Nat) ds, (as.map some ++ List.replicate (nv - np) (none : Option R))[i]? ≠ some (some (.own ds)) ∧ (as.map some ++ List.replicate (nv - np) (none : Option R))[i]? ≠ some (some (.brw ds)) := fun i ds =>
    ⟨fun q => (pl _ (List.mem_of_getElem? (env0_get q)) ds).1 rfl, fun q => (pl _ (List.mem_of_getElem? (env0_get q)) ds).2 rfl⟩
  refine ⟨⟨w1, ?_, fun i r hi => ?_⟩, Stp.refl, fun i ds a q => absurd q (noOwn i ds).1, fun i j ds es a q => absurd q (noOwn i ds).1, fun i ds => (noOwn i ds).2, (fun p hp => nomatch hp), fun p hp => nomatch hp⟩
  · unfold L2.start
    rw [List.length_append, List.length_append, List.length_map, List.length_map, List.length_replicate, List.length_replicate]
    omega
  · obtain ⟨v, q1, q2⟩ := h.get (env0_get hi)
    exact ⟨v, start_get q1, q2⟩
/-- what a def's text does, in its own context -/
theorem body_ok {hot : Bool} {S : Sg} {tb : String → Option Fn} {k : Nat} {d : Df} (hd : chkW hot S d = true) (ht : tb d.name = some d.fn) (X : Cx) {E : XK} (g : GoodS X ⟨d.N, defScope d.st, fun _ => true, hot, []⟩ (callF tb k) S (fun cls e _ H => E cls e H)) {vs : List V} {H : Hp} {Q : VK}
    (h : spF (kx X) d.ps.length (callF tb (k + 1) d.name) vs H Q E) : ∃ t, PSs X (defBody d.st) t ∧ t { nx := fun _ H' => Q .non H', rt := Q } (start d.N vs) H := by
  unfold chkW at hd
  simp only [Bool.and_eq_true, decide_eq_true_eq] at hd
  obtain ⟨⟨⟨h1, h2⟩, h3⟩, h4⟩ := hd
  obtain ⟨hl, G, ph, st, as, r, st', w1, ha, pl, e, kk, ke⟩ := h
  have S1 := scopeB_ok h1
  have hN : d.ps.length ≤ d.N.length := by
    have q := congrArg List.length S1.pre
    rw [List.length_take] at q
    omega
  unfold callF at e
  rw [ht] at e
  dsimp only at e
  split at e
  · rename_i hlen
    refine ⟨_, sSs (H0 := H) (G0 := G) (ph0 := ph) (kp := []) (nv := X.N.length) d.fn.body g rfl (fun p hp => nomatch hp) h4, ?_⟩
    have R0 : Rl (kx X) H G ph [] G H ph (as.map some ++ List.replicate (d.fn.nv - d.fn.np) none) st (start d.N vs) := entry w1 ha pl h3 hlen (by rw [h2]; exact hN)
    cases hb : d.fn.body.den (callF tb k) (as.map some ++ List.replicate (d.fn.nv - d.fn.np) none) st with
    | none => rw [hb] at e; cases e
    | some o =>
      rw [hb] at e
      refine ⟨G, ph, _, st, o, R0, hb, fun env' st2 eo σ' H' G' ph' r' u' => ?_, fun r2 st2 eo => ⟨fun v H' G' ph' w2 s2 r2' f2 => ?_, fun x ex σ' H' G' ph' _ w2 s2 C hC => ?_⟩⟩
      · subst eo
        cases e
        exact kk .non H' G' ph' r'.e.w r'.s .non trivial
      · subst eo
        cases e
        exact kk v H' G' ph' w2 s2 r2' f2
      · subst eo
        cases e
        exact ke x ex H' G' ph' w2 s2 C hC
  · cases e
/-- the context of a def's body, whether an exception is being handled or not -/
abbrev cxB (hot : Bool) (P : Program) (w : World) (K : PySem.W.Frag) (mg : Str → Option Value) (base : Heap) (N : List Str) (qual : Str) (scope : Scope) (f : Addr) (cd : Value) (A : Around) (outer : List Env) (s : Shared) (H : Hp) (E : XK) : Cx :=
  { cxOf (L2N.CX P w) P w K mg base N qual scope f cd A outer s H E with calm := !hot }
theorem start_B {hot : Bool} {N ps : List Str} {qual : Str} {scope : Scope} {f : Addr} {cd : Value} {A : Around} {outer : List Env} {s s1 : Shared} {H : Hp} {E : XK} {us : List Value} {vs : List V} (S1 : FnScope N ps scope) (hd : hot = false → A.handled = none) (e0 : Env0 P w K mg base A outer s H) (hl : vs.length = ps.length) (r : Vals vs us)
    (x : InCallC s s.heap.objs.size (bindL (envOfC qual scope s.heap.objs.size f cd).kindOf (ps.zip us) fun _ => none) (cellsFrom (s.heap.objs.size + 1) scope.names []) (bindC (envOfC qual scope s.heap.objs.size f cd).kindOf (ps.zip us) fun _ => none) s1) :
    Inv (cxB hot P w K mg base N qual scope f cd A outer s H E) [] (start N vs) H s1 := by
  have e1 : Env0 P w K mg base ({ A with handled := none } : Around) outer s H := ⟨e0.frames, e0.mod, e0.bs, e0.bsz, e0.funs, e0.frf, e0.hok, e0.bare⟩
  have I := inv_start (CX := L2N.CX P w) (E := E) (cd := cd) (f := f) (qual := qual) (A := { A with handled := none }) S1 rfl e1 hl r x
  exact ⟨⟨I.ok.mod, I.ok.kind, I.ok.glob, I.ok.blt, I.ok.above, I.ok.inj, I.ok.has, I.ok.cab, (fun z => hd (by cases hot with
    | false => rfl
    | true => cases z)), Around.frames_deeper e0.frames, I.ok.stk, I.ok.exf, I.ok.bs, I.ok.bsz, I.ok.noex, I.ok.exfs, I.ok.funs, I.ok.frf⟩, I.os, I.bare, I.base, I.loc, I.cell, I.free, I.freeC, I.pin, I.hok, I.len⟩
/-- the rule for a def -/
theorem def_ok {hot : Bool} {k : Nat} {f : Addr} {fd : FuncData} {d : Df} {c : List R → Bx → Option (R × Bx)} (F : L2.Fun K (Str.ofString d.name) (Str.ofString d.name) d.st f fd) (S1 : FnScope d.N d.ps (defScope d.st))
    (hbody : ∀ (X : Cx) (vs : List V) (H : Hp) (Q : VK) (E : XK), X.prog = P → X.w = w → X.K = K → X.mg = mg → X.base = base → X.N = d.N → X.env.scope = defScope d.st → (X.fn = fun _ => true) → X.calm = !hot → RoomB hot k X.A → PassesOwn (model X.prog X.w) X.A X.env X.xe → L2N.Takes X (fun cls e _ H => E cls e H) →
      X.stack = X.env :: X.outer → X.env.frame = some X.env.locals → X.ex = [] → spF (kx X) d.ps.length c vs H Q E → ∃ t, PSs X (defBody d.st) t ∧ t { nx := fun _ H' => Q .non H', rt := Q } (start d.N vs) H) : Fk hot P w K mg base (k + 1) f fd d.ps c := by
  obtain ⟨oc, od, kV, doc, pm, an, cdv, ct, osl, rfl, lk, hcd⟩ := F.ex
  constructor
  intro A fr s H args us vs Q E room e0 bind rel hsp
  have kin := e0.mod.kin.keeps fun b o e => (e0.bs b o e).1
  have nolim := e0.mod.nolimit.keeps fun b o e => (e0.bs b o e).1
  have kinds : ∀ y ∈ d.ps.zip us, (defScope d.st).names.lookup y.1 = some .local ∨ ((defScope d.st).names.lookup y.1 = some .cell ∧ ((cellsFrom (s.heap.objs.size + 1) (defScope d.st).names []).lookup y.1).isSome = true) := by
    rintro ⟨n, v⟩ hy
    cases S1.par n (List.of_mem_zip hy).1 with
    | inl q => exact .inl q
    | inr q => exact .inr ⟨q, PySem.W.cellsFrom_some _ _ _ (.inl q)⟩
  apply codeAny_call_function room.depth (kin _ _ lk) rfl S1.co S1.gen rfl (PySem.W.codeRec_of kin hcd)
  apply bind
  apply wpAny_newFunctionEnv_cells S1.kind kinds
  intro env he s1 inc
  subst he
  refine ⟨nolim.keeps inc.toInCall.keep, codeAny_func ?_⟩
  have I0 := start_B (hot := hot) (E := E) S1 room.cold e0 hsp.1 rel inc
  obtain ⟨t, ht, hq⟩ := hbody (cxB hot P w K mg base d.N (Str.ofString d.name) (defScope d.st) f cdv A fr s H E) vs H Q E rfl rfl rfl rfl rfl rfl rfl rfl rfl (room.deeper _) PassesOwn.leaving (L2N.takes_of rfl rfl rfl rfl) rfl rfl rfl hsp
  refine wpAny_mono (ht.run [] s1 (start d.N vs) H _ I0 hq) ?_ fun e s2 hs => hs
  intro fl s2 out
  match fl, out with
  | .ret u, ⟨v, σ2, H2, J, rv, q⟩ => exact ⟨v, H2, J.os, J.bare, J.base, J.hok, rv, q⟩
  | .next, ⟨σ2, H2, J, q⟩ => exact ⟨.non, H2, J.os, J.bare, J.base, J.hok, rfl, q⟩
  | .brk, ⟨_, _, _, q⟩ => exact q.elim
  | .cont, ⟨_, _, _, q⟩ => exact q.elim
/-- what the module tells -/
structure ModF (K : PySem.W.Frag) (mg : Str → Option Value) (S : Sg) : Prop where
  bs : ∀ x ∈ S.bs, mg (Str.ofString x) = none
  gs : ∀ p ∈ S.gs, ∃ u w, mg (Str.ofString p.1) = some u ∧ RelV w u ∧ ∀ G : Hp, Dv K G w p.2
  xs : ∀ x ∈ S.xs, ∃ C, XcK K mg x C
  ts : ∀ t ∈ S.ts, TyK K mg S.xs t
theorem call_len {hot : Bool} {ds : List Df} {S : Sg} (nd : (ds.map (·.name)).Nodup) {d : Df} (hd : d ∈ ds) (hc : chkW hot S d = true) {k : Nat} : ∀ as st r, callF (tbOf ds) k d.name as st = some r → as.length = d.ps.length := fun as st r e => by
  unfold chkW at hc
  simp only [Bool.and_eq_true, decide_eq_true_eq] at hc
  cases k with
  | zero => unfold callF at e; cases e
  | succ k =>
    unfold callF at e
    rw [tbOf_find nd d hd] at e
    dsimp only at e
    split at e
    · rename_i hl; rw [hl]; exact hc.1.1.2
    · cases e
theorem all_okH {ds : List Df} {S : Sg} (nd : (ds.map (·.name)).Nodup) (hS : ∀ x ∈ S.hs, ∃ d ∈ ds, d.name = x) (hc : ∀ d ∈ ds, d.name ∈ S.hs → chkH2 S d = true) (hh : ∀ d ∈ ds, Has K mg d) (M : ModF K mg S) :
    ∀ (k : Nat), ∀ d ∈ ds, d.name ∈ S.hs → ∀ f fd, L2.Fun K (Str.ofString d.name) (Str.ofString d.name) d.st f fd → Fk true P w K mg base k f fd d.ps (callF (tbOf ds) k d.name)
  | 0, d, hd, hm, f, fd, F => ⟨fun A fr s H args us vs Q E _ _ _ _ hsp => by
    obtain ⟨_, _, _, _, _, _, _, _, _, _, e, _⟩ := hsp
    unfold callF at e
    cases e⟩
  | k + 1, d, hd, hm, f, fd, F => by
    have ih := all_okH nd hS hc hh M k
    have hcd := hc d hd hm
    have hcd2 := hcd
    unfold chkH2 chkW at hcd2
    simp only [Bool.and_eq_true, decide_eq_true_eq] at hcd2
    have S1 := scopeB_ok hcd2.1.1.1
    refine def_ok F S1 fun X vs H Q E eP ew eK emg eb eN esc efn ecalm room ps tk st fr ex hsp => ?_
    subst eP ew eK emg eb
    refine body_ok hcd (tbOf_find nd d hd) X ⟨⟨eN, S1.nd, esc, efn, (fun z => nomatch z), fun _ => room.hotc rfl, room.gd, ?_, (fun z => nomatch z), fun f' hf' => ?_, M.bs, M.gs, M.xs, M.ts⟩, ps, (fun z => nomatch z), st, fr, ex⟩ hsp
    · have q := room.rm.un
      omega
    · obtain ⟨d', hd', rfl⟩ := hS f' hf'
      obtain ⟨f2, fd2, q1, F2, q3⟩ := hh d' hd'
      exact ⟨k, f2, fd2, d'.ps, ih d' hd' hf' f2 fd2 F2, room.rm, q1, F2.kp, q3, call_len nd hd' (hc d' hd' hf')⟩
/-- every def of the module keeps what its term computes -/
theorem all_ok {ds : List Df} {S : Sg} (nd : (ds.map (·.name)).Nodup) (hS : S.fs = ds.map (·.name)) (hS2 : ∀ x ∈ S.hs, ∃ d ∈ ds, d.name = x) (hc : ∀ d ∈ ds, chkD S d = true) (hc2 : ∀ d ∈ ds, d.name ∈ S.hs → chkH2 S d = true) (hh : ∀ d ∈ ds, Has K mg d) (M : ModF K mg S) :
    ∀ (k : Nat), ∀ d ∈ ds, ∀ f fd, L2.Fun K (Str.ofString d.name) (Str.ofString d.name) d.st f fd → Fk false P w K mg base k f fd d.ps (callF (tbOf ds) k d.name)
  | 0, d, hd, f, fd, F => ⟨fun A fr s H args us vs Q E _ _ _ _ hsp => by
    obtain ⟨_, _, _, _, _, _, _, _, _, _, e, _⟩ := hsp
    unfold callF at e
    cases e⟩
  | k + 1, d, hd, f, fd, F => by
    have ih := all_ok nd hS hS2 hc hc2 hh M k
    have hcd := hc d hd
    have hcd2 := hcd
    unfold chkD chkW at hcd2
    simp only [Bool.and_eq_true, decide_eq_true_eq] at hcd2
    have S1 := scopeB_ok hcd2.1.1.1
    refine def_ok F S1 fun X vs H Q E eP ew eK emg eb eN esc efn ecalm room ps tk st fr ex hsp => ?_
    subst eP ew eK emg eb
    refine body_ok hcd (tbOf_find nd d hd) X ⟨⟨eN, S1.nd, esc, efn, fun _ => ⟨ecalm, room.cold rfl⟩, (fun z => nomatch z), room.gd, ?_, fun _ f' hf' => ?_, fun f' hf' => ?_, M.bs, M.gs, M.xs, M.ts⟩, ps, fun _ => tk, st, fr, ex⟩ hsp
    · have q := room.rm.un
      omega
    · rw [hS] at hf'
      obtain ⟨d', hd', rfl⟩ := List.mem_map.mp hf'
      obtain ⟨f2, fd2, q1, F2, q3⟩ := hh d' hd'
      exact ⟨k, f2, fd2, d'.ps, ih d' hd' f2 fd2 F2, room, q1, F2.kp, q3, call_len nd hd' (hc d' hd')⟩
    · obtain ⟨d', hd', rfl⟩ := hS2 f' hf'
      obtain ⟨f2, fd2, q1, F2, q3⟩ := hh d' hd'
      exact ⟨k, f2, fd2, d'.ps, all_okH nd hS2 hc2 hh M k d' hd' hf' f2 fd2 F2, room.rm, q1, F2.kp, q3, call_len nd hd' (hc d' hd')⟩
end
end Sy

namespace Sy
open PySem PySem.Spec PyProof.Rows L2

/-! ### the law at the machine's top -/
/-- what the law's def computes of a script -/
def Yes (c : List R → Bx → Option (R × Bx)) (n : Nat) : Prop := ∀ ns : List Int, ns.length ≤ n → ∃ st, c [.scr ns] [] = some (.dat (.bool true), st)
theorem yes_sp {K : PySem.W.Frag} {c : List R → Bx → Option (R × Bx)} {n : Nat} (y : Yes c n) {H : Hp} {a : Addr} {ns : List Int} (hl : ns.length ≤ n) (hS : SqL K H a (ns.map V.int)) : spF ⟨K, none⟩ 1 c [.ref a] H (fun v _ => v = .bl true) (fun _ _ _ => False) := by
  obtain ⟨st, e⟩ := y ns hl
  refine ⟨rfl, H, [], [], [.scr ns], _, st, ⟨fun _ _ h => h, List.nodup_nil, rfl, fun n a ds h => (by simp at h), (fun _ z => nomatch z)⟩, ⟨⟨a, rfl, hS⟩, trivial⟩, fun x hx ds => ?_, e, fun v H' G' ph' w1 s1 r1 f1 => ?_, (fun _ z => nomatch z)⟩
  · have ex : x = .scr ns := by simpa using hx
    subst ex
    exact ⟨(fun z => nomatch z), (fun z => nomatch z)⟩
  · cases (show Dv K G' v (.bool true) from r1)
    rfl
section
variable {P : Program} {w : World} {K : PySem.W.Frag} {mg mb : Str → Option Value} {k : Nat} {fa a : Addr} {fd : FuncData} {x : Str} {c : List R → Bx → Option (R × Bx)} {n : Nat} {ns : List Int} {vs : List Value} {s1 : Shared}
abbrev Fin (s1 : Shared) : Result → Shared → Prop := fun r s2 => r = .ok (.ret (.bool true)) ∧ OldK s1.heap s2.heap ∧ s2.os = s1.os ∧ AllBare s2.gens
/-- where nothing but the script is tracked -/
theorem top_at (y : Yes c n) (hl : ns.length ≤ n) (kin : K.In s1.heap) (gns : s1.heap.Ns mainGlobals mg) (bns : s1.heap.Ns builtinsNs mb) (bboot : ∀ z : Str, z ≠ "__name__" → mb z = bootBuiltins z) (nolim : s1.heap.NoLimit) (nogens : s1.gens = #[])
    (obj : s1.heap.get? a = some { cls := .type "list", data := .seq vs.toArray }) (room : RoomB false k callerA) (F : ∀ base : Heap, K.In base → base.Ns mainGlobals mg → Fk false P w K mg base k fa fd [x] c) (bind : Binds K fd [x] [])
    {H : Hp} (only : Only H) (hS : SqL K H a (ns.map V.int)) (hok : HOk P w H s1.heap) (alone : ∀ b, H b ≠ none → b = a) (notK : H a ≠ none → K.lookup a = none) : codeAny (model P w) callerA (.call (.ref fa) ⟨[.ref a], []⟩) (Fin s1) s1 := by
  have untracked : ∀ {b : Addr} {o : Obj} {es : Array DictEntry} {ep : Nat}, s1.heap.get? b = some o → o.data = .dict es ep → H b = none := by
    intro b o es ep g d
    rcases hb : H b with _ | u
    · rfl
    · exfalso
      have eb := alone b (by rw [hb]; exact fun z => nomatch z)
      rw [eb, obj] at g
      cases g
      cases (show Data.seq vs.toArray _ = Data.dict es ep from d)
  have nsT : ∀ {b : Addr} {m : Str → Option Value}, s1.heap.Ns b m → (hidT s1.heap H).Ns b m := by
    rintro b m ⟨o, es, ep, g, d, r⟩
    exact ⟨o, es, ep, hidT_get g (untracked g d), d, r⟩
  have kinT : K.In (hidT s1.heap H) := by
    intro b o g
    refine hidT_get (kin b o g) ?_
    rcases hb : H b with _ | u
    · rfl
    · exfalso
      have eb := alone b (by rw [hb]; exact fun z => nomatch z)
      rw [eb] at hb g
      rw [notK (by rw [hb]; exact fun z => nomatch z)] at g
      cases g
  have modT : Mod K mg (hidT s1.heap H) := by
    obtain ⟨mc, c1, c2⟩ := nolim
    exact ⟨kinT, nsT gns, ⟨mb, nsT bns, bboot⟩, ⟨mc, nsT c1, c2⟩⟩
  have env : Env0 P w K mg (hidT s1.heap H) callerA [] s1 H := by
    refine ⟨rfl, modT, fun b o g => of_hidT g, by rw [hidT_size]; exact Nat.le_refl _, trivial, fun b hb => ?_, hok, .of_eq nogens⟩
    simp [frs] at hb
  refine codeAny_mono ((F _ kinT (nsT gns)).run callerA [] s1 H ⟨[.ref a], []⟩ [.ref a] [.ref a] (fun v _ => v = .bl true) (fun _ _ _ => False) room env (bind s1 [.ref a] kin rfl) (.cons rfl .nil) (yes_sp y hl hS)) ?_
  intro r s2 out
  match r, out with
  | .error _, out =>
    obtain ⟨_, _, _, _, _, _, _, _, _, _, _, _, z⟩ := out
    exact z.elim
  | .ok .next, out => exact out.elim
  | .ok .brk, out => exact out.elim
  | .ok .cont, out => exact out.elim
  | .ok (.ret u), ⟨v, H2, os, bare, un, hok2, rel, ev⟩ =>
    have ev : v = .bl true := ev
    subst ev
    cases (show u = Value.bool true from rel)
    refine ⟨rfl, OldK.of_keep fun b o g => ?_, os, bare⟩
    rcases only b with z | ⟨ob, xs, z⟩
    · exact un.keep b o g z (by simp [frs]) (by simp)
    · obtain ⟨g1, _⟩ := hok b _ z
      obtain ⟨g2, _⟩ := hok2 b _ (un.frzs b ob _ z)
      rw [g] at g1
      cases g1
      exact g2
theorem top_ok (y : Yes c n) (hl : ns.length ≤ n) (hn : n ≤ sizeLine) (kin : K.In s1.heap) (gns : s1.heap.Ns mainGlobals mg) (bns : s1.heap.Ns builtinsNs mb) (bboot : ∀ z : Str, z ≠ "__name__" → mb z = bootBuiltins z) (nolim : s1.heap.NoLimit) (nogens : s1.gens = #[])
    (obj : s1.heap.get? a = some { cls := .type "list", data := .seq vs.toArray }) (intz : IntsAre vs ns) (room : RoomB false k callerA) (F : ∀ base : Heap, K.In base → base.Ns mainGlobals mg → Fk false P w K mg base k fa fd [x] c) (bind : Binds K fd [x] []) :
    codeAny (model P w) callerA (.call (.ref fa) ⟨[.ref a], []⟩) (Fin s1) s1 := by
  have rv := vals_ints intz
  have lv := intz.length
  have ls : ns.length ≤ sizeLine := Nat.le_trans hl hn
  rcases hk : K.lookup a with _ | o
  · refine top_at (H := fun b => if b = a then some (.frz { cls := .type "list", data := .seq vs.toArray } (.lst (ns.map V.int))) else none) y hl kin gns bns bboot nolim nogens obj room F bind (fun b => ?_) (.inl (.inr ⟨{ cls := .type "list", data := .seq vs.toArray }, if_pos rfl⟩)) (fun b u z => ?_) (fun b z => ?_) fun _ => hk
    · rcases Classical.em (b = a) with e | e
      · exact .inr ⟨_, _, if_pos e⟩
      · exact .inl (if_neg e)
    · rcases Classical.em (b = a) with e | e
      · cases (if_pos e).symm.trans z
        subst e
        exact ⟨obj, by rw [List.length_map]; exact ls, vs, _, rv, obj⟩
      · cases (if_neg e).symm.trans z
    · exact Classical.byContradiction fun e => z (if_neg e)
  · have g := kin a o hk
    rw [obj] at g
    cases g
    exact top_at (H := fun _ => none) y hl kin gns bns bboot nolim nogens obj room F bind (fun _ => .inl rfl) (.inr ⟨_, vs.toArray, _, hk, rfl, rfl, rfl, by rw [List.size_toArray, lv]; exact ls, by simpa using rv⟩) (fun b u z => by cases (show (none : Option HO) = some u from z)) (fun b z => absurd rfl z) fun z => absurd rfl z
end
/-- what the head asks for -/
theorem top_walk {l : PySem.W.OpenLaw} {n k : Nat} {q : Program} {loose : List Str} {XP : (Str → Option Value) → Heap → Prop} {YP : World → Heap → Prop} {d : DefRec} {K : Params → PySem.W.Frag} {x : Str} {c : List R → Bx → Option (R × Bx)} (y : Yes c n)
    (hn : l.most = some n) (hn2 : n ≤ sizeLine) (hdf : d.params.defaults = []) (room : RoomB false k callerA) (hY : ∀ (w : World) (h : Heap), YP w h → (K w.params).In h)
    (F : ∀ (w : World) (mg : Str → Option Value) (fa : Addr) (h : Heap), (K w.params).In h → h.Ns mainGlobals mg → mg d.name = some (.ref fa) → ∃ fd : FuncData, Binds (K w.params) fd [x] [] ∧
      ∀ base : Heap, (K w.params).In base → base.Ns mainGlobals mg → Fk false l.prog w (K w.params) mg base k fa fd [x] c) : PySem.W.WalkO q loose XP YP l.row.toRowW d [] (fun f vs => PySem.call f vs) := by
  apply Att.attach_call hn hdf
  intro w s0 s1 mg mb fa o pm cd doc a vs ns G Y ho hd hcd hmg obj intz hlen nogens
  have kin := hY w _ Y
  obtain ⟨fd, bind, FF⟩ := F w mg fa _ kin G.T.g hmg
  exact top_ok y hlen hn2 kin G.T.g G.T.b G.T.builtins G.T.nolimit nogens obj intz room FF bind
/-! ### what the written objects tell -/
def HasK (K : PySem.W.Frag) (x : String) (st : Stmt) : Prop :=
  ∃ (f : Addr) (oc : Value) (od : Option Addr) (kV doc pm : Value) (an : Option Addr) (cdv ct : Value) (osl : Array (Option Value)), PySem.W.nsIn K mainGlobals (Str.ofString x) = some (some (.ref f)) ∧
    K.lookup f = some ⟨oc, od, .func (PySem.W.fnOf (Str.ofString x) (Str.ofString x) (defArgs st) (defBody st) (defScope st) .none kV doc pm an cdv ct), osl⟩ ∧ PySem.W.codeIn K cdv (Str.ofString x) = true ∧ PySem.W.keepIn K (.ref f) = true
theorem hasK_mk {K : PySem.W.Frag} {x : String} {st : Stmt} {f : Addr} {oc : Value} {od : Option Addr} {kV doc pm : Value} {an : Option Addr} {cdv ct : Value} {osl : Array (Option Value)} (a1 : PySem.W.nsIn K mainGlobals (Str.ofString x) = some (some (.ref f)))
    (l1 : K.lookup f = some ⟨oc, od, .func (PySem.W.fnOf (Str.ofString x) (Str.ofString x) (defArgs st) (defBody st) (defScope st) .none kV doc pm an cdv ct), osl⟩) (c1 : PySem.W.codeIn K cdv (Str.ofString x) = true) (k1 : PySem.W.keepIn K (.ref f) = true) : HasK K x st := ⟨f, oc, od, kV, doc, pm, an, cdv, ct, osl, a1, l1, c1, k1⟩
theorem HasK.has {K : PySem.W.Frag} {h : Heap} {mg : Str → Option Value} {d : Df} (H : HasK K d.name d.st) (X : K.In h) (G : h.Ns mainGlobals mg)
    (hb : ∀ (kV doc pm : Value) (an : Option Addr) (cdv ct : Value) (us : List Value), us.length = d.ps.length → bindArgs (PySem.W.fnOf (Str.ofString d.name) (Str.ofString d.name) (defArgs d.st) (defBody d.st) (defScope d.st) .none kV doc pm an cdv ct) ⟨us, []⟩ = pure (d.ps.zip us)) : Has K mg d := by
  obtain ⟨f, oc, od, kV, doc, pm, an, cdv, ct, osl, a1, l1, c1, k1⟩ := H
  have F := fun_mk (st := d.st) l1 c1 k1
  exact ⟨f, _, PySem.W.mg_of X G a1, F, F.binds hb⟩
/-- a constant of the module -/
def ConK (K : PySem.W.Frag) (x : String) (d : PyData) : Prop := ∃ u w, PySem.W.nsIn K mainGlobals (Str.ofString x) = some (some u) ∧ RelV w u ∧ ∀ G : Hp, Dv K G w d
theorem conK_int {K : PySem.W.Frag} {x : String} {i : Int} {t : Tok} (a1 : PySem.W.nsIn K mainGlobals (Str.ofString x) = some (some (.int i t))) : ConK K x (.int i) := ⟨_, .int i, a1, ⟨t, rfl⟩, fun _ => .int i⟩
theorem conK_str {K : PySem.W.Frag} {x : String} {s : Str} {t : Tok} (a1 : PySem.W.nsIn K mainGlobals (Str.ofString x) = some (some (.str s t))) : ConK K x (.str s) := ⟨_, .str s, a1, ⟨t, rfl⟩, fun _ => .str s⟩
theorem ConK.con {K : PySem.W.Frag} {h : Heap} {mg : Str → Option Value} {x : String} {d : PyData} (c : ConK K x d) (X : K.In h) (G : h.Ns mainGlobals mg) : ∃ u w, mg (Str.ofString x) = some u ∧ RelV w u ∧ ∀ G : Hp, Dv K G w d := by
  obtain ⟨u, w, a1, r, q⟩ := c
  exact ⟨u, w, PySem.W.mg_of X G a1, r, q⟩
/-! ### error classes -/
def XcH (K : PySem.W.Frag) (c : String) : Prop := ∃ C, ClsOf K c C ∧ PySem.W.keepIn K (.ref C) = true ∧ PySem.W.subIn K (.ref C) (.type "BaseException") = some true ∧ PySem.W.typeIn K (.ref C) = some (.type "type") ∧
  PySem.W.excIn K C [.type "ValueError", .type "Exception", .type "BaseException", .type "object"] "ValueError.__new__" = true
theorem xcH_mk {K : PySem.W.Frag} {c : String} {C : Addr} (a1 : PySem.W.nsIn K mainGlobals (Str.ofString c) = some (some (.ref C))) (k1 : PySem.W.keepIn K (.ref C) = true) (s1 : PySem.W.subIn K (.ref C) (.type "BaseException") = some true) (t1 : PySem.W.typeIn K (.ref C) = some (.type "type"))
    (m1 : PySem.W.excIn K C [.type "ValueError", .type "Exception", .type "BaseException", .type "object"] "ValueError.__new__" = true) : XcH K c := ⟨C, a1, k1, s1, t1, m1⟩
theorem XcH.xc {K : PySem.W.Frag} {h : Heap} {mg : Str → Option Value} {c : String} (x : XcH K c) (X : K.In h) (G : h.Ns mainGlobals mg) : ∃ C, XcK K mg c C := by
  obtain ⟨C, a1, k1, s1, t1, m1⟩ := x
  exact ⟨C, a1, PySem.W.mg_of X G a1, k1, s1, t1, m1⟩
def ExH (K : PySem.W.Frag) (c : String) : Prop := ∃ C, ClsOf K c C ∧ ExcC K C
theorem exH_mk {K : PySem.W.Frag} {c : String} {C : Addr} (a1 : PySem.W.nsIn K mainGlobals (Str.ofString c) = some (some (.ref C))) (hg : PySem.W.findIn K (.ref C) "__getattribute__" = some (some (.builtin "BaseException.__getattribute__"))) (hk : PySem.W.findIn K (.ref C) "__getattr__" = some none)
    (hs : PySem.W.subIn K (.ref C) (.type "BaseException") = some true) (hd : PySem.W.hasDictIn K C = true) (ha : PySem.W.findIn K (.ref C) "__class__" = some (some (.builtin "object.__class__"))) (hn : PySem.W.specialIn K (.builtin "object.__class__") "__get__" = some (some (.builtin "getset_descriptor.__get__")))
    (ht : PySem.W.takesIn K (.builtin "object.__class__") = some true) (hm : PySem.W.mroIn K C (.type "object") = some true) : ExH K c := ⟨C, a1, hg, hk, hs, hd, ha, hn, ht, hm⟩
theorem cls_mk {K : PySem.W.Frag} {t : String} {C : Addr} (a : PySem.W.nsIn K mainGlobals (Str.ofString t) = some (some (.ref C))) : ∃ C, ClsOf K t C := ⟨C, a⟩
def KtO (K : PySem.W.Frag) (c t : String) (b : Bool) : Prop := ∃ C C0, ClsOf K c C ∧ ClsOf K t C0 ∧ PySem.W.kitOne K (.ref C) (.ref C0) = some b
theorem ktO_mk {K : PySem.W.Frag} {c t : String} {b : Bool} {C C0 : Addr} (a1 : PySem.W.nsIn K mainGlobals (Str.ofString c) = some (some (.ref C))) (a2 : PySem.W.nsIn K mainGlobals (Str.ofString t) = some (some (.ref C0))) (e : PySem.W.kitOne K (.ref C) (.ref C0) = some b) : KtO K c t b := ⟨C, C0, a1, a2, e⟩
def KtB (K : PySem.W.Frag) (c t : String) (b : Bool) : Prop := ∃ C, ClsOf K c C ∧ PySem.W.kitOne K (.ref C) (.type t) = some b
theorem ktB_mk {K : PySem.W.Frag} {c t : String} {b : Bool} {C : Addr} (a1 : PySem.W.nsIn K mainGlobals (Str.ofString c) = some (some (.ref C))) (e : PySem.W.kitOne K (.ref C) (.type t) = some b) : KtB K c t b := ⟨C, a1, e⟩
def XmH (K : PySem.W.Frag) (c t : String) : Prop := ∃ C C0, ClsOf K c C ∧ ClsOf K t C0 ∧ PySem.W.exmOne K (.ref C) (.ref C0) = some true
theorem xmH_mk {K : PySem.W.Frag} {c t : String} {C C0 : Addr} (a1 : PySem.W.nsIn K mainGlobals (Str.ofString c) = some (some (.ref C))) (a2 : PySem.W.nsIn K mainGlobals (Str.ofString t) = some (some (.ref C0))) (e : PySem.W.exmOne K (.ref C) (.ref C0) = some true) : XmH K c t := ⟨C, C0, a1, a2, e⟩
/-- a type of the program's own -/
theorem tyO {K : PySem.W.Frag} {h : Heap} {mg : Str → Option Value} {xs : List String} {t : String} (X : K.In h) (G : h.Ns mainGlobals mg) (g : ∃ C, ClsOf K t C) (e : ∀ c ∈ xs, ExH K c) (k : ∀ c ∈ xs, KtO K c t (subX c t)) (m : t = "StepError" → ∀ c ∈ xs, XmH K c t) : TyK K mg xs t := by
  obtain ⟨C, hC⟩ := g
  refine ⟨.ref C, .ref C, fun u r => r, fun c hc C1 h1 => ?_, .inl ⟨C, rfl, rfl, PySem.W.mg_of X G hC, fun z c hc C1 h1 => ?_⟩⟩
  · obtain ⟨C2, q1, q2⟩ := e c hc
    obtain ⟨C3, C4, q3, q4, q5⟩ := k c hc
    cases cls_one h1 q1
    cases cls_one h1 q3
    cases cls_one hC q4
    exact ⟨q2, q5⟩
  · obtain ⟨C3, C4, q3, q4, q5⟩ := m z c hc
    cases cls_one h1 q3
    cases cls_one hC q4
    exact q5
/-- .. a built-in one -/
theorem tyB {K : PySem.W.Frag} {mg : Str → Option Value} {xs : List String} {t : String} (g : mg (Str.ofString t) = none) (hb : bootBuiltins (Str.ofString t) = some (.type t)) (hn : Str.ofString t ≠ "__name__") (e : ∀ c ∈ xs, ExH K c) (k : ∀ c ∈ xs, KtB K c t (subX c t)) : TyK K mg xs t := by
  refine ⟨.ty t, .type t, fun u r => r, fun c hc C1 h1 => ?_, .inr ⟨rfl, rfl, g, hb, hn⟩⟩
  obtain ⟨C2, q1, q2⟩ := e c hc
  obtain ⟨C3, q3, q5⟩ := k c hc
  cases cls_one h1 q1
  cases cls_one h1 q3
  exact ⟨q2, q5⟩
/-- the law's def, from all the defs -/
theorem head_ok {P : Program} {w : World} {K : PySem.W.Frag} {mg : Str → Option Value} {fa : Addr} {ds : List Df} {S : Sg} {d : Df} (k : Nat) (nd : (ds.map (·.name)).Nodup) (hS : S.fs = ds.map (·.name)) (hS2 : ∀ x ∈ S.hs, ∃ d ∈ ds, d.name = x) (hc : ∀ d ∈ ds, chkD S d = true) (hc2 : ∀ d ∈ ds, d.name ∈ S.hs → chkH2 S d = true) (hh : ∀ d ∈ ds, Has K mg d) (M : ModF K mg S)
    (hd : d ∈ ds) (hfa : mg (Str.ofString d.name) = some (.ref fa)) :
    ∃ fd : FuncData, Binds K fd d.ps [] ∧ ∀ base : Heap, K.In base → base.Ns mainGlobals mg → Fk false P w K mg base k fa fd d.ps (callF (tbOf ds) k d.name) := by
  obtain ⟨f, fd, e, F, B⟩ := hh d hd
  rw [hfa] at e
  cases e
  exact ⟨fd, B, fun base _ _ => all_ok nd hS hS2 hc hc2 hh M k d hd fa fd F⟩
end Sy

namespace Sy
open PySem L2
/-! ### plain tools -/
def outR : Option Out → Option (R × Bx)
  | some (.rt r st1) => some (r, st1)
  | some (.nx _ st1) => some (.dat .none, st1)
  | none => none
theorem callF_of {tb : String → Option Fn} {f : String} {fn : Fn} (t : tb f = some fn) (k : Nat) (args : List R) (st : Bx) (h : args.length = fn.np) :
    callF tb (k + 1) f args st = outR (fn.body.den (callF tb k) (args.map some ++ List.replicate (fn.nv - fn.np) none) st) := by
  conv => lhs; unfold callF
  rw [t]
  dsimp only
  rw [if_pos h]
  unfold outR
  rfl
/-! the forms, as plain rules -/
theorem y_e_c {cf : Cf} {d u0 st} : Ex.den cf (.c d) u0 st = ( some (.dat d, st)) := Eq.trans rfl rfl
theorem y_e_v {cf : Cf} {i env st} : Ex.den cf (.v i) env st = ( match env[i]? with
    | some (some r) => some (r.read, st)
    | _ => none) := Eq.trans rfl rfl
theorem y_e_g {cf : Cf} {u0 d u1 st} : Ex.den cf (.g u0 d) u1 st = ( some (.dat d, st)) := Eq.trans rfl rfl
theorem y_e_never {cf : Cf} {u0 u1} : Ex.den cf (.never ) u0 u1 = ( none) := Eq.trans rfl rfl
theorem y_e_bin {cf : Cf} {o a b env st} : Ex.den cf (.bin o a b) env st = ( match a.den cf env st with
    | some (x, st1) => match b.den cf env st1 with
      | some (y, st2) => match x.view, y.view with
        | some d, some e => (binD o d e).map fun r => (r, st2)
        | _, _ => none
      | none => none
    | none => none) := Eq.trans rfl rfl
theorem y_e_neg {cf : Cf} {a env st} : Ex.den cf (.neg a) env st = ( match a.den cf env st with
    | some (.dat (.int i), st1) => some (.dat (.int (-i)), st1)
    | _ => none) := Eq.trans rfl rfl
theorem y_e_tst {cf : Cf} {t env st} : Ex.den cf (.tst t) env st = ( match t.den cf env st with
    | some (b, st1) => some (.dat (.bool b), st1)
    | none => none) := Eq.trans rfl rfl
theorem y_e_ite {cf : Cf} {t a b env st} : Ex.den cf (.ite t a b) env st = ( match t.den cf env st with
    | some (true, st1) => a.den cf env st1
    | some (false, st1) => b.den cf env st1
    | none => none) := Eq.trans rfl rfl
theorem y_e_tup {cf : Cf} {es env st} : Ex.den cf (.tup es) env st = ( match es.den cf env st with
    | some (rs, st1) => match caps rs with
      | some ds => if fitsL ds.length then some (.dat (.tuple ds), st1) else none
      | none => none
    | none => none) := Eq.trans rfl rfl
theorem y_e_lst {cf : Cf} {es env st} : Ex.den cf (.lst es) env st = ( match es.den cf env st with
    | some (rs, st1) => match caps rs with
      | some ds => if fitsL ds.length then some (.own ds, st1) else none
      | none => none
    | none => none) := Eq.trans rfl rfl
theorem y_e_box {cf : Cf} {es env st} : Ex.den cf (.box es) env st = ( match es.den cf env st with
    | some (rs, st1) => match caps rs with
      | some ds => if fitsL ds.length then some (.ref st1.length, st1 ++ [ds]) else none
      | none => none
    | none => none) := Eq.trans rfl rfl
theorem y_e_ix {cf : Cf} {a b env st} : Ex.den cf (.ix a b) env st = ( match a.den cf env st with
    | some (x, st1) => match b.den cf env st1 with
      | some (.dat (.int i), st2) => (ixR x i st2).map fun d => (.dat d, st2)
      | _ => none
    | none => none) := Eq.trans rfl rfl
theorem y_e_sl {cf : Cf} {a lo hi env st} : Ex.den cf (.sl a lo hi) env st = ( match a.den cf env st with
    | some (x, st1) => match lo.den cf env st1 with
      | some (l, st2) => match hi.den cf env st2 with
        | some (h, st3) => match x.view with
          | some d => (slD d l h).map fun r => (r, st3)
          | none => none
        | none => none
      | none => none
    | none => none) := Eq.trans rfl rfl
theorem y_e_rev {cf : Cf} {a env st} : Ex.den cf (.rev a) env st = ( match a.den cf env st with
    | some (x, st1) => match x.view with
      | some (.list ds) => some (.own ds.reverse, st1)
      | some (.tuple ds) => some (.dat (.tuple ds.reverse), st1)
      | _ => none
    | none => none) := Eq.trans rfl rfl
theorem y_e_call {cf : Cf} {f es env st} : Ex.den cf (.call f es) env st = ( match es.den cf env st with
    | some (rs, st1) => match argsOf rs with
      | some as => nox (cf f as st1)
      | none => none
    | none => none) := Eq.trans rfl rfl
theorem y_e_ixP {cf : Cf} {f es k env st} : Ex.den cf (.ixP f es k) env st = ( match es.den cf env st with
    | some (rs, st1) => match argsOf rs with
      | some as => match cf f as st1 with
        | some (.pr ds d, st2) => some (if k then .own ds else .dat d, st2)
        | _ => none
      | none => none
    | none => none) := Eq.trans rfl rfl
theorem y_e_isx {cf : Cf} {a t xs env st} : Ex.den cf (.isx a t xs) env st = ( match a.den cf env st with
    | some (.exo c, st1) => if c ∈ xs then some (.dat (.bool (subX c t)), st1) else none
    | _ => none) := Eq.trans rfl rfl
theorem y_e_dct {cf : Cf} {l u0 st} : Ex.den cf (.dct l) u0 st = ( some (.dat (.dict (kvD (l.map fun p => (.inr (Str.ofString p.1), p.2)))), st)) := Eq.trans rfl rfl
theorem y_e_lrg {cf : Cf} {es env st} : Ex.den cf (.lrg es) env st = ( match es.den cf env st with
    | some (rs, st1) => ((((views rs).bind intsOf).bind rngD).bind fun ds => if ds.length ≤ 2 ^ 24 then some ds else none).map fun ds => (.own ds, st1)
    | none => none) := Eq.trans rfl rfl
theorem y_e_mth {cf : Cf} {m o a env st} : Ex.den cf (.mth m o a) env st = ( match o.den cf env st with
    | some (x, st1) => match a.den cf env st1 with
      | some (y, st2) => match x.view, y.view with
        | some d, some e => (mthD m d e).map fun r => (r, st2)
        | _, _ => none
      | none => none
    | none => none) := Eq.trans rfl rfl
theorem y_e_orv {cf : Cf} {a b env st} : Ex.den cf (.orv a b) env st = ( match a.den cf env st with
    | some (x, st1) => match x.view.bind truthD with
      | some true => some (x, st1)
      | some false => b.den cf env st1
      | none => none
    | none => none) := Eq.trans rfl rfl
theorem y_callD {cf : Cf} {f es env st} : callD cf f es env st = ( match es.den cf env st with
    | some (rs, st1) => match argsOf rs with
      | some as => cf f as st1
      | none => none
    | none => none) := Eq.trans rfl rfl
theorem z_nox_dat {d st} : nox (some (.dat d, st)) = some (.dat d, st) := Eq.trans rfl rfl
theorem z_nox_own {d st} : nox (some (.own d, st)) = some (.own d, st) := Eq.trans rfl rfl
theorem z_nox_ref {d st} : nox (some (.ref d, st)) = some (.ref d, st) := Eq.trans rfl rfl
theorem z_nox_scr {d st} : nox (some (.scr d, st)) = some (.scr d, st) := Eq.trans rfl rfl
theorem z_nox_exc {d st} : nox (some (.exc d, st)) = none := Eq.trans rfl rfl
theorem z_nox_n : nox none = none := Eq.trans rfl rfl
theorem z_read_exo {c} : (R.exo c).read = .exo c := Eq.trans rfl rfl
theorem z_arg_exo {c} : (R.exo c).arg = some (.exo c) := Eq.trans rfl rfl
theorem z_hold_exo {c} : (R.exo c).hold = some (.exo c) := Eq.trans rfl rfl
theorem z_exEnv {nv i c} : exEnv nv i c = (List.replicate nv none).set i (some (.exo c)) := Eq.trans rfl rfl
theorem y_e_blt {cf : Cf} {f es env st} : Ex.den cf (.blt f es) env st = ( match es.den cf env st with
    | some (rs, st1) => (bltR f rs st1).map fun r => (r, st1)
    | none => none) := Eq.trans rfl rfl
theorem y_e_isi {cf : Cf} {a t env st} : Ex.den cf (.isi a t) env st = ( match a.den cf env st with
    | some (x, st1) => match x.view with
      | some d => some (.dat (.bool (isiD t d)), st1)
      | none => none
    | none => none) := Eq.trans rfl rfl
theorem y_e_lc {cf : Cf} {elt tg it cd ow env st} : Ex.den cf (.lc elt tg it cd ow) env st = ( match it.den cf true env st with
    | some (items, st1) => match lcGo (fun d st => match tg.bind d (wipeE env ow) with
        | some env1 => match cd.den cf env1 st with
          | some (true, st2) => match elt.den cf env1 st2 with
            | some (r, st3) => r.cap.map fun y => (some y, st3)
            | none => none
          | some (false, st2) => some (none, st2)
          | none => none
        | none => none) items [] st1 with
      | some (acc, st2) => some (.own acc, st2)
      | none => none
    | none => none) := Eq.trans rfl rfl
theorem y_es_nil {cf : Cf} {u0 st} : Exs.den cf (.nil ) u0 st = ( some ([], st)) := Eq.trans rfl rfl
theorem y_es_cons {cf : Cf} {e r env st} : Exs.den cf (.cons e r) env st = ( match e.den cf env st with
    | some (x, st1) => match r.den cf env st1 with
      | some (xs, st2) => some (x :: xs, st2)
      | none => none
    | none => none) := Eq.trans rfl rfl
theorem y_o_no {cf : Cf} {u0 st} : Exo.den cf (.no ) u0 st = ( some (none, st)) := Eq.trans rfl rfl
theorem y_o_yes {cf : Cf} {e env st} : Exo.den cf (.yes e) env st = ( match e.den cf env st with
    | some (.dat (.int i), st1) => some (some i, st1)
    | _ => none) := Eq.trans rfl rfl
theorem y_t_val {cf : Cf} {e env st} : Ts.den cf (.val e) env st = ( match e.den cf env st with
    | some (.dat (.bool b), st1) => some (b, st1)
    | _ => none) := Eq.trans rfl rfl
theorem y_t_cmp {cf : Cf} {o a b env st} : Ts.den cf (.cmp o a b) env st = ( match a.den cf env st with
    | some (x, st1) => match b.den cf env st1 with
      | some (y, st2) => match x.view, y.view with
        | some d, some e => (cmpD o d e).map fun r => (r, st2)
        | _, _ => none
      | none => none
    | none => none) := Eq.trans rfl rfl
theorem y_t_chn {cf : Cf} {a r env st} : Ts.den cf (.chn a r) env st = ( match a.den cf env st with
    | some (x, st1) => r.den cf x env st1
    | none => none) := Eq.trans rfl rfl
theorem y_t_isn {cf : Cf} {a neg env st} : Ts.den cf (.isn a neg) env st = ( match a.den cf env st with
    | some (x, st1) => match x with
      | .dat .none => some (!neg, st1)
      | _ => some (neg, st1)
    | none => none) := Eq.trans rfl rfl
theorem y_t_isb {cf : Cf} {a neg k env st} : Ts.den cf (.isb a neg k) env st = ( match a.den cf env st with
    | some (.dat (.bool b), st1) => some (if neg then !decide (b = k) else decide (b = k), st1)
    | _ => none) := Eq.trans rfl rfl
theorem y_t_and {cf : Cf} {ts env st} : Ts.den cf (.and ts) env st = ( ts.all cf env st) := Eq.trans rfl rfl
theorem y_t_or {cf : Cf} {ts env st} : Ts.den cf (.or ts) env st = ( ts.any cf env st) := Eq.trans rfl rfl
theorem y_t_not {cf : Cf} {t env st} : Ts.den cf (.not t) env st = ( match t.den cf env st with
    | some (b, st1) => some (!b, st1)
    | none => none) := Eq.trans rfl rfl
theorem y_h_last {cf : Cf} {o b x env st} : Chn.den cf (.last o b) x env st = ( match b.den cf env st with
    | some (y, st1) => match x.view, y.view with
      | some d, some e => (cmpD o d e).map fun r => (r, st1)
      | _, _ => none
    | none => none) := Eq.trans rfl rfl
theorem y_h_link {cf : Cf} {o b r x env st} : Chn.den cf (.link o b r) x env st = ( match b.den cf env st with
    | some (y, st1) => match x.view, y.view with
      | some d, some e => match cmpD o d e with
        | some true => r.den cf y env st1
        | some false => some (false, st1)
        | none => none
      | _, _ => none
    | none => none) := Eq.trans rfl rfl
theorem y_al_one {cf : Cf} {t env st} : Tss.all cf (.one t) env st = ( t.den cf env st) := Eq.trans rfl rfl
theorem y_al_cons {cf : Cf} {t r env st} : Tss.all cf (.cons t r) env st = ( match t.den cf env st with
    | some (true, st1) => r.all cf env st1
    | some (false, st1) => some (false, st1)
    | none => none) := Eq.trans rfl rfl
theorem y_an_one {cf : Cf} {t env st} : Tss.any cf (.one t) env st = ( t.den cf env st) := Eq.trans rfl rfl
theorem y_an_cons {cf : Cf} {t r env st} : Tss.any cf (.cons t r) env st = ( match t.den cf env st with
    | some (true, st1) => some (true, st1)
    | some (false, st1) => r.any cf env st1
    | none => none) := Eq.trans rfl rfl
theorem y_c_no {cf : Cf} {u0 st} : Tso.den cf (.no ) u0 st = ( some (true, st)) := Eq.trans rfl rfl
theorem y_c_yes {cf : Cf} {t env st} : Tso.den cf (.yes t) env st = ( t.den cf env st) := Eq.trans rfl rfl
theorem y_i_seq {cf : Cf} {m : Bool} {e env st} : Itx.den cf m (.seq e) env st = ( match e.den cf env st with
    | some (x, st1) => ((x.look m).bind seqItems).map fun ds => (ds, st1)
    | none => none) := Eq.trans rfl rfl
theorem y_i_rng {cf : Cf} {m : Bool} {es env st} : Itx.den cf m (.rng es) env st = ( match es.den cf env st with
    | some (rs, st1) => (((views rs).bind intsOf).bind rngD).map fun ds => (ds, st1)
    | none => none) := Eq.trans rfl rfl
theorem y_i_zip {cf : Cf} {m : Bool} {a b env st} : Itx.den cf m (.zip a b) env st = ( match a.den cf env st with
    | some (x, st1) => match b.den cf env st1 with
      | some (y, st2) => match (x.look m).bind seqItems, (y.look m).bind seqItems with
        | some xs, some ys => some (zipD xs ys, st2)
        | _, _ => none
      | none => none
    | none => none) := Eq.trans rfl rfl
theorem y_i_enum {cf : Cf} {m : Bool} {a env st} : Itx.den cf m (.enum a) env st = ( match a.den cf env st with
    | some (x, st1) => ((x.look m).bind seqItems).map fun ds => (enumD ds, st1)
    | none => none) := Eq.trans rfl rfl
theorem y_s_never {cf : Cf} {u0 u1} : Stm.den cf (.never ) u0 u1 = ( none) := Eq.trans rfl rfl
theorem y_s_pass {cf : Cf} {env st} : Stm.den cf (.pass ) env st = ( some (.nx env st)) := Eq.trans rfl rfl
theorem y_s_asg {cf : Cf} {i e env st} : Stm.den cf (.asg i e) env st = ( match e.den cf env st with
    | some (x, st1) => x.hold.map fun r => .nx (env.set i (some r)) st1
    | none => none) := Eq.trans rfl rfl
theorem y_s_par {cf : Cf} {i j a b env st} : Stm.den cf (.par i j a b) env st = ( match a.den cf env st with
    | some (x, st1) => match b.den cf env st1 with
      | some (y, st2) => match x.hold, y.hold with
        | some r, some q => some (.nx ((env.set i (some r)).set j (some q)) st2)
        | _, _ => none
      | none => none
    | none => none) := Eq.trans rfl rfl
theorem y_s_par3 {cf : Cf} {i j l a b c env st} : Stm.den cf (.par3 i j l a b c) env st = ( match Exs.den cf (.cons a (.cons b (.cons c .nil))) env st with
    | some (rs, st1) => match caps rs with
      | some [d1, d2, d3] => some (.nx (((env.set i (some (.dat d1))).set j (some (.dat d2))).set l (some (.dat d3))) st1)
      | _ => none
    | none => none) := Eq.trans rfl rfl
theorem y_s_setO {cf : Cf} {i k e env st} : Stm.den cf (.setO i k e) env st = ( match env[i]? with
    | some (some (.own ds)) => match e.den cf env st with
      | some (x, st1) => match k.den cf env st1 with
        | some (.dat (.int q), st2) => match x.cap, ixN ds.length q with
          | some d, some j => some (.nx (env.set i (some (.own (ds.set j d)))) st2)
          | _, _ => none
        | _ => none
      | none => none
    | _ => none) := Eq.trans rfl rfl
theorem y_s_unp {cf : Cf} {t e env st} : Stm.den cf (.unp t e) env st = ( match e.den cf env st with
    | some (x, st1) => (x.cap.bind fun d => t.bind d env).map fun env1 => .nx env1 st1
    | none => none) := Eq.trans rfl rfl
theorem y_s_setB {cf : Cf} {o i e env st} : Stm.den cf (.setB o i e) env st = ( match e.den cf env st with
    | some (x, st1) => match o.den cf env st1 with
      | some (.ref n, st2) => match i.den cf env st2 with
        | some (.dat (.int k), st3) => match x.cap, st3[n]? with
          | some d, some ds => match ixN ds.length k with
            | some j => some (.nx env (st3.set n (ds.set j d)))
            | none => none
          | _, _ => none
        | _ => none
      | _ => none
    | none => none) := Eq.trans rfl rfl
theorem y_s_exp {cf : Cf} {e env st} : Stm.den cf (.exp e) env st = ( match e.den cf env st with
    | some (_, st1) => some (.nx env st1)
    | none => none) := Eq.trans rfl rfl
theorem y_s_app {cf : Cf} {i e env st} : Stm.den cf (.app i e) env st = ( match env[i]? with
    | some (some (.own ds)) => match e.den cf env st with
      | some (x, st1) => match x.cap with
        | some d => if ds.length < sizeLine then some (.nx (env.set i (some (.own (ds ++ [d])))) st1) else none
        | none => none
      | none => none
    | _ => none) := Eq.trans rfl rfl
theorem y_s_ext {cf : Cf} {i e env st} : Stm.den cf (.ext i e) env st = ( match env[i]? with
    | some (some (.own ds)) => match e.den cf env st with
      | some (x, st1) => match x.view with
        | some (.list es) => if fitsL (ds.length + es.length) then some (.nx (env.set i (some (.own (ds ++ es)))) st1) else none
        | _ => none
      | none => none
    | _ => none) := Eq.trans rfl rfl
theorem y_s_iff {cf : Cf} {t a b env st} : Stm.den cf (.iff t a b) env st = ( match t.den cf env st with
    | some (true, st1) => a.den cf env st1
    | some (false, st1) => b.den cf env st1
    | none => none) := Eq.trans rfl rfl
theorem y_s_whl {cf : Cf} {t b env st} : Stm.den cf (.whl t b) env st = ( whlD (t.den cf) (b.den cf) env st) := Eq.trans rfl rfl
theorem y_s_forr {cf : Cf} {tg it b env st} : Stm.den cf (.forr tg it b) env st = ( match it.den cf false env st with
    | some (items, st1) => forGo (fun d env st => (tg.bind d env).bind fun env1 => b.den cf env1 st) items env st1
    | none => none) := Eq.trans rfl rfl
theorem y_s_ret {cf : Cf} {e env st} : Stm.den cf (.ret e) env st = ( match e.den cf env st with
    | some (x, st1) => x.hold.map fun r => .rt r st1
    | none => none) := Eq.trans rfl rfl
theorem y_s_retv {cf : Cf} {i env st} : Stm.den cf (.retv i) env st = ( match env[i]? with
    | some (some r) => some (.rt r st)
    | _ => none) := Eq.trans rfl rfl
theorem y_s_retP {cf : Cf} {i e env st} : Stm.den cf (.retP i e) env st = ( match env[i]? with
    | some (some (.own ds)) => match e.den cf env st with
      | some (.dat d, st1) => some (.rt (.pr ds d) st1)
      | _ => none
    | _ => none) := Eq.trans rfl rfl
theorem y_s_expC {cf : Cf} {f es env st} : Stm.den cf (.expC f es) env st = ( match callD cf f es env st with
    | some (r, st1) => match r with
      | .exc c => some (.rt (.exc c) st1)
      | .pr _ _ => none
      | _ => some (.nx env st1)
    | none => none) := Eq.trans rfl rfl
theorem y_s_retC {cf : Cf} {f es env st} : Stm.den cf (.retC f es) env st = ( match callD cf f es env st with
    | some (r, st1) => match r with
      | .exc c => some (.rt (.exc c) st1)
      | r => r.hold.map fun q => .rt q st1
    | none => none) := Eq.trans rfl rfl
theorem y_s_asgC {cf : Cf} {i f es env st} : Stm.den cf (.asgC i f es) env st = ( match callD cf f es env st with
    | some (r, st1) => match r with
      | .exc c => some (.rt (.exc c) st1)
      | r => r.hold.map fun q => .nx (env.set i (some q)) st1
    | none => none) := Eq.trans rfl rfl
theorem y_s_raise {cf : Cf} {c u0 st} : Stm.den cf (.raise c) u0 st = ( some (.rt (.exc c) st)) := Eq.trans rfl rfl
theorem y_s_tryE {cf : Cf} {nv xs b i h env st} : Stm.den cf (.tryE nv xs b i h) env st = ( match b.den cf env st with
    | some (.rt (.exc c) st1) => if c ∈ xs ∧ env.length = nv then match h.den cf (exEnv nv i c) st1 with
        | some (.rt (.dat d) st2) => some (.rt (.dat d) st2)
        | some (.rt (.own ds) st2) => some (.rt (.own ds) st2)
        | _ => none
      else none
    | o => o) := Eq.trans rfl rfl
theorem y_s_forO {cf : Cf} {i tg b env st} : Stm.den cf (.forO i tg b) env st = ( match env[i]? with
    | some (some (.own ds)) => match forGo (fun d env st => (tg.bind d env).bind fun env1 => b.den cf env1 st) ds (env.set i none) st with
      | some (.nx env1 st1) => some (.nx (env1.set i (some (.own ds))) st1)
      | o => o
    | _ => none) := Eq.trans rfl rfl
theorem y_s_frz {cf : Cf} {i env st} : Stm.den cf (.frz i) env st = ( match env[i]? with
    | some (some (.own ds)) => some (.nx (env.set i (some (.dat (.list ds)))) st)
    | _ => some (.nx env st)) := Eq.trans rfl rfl
theorem y_ss_nil {cf : Cf} {env st} : Stms.den cf (.nil ) env st = ( some (.nx env st)) := Eq.trans rfl rfl
theorem y_ss_cons {cf : Cf} {s r env st} : Stms.den cf (.cons s r) env st = ( match s.den cf env st with
    | some (.nx env1 st1) => r.den cf env1 st1
    | o => o) := Eq.trans rfl rfl
/-! what each form computes, constructor by constructor -/
theorem z_read_dat (d : PyData) : (R.dat d).read = .dat d := Eq.trans rfl rfl
theorem z_read_ref (n : Nat) : (R.ref n).read = .ref n := Eq.trans rfl rfl
theorem z_read_scr (ns : List Int) : (R.scr ns).read = .scr ns := Eq.trans rfl rfl
theorem z_read_own (ds : List PyData) : (R.own ds).read = .brw ds := Eq.trans rfl rfl
theorem z_view_own (ds : List PyData) : (R.own ds).view = some (.list ds) := Eq.trans rfl rfl
theorem z_view_brw (ds : List PyData) : (R.brw ds).view = some (.list ds) := Eq.trans rfl rfl
theorem z_view_dat (d : PyData) : (R.dat d).view = some d := Eq.trans rfl rfl
theorem z_cap_dat (d : PyData) : (R.dat d).cap = some d := Eq.trans rfl rfl
theorem z_cap_own (d : List PyData) : (R.own d).cap = some (.list d) := Eq.trans rfl rfl
theorem z_hold_dat (d : PyData) : (R.dat d).hold = some (.dat d) := Eq.trans rfl rfl
theorem z_hold_ref (n : Nat) : (R.ref n).hold = some (.ref n) := Eq.trans rfl rfl
theorem z_hold_scr (ns : List Int) : (R.scr ns).hold = some (.scr ns) := Eq.trans rfl rfl
theorem z_hold_own (ds : List PyData) : (R.own ds).hold = some (.own ds) := Eq.trans rfl rfl
theorem z_arg_dat (d : PyData) : (R.dat d).arg = some (.dat d) := Eq.trans rfl rfl
theorem z_arg_ref (n : Nat) : (R.ref n).arg = some (.ref n) := Eq.trans rfl rfl
theorem z_arg_scr (ns : List Int) : (R.scr ns).arg = some (.scr ns) := Eq.trans rfl rfl
theorem z_arg_own (ds : List PyData) : (R.own ds).arg = some (.dat (.list ds)) := Eq.trans rfl rfl
theorem z_look_t (r : R) : r.look true = r.view := Eq.trans rfl rfl
theorem z_look_f (r : R) : r.look false = r.cap := Eq.trans rfl rfl
theorem z_len_ref (n : Nat) (st : Bx) : lenR (.ref n) st = (st[n]?).map fun ds => .dat (.int ds.length) := Eq.trans rfl rfl
theorem z_len_scr (ns : List Int) (st : Bx) : lenR (.scr ns) st = some (.dat (.int ns.length)) := Eq.trans rfl rfl
theorem z_len_l (ds : List PyData) (st : Bx) : lenR (.dat (.list ds)) st = some (.dat (.int ds.length)) := Eq.trans rfl rfl
theorem z_len_t (ds : List PyData) (st : Bx) : lenR (.dat (.tuple ds)) st = some (.dat (.int ds.length)) := Eq.trans rfl rfl
theorem z_len_o (ds : List PyData) (st : Bx) : lenR (.own ds) st = some (.dat (.int ds.length)) := Eq.trans rfl rfl
theorem z_len_b (ds : List PyData) (st : Bx) : lenR (.brw ds) st = some (.dat (.int ds.length)) := Eq.trans rfl rfl
theorem z_ix_ref (n : Nat) (i : Int) (st : Bx) : ixR (.ref n) i st = (st[n]?).bind fun ds => atI ds i := Eq.trans rfl rfl
theorem z_ix_scr (ns : List Int) (i : Int) (st : Bx) : ixR (.scr ns) i st = (atI ns i).map .int := Eq.trans rfl rfl
theorem z_ix_l (ds : List PyData) (i : Int) (st : Bx) : ixR (.dat (.list ds)) i st = atI ds i := Eq.trans rfl rfl
theorem z_ix_t (ds : List PyData) (i : Int) (st : Bx) : ixR (.dat (.tuple ds)) i st = atI ds i := Eq.trans rfl rfl
theorem z_ix_o (ds : List PyData) (i : Int) (st : Bx) : ixR (.own ds) i st = atI ds i := Eq.trans rfl rfl
theorem z_ix_b (ds : List PyData) (i : Int) (st : Bx) : ixR (.brw ds) i st = atI ds i := Eq.trans rfl rfl
theorem z_blt_len (r : R) (st : Bx) : bltR .len [r] st = lenR r st := Eq.trans rfl rfl
theorem z_blt_abs (rs : List R) (st : Bx) : bltR .abs rs st = (views rs).bind fun ds => bltD .abs ds := Eq.trans rfl rfl
theorem z_blt_tup (rs : List R) (st : Bx) : bltR .tup rs st = (views rs).bind fun ds => bltD .tup ds := Eq.trans rfl rfl
theorem z_blt_lst (rs : List R) (st : Bx) : bltR .lst rs st = (views rs).bind fun ds => bltD .lst ds := Eq.trans rfl rfl
theorem z_blt_sum (rs : List R) (st : Bx) : bltR .sum rs st = (views rs).bind fun ds => bltD .sum ds := Eq.trans rfl rfl
theorem z_blt_all (rs : List R) (st : Bx) : bltR .all rs st = (views rs).bind fun ds => bltD .all ds := Eq.trans rfl rfl
theorem z_blt_any (rs : List R) (st : Bx) : bltR .any rs st = (views rs).bind fun ds => bltD .any ds := Eq.trans rfl rfl
theorem z_blt_min (rs : List R) (st : Bx) : bltR .min rs st = (views rs).bind fun ds => bltD .min ds := Eq.trans rfl rfl
theorem z_blt_max (rs : List R) (st : Bx) : bltR .max rs st = (views rs).bind fun ds => bltD .max ds := Eq.trans rfl rfl
theorem z_blt_sorted (rs : List R) (st : Bx) : bltR .sorted rs st = (views rs).bind fun ds => bltD .sorted ds := Eq.trans rfl rfl
theorem z_blt_repr (rs : List R) (st : Bx) : bltR .repr rs st = (views rs).bind fun ds => bltD .repr ds := Eq.trans rfl rfl
theorem z_blt_str (rs : List R) (st : Bx) : bltR .str rs st = (views rs).bind fun ds => bltD .str ds := Eq.trans rfl rfl
theorem z_blt_int (rs : List R) (st : Bx) : bltR .int rs st = (views rs).bind fun ds => bltD .int ds := Eq.trans rfl rfl
theorem z_blt_divmod (rs : List R) (st : Bx) : bltR .divmod rs st = (views rs).bind fun ds => bltD .divmod ds := Eq.trans rfl rfl
theorem z_d_abs (i : Int) : bltD .abs [.int i] = some (.dat (.int i.natAbs)) := Eq.trans rfl rfl
theorem z_d_tupl (ds : List PyData) : bltD .tup [.list ds] = some (.dat (.tuple ds)) := Eq.trans rfl rfl
theorem z_d_tupt (ds : List PyData) : bltD .tup [.tuple ds] = some (.dat (.tuple ds)) := Eq.trans rfl rfl
theorem z_d_lstl (ds : List PyData) : bltD .lst [.list ds] = some (.own ds) := Eq.trans rfl rfl
theorem z_d_lstt (ds : List PyData) : bltD .lst [.tuple ds] = some (.own ds) := Eq.trans rfl rfl
theorem z_d_sum (ds : List PyData) : bltD .sum [.list ds] = (intsOf ds).map fun l => .dat (.int l.sum) := Eq.trans rfl rfl
theorem z_d_all (ds : List PyData) : bltD .all [.list ds] = (boolsOf ds).map fun l => .dat (.bool (l.all id)) := Eq.trans rfl rfl
theorem z_d_any (ds : List PyData) : bltD .any [.list ds] = (boolsOf ds).map fun l => .dat (.bool (l.any id)) := Eq.trans rfl rfl
theorem z_d_minl (ds : List PyData) : bltD .min [.list ds] = (intsOf ds).bind fun l => if l = [] then none else some (.dat (.int (minL l))) := Eq.trans rfl rfl
theorem z_d_maxl (ds : List PyData) : bltD .max [.list ds] = (intsOf ds).bind fun l => if l = [] then none else some (.dat (.int (maxL l))) := Eq.trans rfl rfl
theorem z_d_min (i j : Int) : bltD .min [.int i, .int j] = some (.dat (.int (min i j))) := Eq.trans rfl rfl
theorem z_d_max (i j : Int) : bltD .max [.int i, .int j] = some (.dat (.int (max i j))) := Eq.trans rfl rfl
theorem z_d_sorted {ds : List PyData} (h : sortOk ds = true) : bltD .sorted [.list ds] = some (.own (sortD ds)) := if_pos h
theorem z_d_divmod {i j : Int} (h : 0 < j) (h2 : divOk j = true) : bltD .divmod [.int i, .int j] = some (.dat (.tuple [.int (i / j), .int (i % j)])) := if_pos ⟨h, h2⟩
theorem z_d_int (b : Bool) : bltD .int [.bool b] = some (.dat (.int (if b then 1 else 0))) := Eq.trans rfl rfl
theorem z_d_repr {d : PyData} (h : reprOk d = true) : bltD .repr [d] = some (.dat (.str d.shown)) := if_pos h
theorem z_d_str {i : Int} (h : i.natAbs.log2 < 1920) : bltD .str [.int i] = some (.dat (.str (toString i))) := if_pos h
theorem z_d_mint {ds : List PyData} {l : List Int} (h : intsOf ds = some l) (h0 : l ≠ []) : bltD .min [.tuple ds] = some (.dat (.int (minL l))) := by
  show (intsOf ds).bind _ = _
  rw [h]
  exact if_neg h0
theorem z_d_maxt {ds : List PyData} {l : List Int} (h : intsOf ds = some l) (h0 : l ≠ []) : bltD .max [.tuple ds] = some (.dat (.int (maxL l))) := by
  show (intsOf ds).bind _ = _
  rw [h]
  exact if_neg h0
theorem z_d_strt {ds : List PyData} (h : reprOk (.tuple ds) = true) (h2 : (PyData.tuple ds).hasDict = false) : bltD .str [.tuple ds] = some (.dat (.str (PyData.tuple ds).shown)) := if_pos (by rw [h, h2]; rfl)
theorem z_bin_i (o : Bop) (i j : Int) : binD o (.int i) (.int j) = (binI o i j).map fun k => .dat (.int k) := Eq.trans rfl rfl
theorem z_bin_ll {xs ys : List PyData} (h : fitsL (xs.length + ys.length) = true) : binD .add (.list xs) (.list ys) = some (.own (xs ++ ys)) := if_pos ⟨rfl, h⟩
theorem z_bin_tt {xs ys : List PyData} (h : fitsL (xs.length + ys.length) = true) : binD .add (.tuple xs) (.tuple ys) = some (.dat (.tuple (xs ++ ys))) := if_pos ⟨rfl, h⟩
theorem z_bin_rep {xs : List PyData} {k : Int} (h : repOk xs.length k = true) : binD .mul (.list xs) (.int k) = some (.own (List.replicate k.toNat xs).flatten) := if_pos ⟨rfl, h⟩
theorem z_add (i j : Int) : binI .add i j = some (i + j) := Eq.trans rfl rfl
theorem z_sub (i j : Int) : binI .sub i j = some (i - j) := Eq.trans rfl rfl
theorem z_mul {i j : Int} (h : mulOk i j = true) : binI .mul i j = some (i * j) := if_pos h
theorem z_fdiv {i j : Int} (h : 0 < j) (h2 : divOk j = true) : binI .fdiv i j = some (i / j) := (if_pos h2).trans (by rw [Int.fdiv_eq_ediv_of_nonneg i (Int.le_of_lt h)])
theorem z_mod {i j : Int} (h : 0 < j) : binI .mod i j = some (i % j) := (if_neg (by omega)).trans (by rw [Int.fmod_eq_emod_of_nonneg i (Int.le_of_lt h)])
theorem z_pow {i j : Int} (h : powOk i j = true) : binI .pow i j = some (i ^ j.toNat) := if_pos h
theorem z_eq (d e : PyData) : cmpD .eq d e = eqD d e := by cases d <;> cases e <;> rfl
theorem z_ne (d e : PyData) : cmpD .ne d e = (eqD d e).map not := by cases d <;> cases e <;> rfl
theorem z_lt (i j : Int) : cmpD .lt (.int i) (.int j) = some (decide (i < j)) := Eq.trans rfl rfl
theorem z_le (i j : Int) : cmpD .le (.int i) (.int j) = some (decide (i ≤ j)) := Eq.trans rfl rfl
theorem z_gt (i j : Int) : cmpD .gt (.int i) (.int j) = some (decide (j < i)) := Eq.trans rfl rfl
theorem z_ge (i j : Int) : cmpD .ge (.int i) (.int j) = some (decide (j ≤ i)) := Eq.trans rfl rfl
theorem z_ins (c : Nat) (z : Str) : cmpD .inn (.str ⟨#[c]⟩) (.str z) = some (decide (c ∈ z.cps.toList)) := Eq.trans rfl rfl
theorem z_nins (c : Nat) (z : Str) : cmpD .nin (.str ⟨#[c]⟩) (.str z) = some (!decide (c ∈ z.cps.toList)) := Eq.trans rfl rfl
theorem z_inl (d : PyData) (ds : List PyData) : cmpD .inn d (.list ds) = inD d ds := by cases d <;> rfl
theorem z_int (d : PyData) (ds : List PyData) : cmpD .inn d (.tuple ds) = inD d ds := by cases d <;> rfl
theorem z_ninl (d : PyData) (ds : List PyData) : cmpD .nin d (.list ds) = (inD d ds).map not := by cases d <;> rfl
theorem z_nint (d : PyData) (ds : List PyData) : cmpD .nin d (.tuple ds) = (inD d ds).map not := by cases d <;> rfl
theorem z_isi_int_none : isiD .int .none = false := Eq.trans rfl rfl
theorem z_isi_int_bool (b : Bool) : isiD .int (.bool b) = true := Eq.trans rfl rfl
theorem z_isi_int_int (i : Int) : isiD .int (.int i) = true := Eq.trans rfl rfl
theorem z_isi_int_str (s : Str) : isiD .int (.str s) = false := Eq.trans rfl rfl
theorem z_isi_int_list (ds : List PyData) : isiD .int (.list ds) = false := Eq.trans rfl rfl
theorem z_isi_int_tuple (ds : List PyData) : isiD .int (.tuple ds) = false := Eq.trans rfl rfl
theorem z_isi_bool_none : isiD .bool .none = false := Eq.trans rfl rfl
theorem z_isi_bool_bool (b : Bool) : isiD .bool (.bool b) = true := Eq.trans rfl rfl
theorem z_isi_bool_int (i : Int) : isiD .bool (.int i) = false := Eq.trans rfl rfl
theorem z_isi_bool_str (s : Str) : isiD .bool (.str s) = false := Eq.trans rfl rfl
theorem z_isi_bool_list (ds : List PyData) : isiD .bool (.list ds) = false := Eq.trans rfl rfl
theorem z_isi_bool_tuple (ds : List PyData) : isiD .bool (.tuple ds) = false := Eq.trans rfl rfl
theorem z_isi_str_none : isiD .str .none = false := Eq.trans rfl rfl
theorem z_isi_str_bool (b : Bool) : isiD .str (.bool b) = false := Eq.trans rfl rfl
theorem z_isi_str_int (i : Int) : isiD .str (.int i) = false := Eq.trans rfl rfl
theorem z_isi_str_str (s : Str) : isiD .str (.str s) = true := Eq.trans rfl rfl
theorem z_isi_str_list (ds : List PyData) : isiD .str (.list ds) = false := Eq.trans rfl rfl
theorem z_isi_str_tuple (ds : List PyData) : isiD .str (.tuple ds) = false := Eq.trans rfl rfl
theorem z_isi_list_none : isiD .list .none = false := Eq.trans rfl rfl
theorem z_isi_list_bool (b : Bool) : isiD .list (.bool b) = false := Eq.trans rfl rfl
theorem z_isi_list_int (i : Int) : isiD .list (.int i) = false := Eq.trans rfl rfl
theorem z_isi_list_str (s : Str) : isiD .list (.str s) = false := Eq.trans rfl rfl
theorem z_isi_list_list (ds : List PyData) : isiD .list (.list ds) = true := Eq.trans rfl rfl
theorem z_isi_list_tuple (ds : List PyData) : isiD .list (.tuple ds) = false := Eq.trans rfl rfl
theorem z_isi_tuple_none : isiD .tuple .none = false := Eq.trans rfl rfl
theorem z_isi_tuple_bool (b : Bool) : isiD .tuple (.bool b) = false := Eq.trans rfl rfl
theorem z_isi_tuple_int (i : Int) : isiD .tuple (.int i) = false := Eq.trans rfl rfl
theorem z_isi_tuple_str (s : Str) : isiD .tuple (.str s) = false := Eq.trans rfl rfl
theorem z_isi_tuple_list (ds : List PyData) : isiD .tuple (.list ds) = false := Eq.trans rfl rfl
theorem z_isi_tuple_tuple (ds : List PyData) : isiD .tuple (.tuple ds) = true := Eq.trans rfl rfl
theorem z_out_rt (r : R) (st : Bx) : outR (some (.rt r st)) = some (r, st) := Eq.trans rfl rfl
theorem z_out_nx (env : En) (st : Bx) : outR (some (.nx env st)) = some (.dat .none, st) := Eq.trans rfl rfl
theorem z_eqi (i j : Int) : eqD (.int i) (.int j) = some (decide (i = j)) := by
  show (if (SeqAt.shaped (.int i) && SeqAt.shaped (.int j)) = true then some (PyData.eqv (.int i) (.int j)) else none) = _
  exact (if_pos rfl).trans (by show some (i == j) = some (decide (i = j)); congr 1)
theorem z_eqb (i j : Bool) : eqD (.bool i) (.bool j) = some (i == j) := by
  show (if (SeqAt.shaped (.bool i) && SeqAt.shaped (.bool j)) = true then some (PyData.eqv (.bool i) (.bool j)) else none) = _
  exact (if_pos rfl).trans (by simp [PyData.eqv])
theorem z_rng1 {j : Int} (h : rngOk j = true) : rngD [j] = some (rngItems 0 j.toNat) := if_pos h
theorem z_rng2 {i j : Int} (h : rngOk i = true) (h2 : rngOk j = true) : rngD [i, j] = some (rngItems i (j - i).toNat) := if_pos (by rw [h, h2]; rfl)
theorem z_si_l (ds : List PyData) : seqItems (.list ds) = some ds := Eq.trans rfl rfl
theorem z_si_t (ds : List PyData) : seqItems (.tuple ds) = some ds := Eq.trans rfl rfl
theorem z_bind_nm (i : Nat) (d : PyData) (env : En) : (Tg.nm i).bind d env = some (env.set i (some (.dat d))) := by simp only [Tg.bind]
theorem z_bind_tt (ts : Tgs) (ds : List PyData) (env : En) : (Tg.tp ts).bind (.tuple ds) env = ts.bind ds env := by simp only [Tg.bind]
theorem z_bind_tl (ts : Tgs) (ds : List PyData) (env : En) : (Tg.tp ts).bind (.list ds) env = ts.bind ds env := by simp only [Tg.bind]
theorem z_binds_n (env : En) : Tgs.nil.bind [] env = some env := by simp only [Tgs.bind]
theorem z_binds_c (t : Tg) (r : Tgs) (d : PyData) (ds : List PyData) (env : En) : (Tgs.cons t r).bind (d :: ds) env = (t.bind d env).bind fun env1 => r.bind ds env1 := by simp only [Tgs.bind]
theorem z_sl_l (ds : List PyData) (lo hi : Option Int) : slD (.list ds) lo hi = some (.own (cutD ds lo hi)) := Eq.trans rfl rfl
theorem z_sl_s {z : Str} (h : fitsL z.length = true) (lo hi : Option Int) : slD (.str z) lo hi = some (.dat (.str (cutS z lo hi))) := if_pos h
theorem z_bin_ss {x y : Str} (h : fitsL (x.length + y.length) = true) : binD .add (.str x) (.str y) = some (.dat (.str (x ++ y))) := if_pos ⟨rfl, h⟩
theorem z_d_ints {x : Str} {n : Int} (h : intText? x = some n) (hl : x.length ≤ 640) : bltD .int [.str x] = some (.dat (.int n)) := by
  show (if x.length ≤ 640 then (intText? x).map fun n => R.dat (.int n) else none) = _
  rw [if_pos hl, h]
  rfl
theorem y_i_sgn {cf : Cf} {m : Bool} {a env st} : Itx.den cf m (.sgn a) env st = ( match a.den cf env st with
    | some (.dat (.str z), st1) => some (signs z, st1)
    | _ => none) := Eq.trans rfl rfl
theorem z_sl_t (ds : List PyData) (lo hi : Option Int) : slD (.tuple ds) lo hi = some (.dat (.tuple (cutD ds lo hi))) := Eq.trans rfl rfl
theorem z_at0 {α : Type} (x : α) (r : List α) : atI (x :: r) 0 = some x := atI_nat (j := 0) rfl
theorem z_at1 {α : Type} (x y : α) (r : List α) : atI (x :: y :: r) 1 = some y := atI_nat (j := 1) rfl
theorem z_at2 {α : Type} (x y z : α) (r : List α) : atI (x :: y :: z :: r) 2 = some z := atI_nat (j := 2) rfl
theorem z_at3 {α : Type} (x y z u : α) (r : List α) : atI (x :: y :: z :: u :: r) 3 = some u := atI_nat (j := 3) rfl
theorem z_ixN0 {n : Nat} : ixN (n + 1) 0 = some 0 := by unfold ixN; rw [if_pos (by omega), if_pos (by omega)]; rfl
theorem z_intsn : intsOf [] = some [] := Eq.trans rfl rfl
theorem z_intsc (i : Int) (r : List PyData) : intsOf (.int i :: r) = (intsOf r).map (i :: ·) := Eq.trans rfl rfl
theorem z_boolsn : boolsOf [] = some [] := Eq.trans rfl rfl
theorem z_boolsc (i : Bool) (r : List PyData) : boolsOf (.bool i :: r) = (boolsOf r).map (i :: ·) := Eq.trans rfl rfl
/-! sizes -/
theorem log2_lt_of {n k : Nat} (hk : 0 < k) (h : n < 2 ^ k) : n.log2 < k := by
  by_cases h0 : n = 0
  · subst h0; simpa using hk
  · exact (Nat.log2_lt h0).mpr h
theorem mulOk_of {i j : Int} {a b : Nat} (ha : i.natAbs < 2 ^ a) (hb : j.natAbs < 2 ^ b) (hab : a + b ≤ 999990) : mulOk i j = true := by
  have h1 := log2_lt_of (k := a + 1) (by omega) (Nat.lt_of_lt_of_le ha (Nat.pow_le_pow_right (by decide) (by omega)))
  have h2 := log2_lt_of (k := b + 1) (by omega) (Nat.lt_of_lt_of_le hb (Nat.pow_le_pow_right (by decide) (by omega)))
  unfold mulOk
  exact decide_eq_true (by omega)
/-- both below 2^60 -/
theorem mulOk_s {i j : Int} (h1 : -(2 ^ 60) < i) (h2 : i < 2 ^ 60) (h3 : -(2 ^ 60) < j) (h4 : j < 2 ^ 60) : mulOk i j = true := mulOk_of (a := 60) (b := 60) (by omega) (by omega) (by omega)
theorem divOk_s {j : Int} (h1 : 0 < j) (h2 : j < 2 ^ 60) : divOk j = true := by
  have h := log2_lt_of (n := j.natAbs) (k := 60) (by decide) (by omega)
  unfold divOk
  exact decide_eq_true ⟨by omega, by omega⟩
theorem rngOk_s {j : Int} (h1 : -(2 ^ 60) < j) (h2 : j < 2 ^ 60) : rngOk j = true := by
  have h := log2_lt_of (n := j.natAbs) (k := 61) (by decide) (by omega)
  unfold rngOk
  exact decide_eq_true h
theorem fitsL_s {n : Nat} (h : n ≤ 100000) : fitsL n = true := by
  unfold fitsL
  exact decide_eq_true (Nat.le_trans h (by decide))
theorem atI_ints {l : List Int} {i : Int} (h : 0 ≤ i) (h2 : i < l.length) : ∃ x ∈ l, atI (l.map PyData.int) i = some (.int x) := by
  obtain ⟨n, rfl⟩ := Int.eq_ofNat_of_zero_le h
  have hn : n < l.length := by omega
  exact ⟨l[n], List.getElem_mem hn, atI_nat (by rw [List.getElem?_map, List.getElem?_eq_getElem hn]; rfl)⟩
theorem rngItems_get {lo : Int} {n j : Nat} {d : PyData} (h : (rngItems lo n)[j]? = some d) : j < n ∧ d = .int (lo + j) := by
  have hl := (List.getElem?_eq_some_iff.mp h).1
  rw [rngItems_len] at hl
  unfold rngItems at h
  rw [List.getElem?_map, List.getElem?_range hl] at h
  cases h
  exact ⟨hl, rfl⟩
/-- a for loop by an invariant that goes on -/
theorem forGo_nx {step : PyData → En → Bx → Option Out} (I : Nat → En → Bx → Prop) : ∀ (items : List PyData) (i : Nat) (env : En) (st : Bx), I i env st →
    (∀ (j : Nat) d env st, items[j]? = some d → I (i + j) env st → ∃ env1 st1, step d env st = some (.nx env1 st1) ∧ I (i + j + 1) env1 st1) →
    ∃ env1 st1, forGo step items env st = some (.nx env1 st1) ∧ I (i + items.length) env1 st1
  | [], i, env, st, h, _ => ⟨env, st, rfl, h⟩
  | d :: ds, i, env, st, h, hs => by
    obtain ⟨env1, st1, e1, h1⟩ := hs 0 d env st rfl h
    obtain ⟨env2, st2, e2, h2⟩ := forGo_nx I ds (i + 1) env1 st1 h1 fun j d env st hd hi => by
      have := hs (j + 1) d env st (by simpa using hd) (by rw [show i + (j + 1) = i + 1 + j by omega]; exact hi)
      rw [show i + (j + 1) + 1 = i + 1 + j + 1 by omega] at this
      exact this
    refine ⟨env2, st2, ?_, by rw [List.length_cons, show i + (ds.length + 1) = i + 1 + ds.length by omega]; exact h2⟩
    unfold forGo
    rw [e1]
    exact e2
/-- a while loop: enough turns -/
theorem whlN_mono {c : En → Bx → Option (Bool × Bx)} {b : En → Bx → Option Out} : ∀ {n m : Nat} {env : En} {st : Bx} {o : Out}, n ≤ m → whlN c b n env st = some o → whlN c b m env st = some o
  | 0, m, env, st, o, _, h => by cases h
  | n + 1, 0, env, st, o, hle, _ => absurd hle (by omega)
  | n + 1, m + 1, env, st, o, hle, h => by
    unfold whlN at h ⊢
    split
    · rename_i st1 e1
      rw [e1] at h
      dsimp only at h
      split
      · rename_i env2 st2 e2
        rw [e2] at h
        exact whlN_mono (by omega) h
      · rename_i e2
        split at h
        · rename_i env2 st2 e3; exact absurd e3 (e2 env2 st2)
        · exact h
    · rename_i st1 e1
      rw [e1] at h
      exact h
    · rename_i e1
      rw [e1] at h
      cases h
theorem whlD_of {c : En → Bx → Option (Bool × Bx)} {b : En → Bx → Option Out} {n : Nat} {env : En} {st : Bx} {o : Out} (h : whlN c b n env st = some o) : whlD c b env st = some o := by
  unfold whlD
  have hx : ∃ n, (whlN c b n env st).isSome = true := ⟨n, by rw [h]; rfl⟩
  rw [dif_pos hx]
  obtain ⟨o', ho⟩ := Option.isSome_iff_exists.mp hx.choose_spec
  rw [ho]
  rcases Nat.le_total n hx.choose with q | q
  · rw [whlN_mono q h] at ho; exact ho.symm
  · rw [whlN_mono q ho] at h; exact h
theorem get_set {st : Bx} {n : Nat} {y z : List PyData} (h : st[n]? = some y) : (st.set n z)[n]? = some z := List.getElem?_set_self (List.getElem?_eq_some_iff.mp h).1
/-! equality of data -/
theorem depthAll_le {n : Nat} : ∀ {ds : List PyData}, (∀ d ∈ ds, d.depth ≤ n) → PyData.depthAll ds ≤ n
  | [], _ => Nat.zero_le _
  | d :: ds, h => by
    unfold PyData.depthAll
    have h1 := h d List.mem_cons_self
    have h2 := depthAll_le (ds := ds) fun e he => h e (List.mem_cons_of_mem _ he)
    omega
theorem canAll {ds : List PyData} (h : ∀ d ∈ ds, d.canLay0 = true) : PyData.canLayAll0 ds = true := by
  induction ds with
  | nil => rfl
  | cons d ds ih =>
    unfold PyData.canLayAll0
    rw [h d List.mem_cons_self, ih fun e he => h e (List.mem_cons_of_mem _ he)]
    rfl
/-- data that may be compared, n deep -/
def Nice (n : Nat) (d : PyData) : Prop := d.canLay0 = true ∧ d.depth ≤ n
theorem nice_int (i : Int) : Nice 0 (.int i) := ⟨rfl, Nat.le_refl _⟩
theorem nice_bool (i : Bool) : Nice 0 (.bool i) := ⟨rfl, Nat.le_refl _⟩
theorem nice_none : Nice 0 .none := ⟨rfl, Nat.le_refl _⟩
theorem Nice.mono {n m : Nat} {d : PyData} (h : Nice n d) (k : n ≤ m) : Nice m d := ⟨h.1, Nat.le_trans h.2 k⟩
theorem nice_list {n : Nat} {ds : List PyData} (h : ∀ d ∈ ds, Nice n d) (hl : ds.length ≤ 100000) : Nice (n + 1) (.list ds) := by
  refine ⟨?_, ?_⟩
  · unfold PyData.canLay0
    exact canAll fun d hd => (h d hd).1
  · have := depthAll_le fun d hd => (h d hd).2
    unfold PyData.depth
    omega
theorem nice_tuple {n : Nat} {ds : List PyData} (h : ∀ d ∈ ds, Nice n d) (hl : ds.length ≤ 100000) : Nice (n + 1) (.tuple ds) := by
  refine ⟨?_, ?_⟩
  · unfold PyData.canLay0
    exact canAll fun d hd => (h d hd).1
  · have := depthAll_le fun d hd => (h d hd).2
    unfold PyData.depth
    omega
theorem eqD_of {n : Nat} {d e : PyData} (h : Nice n d) (k : Nice n e) (hn : n ≤ 64) : eqD d e = some (PyData.eqv d e) := by
  have s1 : SeqAt.shaped d = true := by unfold SeqAt.shaped; rw [h.1, decide_eq_true (Nat.le_trans h.2 hn)]; rfl
  have s2 : SeqAt.shaped e = true := by unfold SeqAt.shaped; rw [k.1, decide_eq_true (Nat.le_trans k.2 hn)]; rfl
  unfold eqD
  split
  · rename_i x y
    show some (decide (x = y)) = some (x == y)
    congr 1
  · rw [s1, s2]
    rfl
theorem eqvAll_ints : ∀ l m : List Int, PyData.eqvAll (l.map .int) (m.map .int) = decide (l = m)
  | [], [] => rfl
  | [], _ :: _ => rfl
  | _ :: _, [] => rfl
  | i :: l, j :: m => by
    show ((i == j) && PyData.eqvAll (l.map .int) (m.map .int)) = _
    rw [eqvAll_ints l m]
    by_cases h : i = j <;> by_cases k : l = m <;> simp [h, k]
theorem ints_nice (l : List Int) : ∀ d ∈ l.map PyData.int, Nice 0 d := fun d h => by
  obtain ⟨i, _, rfl⟩ := List.mem_map.mp h
  exact nice_int i
theorem eqD_ints {l m : List Int} (h : l.length ≤ 100000) (k : m.length ≤ 100000) : eqD (.list (l.map .int)) (.list (m.map .int)) = some (decide (l = m)) :=
  (eqD_of (nice_list (ints_nice l) (by rw [List.length_map]; exact h)) (nice_list (ints_nice m) (by rw [List.length_map]; exact k)) (by decide)).trans (congrArg some (eqvAll_ints l m))
theorem eqD_intt {l m : List Int} (h : l.length ≤ 100000) (k : m.length ≤ 100000) : eqD (.tuple (l.map .int)) (.tuple (m.map .int)) = some (decide (l = m)) :=
  (eqD_of (nice_tuple (ints_nice l) (by rw [List.length_map]; exact h)) (nice_tuple (ints_nice m) (by rw [List.length_map]; exact k)) (by decide)).trans (congrArg some (eqvAll_ints l m))
/-- is it the empty list? -/
theorem eqD_nil {n : Nat} {ds : List PyData} (h : ∀ d ∈ ds, Nice n d) (hl : ds.length ≤ 100000) (hn : n < 64) : eqD (.list ds) (.list []) = some ds.isEmpty := by
  rw [eqD_of (nice_list h hl) (nice_list (fun d hd => by cases hd) (by simp)) (by omega)]
  cases ds <;> rfl
/-! loops and comprehensions -/
theorem den_for {cf : Cf} {tg : Tg} {it : Itx} {b : Stms} {env : En} {st st1 : Bx} {items : List PyData} (h : it.den cf false env st = some (items, st1)) (I : Nat → En → Bx → Prop) (h0 : I 0 env st1)
    (hs : ∀ (j : Nat) d env st, items[j]? = some d → I j env st → ∃ env0 env1 st1, tg.bind d env = some env0 ∧ b.den cf env0 st = some (.nx env1 st1) ∧ I (j + 1) env1 st1) :
    ∃ env1 st2, (Stm.forr tg it b).den cf env st = some (.nx env1 st2) ∧ I items.length env1 st2 := by
  obtain ⟨env1, st2, e, q⟩ := forGo_nx (step := fun d env st => (tg.bind d env).bind fun env1 => b.den cf env1 st) I items 0 env st1 h0 fun j d env st hd hi => by
    rw [Nat.zero_add] at hi ⊢
    obtain ⟨env0, env1, st1, e1, e2, e3⟩ := hs j d env st hd hi
    exact ⟨env1, st1, by rw [e1]; exact e2, e3⟩
  rw [Nat.zero_add] at q
  exact ⟨env1, st2, by simp only [Stm.den, h]; exact e, q⟩
theorem forGo_or {step : PyData → En → Bx → Option Out} (I : Nat → En → Bx → Prop) (Q : R → Bx → Prop) : ∀ (items : List PyData) (i : Nat) (env : En) (st : Bx), I i env st →
    (∀ (j : Nat) d env st, items[j]? = some d → I (i + j) env st → (∃ env1 st1, step d env st = some (.nx env1 st1) ∧ I (i + j + 1) env1 st1) ∨ ∃ r st1, step d env st = some (.rt r st1) ∧ Q r st1) →
    (∃ env1 st1, forGo step items env st = some (.nx env1 st1) ∧ I (i + items.length) env1 st1) ∨ ∃ r st1, forGo step items env st = some (.rt r st1) ∧ Q r st1
  | [], i, env, st, h, _ => .inl ⟨env, st, rfl, h⟩
  | d :: ds, i, env, st, h, hs => by
    rcases hs 0 d env st rfl h with ⟨env1, st1, e1, h1⟩ | ⟨r, st1, e1, h1⟩
    · have := forGo_or I Q ds (i + 1) env1 st1 h1 fun j d env st hd hi => by
        have := hs (j + 1) d env st (by simpa using hd) (by rw [show i + (j + 1) = i + 1 + j by omega]; exact hi)
        rw [show i + (j + 1) + 1 = i + 1 + j + 1 by omega] at this
        exact this
      unfold forGo
      rw [e1, List.length_cons, show i + (ds.length + 1) = i + 1 + ds.length by omega]
      exact this
    · refine .inr ⟨r, st1, ?_, h1⟩
      unfold forGo
      rw [e1]
theorem den_for_or {cf : Cf} {tg : Tg} {it : Itx} {b : Stms} {env : En} {st st1 : Bx} {items : List PyData} (h : it.den cf false env st = some (items, st1)) (I : Nat → En → Bx → Prop) (Q : R → Bx → Prop) (h0 : I 0 env st1)
    (hs : ∀ (j : Nat) d env st, items[j]? = some d → I j env st → ∃ env0, tg.bind d env = some env0 ∧ ((∃ env1 st1, b.den cf env0 st = some (.nx env1 st1) ∧ I (j + 1) env1 st1) ∨ ∃ r st1, b.den cf env0 st = some (.rt r st1) ∧ Q r st1)) :
    (∃ env1 st2, (Stm.forr tg it b).den cf env st = some (.nx env1 st2) ∧ I items.length env1 st2) ∨ ∃ r st2, (Stm.forr tg it b).den cf env st = some (.rt r st2) ∧ Q r st2 := by
  have q := forGo_or (step := fun d env st => (tg.bind d env).bind fun env1 => b.den cf env1 st) I Q items 0 env st1 h0 fun j d env st hd hi => by
    rw [Nat.zero_add] at hi ⊢
    obtain ⟨env0, e1, e2⟩ := hs j d env st hd hi
    rw [e1]
    exact e2
  rw [Nat.zero_add] at q
  simp only [Stm.den, h]
  exact q
theorem whl_go {c : En → Bx → Option (Bool × Bx)} {b : En → Bx → Option Out} (I : Nat → En → Bx → Prop) (P : En → Bx → Prop)
    (hs : ∀ m env st, I m env st → ∃ d st1, c env st = some (d, st1) ∧ (d = false → P env st1) ∧ (d = true → ∃ env1 st2 m', m' < m ∧ b env st1 = some (.nx env1 st2) ∧ I m' env1 st2)) :
    ∀ (m : Nat) (env : En) (st : Bx), I m env st → ∃ n env1 st1, whlN c b n env st = some (.nx env1 st1) ∧ P env1 st1 := by
  intro m
  induction m using Nat.strongRecOn with
  | _ m ih =>
    intro env st h
    obtain ⟨d, st1, e1, hf, ht⟩ := hs m env st h
    cases d with
    | false => exact ⟨1, env, st1, by unfold whlN; rw [e1], hf rfl⟩
    | true =>
      obtain ⟨env1, st2, m', hm, e2, h2⟩ := ht rfl
      obtain ⟨n, env3, st3, e3, h3⟩ := ih m' hm env1 st2 h2
      exact ⟨n + 1, env3, st3, by unfold whlN; rw [e1]; dsimp only; rw [e2]; exact e3, h3⟩
theorem den_whl {cf : Cf} {t : Ts} {b : Stms} {env : En} {st : Bx} {m : Nat} (I : Nat → En → Bx → Prop) (P : En → Bx → Prop) (h0 : I m env st)
    (hs : ∀ m env st, I m env st → ∃ d st1, t.den cf env st = some (d, st1) ∧ (d = false → P env st1) ∧ (d = true → ∃ env1 st2 m', m' < m ∧ b.den cf env st1 = some (.nx env1 st2) ∧ I m' env1 st2)) :
    ∃ env1 st1, (Stm.whl t b).den cf env st = some (.nx env1 st1) ∧ P env1 st1 := by
  obtain ⟨n, env1, st1, e, h⟩ := whl_go I P hs m env st h0
  exact ⟨env1, st1, by simp only [Stm.den]; exact whlD_of e, h⟩
theorem lcGo_of {step : PyData → Bx → Option (Option PyData × Bx)} {F : PyData → Option PyData} {st : Bx} : ∀ {items acc : List PyData}, (∀ d ∈ items, step d st = some (F d, st)) → acc.length + items.length ≤ sizeLine → lcGo step items acc st = some (acc ++ items.filterMap F, st)
  | [], acc, _, _ => by unfold lcGo; simp
  | d :: ds, acc, h, hl => by
    rw [List.length_cons] at hl
    unfold lcGo
    rw [h d List.mem_cons_self]
    cases hF : F d with
    | none =>
      dsimp only
      rw [lcGo_of (fun e he => h e (List.mem_cons_of_mem _ he)) (by omega), List.filterMap_cons, hF]
    | some y =>
      dsimp only
      rw [if_pos (by omega), lcGo_of (fun e he => h e (List.mem_cons_of_mem _ he)) (by rw [List.length_append, List.length_singleton]; omega), List.filterMap_cons, hF]
      simp
theorem den_lc {cf : Cf} {el : Ex} {tg : Tg} {it : Itx} {cd : Tso} {ow : List Nat} {env : En} {st st1 : Bx} {items : List PyData} (h : it.den cf true env st = some (items, st1)) (F : PyData → Option PyData)
    (hs : ∀ d ∈ items, ∃ env1, tg.bind d (wipeE env ow) = some env1 ∧ ((cd.den cf env1 st1 = some (false, st1) ∧ F d = none) ∨ (cd.den cf env1 st1 = some (true, st1) ∧ ∃ r y, el.den cf env1 st1 = some (r, st1) ∧ r.cap = some y ∧ F d = some y))) (hl : items.length ≤ 100000) :
    (Ex.lc el tg it cd ow).den cf env st = some (.own (items.filterMap F), st1) := by
  simp only [Ex.den, h]
  rw [lcGo_of (F := F) (fun d hd => ?_) (by show 0 + _ ≤ _; exact Nat.le_trans (by omega) (show 100000 ≤ sizeLine by decide))]
  · rfl
  · obtain ⟨env1, e1, q⟩ := hs d hd
    rw [e1]
    dsimp only
    rcases q with ⟨e2, e3⟩ | ⟨e2, r, y, e3, e4, e5⟩
    · rw [e2, e3]
    · rw [e2]
      dsimp only
      rw [e3]
      dsimp only
      rw [e4, e5]
      rfl
end Sy

namespace Sy
open PySem L2
/-! ### more plain tools -/
theorem z_eqs (x y : Str) : eqD (.str x) (.str y) = some (decide (x = y)) := Eq.trans rfl rfl
theorem z_modf {i j : Int} (h : j ≠ 0) : binI .mod i j = some (i.fmod j) := if_neg h
theorem z_fdivf {i j : Int} (h : divOk j = true) : binI .fdiv i j = some (i.fdiv j) := if_pos h
theorem z_bin_rept {xs : List PyData} {k : Int} (h : repTOk xs.length k = true) : binD .mul (.tuple xs) (.int k) = some (.dat (.tuple (List.replicate k.toNat xs).flatten)) := if_pos ⟨rfl, h⟩
theorem z_fgn {step : PyData → En → Bx → Option Out} {env : En} {st : Bx} : forGo step [] env st = some (.nx env st) := Eq.trans rfl rfl
theorem z_fgc {step : PyData → En → Bx → Option Out} {d : PyData} {ds : List PyData} {env : En} {st : Bx} : forGo step (d :: ds) env st = (match step d env st with
    | some (.nx env1 st1) => forGo step ds env1 st1
    | o => o) := Eq.trans rfl rfl
theorem z_lcn {step : PyData → Bx → Option (Option PyData × Bx)} {acc : List PyData} {st : Bx} : lcGo step [] acc st = some (acc, st) := Eq.trans rfl rfl
theorem z_lcc {step : PyData → Bx → Option (Option PyData × Bx)} {d : PyData} {ds acc : List PyData} {st : Bx} (hl : acc.length < 100000) : lcGo step (d :: ds) acc st = (match step d st with
    | some (some y, st1) => lcGo step ds (acc ++ [y]) st1
    | some (none, st1) => lcGo step ds acc st1
    | none => none) := by
  conv => lhs; unfold lcGo
  have h' : acc.length < sizeLine := Nat.lt_of_lt_of_le hl (show 100000 ≤ sizeLine by decide)
  rcases step d st with _ | ⟨_ | y, st1⟩
  · rfl
  · rfl
  · exact if_pos h'
theorem rngItems_0 (lo : Int) : rngItems lo 0 = [] := rfl
theorem rngItems_s (lo : Int) (n : Nat) : rngItems lo (n + 1) = .int lo :: rngItems (lo + 1) n := by
  unfold rngItems
  rw [List.range_succ_eq_map, List.map_cons, List.map_map]
  refine congr (congrArg _ (by simp)) (List.map_congr_left fun k _ => ?_)
  show PyData.int _ = PyData.int _
  congr 1
  simp only [Nat.succ_eq_add_one]
  omega
theorem rng_2 : rngItems 0 2 = [.int 0, .int 1] := rfl
theorem rng_3 : rngItems 0 3 = [.int 0, .int 1, .int 2] := rfl
theorem z_en2 (a b : PyData) : enumD [a, b] = [.tuple [.int 0, a], .tuple [.int 1, b]] := rfl
theorem z_en3 (a b c : PyData) : enumD [a, b, c] = [.tuple [.int 0, a], .tuple [.int 1, b], .tuple [.int 2, c]] := rfl
theorem z_zn (l : List PyData) : zipD [] l = [] := rfl
theorem z_zn2 (a : PyData) (l : List PyData) : zipD (a :: l) [] = [] := rfl
theorem z_zc (a b : PyData) (k l : List PyData) : zipD (a :: k) (b :: l) = .tuple [a, b] :: zipD k l := rfl
section
variable {α : Type} (a b c : α)
theorem cut2_01 : cutD [a, b] (some 1) none = [b] := rfl
theorem cut2_a0 : cutD [a, b] none (some 0) = [] := rfl
theorem cut2_a1 : cutD [a, b] none (some 1) = [a] := rfl
theorem cut2_b1 : cutD [a, b] (some 1) none = [b] := rfl
theorem cut2_b2 : cutD [a, b] (some 2) none = [] := rfl
theorem cut3_b1 : cutD [a, b, c] (some 1) none = [b, c] := rfl
theorem cut3_b2 : cutD [a, b, c] (some 2) none = [c] := rfl
theorem cut3_b3 : cutD [a, b, c] (some 3) none = [] := rfl
theorem cut3_a0 : cutD [a, b, c] none (some 0) = [] := rfl
theorem cut3_a1 : cutD [a, b, c] none (some 1) = [a] := rfl
theorem cut3_a2 : cutD [a, b, c] none (some 2) = [a, b] := rfl
end
/-! sizes by powers of two -/
@[irreducible] def Bd (k : Nat) (x : Int) : Prop := x.natAbs < 2 ^ k
theorem Bd.mono {a b : Nat} {x : Int} (h : Bd a x) (k : a ≤ b) : Bd b x := by
  unfold Bd at *
  exact Nat.lt_of_lt_of_le h (Nat.pow_le_pow_right (by decide) k)
theorem bd_s {x : Int} (h1 : -(2 ^ 60) < x) (h2 : x < 2 ^ 60) : Bd 60 x := by unfold Bd; omega
theorem bd_neg {a : Nat} {x : Int} (h : Bd a x) : Bd a (-x) := by unfold Bd at *; omega
theorem bd_abs {a : Nat} {x : Int} (h : Bd a x) : Bd a (x.natAbs : Int) := by unfold Bd at *; omega
theorem bd_add {a b : Nat} {x y : Int} (h : Bd a x) (k : Bd b y) : Bd (max a b + 1) (x + y) := by
  have h' := h.mono (Nat.le_max_left a b)
  have k' := k.mono (Nat.le_max_right a b)
  unfold Bd at *
  rw [Nat.pow_succ]
  omega
theorem bd_sub {a b : Nat} {x y : Int} (h : Bd a x) (k : Bd b y) : Bd (max a b + 1) (x - y) := by
  rw [Int.sub_eq_add_neg]; exact bd_add h (bd_neg k)
theorem bd_mul {a b : Nat} {x y : Int} (h : Bd a x) (k : Bd b y) : Bd (a + b) (x * y) := by
  unfold Bd at *
  rw [Int.natAbs_mul, Nat.pow_add]
  exact Nat.mul_lt_mul'' h k
theorem bd_mod {b : Nat} {x y : Int} (h : 0 < y) (k : Bd b y) : Bd b (x % y) := by
  have h1 := Int.emod_nonneg x (show y ≠ 0 by omega)
  have h2 := Int.emod_lt_of_pos x h
  unfold Bd at *
  omega
theorem bd_max {a b : Nat} {x y : Int} (h : Bd a x) (k : Bd b y) : Bd (max a b) (max x y) := by
  have h' := h.mono (Nat.le_max_left a b)
  have k' := k.mono (Nat.le_max_right a b)
  unfold Bd at *
  omega
theorem natAbs_fdiv_le (x y : Int) : (x.fdiv y).natAbs ≤ x.natAbs := by
  rcases Int.le_total 0 y with h | h
  · rw [Int.fdiv_eq_ediv_of_nonneg x h]
    exact Int.natAbs_ediv_le_natAbs x y
  · rw [← Int.neg_fdiv_neg, Int.fdiv_eq_ediv_of_nonneg _ (by omega)]
    have := Int.natAbs_ediv_le_natAbs (-x) (-y)
    omega
theorem bd_fdiv {a : Nat} {x : Int} (y : Int) (h : Bd a x) : Bd a (x.fdiv y) := by
  unfold Bd at *
  exact Nat.lt_of_le_of_lt (natAbs_fdiv_le x y) h
theorem bd_div {a : Nat} {x : Int} (y : Int) (h : Bd a x) : Bd a (x / y) := by
  unfold Bd at *
  exact Nat.lt_of_le_of_lt (Int.natAbs_ediv_le_natAbs x y) h
theorem mulOk_bd {a b : Nat} {x y : Int} (h : Bd a x) (k : Bd b y) (hab : a + b ≤ 999990) : mulOk x y = true := by
  unfold Bd at *
  exact mulOk_of h k hab
theorem divOk_bd {a : Nat} {x : Int} (h : Bd a x) (h0 : x ≠ 0) (ha : a + 1 ≤ 9000) : divOk x = true := by
  unfold Bd at h
  have h1 := log2_lt_of (k := a + 1) (by omega) (Nat.lt_of_lt_of_le h (Nat.pow_le_pow_right (by decide) (Nat.le_succ a)))
  unfold divOk
  exact decide_eq_true ⟨h0, by omega⟩
/-! texts of data -/
/-- shown within w signs, n deep -/
def Shw (w n : Nat) (d : PyData) : Prop := d.showable = true ∧ d.shown.length ≤ w ∧ d.depth ≤ n
theorem shw_int {a : Nat} {i : Int} (h : Bd a i) (ha : a ≤ 1900) : Shw 1901 0 (.int i) := by
  have h1' := h.mono ha
  unfold Bd at h1'
  refine ⟨?_, ?_, Nat.le_refl _⟩
  · have := log2_lt_of (k := 1900) (by decide) h1'
    simp only [PyData.showable, decide_eq_true_eq]
    omega
  · have e := int_text_length_le10 (a := i) (k := 1900) (by decide) (Nat.lt_of_lt_of_le h1' (Nat.pow_le_pow_left (by decide) _))
    show (Str.ofString (toString i)).length ≤ 1901
    rw [ofString_length]; exact e
theorem shw_bool (b : Bool) : Shw 1901 0 (.bool b) := ⟨rfl, by cases b <;> decide, Nat.le_refl _⟩
theorem shw_none : Shw 1901 0 .none := ⟨rfl, by decide, Nat.le_refl _⟩
theorem Shw.mono {w n w1 n1 : Nat} {d : PyData} (h : Shw w n d) (hw : w ≤ w1) (hn : n ≤ n1) : Shw w1 n1 d := ⟨h.1, Nat.le_trans h.2.1 hw, Nat.le_trans h.2.2 hn⟩
theorem shw_all {w n : Nat} : ∀ {ds : List PyData}, (∀ d ∈ ds, Shw w n d) → PyData.showableAll ds = true ∧ ((PyData.shownAll ds).map (·.length)).sum ≤ w * ds.length ∧ (PyData.shownAll ds).length = ds.length
  | [], _ => ⟨rfl, Nat.zero_le _, rfl⟩
  | d :: ds, h => by
    obtain ⟨h1, h2, h3⟩ := h d List.mem_cons_self
    obtain ⟨k1, k2, k3⟩ := shw_all (ds := ds) fun e he => h e (List.mem_cons_of_mem _ he)
    refine ⟨?_, ?_, ?_⟩
    · unfold PyData.showableAll; rw [h1, k1]; rfl
    · rw [PyData.shownAll_cons, List.map_cons, List.sum_cons, List.length_cons, Nat.mul_add]
      omega
    · rw [PyData.shownAll_cons, List.length_cons, List.length_cons, k3]
theorem shw_tuple {w n : Nat} {ds : List PyData} (h : ∀ d ∈ ds, Shw w n d) : Shw ((w + 2) * ds.length + 3) (n + 1) (.tuple ds) := by
  obtain ⟨k1, k2, k3⟩ := shw_all h
  refine ⟨?_, ?_, ?_⟩
  · unfold PyData.showable; exact k1
  · have := tupleText_len_le (PyData.shownAll ds)
    show (tupleText (PyData.shownAll ds)).length ≤ _
    rw [Nat.add_mul]
    omega
  · have := depthAll_le fun d hd => (h d hd).2.2
    unfold PyData.depth
    omega
theorem shw_list {w n : Nat} {ds : List PyData} (h : ∀ d ∈ ds, Shw w n d) : Shw ((w + 2) * ds.length + 3) (n + 1) (.list ds) := by
  obtain ⟨k1, k2, k3⟩ := shw_all h
  refine ⟨?_, ?_, ?_⟩
  · unfold PyData.showable; exact k1
  · have := listText_len_le (PyData.shownAll ds)
    show (listText (PyData.shownAll ds)).length ≤ _
    rw [Nat.add_mul]
    omega
  · have := depthAll_le fun d hd => (h d hd).2.2
    unfold PyData.depth
    omega
theorem shw_list_le {w n m : Nat} {ds : List PyData} (h : ∀ d ∈ ds, Shw w n d) (hm : ds.length ≤ m) : Shw ((w + 2) * m + 3) (n + 1) (.list ds) := by
  refine (shw_list h).mono ?_ (Nat.le_refl _)
  have := Nat.mul_le_mul_left (w + 2) hm
  omega
theorem shw_t1 {w n : Nat} {a : PyData} (ha : Shw w n a) : Shw ((w + 2) * 1 + 3) (n + 1) (.tuple [a]) := shw_tuple (by simp; exact ha)
theorem shw_t2 {w n : Nat} {a b : PyData} (ha : Shw w n a) (hb : Shw w n b) : Shw ((w + 2) * 2 + 3) (n + 1) (.tuple [a, b]) := shw_tuple (by simp; exact ⟨ha, hb⟩)
theorem shw_t3 {w n : Nat} {a b c : PyData} (ha : Shw w n a) (hb : Shw w n b) (hc : Shw w n c) : Shw ((w + 2) * 3 + 3) (n + 1) (.tuple [a, b, c]) := shw_tuple (by simp; exact ⟨ha, hb, hc⟩)
theorem shw_l2 {w n : Nat} {a b : PyData} (ha : Shw w n a) (hb : Shw w n b) : Shw ((w + 2) * 2 + 3) (n + 1) (.list [a, b]) := shw_list (by simp; exact ⟨ha, hb⟩)
theorem reprOk_of {w n : Nat} {d : PyData} (h : Shw w n d) (hw : w ≤ 16000000) (hn : n ≤ 16) : reprOk d = true := by
  unfold reprOk
  rw [h.1, decide_eq_true (Nat.le_trans h.2.1 (Nat.le_trans hw (show 16000000 ≤ sizeLine by decide))), decide_eq_true (Nat.le_trans h.2.2 hn)]
  rfl
/-! is it None? -/
def isNn : PyData → Bool
  | .none => true
  | _ => false
theorem den_isn {cf : Cf} {e : Ex} {neg : Bool} {env : En} {st st1 : Bx} {d : PyData} (h : e.den cf env st = some (.dat d, st1)) : Ts.den cf (.isn e neg) env st = some (if isNn d then !neg else neg, st1) := by
  rw [y_t_isn, h]
  cases d <;> rfl
def isNnR : R → Bool
  | .dat d => isNn d
  | _ => false
theorem y_t_isnt {cf : Cf} {a env st} : Ts.den cf (.isn a true) env st = (match a.den cf env st with
    | some (x, st1) => some (!isNnR x, st1)
    | none => none) := by
  rw [y_t_isn]
  rcases a.den cf env st with _ | ⟨x, st1⟩
  · rfl
  · rcases x with d | _ | _ | _ | _
    · cases d <;> rfl
    all_goals rfl
theorem y_t_isnf {cf : Cf} {a env st} : Ts.den cf (.isn a false) env st = (match a.den cf env st with
    | some (x, st1) => some (isNnR x, st1)
    | none => none) := by
  rw [y_t_isn]
  rcases a.den cf env st with _ | ⟨x, st1⟩
  · rfl
  · rcases x with d | _ | _ | _ | _
    · cases d <;> rfl
    all_goals rfl
theorem z_nnr_dat (d : PyData) : isNnR (.dat d) = isNn d := Eq.trans rfl rfl
theorem z_nnr_own (d : List PyData) : isNnR (.own d) = false := Eq.trans rfl rfl
theorem z_nnr_brw (d : List PyData) : isNnR (.brw d) = false := Eq.trans rfl rfl
theorem z_nn_none : isNn .none = true := Eq.trans rfl rfl
theorem z_nn_bool (b : Bool) : isNn (.bool b) = false := Eq.trans rfl rfl
theorem z_nn_int (b : Int) : isNn (.int b) = false := Eq.trans rfl rfl
theorem z_nn_str (b : Str) : isNn (.str b) = false := Eq.trans rfl rfl
theorem z_nn_list (b : List PyData) : isNn (.list b) = false := Eq.trans rfl rfl
theorem z_nn_tuple (b : List PyData) : isNn (.tuple b) = false := Eq.trans rfl rfl
/-! comprehensions whose turns draw -/
theorem lcGo_inv {step : PyData → Bx → Option (Option PyData × Bx)} (I : Bx → Prop) (P : PyData → PyData → Prop) : ∀ (items acc : List PyData) (st : Bx), I st →
    (∀ d ∈ items, ∀ s, I s → (∃ s1, step d s = some (none, s1) ∧ I s1) ∨ ∃ y s1, step d s = some (some y, s1) ∧ P d y ∧ I s1) → acc.length + items.length ≤ sizeLine →
    ∃ ys st1, lcGo step items acc st = some (acc ++ ys, st1) ∧ (∀ y ∈ ys, ∃ d ∈ items, P d y) ∧ ys.length ≤ items.length ∧ I st1
  | [], acc, st, h, _, _ => ⟨[], st, by unfold lcGo; simp, (fun _ h => nomatch h), Nat.le_refl _, h⟩
  | d :: ds, acc, st, h, hs, hl => by
    rw [List.length_cons] at hl
    rcases hs d List.mem_cons_self st h with ⟨s1, e1, h1⟩ | ⟨y, s1, e1, p1, h1⟩
    · obtain ⟨ys, st1, e2, h2, h3, h4⟩ := lcGo_inv I P ds acc s1 h1 (fun e he => hs e (List.mem_cons_of_mem _ he)) (by omega)
      refine ⟨ys, st1, ?_, fun y hy => let ⟨d, hd, hp⟩ := h2 y hy; ⟨d, List.mem_cons_of_mem _ hd, hp⟩, by rw [List.length_cons]; omega, h4⟩
      unfold lcGo
      rw [e1]
      exact e2
    · obtain ⟨ys, st1, e2, h2, h3, h4⟩ := lcGo_inv I P ds (acc ++ [y]) s1 h1 (fun e he => hs e (List.mem_cons_of_mem _ he)) (by rw [List.length_append, List.length_singleton]; omega)
      refine ⟨y :: ys, st1, ?_, fun z hz => ?_, by rw [List.length_cons, List.length_cons]; omega, h4⟩
      · unfold lcGo
        rw [e1]
        dsimp only
        rw [if_pos (by omega), e2, List.append_assoc]
        rfl
      · rcases List.mem_cons.mp hz with rfl | hz
        · exact ⟨d, List.mem_cons_self, p1⟩
        · obtain ⟨d', hd, hp⟩ := h2 z hz
          exact ⟨d', List.mem_cons_of_mem _ hd, hp⟩
theorem den_lc_inv {cf : Cf} {el : Ex} {tg : Tg} {it : Itx} {cd : Tso} {ow : List Nat} {env : En} {st st1 : Bx} {items : List PyData} (h : it.den cf true env st = some (items, st1)) (I : Bx → Prop) (P : PyData → PyData → Prop) (h0 : I st1)
    (hs : ∀ d ∈ items, ∀ s, I s → ∃ env1, tg.bind d (wipeE env ow) = some env1 ∧ ((∃ s1, cd.den cf env1 s = some (false, s1) ∧ I s1) ∨ ∃ s1 s2 r y, cd.den cf env1 s = some (true, s1) ∧ el.den cf env1 s1 = some (r, s2) ∧ r.cap = some y ∧ P d y ∧ I s2)) (hl : items.length ≤ 100000) :
    ∃ ys st2, (Ex.lc el tg it cd ow).den cf env st = some (.own ys, st2) ∧ (∀ y ∈ ys, ∃ d ∈ items, P d y) ∧ ys.length ≤ items.length ∧ I st2 := by
  obtain ⟨step, hd, hf, ht⟩ : ∃ step, (Ex.lc el tg it cd ow).den cf env st = (match lcGo step items [] st1 with | some (acc, st2) => some (R.own acc, st2) | none => none) ∧
      (∀ d s env1 s1, tg.bind d (wipeE env ow) = some env1 → cd.den cf env1 s = some (false, s1) → step d s = some (none, s1)) ∧
      (∀ d s env1 s1 r s2 y, tg.bind d (wipeE env ow) = some env1 → cd.den cf env1 s = some (true, s1) → el.den cf env1 s1 = some (r, s2) → r.cap = some y → step d s = some (some y, s2)) := by
    refine ⟨_, by rw [y_e_lc, h] <;> (dsimp only; rfl), fun d s env1 s1 e1 e2 => ?_, fun d s env1 s1 r s2 y e1 e2 e3 e4 => ?_⟩
    · rw [e1]
      dsimp only
      rw [e2]
    · rw [e1]
      dsimp only
      rw [e2]
      dsimp only
      rw [e3]
      dsimp only
      rw [e4]
      rfl
  obtain ⟨ys, st2, e, h1, h2, h3⟩ := lcGo_inv (step := step) I P items [] st1 h0 (fun d hd s hI => by
      obtain ⟨env1, e1, q⟩ := hs d hd s hI
      rcases q with ⟨s1, e2, h2⟩ | ⟨s1, s2, r, y, e2, e3, e4, e5, e6⟩
      · exact .inl ⟨s1, hf d s env1 s1 e1 e2, h2⟩
      · exact .inr ⟨y, s2, ht d s env1 s1 r s2 y e1 e2 e3 e4, e5, e6⟩) (by show 0 + _ ≤ _; exact Nat.le_trans (by omega) (show 100000 ≤ sizeLine by decide))
  refine ⟨ys, st2, ?_, h1, h2, h3⟩
  rw [hd, e]
  rfl
end Sy
namespace Sy
open PySem L2
/-- a law's outer loop: for k in range(max(1, min(len(script), C))) -/
theorem yes_of {cf : Cf} {f : List R → Bx → Option (R × Bx)} {b : Stms} {C : Int} (N : Nat) (h0 : 0 ≤ C) (h1 : C ≤ 100)
    (hf : ∀ ns, f [.scr ns] [] = outR (Stms.den cf (.cons (.forr (.nm 1) (.rng (.cons (.blt .max (.cons (.c (.int 1)) (.cons (.blt .min (.cons (.blt .len (.cons (.v 0) .nil)) (.cons (.c (.int C)) .nil))) .nil))) .nil)) b) (.cons (.ret (.c (.bool true))) .nil)) (some (.scr ns) :: none :: List.replicate N none) []))
    (hb : ∀ (ns : List Int) (k : Nat) (xs : En) (st : Bx), xs.length = N → ∃ env1 st1, b.den cf (some (.scr ns) :: some (.dat (.int k)) :: xs) st = some (.nx env1 st1) ∧ ∃ y1 ys, env1 = some (.scr ns) :: y1 :: ys ∧ ys.length = N) : Yes f 63 := by
  intro ns hns
  rw [hf]
  have rk : rngOk (max 1 (min (ns.length : Int) C)) = true := rngOk_s (by omega) (by omega)
  obtain ⟨env1, st2, e1, y1, ys, e2, e3⟩ := den_for (cf := cf) (tg := .nm 1) (it := .rng (.cons (.blt .max (.cons (.c (.int 1)) (.cons (.blt .min (.cons (.blt .len (.cons (.v 0) .nil)) (.cons (.c (.int C)) .nil))) .nil))) .nil)) (b := b)
    (env := some (.scr ns) :: none :: List.replicate N none) (st := []) (st1 := []) (items := rngItems 0 (max 1 (min (ns.length : Int) C)).toNat) (by
      simp only [y_i_rng, y_es_cons, y_es_nil, y_e_blt, y_e_c, y_e_v, List.getElem?_cons_zero, z_read_scr, z_blt_len, z_len_scr, Option.map_some, z_blt_min, views, z_view_dat, Option.bind_some, z_d_min, z_blt_max, z_d_max, z_intsc, z_intsn, z_rng1 rk])
    (fun j env s => ∃ y1 ys, ys.length = N ∧ env = some (.scr ns) :: y1 :: ys)
    ⟨none, List.replicate N none, by simp, rfl⟩ fun j d env s hd ⟨y1, ys, hl, e⟩ => by
      obtain ⟨hj, ed⟩ := rngItems_get hd
      subst ed e
      obtain ⟨env1, s1, h3, z1, zs, rfl, h2⟩ := hb ns j ys s hl
      rw [Int.zero_add]
      exact ⟨_, _, s1, z_bind_nm _ _ _, h3, z1, zs, h2, rfl⟩
  refine ⟨st2, ?_⟩
  rw [y_ss_cons, e1]
  dsimp only
  rw [y_ss_cons, y_s_ret, y_e_c]
  dsimp only
  rw [z_hold_dat]
  rfl
end Sy
namespace Sy
open PySem L2
theorem whl_go_or {c : En → Bx → Option (Bool × Bx)} {b : En → Bx → Option Out} (I : Nat → En → Bx → Prop) (P : En → Bx → Prop) (Q : R → Bx → Prop)
    (hs : ∀ m env st, I m env st → ∃ d st1, c env st = some (d, st1) ∧ (d = false → P env st1) ∧ (d = true → (∃ env1 st2 m', m' < m ∧ b env st1 = some (.nx env1 st2) ∧ I m' env1 st2) ∨ ∃ r st2, b env st1 = some (.rt r st2) ∧ Q r st2)) :
    ∀ (m : Nat) (env : En) (st : Bx), I m env st → (∃ n env1 st1, whlN c b n env st = some (.nx env1 st1) ∧ P env1 st1) ∨ ∃ n r st1, whlN c b n env st = some (.rt r st1) ∧ Q r st1 := by
  intro m
  induction m using Nat.strongRecOn with
  | _ m ih =>
    intro env st h
    obtain ⟨d, st1, e1, hf, ht⟩ := hs m env st h
    cases d with
    | false => exact .inl ⟨1, env, st1, by unfold whlN; rw [e1], hf rfl⟩
    | true =>
      rcases ht rfl with ⟨env1, st2, m', hm, e2, h2⟩ | ⟨r, st2, e2, h2⟩
      · rcases ih m' hm env1 st2 h2 with ⟨n, env3, st3, e3, h3⟩ | ⟨n, r, st3, e3, h3⟩
        · exact .inl ⟨n + 1, env3, st3, by unfold whlN; rw [e1]; dsimp only; rw [e2]; exact e3, h3⟩
        · exact .inr ⟨n + 1, r, st3, by unfold whlN; rw [e1]; dsimp only; rw [e2]; exact e3, h3⟩
      · exact .inr ⟨1, r, st2, by unfold whlN; rw [e1]; dsimp only; rw [e2], h2⟩
theorem den_whl_or {cf : Cf} {t : Ts} {b : Stms} {env : En} {st : Bx} {m : Nat} (I : Nat → En → Bx → Prop) (P : En → Bx → Prop) (Q : R → Bx → Prop) (h0 : I m env st)
    (hs : ∀ m env st, I m env st → ∃ d st1, t.den cf env st = some (d, st1) ∧ (d = false → P env st1) ∧ (d = true → (∃ env1 st2 m', m' < m ∧ b.den cf env st1 = some (.nx env1 st2) ∧ I m' env1 st2) ∨ ∃ r st2, b.den cf env st1 = some (.rt r st2) ∧ Q r st2)) :
    (∃ env1 st1, (Stm.whl t b).den cf env st = some (.nx env1 st1) ∧ P env1 st1) ∨ ∃ r st1, (Stm.whl t b).den cf env st = some (.rt r st1) ∧ Q r st1 := by
  rcases whl_go_or I P Q hs m env st h0 with ⟨n, env1, st1, e, h⟩ | ⟨n, r, st1, e, h⟩
  · exact .inl ⟨env1, st1, by rw [y_s_whl]; exact whlD_of e, h⟩
  · exact .inr ⟨r, st1, by rw [y_s_whl]; exact whlD_of e, h⟩
theorem z_ltt (xs ys : List PyData) : cmpD .lt (.tuple xs) (.tuple ys) = (match intsOf xs, intsOf ys with
    | some a, some b => some (HT.lexLt a b)
    | _, _ => none) := Eq.trans rfl rfl
end Sy
namespace Sy
theorem bd1000 {x : Int} (h1 : -(2 ^ 60) < x) (h2 : x < 2 ^ 60) : Bd 1000 x := (bd_s h1 h2).mono (by decide)
theorem sq_nn (x : Int) : 0 ≤ x * x := by
  rcases Int.le_total 0 x with h | h
  · exact Int.mul_nonneg h h
  · rw [← Int.neg_mul_neg]; exact Int.mul_nonneg (by omega) (by omega)
theorem sq_lt {r x : Int} (hr : 0 ≤ r) (h : x * x < r * r) : -r < x ∧ x < r := by
  constructor
  · rcases Int.lt_or_le (-r) x with h1 | h1
    · exact h1
    · have := Int.mul_le_mul (show r ≤ -x by omega) (show r ≤ -x by omega) hr (by omega)
      rw [Int.neg_mul_neg] at this
      omega
  · rcases Int.lt_or_le x r with h1 | h1
    · exact h1
    · have := Int.mul_le_mul h1 h1 hr (by omega)
      omega
end Sy

namespace Sy
open PySem PySem.Spec PyProof.Rows L2
/-- a constant of the module: four whole numbers -/
theorem conK_t4 {K : PySem.W.Frag} {x : String} {a : Addr} {od : Option Addr} {n : Nat} {osl : Array (Option Value)} {i j k l : Int} {t1 t2 t3 t4 : Tok} (a1 : PySem.W.nsIn K mainGlobals (Str.ofString x) = some (some (.ref a)))
    (l1 : K.lookup a = some ⟨.type "tuple", od, .seq #[.int i t1, .int j t2, .int k t3, .int l t4] n, osl⟩) : ConK K x (.tuple [.int i, .int j, .int k, .int l]) :=
  ⟨_, .ref a, a1, rfl, fun G => .tup (xs := [.int i, .int j, .int k, .int l]) (.inr ⟨_, _, _, l1, rfl, rfl, (show 4 ≤ sizeLine by decide), .cons ⟨_, rfl⟩ (.cons ⟨_, rfl⟩ (.cons ⟨_, rfl⟩ (.cons ⟨_, rfl⟩ .nil)))⟩) (.cons (.int _) (.cons (.int _) (.cons (.int _) (.cons (.int _) .nil))))⟩
/-- two points -/
theorem conK_p2 {K : PySem.W.Frag} {x : String} {a b c : Addr} {od od2 od3 : Option Addr} {n n2 n3 : Nat} {osl osl2 osl3 : Array (Option Value)} {i j k l : Int} {t1 t2 t3 t4 : Tok} (a1 : PySem.W.nsIn K mainGlobals (Str.ofString x) = some (some (.ref a)))
    (l1 : K.lookup a = some ⟨.type "tuple", od, .seq #[.ref b, .ref c] n, osl⟩) (l2 : K.lookup b = some ⟨.type "tuple", od2, .seq #[.int i t1, .int j t2] n2, osl2⟩) (l3 : K.lookup c = some ⟨.type "tuple", od3, .seq #[.int k t3, .int l t4] n3, osl3⟩) :
    ConK K x (.tuple [.tuple [.int i, .int j], .tuple [.int k, .int l]]) :=
  ⟨_, .ref a, a1, rfl, fun G => .tup (xs := [.ref b, .ref c]) (.inr ⟨_, _, _, l1, rfl, rfl, (show 2 ≤ sizeLine by decide), .cons rfl (.cons rfl .nil)⟩)
    (.cons (.tup (xs := [.int i, .int j]) (.inr ⟨_, _, _, l2, rfl, rfl, (show 2 ≤ sizeLine by decide), .cons ⟨_, rfl⟩ (.cons ⟨_, rfl⟩ .nil)⟩) (.cons (.int _) (.cons (.int _) .nil))) (.cons (.tup (xs := [.int k, .int l]) (.inr ⟨_, _, _, l3, rfl, rfl, (show 2 ≤ sizeLine by decide), .cons ⟨_, rfl⟩ (.cons ⟨_, rfl⟩ .nil)⟩) (.cons (.int _) (.cons (.int _) .nil))) .nil))⟩
end Sy

namespace Lw
open PySem PySem.Spec L2 Sy
def tx (i : Nat) : Stmt := PySem.Challenge.pw_shortsteps_k06_whole_grids.main.body.getD i (.Pass ⟨0, 0, 0, 0⟩)
def b_is_whole : Stms :=
 (.cons (.ret (.tst (.and (.cons (.val (.isi (.v 0) .int)) (.one (.not (.val (.isi (.v 0) .bool))))))))
 .nil)
abbrev d_is_whole : Df := ⟨"is_whole", ⟨1, 1, b_is_whole⟩, ["thing"], ["thing"], tx 7⟩
def q_are_whole_1 : Ex := .lc (.call "is_whole" (.cons (.v 2) .nil)) (.nm 2) (.seq (.v 0)) .no [2]
def b_are_whole : Stms :=
 (.cons (.ret (.tst (.and (.cons (.val (.isi (.v 0) .tuple)) (.cons (.cmp .eq (.blt .len (.cons (.v 0) .nil)) (.v 1)) (.one (.val (.blt .all (.cons q_are_whole_1 .nil)))))))))
 .nil)
abbrev d_are_whole : Df := ⟨"are_whole", ⟨2, 3, b_are_whole⟩, ["thing", "many"], ["thing", "many", "one"], tx 8⟩
def b_is_point : Stms :=
 (.cons (.ret (.tst (.or (.cons (.val (.call "are_whole" (.cons (.v 0) (.cons (.c (.int 2)) .nil)))) (.one (.val (.call "are_whole" (.cons (.v 0) (.cons (.c (.int 3)) .nil)))))))))
 .nil)
abbrev d_is_point : Df := ⟨"is_point", ⟨1, 1, b_is_point⟩, ["thing"], ["thing"], tx 9⟩
def q_determinant_1 : Ex := .lc (.bin .add (.sl (.v 5) .no (.yes (.v 2))) (.sl (.v 5) (.yes (.bin .add (.v 2) (.c (.int 1)))) .no)) (.nm 5) (.seq (.sl (.v 0) (.yes (.c (.int 1))) .no)) .no [5]
def lb_determinant_1 : Stms := (.cons (.asg 4 q_determinant_1)
 (.cons (.frz 4)
 (.cons (.asg 1 (.bin .add (.v 1) (.bin .mul (.bin .mul (.bin .sub (.c (.int 1)) (.bin .mul (.c (.int 2)) (.bin .mod (.v 2) (.c (.int 2))))) (.v 3)) (.call "determinant" (.cons (.v 4) .nil)))))
 .nil)))
def l_determinant_1 : Stm := .forr (.tp (.cons (.nm 2) (.cons (.nm 3) .nil))) (.enum (.ix (.v 0) (.c (.int 0)))) lb_determinant_1
def b_determinant : Stms :=
 (.cons (.iff (.cmp .eq (.blt .len (.cons (.v 0) .nil)) (.c (.int 1))) (.cons (.ret (.ix (.ix (.v 0) (.c (.int 0))) (.c (.int 0))))
 .nil) .nil)
 (.cons (.asg 1 (.c (.int 0)))
 (.cons l_determinant_1
 (.cons (.retv 1)
 .nil))))
abbrev d_determinant : Df := ⟨"determinant", ⟨1, 6, b_determinant⟩, ["steps"], ["steps", "found", "at", "number", "rest", "step"], tx 10⟩
def q_is_steps_1 : Ex := .lc (.call "are_whole" (.cons (.v 1) (.cons (.blt .len (.cons (.v 0) .nil)) .nil))) (.nm 1) (.seq (.v 0)) .no [1]
def b_is_steps : Stms :=
 (.cons (.iff (.or (.cons (.not (.val (.isi (.v 0) .tuple))) (.one (.cmp .nin (.blt .len (.cons (.v 0) .nil)) (.tup (.cons (.c (.int 2)) (.cons (.c (.int 3)) .nil))))))) (.cons (.ret (.c (.bool false)))
 .nil) .nil)
 (.cons (.ret (.tst (.and (.cons (.val (.blt .all (.cons q_is_steps_1 .nil))) (.one (.cmp .ne (.call "determinant" (.cons (.v 0) .nil)) (.c (.int 0))))))))
 .nil))
abbrev d_is_steps : Df := ⟨"is_steps", ⟨1, 2, b_is_steps⟩, ["thing"], ["thing", "step"], tx 11⟩
def b_need_steps : Stms :=
 (.cons (.iff (.not (.val (.call "is_steps" (.cons (.v 0) .nil)))) (.cons .never
 .nil) .nil)
 .nil)
abbrev d_need_steps : Df := ⟨"need_steps", ⟨1, 1, b_need_steps⟩, ["steps"], ["steps"], tx 12⟩
def b_need_point : Stms :=
 (.cons (.iff (.not (.val (.call "are_whole" (.cons (.v 0) (.cons (.v 1) .nil))))) (.cons .never
 .nil) .nil)
 .nil)
abbrev d_need_point : Df := ⟨"need_point", ⟨2, 2, b_need_point⟩, ["point", "width"], ["point", "width"], tx 13⟩
def q_product_of_1 : Ex := .lc (.bin .mul (.v 2) (.v 3)) (.tp (.cons (.nm 2) (.cons (.nm 3) .nil))) (.zip (.v 0) (.v 1)) .no [2, 3]
def b_product_of : Stms :=
 (.cons (.ret (.blt .sum (.cons q_product_of_1 .nil)))
 .nil)
abbrev d_product_of : Df := ⟨"product_of", ⟨2, 4, b_product_of⟩, ["one", "other"], ["one", "other", "first", "second"], tx 14⟩
def b_product : Stms :=
 (.cons (.iff (.or (.cons (.not (.val (.call "is_point" (.cons (.v 0) .nil)))) (.cons (.not (.val (.call "is_point" (.cons (.v 1) .nil)))) (.one (.cmp .ne (.blt .len (.cons (.v 0) .nil)) (.blt .len (.cons (.v 1) .nil))))))) (.cons .never
 .nil) .nil)
 (.cons (.ret (.call "product_of" (.cons (.v 0) (.cons (.v 1) .nil))))
 .nil))
abbrev d_product : Df := ⟨"product", ⟨2, 2, b_product⟩, ["one", "other"], ["one", "other"], tx 15⟩
def b_room : Stms :=
 (.cons (.exp (.call "need_steps" (.cons (.v 0) .nil)))
 (.cons (.ret (.blt .abs (.cons (.call "determinant" (.cons (.v 0) .nil)) .nil)))
 .nil))
abbrev d_room : Df := ⟨"room", ⟨1, 1, b_room⟩, ["steps"], ["steps"], tx 16⟩
def q_sum_of_1 : Ex := .lc (.bin .mul (.ix (.v 4) (.v 3)) (.v 5)) (.tp (.cons (.nm 4) (.cons (.nm 5) .nil))) (.zip (.v 0) (.v 1)) .no [4, 5]
def lb_sum_of_1 : Stms := (.cons (.app 2 (.blt .sum (.cons q_sum_of_1 .nil)))
 .nil)
def l_sum_of_1 : Stm := .forr (.nm 3) (.rng (.cons (.blt .len (.cons (.v 0) .nil)) .nil)) lb_sum_of_1
def b_sum_of : Stms :=
 (.cons (.asg 2 (.lst .nil))
 (.cons l_sum_of_1
 (.cons (.ret (.blt .tup (.cons (.v 2) .nil)))
 .nil)))
abbrev d_sum_of : Df := ⟨"sum_of", ⟨2, 6, b_sum_of⟩, ["steps", "numbers"], ["steps", "numbers", "found", "at", "step", "number"], tx 17⟩
def b_reached : Stms :=
 (.cons (.exp (.call "need_steps" (.cons (.v 0) .nil)))
 (.cons (.iff (.not (.val (.call "are_whole" (.cons (.v 1) (.cons (.blt .len (.cons (.v 0) .nil)) .nil))))) (.cons .never
 .nil) .nil)
 (.cons (.ret (.call "sum_of" (.cons (.v 0) (.cons (.v 1) .nil))))
 .nil)))
abbrev d_reached : Df := ⟨"reached", ⟨2, 2, b_reached⟩, ["steps", "numbers"], ["steps", "numbers"], tx 18⟩
def q_tops_of_1 : Ex := .lc (.call "determinant" (.cons (.bin .add (.bin .add (.sl (.v 0) .no (.yes (.v 2))) (.tup (.cons (.v 1) .nil))) (.sl (.v 0) (.yes (.bin .add (.v 2) (.c (.int 1)))) .no)) .nil)) (.nm 2) (.rng (.cons (.blt .len (.cons (.v 0) .nil)) .nil)) .no [2]
def b_tops_of : Stms :=
 (.cons (.ret q_tops_of_1)
 .nil)
abbrev d_tops_of : Df := ⟨"tops_of", ⟨2, 3, b_tops_of⟩, ["steps", "point"], ["steps", "point", "at"], tx 19⟩
def q_numbers_for_1 : Ex := .lc (.tst (.cmp .ne (.bin .mod (.v 4) (.v 2)) (.c (.int 0)))) (.nm 4) (.seq (.v 3)) .no [4]
def q_numbers_for_2 : Ex := .lc (.bin .fdiv (.v 4) (.v 2)) (.nm 4) (.seq (.v 3)) .no [4]
def b_numbers_for : Stms :=
 (.cons (.asg 2 (.call "determinant" (.cons (.v 0) .nil)))
 (.cons (.asg 3 (.call "tops_of" (.cons (.v 0) (.cons (.v 1) .nil))))
 (.cons (.frz 3)
 (.cons (.iff (.val (.blt .any (.cons q_numbers_for_1 .nil))) (.cons (.ret (.c .none))
 .nil) .nil)
 (.cons (.ret (.blt .tup (.cons q_numbers_for_2 .nil)))
 .nil)))))
abbrev d_numbers_for : Df := ⟨"numbers_for", ⟨2, 5, b_numbers_for⟩, ["steps", "point"], ["steps", "point", "bottom", "tops", "top"], tx 20⟩
def b_numbers_of : Stms :=
 (.cons (.exp (.call "need_steps" (.cons (.v 0) .nil)))
 (.cons (.exp (.call "need_point" (.cons (.v 1) (.cons (.blt .len (.cons (.v 0) .nil)) .nil))))
 (.cons (.ret (.call "numbers_for" (.cons (.v 0) (.cons (.v 1) .nil))))
 .nil)))
abbrev d_numbers_of : Df := ⟨"numbers_of", ⟨2, 2, b_numbers_of⟩, ["steps", "point"], ["steps", "point"], tx 21⟩
def q_is_within_1 : Ex := .lc (.tst (.isn (.call "numbers_for" (.cons (.v 0) (.cons (.v 2) .nil))) true)) (.nm 2) (.seq (.v 1)) .no [2]
def b_is_within : Stms :=
 (.cons (.ret (.blt .all (.cons q_is_within_1 .nil)))
 .nil)
abbrev d_is_within : Df := ⟨"is_within", ⟨2, 3, b_is_within⟩, ["steps", "other"], ["steps", "other", "step"], tx 22⟩
def b_is_same : Stms :=
 (.cons (.exp (.call "need_steps" (.cons (.v 0) .nil)))
 (.cons (.exp (.call "need_steps" (.cons (.v 1) .nil)))
 (.cons (.ret (.tst (.and (.cons (.cmp .eq (.blt .len (.cons (.v 0) .nil)) (.blt .len (.cons (.v 1) .nil))) (.cons (.val (.call "is_within" (.cons (.v 0) (.cons (.v 1) .nil)))) (.one (.val (.call "is_within" (.cons (.v 1) (.cons (.v 0) .nil))))))))))
 .nil)))
abbrev d_is_same : Df := ⟨"is_same", ⟨2, 2, b_is_same⟩, ["steps", "other"], ["steps", "other"], tx 23⟩
def q_show_1 : Ex := .lc (.blt .str (.cons (.v 2) .nil)) (.nm 2) (.seq (.v 1)) .no [2]
def q_show_2 : Ex := .lc (.mth .join (.c (.str (Str.ofString ","))) q_show_1) (.nm 1) (.seq (.v 0)) .no [1]
def b_show : Stms :=
 (.cons (.exp (.call "need_steps" (.cons (.v 0) .nil)))
 (.cons (.ret (.mth .join (.c (.str (Str.ofString " "))) q_show_2))
 .nil))
abbrev d_show : Df := ⟨"show", ⟨1, 3, b_show⟩, ["steps"], ["steps", "step", "number"], tx 26⟩
def q_number_in_1 : Ex := .lc (.tst (.cmp .inn (.v 2) (.g "FIGURES" (.str (Str.ofString "0123456789"))))) (.nm 2) (.sgn (.v 1)) .no [2]
def b_number_in : Stms :=
 (.cons (.asg 1 (.ite (.cmp .eq (.sl (.v 0) .no (.yes (.c (.int 1)))) (.c (.str (Str.ofString "-")))) (.sl (.v 0) (.yes (.c (.int 1))) .no) (.v 0)))
 (.cons (.frz 1)
 (.cons (.iff (.or (.cons (.cmp .eq (.v 1) (.c (.str (Str.ofString "")))) (.one (.not (.val (.blt .all (.cons q_number_in_1 .nil))))))) (.cons (.ret (.c .none))
 .nil) .nil)
 (.cons (.ret (.ite (.cmp .eq (.blt .str (.cons (.blt .int (.cons (.v 0) .nil)) .nil)) (.v 0)) (.blt .int (.cons (.v 0) .nil)) (.c .none)))
 .nil))))
abbrev d_number_in : Df := ⟨"number_in", ⟨1, 3, b_number_in⟩, ["word"], ["word", "figures", "sign"], tx 27⟩
def q_read_1 : Ex := .lc (.call "number_in" (.cons (.v 3) .nil)) (.nm 3) (.seq (.mth .split (.v 2) (.c (.str (Str.ofString ","))))) .no [3]
def q_read_2 : Ex := .lc (.blt .tup (.cons q_read_1 .nil)) (.nm 2) (.seq (.mth .split (.v 0) (.c (.str (Str.ofString " "))))) .no [2]
def b_read : Stms :=
 (.cons (.asg 1 (.c .none))
 (.cons (.iff (.val (.isi (.v 0) .str)) (.cons (.asg 1 (.blt .tup (.cons q_read_2 .nil)))
 .nil) .nil)
 (.cons (.iff (.not (.val (.call "is_steps" (.cons (.v 1) .nil)))) (.cons .never
 .nil) .nil)
 (.cons (.retv 1)
 .nil))))
abbrev d_read : Df := ⟨"read", ⟨1, 4, b_read⟩, ["text"], ["text", "found", "word", "part"], tx 28⟩
def b__law_cell : Stms :=
 (.cons (.iff (.cmp .lt (.v 1) (.blt .len (.cons (.v 0) .nil))) (.cons (.ret (.ix (.v 0) (.v 1)))
 .nil) .nil)
 (.cons (.ret (.c (.int 0)))
 .nil))
abbrev d__law_cell : Df := ⟨"_law_cell", ⟨2, 2, b__law_cell⟩, ["_law_script", "_law_k"], ["_law_script", "_law_k"], tx 30⟩
def b__law_mix : Stms :=
 (.cons (.asg 2 (.lst (.cons (.c (.int 48271)) (.cons (.c (.int 69621)) (.cons (.c (.int 16807)) (.cons (.c (.int 39373)) (.cons (.c (.int 30269)) (.cons (.c (.int 40014)) (.cons (.c (.int 40692)) (.cons (.c (.int 50021)) (.cons (.c (.int 61687)) (.cons (.c (.int 71993)) (.cons (.c (.int 83869)) (.cons (.c (.int 95561)) (.cons (.c (.int 30307)) .nil)))))))))))))))
 (.cons (.frz 2)
 (.cons (.asg 3 (.bin .mul (.bin .add (.bin .mod (.v 0) (.c (.int 2147483647))) (.c (.int 12345))) (.ix (.v 2) (.bin .mod (.v 1) (.c (.int 13))))))
 (.cons (.asg 3 (.bin .add (.bin .add (.v 3) (.bin .mul (.c (.int 977)) (.v 1))) (.bin .mul (.c (.int 7919)) (.bin .fdiv (.v 1) (.c (.int 13))))))
 (.cons (.asg 3 (.bin .mod (.v 3) (.c (.int 1000000007))))
 (.cons (.ret (.bin .fdiv (.bin .mod (.bin .add (.bin .mul (.v 3) (.v 3)) (.bin .mul (.c (.int 48271)) (.v 1))) (.c (.int 1000000007))) (.c (.int 7))))
 .nil))))))
abbrev d__law_mix : Df := ⟨"_law_mix", ⟨2, 4, b__law_mix⟩, ["_law_cell_here", "_law_k"], ["_law_cell_here", "_law_k", "_law_some", "_law_stir"], tx 31⟩
def lb__law_box_1 : Stms := (.cons (.asg 3 (.bin .add (.bin .mul (.v 3) (.c (.int 142857143))) (.call "_law_mix" (.cons (.v 2) (.cons (.v 4) .nil)))))
 .nil)
def l__law_box_1 : Stm := .forr (.nm 4) (.rng (.cons (.c (.int 40)) .nil)) lb__law_box_1
def b__law_box : Stms :=
 (.cons (.asg 2 (.call "_law_cell" (.cons (.v 0) (.cons (.v 1) .nil))))
 (.cons (.iff (.cmp .eq (.bin .mod (.v 2) (.c (.int 2))) (.c (.int 0))) (.cons (.ret (.box (.cons (.bin .fdiv (.blt .abs (.cons (.v 2) .nil)) (.c (.int 2))) .nil)))
 .nil) .nil)
 (.cons (.asg 3 (.c (.int 0)))
 (.cons l__law_box_1
 (.cons (.ret (.box (.cons (.v 3) .nil)))
 .nil)))))
abbrev d__law_box : Df := ⟨"_law_box", ⟨2, 5, b__law_box⟩, ["_law_script", "_law_k"], ["_law_script", "_law_k", "_law_cell_here", "_law_number", "_law_j"], tx 32⟩
def b__law_take : Stms :=
 (.cons (.unp (.tp (.cons (.nm 2) (.cons (.nm 3) .nil))) (.blt .divmod (.cons (.ix (.v 0) (.c (.int 0))) (.cons (.v 1) .nil))))
 (.cons (.setB (.v 0) (.c (.int 0)) (.v 2))
 (.cons (.retv 3)
 .nil)))
abbrev d__law_take : Df := ⟨"_law_take", ⟨2, 4, b__law_take⟩, ["_law_box_here", "_law_many"], ["_law_box_here", "_law_many", "_law_left", "_law_digit"], tx 33⟩
def b__law_drawn_number : Stms :=
 (.cons (.ret (.bin .sub (.call "_law_take" (.cons (.v 0) (.cons (.bin .add (.bin .mul (.c (.int 2)) (.v 1)) (.c (.int 1))) .nil))) (.v 1)))
 .nil)
abbrev d__law_drawn_number : Df := ⟨"_law_drawn_number", ⟨2, 2, b__law_drawn_number⟩, ["_law_box_here", "_law_size"], ["_law_box_here", "_law_size"], tx 34⟩
def q__law_drawn_point_1 : Ex := .lc (.call "_law_drawn_number" (.cons (.v 0) (.cons (.v 2) .nil))) (.nm 3) (.rng (.cons (.v 1) .nil)) .no [3]
def b__law_drawn_point : Stms :=
 (.cons (.ret (.blt .tup (.cons q__law_drawn_point_1 .nil)))
 .nil)
abbrev d__law_drawn_point : Df := ⟨"_law_drawn_point", ⟨3, 4, b__law_drawn_point⟩, ["_law_box_here", "_law_width", "_law_size"], ["_law_box_here", "_law_width", "_law_size", "_law_place"], tx 35⟩
def q__law_det_1 : Ex := .lc (.v 8) (.nm 8) (.rng (.cons (.c (.int 3)) .nil)) (.yes (.cmp .ne (.v 8) (.v 2))) [8]
def lb__law_det_1 : Stms := (.cons (.unp (.tp (.cons (.nm 4) (.cons (.nm 5) .nil))) q__law_det_1)
 (.cons (.par 6 7 (.ix (.v 0) (.c (.int 1))) (.ix (.v 0) (.c (.int 2))))
 (.cons (.asg 3 (.bin .sub (.bin .mul (.ix (.v 6) (.v 4)) (.ix (.v 7) (.v 5))) (.bin .mul (.ix (.v 6) (.v 5)) (.ix (.v 7) (.v 4)))))
 (.cons (.asg 1 (.bin .add (.v 1) (.bin .mul (.bin .mul (.ix (.lst (.cons (.c (.int 1)) (.cons (.neg (.c (.int 1))) (.cons (.c (.int 1)) .nil)))) (.v 2)) (.ix (.ix (.v 0) (.c (.int 0))) (.v 2))) (.v 3))))
 .nil))))
def l__law_det_1 : Stm := .forr (.nm 2) (.rng (.cons (.c (.int 3)) .nil)) lb__law_det_1
def b__law_det : Stms :=
 (.cons (.iff (.cmp .eq (.blt .len (.cons (.v 0) .nil)) (.c (.int 2))) (.cons (.ret (.bin .sub (.bin .mul (.ix (.ix (.v 0) (.c (.int 0))) (.c (.int 0))) (.ix (.ix (.v 0) (.c (.int 1))) (.c (.int 1)))) (.bin .mul (.ix (.ix (.v 0) (.c (.int 0))) (.c (.int 1))) (.ix (.ix (.v 0) (.c (.int 1))) (.c (.int 0))))))
 .nil) .nil)
 (.cons (.asg 1 (.c (.int 0)))
 (.cons l__law_det_1
 (.cons (.retv 1)
 .nil))))
abbrev d__law_det : Df := ⟨"_law_det", ⟨1, 9, b__law_det⟩, ["_law_steps"], ["_law_steps", "_law_found", "_law_at", "_law_minor", "_law_first", "_law_second", "_law_one", "_law_other", "_law_place"], tx 36⟩
def b__law_drawn_pair : Stms :=
 (.cons (.par 3 4 (.call "_law_drawn_point" (.cons (.v 0) (.cons (.c (.int 2)) (.cons (.v 1) .nil)))) (.call "_law_drawn_point" (.cons (.v 0) (.cons (.c (.int 2)) (.cons (.v 1) .nil)))))
 (.cons (.asg 2 (.call "_law_take" (.cons (.v 0) (.cons (.c (.int 6)) .nil))))
 (.cons (.iff (.cmp .eq (.v 2) (.c (.int 0))) (.cons (.asg 4 (.tup (.cons (.bin .sub (.c (.int 0)) (.ix (.v 3) (.c (.int 1)))) (.cons (.ix (.v 3) (.c (.int 0))) .nil))))
 .nil) .nil)
 (.cons (.iff (.cmp .eq (.v 2) (.c (.int 1))) (.cons (.asg 5 (.call "_law_drawn_point" (.cons (.v 0) (.cons (.c (.int 2)) (.cons (.c (.int 2)) .nil)))))
 (.cons (.asg 4 (.tup (.cons (.bin .add (.ix (.v 3) (.c (.int 0))) (.ix (.v 5) (.c (.int 0)))) (.cons (.bin .add (.ix (.v 3) (.c (.int 1))) (.ix (.v 5) (.c (.int 1)))) .nil))))
 .nil)) .nil)
 (.cons (.iff (.cmp .eq (.call "_law_det" (.cons (.tup (.cons (.v 3) (.cons (.v 4) .nil))) .nil)) (.c (.int 0))) (.cons (.par 3 4 (.tup (.cons (.bin .add (.ix (.v 3) (.c (.int 0))) (.c (.int 1))) (.cons (.c (.int 1)) .nil))) (.tup (.cons (.ix (.v 3) (.c (.int 0))) (.cons (.c (.int 1)) .nil))))
 .nil) .nil)
 (.cons (.ret (.tup (.cons (.v 3) (.cons (.v 4) .nil))))
 .nil))))))
abbrev d__law_drawn_pair : Df := ⟨"_law_drawn_pair", ⟨2, 6, b__law_drawn_pair⟩, ["_law_box_here", "_law_size"], ["_law_box_here", "_law_size", "_law_way", "_law_one", "_law_other", "_law_near"], tx 37⟩
def q__law_drawn_three_1 : Ex := .lc (.call "_law_drawn_point" (.cons (.v 0) (.cons (.c (.int 3)) (.cons (.v 1) .nil)))) (.nm 3) (.rng (.cons (.c (.int 3)) .nil)) .no [3]
def b__law_drawn_three : Stms :=
 (.cons (.asg 2 (.blt .tup (.cons q__law_drawn_three_1 .nil)))
 (.cons (.iff (.cmp .eq (.call "_law_det" (.cons (.v 2) .nil)) (.c (.int 0))) (.cons (.asg 2 (.tup (.cons (.tup (.cons (.bin .add (.c (.int 1)) (.blt .abs (.cons (.ix (.ix (.v 2) (.c (.int 0))) (.c (.int 0))) .nil))) (.cons (.c (.int 0)) (.cons (.c (.int 0)) .nil)))) (.cons (.tup (.cons (.ix (.ix (.v 2) (.c (.int 0))) (.c (.int 1))) (.cons (.c (.int 1)) (.cons (.c (.int 0)) .nil)))) (.cons (.tup (.cons (.ix (.ix (.v 2) (.c (.int 0))) (.c (.int 2))) (.cons (.ix (.ix (.v 2) (.c (.int 1))) (.c (.int 0))) (.cons (.c (.int 2)) .nil)))) .nil)))))
 .nil) .nil)
 (.cons (.retv 2)
 .nil)))
abbrev d__law_drawn_three : Df := ⟨"_law_drawn_three", ⟨2, 4, b__law_drawn_three⟩, ["_law_box_here", "_law_size"], ["_law_box_here", "_law_size", "_law_some", "_law_lap"], tx 38⟩
def b__law_drawn_steps : Stms :=
 (.cons (.iff (.cmp .eq (.call "_law_take" (.cons (.v 0) (.cons (.c (.int 2)) .nil))) (.c (.int 0))) (.cons (.ret (.call "_law_drawn_pair" (.cons (.v 0) (.cons (.v 1) .nil))))
 .nil) .nil)
 (.cons (.ret (.call "_law_drawn_three" (.cons (.v 0) (.cons (.v 1) .nil))))
 .nil))
abbrev d__law_drawn_steps : Df := ⟨"_law_drawn_steps", ⟨2, 2, b__law_drawn_steps⟩, ["_law_box_here", "_law_size"], ["_law_box_here", "_law_size"], tx 39⟩
def q_law_1 : Ex := .lc (.bin .add (.v 13) (.v 14)) (.tp (.cons (.nm 13) (.cons (.nm 14) .nil))) (.zip (.v 9) (.v 10)) .no [13, 14]
def q_law_2 : Ex := .lc (.bin .add (.v 13) (.v 14)) (.tp (.cons (.nm 13) (.cons (.nm 14) .nil))) (.zip (.v 11) (.v 12)) .no [13, 14]
def q_law_3 : Ex := .lc (.bin .mul (.c (.int 2)) (.v 15)) (.nm 15) (.seq (.ix (.v 3) (.v 6))) .no [15]
def lb_law_1 : Stms := (.cons (.asg 2 (.call "_law_box" (.cons (.v 0) (.cons (.v 1) .nil))))
 (.cons (.asg 3 (.call "_law_drawn_steps" (.cons (.v 2) (.cons (.ix (.lst (.cons (.c (.int 2)) (.cons (.c (.int 9)) (.cons (.bin .pow (.c (.int 10)) (.c (.int 6))) (.cons (.bin .pow (.c (.int 10)) (.c (.int 29))) .nil))))) (.call "_law_take" (.cons (.v 2) (.cons (.c (.int 4)) .nil)))) .nil))))
 (.cons (.asg 4 (.blt .len (.cons (.v 3) .nil)))
 (.cons (.iff (.or (.cons (.cmp .ne (.call "read" (.cons (.call "show" (.cons (.v 3) .nil)) .nil)) (.v 3)) (.cons (.isb (.call "is_steps" (.cons (.v 3) .nil)) true true) (.one (.isb (.call "is_same" (.cons (.v 3) (.cons (.v 3) .nil))) true true))))) (.cons (.ret (.c (.bool false)))
 .nil) .nil)
 (.cons (.par 9 10 (.call "_law_drawn_point" (.cons (.v 2) (.cons (.v 4) (.cons (.c (.int 9)) .nil)))) (.call "_law_drawn_point" (.cons (.v 2) (.cons (.v 4) (.cons (.c (.int 9)) .nil)))))
 (.cons (.par 11 12 (.call "reached" (.cons (.v 3) (.cons (.v 9) .nil))) (.call "reached" (.cons (.v 3) (.cons (.v 10) .nil))))
 (.cons (.asg 5 (.blt .tup (.cons q_law_1 .nil)))
 (.cons (.iff (.or (.cons (.isb (.call "is_point" (.cons (.v 11) .nil)) true true) (.one (.cmp .ne (.call "numbers_of" (.cons (.v 3) (.cons (.v 11) .nil))) (.v 9))))) (.cons (.ret (.c (.bool false)))
 .nil) .nil)
 (.cons (.iff (.cmp .ne (.call "reached" (.cons (.v 3) (.cons (.v 5) .nil))) (.blt .tup (.cons q_law_2 .nil))) (.cons (.ret (.c (.bool false)))
 .nil) .nil)
 (.cons (.iff (.cmp .ne (.call "product" (.cons (.v 11) (.cons (.v 12) .nil))) (.call "product" (.cons (.v 12) (.cons (.v 11) .nil)))) (.cons (.ret (.c (.bool false)))
 .nil) .nil)
 (.cons (.iff (.cmp .ne (.call "product" (.cons (.call "reached" (.cons (.v 3) (.cons (.v 5) .nil))) (.cons (.v 11) .nil))) (.bin .add (.call "product" (.cons (.v 11) (.cons (.v 11) .nil))) (.call "product" (.cons (.v 12) (.cons (.v 11) .nil))))) (.cons (.ret (.c (.bool false)))
 .nil) .nil)
 (.cons (.asg 6 (.call "_law_take" (.cons (.v 2) (.cons (.v 4) .nil))))
 (.cons (.asg 7 (.bin .add (.bin .add (.sl (.v 3) .no (.yes (.v 6))) (.tup (.cons (.blt .tup (.cons q_law_3 .nil)) .nil))) (.sl (.v 3) (.yes (.bin .add (.v 6) (.c (.int 1)))) .no)))
 (.cons (.frz 7)
 (.cons (.iff (.or (.cons (.cmp .ne (.call "room" (.cons (.v 7) .nil)) (.bin .mul (.c (.int 2)) (.call "room" (.cons (.v 3) .nil)))) (.cons (.isb (.call "is_same" (.cons (.v 3) (.cons (.v 7) .nil))) true false) (.one (.cmp .lt (.call "room" (.cons (.v 3) .nil)) (.c (.int 1))))))) (.cons (.ret (.c (.bool false)))
 .nil) .nil)
 (.cons (.asg 8 (.bin .add (.sl (.v 3) (.yes (.c (.int 1))) .no) (.sl (.v 3) .no (.yes (.c (.int 1))))))
 (.cons (.frz 8)
 (.cons (.iff (.or (.cons (.isb (.call "is_same" (.cons (.v 3) (.cons (.v 8) .nil))) true true) (.one (.cmp .ne (.call "room" (.cons (.v 8) .nil)) (.call "room" (.cons (.v 3) .nil)))))) (.cons (.ret (.c (.bool false)))
 .nil) .nil)
 .nil))))))))))))))))))
def l_law_1 : Stm := .forr (.nm 1) (.rng (.cons (.blt .max (.cons (.c (.int 1)) (.cons (.blt .min (.cons (.blt .len (.cons (.v 0) .nil)) (.cons (.c (.int 6)) .nil))) .nil))) .nil)) lb_law_1
def b_law : Stms :=
 (.cons l_law_1
 (.cons (.ret (.c (.bool true)))
 .nil))
abbrev d_law : Df := ⟨"law", ⟨1, 16, b_law⟩, ["_law_script"], ["_law_script", "_law_k", "_law_box_here", "_law_steps", "_law_width", "_law_both", "_law_at", "_law_twice", "_law_round_steps", "_law_one", "_law_other", "_law_here", "_law_there", "_law_first", "_law_second", "_law_number"], tx 40⟩
def ds : List Df := [d_is_whole, d_are_whole, d_is_point, d_determinant, d_is_steps, d_need_steps, d_need_point, d_product_of, d_product, d_room, d_sum_of, d_reached, d_tops_of, d_numbers_for, d_numbers_of, d_is_within, d_is_same, d_show, d_number_in, d_read, d__law_cell, d__law_mix, d__law_box, d__law_take, d__law_drawn_number, d__law_drawn_point, d__law_det, d__law_drawn_pair, d__law_drawn_three, d__law_drawn_steps, d_law]
def sg : Sg := ⟨["is_whole", "are_whole", "is_point", "determinant", "is_steps", "need_steps", "need_point", "product_of", "product", "room", "sum_of", "reached", "tops_of", "numbers_for", "numbers_of", "is_within", "is_same", "show", "number_in", "read", "_law_cell", "_law_mix", "_law_box", "_law_take", "_law_drawn_number", "_law_drawn_point", "_law_det", "_law_drawn_pair", "_law_drawn_three", "_law_drawn_steps", "law"], ["abs", "all", "any", "bool", "divmod", "enumerate", "int", "isinstance", "len", "max", "min", "range", "str", "sum", "tuple", "zip"], [("FIGURES", (.str (Str.ofString "0123456789")))], [], [], []⟩
theorem ck : ∀ d ∈ ds, chkD sg d = true := List.all_eq_true.mp (by decide +kernel : ds.all (chkD sg) = true)
theorem ckh0 : ds.all (fun d => !decide (d.name ∈ sg.hs) || chkH2 sg d) = true := by decide +kernel
theorem ckh : ∀ d ∈ ds, d.name ∈ sg.hs → chkH2 sg d = true := fun d h hm => by
  have q := List.all_eq_true.mp ckh0 d h
  rw [decide_eq_true hm] at q
  exact q
theorem hsd : ∀ x ∈ sg.hs, ∃ d ∈ ds, d.name = x := fun x hx => absurd hx (by simp [sg])
theorem nd : (ds.map (·.name)).Nodup := by decide +kernel
abbrev tb : String → Option Fn := tbOf ds
theorem t_is_whole : tb "is_whole" = some ⟨1, 1, b_is_whole⟩ := tbOf_find nd d_is_whole (List.mem_of_getElem? (i := 0) rfl)
theorem c_is_whole (k : Nat) (x0 : R) (st : Bx) : callF tb (k + 1) "is_whole" [x0] st = outR (b_is_whole.den (callF tb k) [some x0] st) := callF_of t_is_whole k _ st rfl
theorem t_are_whole : tb "are_whole" = some ⟨2, 3, b_are_whole⟩ := tbOf_find nd d_are_whole (List.mem_of_getElem? (i := 1) rfl)
theorem c_are_whole (k : Nat) (x0 x1 : R) (st : Bx) : callF tb (k + 1) "are_whole" [x0, x1] st = outR (b_are_whole.den (callF tb k) [some x0, some x1, none] st) := callF_of t_are_whole k _ st rfl
theorem t_is_point : tb "is_point" = some ⟨1, 1, b_is_point⟩ := tbOf_find nd d_is_point (List.mem_of_getElem? (i := 2) rfl)
theorem c_is_point (k : Nat) (x0 : R) (st : Bx) : callF tb (k + 1) "is_point" [x0] st = outR (b_is_point.den (callF tb k) [some x0] st) := callF_of t_is_point k _ st rfl
theorem t_determinant : tb "determinant" = some ⟨1, 6, b_determinant⟩ := tbOf_find nd d_determinant (List.mem_of_getElem? (i := 3) rfl)
theorem c_determinant (k : Nat) (x0 : R) (st : Bx) : callF tb (k + 1) "determinant" [x0] st = outR (b_determinant.den (callF tb k) [some x0, none, none, none, none, none] st) := callF_of t_determinant k _ st rfl
theorem t_is_steps : tb "is_steps" = some ⟨1, 2, b_is_steps⟩ := tbOf_find nd d_is_steps (List.mem_of_getElem? (i := 4) rfl)
theorem c_is_steps (k : Nat) (x0 : R) (st : Bx) : callF tb (k + 1) "is_steps" [x0] st = outR (b_is_steps.den (callF tb k) [some x0, none] st) := callF_of t_is_steps k _ st rfl
theorem t_need_steps : tb "need_steps" = some ⟨1, 1, b_need_steps⟩ := tbOf_find nd d_need_steps (List.mem_of_getElem? (i := 5) rfl)
theorem c_need_steps (k : Nat) (x0 : R) (st : Bx) : callF tb (k + 1) "need_steps" [x0] st = outR (b_need_steps.den (callF tb k) [some x0] st) := callF_of t_need_steps k _ st rfl
theorem t_need_point : tb "need_point" = some ⟨2, 2, b_need_point⟩ := tbOf_find nd d_need_point (List.mem_of_getElem? (i := 6) rfl)
theorem c_need_point (k : Nat) (x0 x1 : R) (st : Bx) : callF tb (k + 1) "need_point" [x0, x1] st = outR (b_need_point.den (callF tb k) [some x0, some x1] st) := callF_of t_need_point k _ st rfl
theorem t_product_of : tb "product_of" = some ⟨2, 4, b_product_of⟩ := tbOf_find nd d_product_of (List.mem_of_getElem? (i := 7) rfl)
theorem c_product_of (k : Nat) (x0 x1 : R) (st : Bx) : callF tb (k + 1) "product_of" [x0, x1] st = outR (b_product_of.den (callF tb k) [some x0, some x1, none, none] st) := callF_of t_product_of k _ st rfl
theorem t_product : tb "product" = some ⟨2, 2, b_product⟩ := tbOf_find nd d_product (List.mem_of_getElem? (i := 8) rfl)
theorem c_product (k : Nat) (x0 x1 : R) (st : Bx) : callF tb (k + 1) "product" [x0, x1] st = outR (b_product.den (callF tb k) [some x0, some x1] st) := callF_of t_product k _ st rfl
theorem t_room : tb "room" = some ⟨1, 1, b_room⟩ := tbOf_find nd d_room (List.mem_of_getElem? (i := 9) rfl)
theorem c_room (k : Nat) (x0 : R) (st : Bx) : callF tb (k + 1) "room" [x0] st = outR (b_room.den (callF tb k) [some x0] st) := callF_of t_room k _ st rfl
theorem t_sum_of : tb "sum_of" = some ⟨2, 6, b_sum_of⟩ := tbOf_find nd d_sum_of (List.mem_of_getElem? (i := 10) rfl)
theorem c_sum_of (k : Nat) (x0 x1 : R) (st : Bx) : callF tb (k + 1) "sum_of" [x0, x1] st = outR (b_sum_of.den (callF tb k) [some x0, some x1, none, none, none, none] st) := callF_of t_sum_of k _ st rfl
theorem t_reached : tb "reached" = some ⟨2, 2, b_reached⟩ := tbOf_find nd d_reached (List.mem_of_getElem? (i := 11) rfl)
theorem c_reached (k : Nat) (x0 x1 : R) (st : Bx) : callF tb (k + 1) "reached" [x0, x1] st = outR (b_reached.den (callF tb k) [some x0, some x1] st) := callF_of t_reached k _ st rfl
theorem t_tops_of : tb "tops_of" = some ⟨2, 3, b_tops_of⟩ := tbOf_find nd d_tops_of (List.mem_of_getElem? (i := 12) rfl)
theorem c_tops_of (k : Nat) (x0 x1 : R) (st : Bx) : callF tb (k + 1) "tops_of" [x0, x1] st = outR (b_tops_of.den (callF tb k) [some x0, some x1, none] st) := callF_of t_tops_of k _ st rfl
theorem t_numbers_for : tb "numbers_for" = some ⟨2, 5, b_numbers_for⟩ := tbOf_find nd d_numbers_for (List.mem_of_getElem? (i := 13) rfl)
theorem c_numbers_for (k : Nat) (x0 x1 : R) (st : Bx) : callF tb (k + 1) "numbers_for" [x0, x1] st = outR (b_numbers_for.den (callF tb k) [some x0, some x1, none, none, none] st) := callF_of t_numbers_for k _ st rfl
theorem t_numbers_of : tb "numbers_of" = some ⟨2, 2, b_numbers_of⟩ := tbOf_find nd d_numbers_of (List.mem_of_getElem? (i := 14) rfl)
theorem c_numbers_of (k : Nat) (x0 x1 : R) (st : Bx) : callF tb (k + 1) "numbers_of" [x0, x1] st = outR (b_numbers_of.den (callF tb k) [some x0, some x1] st) := callF_of t_numbers_of k _ st rfl
theorem t_is_within : tb "is_within" = some ⟨2, 3, b_is_within⟩ := tbOf_find nd d_is_within (List.mem_of_getElem? (i := 15) rfl)
theorem c_is_within (k : Nat) (x0 x1 : R) (st : Bx) : callF tb (k + 1) "is_within" [x0, x1] st = outR (b_is_within.den (callF tb k) [some x0, some x1, none] st) := callF_of t_is_within k _ st rfl
theorem t_is_same : tb "is_same" = some ⟨2, 2, b_is_same⟩ := tbOf_find nd d_is_same (List.mem_of_getElem? (i := 16) rfl)
theorem c_is_same (k : Nat) (x0 x1 : R) (st : Bx) : callF tb (k + 1) "is_same" [x0, x1] st = outR (b_is_same.den (callF tb k) [some x0, some x1] st) := callF_of t_is_same k _ st rfl
theorem t_show : tb "show" = some ⟨1, 3, b_show⟩ := tbOf_find nd d_show (List.mem_of_getElem? (i := 17) rfl)
theorem c_show (k : Nat) (x0 : R) (st : Bx) : callF tb (k + 1) "show" [x0] st = outR (b_show.den (callF tb k) [some x0, none, none] st) := callF_of t_show k _ st rfl
theorem t_number_in : tb "number_in" = some ⟨1, 3, b_number_in⟩ := tbOf_find nd d_number_in (List.mem_of_getElem? (i := 18) rfl)
theorem c_number_in (k : Nat) (x0 : R) (st : Bx) : callF tb (k + 1) "number_in" [x0] st = outR (b_number_in.den (callF tb k) [some x0, none, none] st) := callF_of t_number_in k _ st rfl
theorem t_read : tb "read" = some ⟨1, 4, b_read⟩ := tbOf_find nd d_read (List.mem_of_getElem? (i := 19) rfl)
theorem c_read (k : Nat) (x0 : R) (st : Bx) : callF tb (k + 1) "read" [x0] st = outR (b_read.den (callF tb k) [some x0, none, none, none] st) := callF_of t_read k _ st rfl
theorem t__law_cell : tb "_law_cell" = some ⟨2, 2, b__law_cell⟩ := tbOf_find nd d__law_cell (List.mem_of_getElem? (i := 20) rfl)
theorem c__law_cell (k : Nat) (x0 x1 : R) (st : Bx) : callF tb (k + 1) "_law_cell" [x0, x1] st = outR (b__law_cell.den (callF tb k) [some x0, some x1] st) := callF_of t__law_cell k _ st rfl
theorem t__law_mix : tb "_law_mix" = some ⟨2, 4, b__law_mix⟩ := tbOf_find nd d__law_mix (List.mem_of_getElem? (i := 21) rfl)
theorem c__law_mix (k : Nat) (x0 x1 : R) (st : Bx) : callF tb (k + 1) "_law_mix" [x0, x1] st = outR (b__law_mix.den (callF tb k) [some x0, some x1, none, none] st) := callF_of t__law_mix k _ st rfl
theorem t__law_box : tb "_law_box" = some ⟨2, 5, b__law_box⟩ := tbOf_find nd d__law_box (List.mem_of_getElem? (i := 22) rfl)
theorem c__law_box (k : Nat) (x0 x1 : R) (st : Bx) : callF tb (k + 1) "_law_box" [x0, x1] st = outR (b__law_box.den (callF tb k) [some x0, some x1, none, none, none] st) := callF_of t__law_box k _ st rfl
theorem t__law_take : tb "_law_take" = some ⟨2, 4, b__law_take⟩ := tbOf_find nd d__law_take (List.mem_of_getElem? (i := 23) rfl)
theorem c__law_take (k : Nat) (x0 x1 : R) (st : Bx) : callF tb (k + 1) "_law_take" [x0, x1] st = outR (b__law_take.den (callF tb k) [some x0, some x1, none, none] st) := callF_of t__law_take k _ st rfl
theorem t__law_drawn_number : tb "_law_drawn_number" = some ⟨2, 2, b__law_drawn_number⟩ := tbOf_find nd d__law_drawn_number (List.mem_of_getElem? (i := 24) rfl)
theorem c__law_drawn_number (k : Nat) (x0 x1 : R) (st : Bx) : callF tb (k + 1) "_law_drawn_number" [x0, x1] st = outR (b__law_drawn_number.den (callF tb k) [some x0, some x1] st) := callF_of t__law_drawn_number k _ st rfl
theorem t__law_drawn_point : tb "_law_drawn_point" = some ⟨3, 4, b__law_drawn_point⟩ := tbOf_find nd d__law_drawn_point (List.mem_of_getElem? (i := 25) rfl)
theorem c__law_drawn_point (k : Nat) (x0 x1 x2 : R) (st : Bx) : callF tb (k + 1) "_law_drawn_point" [x0, x1, x2] st = outR (b__law_drawn_point.den (callF tb k) [some x0, some x1, some x2, none] st) := callF_of t__law_drawn_point k _ st rfl
theorem t__law_det : tb "_law_det" = some ⟨1, 9, b__law_det⟩ := tbOf_find nd d__law_det (List.mem_of_getElem? (i := 26) rfl)
theorem c__law_det (k : Nat) (x0 : R) (st : Bx) : callF tb (k + 1) "_law_det" [x0] st = outR (b__law_det.den (callF tb k) [some x0, none, none, none, none, none, none, none, none] st) := callF_of t__law_det k _ st rfl
theorem t__law_drawn_pair : tb "_law_drawn_pair" = some ⟨2, 6, b__law_drawn_pair⟩ := tbOf_find nd d__law_drawn_pair (List.mem_of_getElem? (i := 27) rfl)
theorem c__law_drawn_pair (k : Nat) (x0 x1 : R) (st : Bx) : callF tb (k + 1) "_law_drawn_pair" [x0, x1] st = outR (b__law_drawn_pair.den (callF tb k) [some x0, some x1, none, none, none, none] st) := callF_of t__law_drawn_pair k _ st rfl
theorem t__law_drawn_three : tb "_law_drawn_three" = some ⟨2, 4, b__law_drawn_three⟩ := tbOf_find nd d__law_drawn_three (List.mem_of_getElem? (i := 28) rfl)
theorem c__law_drawn_three (k : Nat) (x0 x1 : R) (st : Bx) : callF tb (k + 1) "_law_drawn_three" [x0, x1] st = outR (b__law_drawn_three.den (callF tb k) [some x0, some x1, none, none] st) := callF_of t__law_drawn_three k _ st rfl
theorem t__law_drawn_steps : tb "_law_drawn_steps" = some ⟨2, 2, b__law_drawn_steps⟩ := tbOf_find nd d__law_drawn_steps (List.mem_of_getElem? (i := 29) rfl)
theorem c__law_drawn_steps (k : Nat) (x0 x1 : R) (st : Bx) : callF tb (k + 1) "_law_drawn_steps" [x0, x1] st = outR (b__law_drawn_steps.den (callF tb k) [some x0, some x1] st) := callF_of t__law_drawn_steps k _ st rfl
theorem t_law : tb "law" = some ⟨1, 16, b_law⟩ := tbOf_find nd d_law (List.mem_of_getElem? (i := 30) rfl)
theorem c_law (k : Nat) (x0 : R) (st : Bx) : callF tb (k + 1) "law" [x0] st = outR (b_law.den (callF tb k) [some x0, none, none, none, none, none, none, none, none, none, none, none, none, none, none, none] st) := callF_of t_law k _ st rfl
/-! ### the law's own small defs -/
theorem s_take (k n : Nat) (m x : Int) (st : Bx) (h : st[n]? = some [.int x]) (hm : 0 < m) (hd : m < 2 ^ 60) :
    callF tb (k + 1) "_law_take" [.ref n, .dat (.int m)] st = some (.dat (.int (x % m)), st.set n [.int (x / m)]) := by
  have hd := divOk_s hm hd
  rw [c__law_take]
  simp only [b__law_take, ↓reduceIte, Bool.not_true, Bool.not_false, decide_true, decide_false, wipeE, Bool.false_eq_true, y_e_c, y_e_v, y_e_g, y_e_never, y_e_bin, y_e_neg, y_e_tst, y_e_ite, y_e_tup, y_e_lst, y_e_box, y_e_ix, y_e_sl, y_e_rev, y_e_call, y_e_blt, y_e_isi, y_e_lc, y_es_nil, y_es_cons, y_o_no, y_o_yes, y_t_val, y_t_cmp, y_t_chn, y_t_isnt, y_t_isnf, z_nnr_dat, z_nnr_own, z_nnr_brw, z_nn_none, z_nn_bool, z_nn_int, z_nn_str, z_nn_list, z_nn_tuple, y_t_isb, y_t_and, y_t_or, y_t_not, y_h_last, y_h_link, y_al_one, y_al_cons, y_an_one, y_an_cons, y_c_no, y_c_yes, y_i_seq, y_i_rng, y_i_zip, y_i_enum, y_s_never, y_s_pass, y_s_asg, y_s_par, y_s_par3, y_s_setO, y_s_unp, y_s_setB, y_s_exp, y_s_app, y_s_ext, y_s_iff, y_s_whl, y_s_forr, y_s_ret, y_s_retv, y_s_frz, y_ss_nil, y_ss_cons, argsOf, views, caps, Option.map_some, Option.map_none, Option.bind_some, Option.bind_none, List.getElem?_cons_zero, List.getElem?_cons_succ, List.set_cons_zero, List.set_cons_succ, List.length_cons, List.length_nil, z_read_dat, z_read_ref, z_read_scr, z_read_own, z_view_own, z_view_brw, z_view_dat, z_cap_dat, z_cap_own, z_hold_dat, z_hold_ref, z_hold_scr, z_hold_own, z_arg_dat, z_arg_ref, z_arg_scr, z_arg_own, z_look_t, z_look_f, z_len_ref, z_len_scr, z_len_l, z_len_t, z_len_o, z_len_b, z_ix_ref, z_ix_scr, z_ix_l, z_ix_t, z_ix_o, z_ix_b, z_blt_len, z_blt_abs, z_blt_tup, z_blt_lst, z_blt_sum, z_blt_all, z_blt_any, z_blt_min, z_blt_max, z_blt_sorted, z_blt_repr, z_blt_str, z_blt_int, z_blt_divmod, z_d_abs, z_d_tupl, z_d_tupt, z_d_lstl, z_d_lstt, z_d_sum, z_d_all, z_d_any, z_d_minl, z_d_maxl, z_d_min, z_d_max, z_d_sorted, z_d_divmod, z_d_int, z_d_repr, z_d_str, z_d_strt, z_bin_i, z_bin_ll, z_bin_tt, z_bin_rep, z_add, z_sub, z_mul, z_fdiv, z_mod, z_eq, z_ne, z_lt, z_le, z_gt, z_ge, z_inl, z_int, z_ninl, z_nint, z_isi_int_none, z_isi_int_bool, z_isi_int_int, z_isi_int_str, z_isi_int_list, z_isi_int_tuple, z_isi_bool_none, z_isi_bool_bool, z_isi_bool_int, z_isi_bool_str, z_isi_bool_list, z_isi_bool_tuple, z_isi_str_none, z_isi_str_bool, z_isi_str_int, z_isi_str_str, z_isi_str_list, z_isi_str_tuple, z_isi_list_none, z_isi_list_bool, z_isi_list_int, z_isi_list_str, z_isi_list_list, z_isi_list_tuple, z_isi_tuple_none, z_isi_tuple_bool, z_isi_tuple_int, z_isi_tuple_str, z_isi_tuple_list, z_isi_tuple_tuple, z_out_rt, z_out_nx, z_eqi, z_eqb, z_rng1, z_rng2, z_si_l, z_si_t, z_bind_nm, z_bind_tt, z_bind_tl, z_binds_n, z_binds_c, z_sl_l, z_sl_t, z_at0, z_at1, z_at2, z_at3, z_ixN0, z_intsn, z_intsc, z_boolsn, z_boolsc, y_e_isx, y_e_dct, y_e_lrg, y_e_mth, y_e_orv, y_callD, y_s_expC, y_s_retC, y_s_asgC, y_s_raise, y_s_tryE, y_s_forO, z_nox_dat, z_nox_own, z_nox_ref, z_nox_scr, z_nox_exc, z_nox_n, z_read_exo, z_arg_exo, z_hold_exo, z_exEnv, y_e_ixP, y_s_retP, z_sl_s, z_bin_ss, z_d_ints, z_ins, z_nins, y_i_sgn, h, hm, hd]
theorem s_cell (k : Nat) (ns : List Int) (i : Nat) (st : Bx) : ∃ c : Int, callF tb (k + 1) "_law_cell" [.scr ns, .dat (.int i)] st = some (.dat (.int c), st) := by
  rw [c__law_cell]
  by_cases hi : i < ns.length
  · refine ⟨ns[i], ?_⟩
    simp only [b__law_cell, ↓reduceIte, Bool.not_true, Bool.not_false, decide_true, decide_false, wipeE, Bool.false_eq_true, y_e_c, y_e_v, y_e_g, y_e_never, y_e_bin, y_e_neg, y_e_tst, y_e_ite, y_e_tup, y_e_lst, y_e_box, y_e_ix, y_e_sl, y_e_rev, y_e_call, y_e_blt, y_e_isi, y_e_lc, y_es_nil, y_es_cons, y_o_no, y_o_yes, y_t_val, y_t_cmp, y_t_chn, y_t_isnt, y_t_isnf, z_nnr_dat, z_nnr_own, z_nnr_brw, z_nn_none, z_nn_bool, z_nn_int, z_nn_str, z_nn_list, z_nn_tuple, y_t_isb, y_t_and, y_t_or, y_t_not, y_h_last, y_h_link, y_al_one, y_al_cons, y_an_one, y_an_cons, y_c_no, y_c_yes, y_i_seq, y_i_rng, y_i_zip, y_i_enum, y_s_never, y_s_pass, y_s_asg, y_s_par, y_s_par3, y_s_setO, y_s_unp, y_s_setB, y_s_exp, y_s_app, y_s_ext, y_s_iff, y_s_whl, y_s_forr, y_s_ret, y_s_retv, y_s_frz, y_ss_nil, y_ss_cons, argsOf, views, caps, Option.map_some, Option.map_none, Option.bind_some, Option.bind_none, List.getElem?_cons_zero, List.getElem?_cons_succ, List.set_cons_zero, List.set_cons_succ, List.length_cons, List.length_nil, z_read_dat, z_read_ref, z_read_scr, z_read_own, z_view_own, z_view_brw, z_view_dat, z_cap_dat, z_cap_own, z_hold_dat, z_hold_ref, z_hold_scr, z_hold_own, z_arg_dat, z_arg_ref, z_arg_scr, z_arg_own, z_look_t, z_look_f, z_len_ref, z_len_scr, z_len_l, z_len_t, z_len_o, z_len_b, z_ix_ref, z_ix_scr, z_ix_l, z_ix_t, z_ix_o, z_ix_b, z_blt_len, z_blt_abs, z_blt_tup, z_blt_lst, z_blt_sum, z_blt_all, z_blt_any, z_blt_min, z_blt_max, z_blt_sorted, z_blt_repr, z_blt_str, z_blt_int, z_blt_divmod, z_d_abs, z_d_tupl, z_d_tupt, z_d_lstl, z_d_lstt, z_d_sum, z_d_all, z_d_any, z_d_minl, z_d_maxl, z_d_min, z_d_max, z_d_sorted, z_d_divmod, z_d_int, z_d_repr, z_d_str, z_d_strt, z_bin_i, z_bin_ll, z_bin_tt, z_bin_rep, z_add, z_sub, z_mul, z_fdiv, z_mod, z_eq, z_ne, z_lt, z_le, z_gt, z_ge, z_inl, z_int, z_ninl, z_nint, z_isi_int_none, z_isi_int_bool, z_isi_int_int, z_isi_int_str, z_isi_int_list, z_isi_int_tuple, z_isi_bool_none, z_isi_bool_bool, z_isi_bool_int, z_isi_bool_str, z_isi_bool_list, z_isi_bool_tuple, z_isi_str_none, z_isi_str_bool, z_isi_str_int, z_isi_str_str, z_isi_str_list, z_isi_str_tuple, z_isi_list_none, z_isi_list_bool, z_isi_list_int, z_isi_list_str, z_isi_list_list, z_isi_list_tuple, z_isi_tuple_none, z_isi_tuple_bool, z_isi_tuple_int, z_isi_tuple_str, z_isi_tuple_list, z_isi_tuple_tuple, z_out_rt, z_out_nx, z_eqi, z_eqb, z_rng1, z_rng2, z_si_l, z_si_t, z_bind_nm, z_bind_tt, z_bind_tl, z_binds_n, z_binds_c, z_sl_l, z_sl_t, z_at0, z_at1, z_at2, z_at3, z_ixN0, z_intsn, z_intsc, z_boolsn, z_boolsc, y_e_isx, y_e_dct, y_e_lrg, y_e_mth, y_e_orv, y_callD, y_s_expC, y_s_retC, y_s_asgC, y_s_raise, y_s_tryE, y_s_forO, z_nox_dat, z_nox_own, z_nox_ref, z_nox_scr, z_nox_exc, z_nox_n, z_read_exo, z_arg_exo, z_hold_exo, z_exEnv, y_e_ixP, y_s_retP, z_sl_s, z_bin_ss, z_d_ints, z_ins, z_nins, y_i_sgn, Int.ofNat_lt, hi, decide_true, atI_nat (List.getElem?_eq_getElem hi)]
  · refine ⟨0, ?_⟩
    simp only [b__law_cell, ↓reduceIte, Bool.not_true, Bool.not_false, decide_true, decide_false, wipeE, Bool.false_eq_true, y_e_c, y_e_v, y_e_g, y_e_never, y_e_bin, y_e_neg, y_e_tst, y_e_ite, y_e_tup, y_e_lst, y_e_box, y_e_ix, y_e_sl, y_e_rev, y_e_call, y_e_blt, y_e_isi, y_e_lc, y_es_nil, y_es_cons, y_o_no, y_o_yes, y_t_val, y_t_cmp, y_t_chn, y_t_isnt, y_t_isnf, z_nnr_dat, z_nnr_own, z_nnr_brw, z_nn_none, z_nn_bool, z_nn_int, z_nn_str, z_nn_list, z_nn_tuple, y_t_isb, y_t_and, y_t_or, y_t_not, y_h_last, y_h_link, y_al_one, y_al_cons, y_an_one, y_an_cons, y_c_no, y_c_yes, y_i_seq, y_i_rng, y_i_zip, y_i_enum, y_s_never, y_s_pass, y_s_asg, y_s_par, y_s_par3, y_s_setO, y_s_unp, y_s_setB, y_s_exp, y_s_app, y_s_ext, y_s_iff, y_s_whl, y_s_forr, y_s_ret, y_s_retv, y_s_frz, y_ss_nil, y_ss_cons, argsOf, views, caps, Option.map_some, Option.map_none, Option.bind_some, Option.bind_none, List.getElem?_cons_zero, List.getElem?_cons_succ, List.set_cons_zero, List.set_cons_succ, List.length_cons, List.length_nil, z_read_dat, z_read_ref, z_read_scr, z_read_own, z_view_own, z_view_brw, z_view_dat, z_cap_dat, z_cap_own, z_hold_dat, z_hold_ref, z_hold_scr, z_hold_own, z_arg_dat, z_arg_ref, z_arg_scr, z_arg_own, z_look_t, z_look_f, z_len_ref, z_len_scr, z_len_l, z_len_t, z_len_o, z_len_b, z_ix_ref, z_ix_scr, z_ix_l, z_ix_t, z_ix_o, z_ix_b, z_blt_len, z_blt_abs, z_blt_tup, z_blt_lst, z_blt_sum, z_blt_all, z_blt_any, z_blt_min, z_blt_max, z_blt_sorted, z_blt_repr, z_blt_str, z_blt_int, z_blt_divmod, z_d_abs, z_d_tupl, z_d_tupt, z_d_lstl, z_d_lstt, z_d_sum, z_d_all, z_d_any, z_d_minl, z_d_maxl, z_d_min, z_d_max, z_d_sorted, z_d_divmod, z_d_int, z_d_repr, z_d_str, z_d_strt, z_bin_i, z_bin_ll, z_bin_tt, z_bin_rep, z_add, z_sub, z_mul, z_fdiv, z_mod, z_eq, z_ne, z_lt, z_le, z_gt, z_ge, z_inl, z_int, z_ninl, z_nint, z_isi_int_none, z_isi_int_bool, z_isi_int_int, z_isi_int_str, z_isi_int_list, z_isi_int_tuple, z_isi_bool_none, z_isi_bool_bool, z_isi_bool_int, z_isi_bool_str, z_isi_bool_list, z_isi_bool_tuple, z_isi_str_none, z_isi_str_bool, z_isi_str_int, z_isi_str_str, z_isi_str_list, z_isi_str_tuple, z_isi_list_none, z_isi_list_bool, z_isi_list_int, z_isi_list_str, z_isi_list_list, z_isi_list_tuple, z_isi_tuple_none, z_isi_tuple_bool, z_isi_tuple_int, z_isi_tuple_str, z_isi_tuple_list, z_isi_tuple_tuple, z_out_rt, z_out_nx, z_eqi, z_eqb, z_rng1, z_rng2, z_si_l, z_si_t, z_bind_nm, z_bind_tt, z_bind_tl, z_binds_n, z_binds_c, z_sl_l, z_sl_t, z_at0, z_at1, z_at2, z_at3, z_ixN0, z_intsn, z_intsc, z_boolsn, z_boolsc, y_e_isx, y_e_dct, y_e_lrg, y_e_mth, y_e_orv, y_callD, y_s_expC, y_s_retC, y_s_asgC, y_s_raise, y_s_tryE, y_s_forO, z_nox_dat, z_nox_own, z_nox_ref, z_nox_scr, z_nox_exc, z_nox_n, z_read_exo, z_arg_exo, z_hold_exo, z_exEnv, y_e_ixP, y_s_retP, z_sl_s, z_bin_ss, z_d_ints, z_ins, z_nins, y_i_sgn, Int.ofNat_lt, hi, decide_false]
theorem s_mix (k : Nat) (c j : Int) (st : Bx) (h0 : 0 ≤ j) (h1 : j < 1000) : ∃ m : Int, 0 ≤ m ∧ m < 1000000007 ∧ callF tb (k + 1) "_law_mix" [.dat (.int c), .dat (.int j)] st = some (.dat (.int m), st) := by
  rw [c__law_mix]
  have hA : ∃ x : Int, (0 ≤ x ∧ x < 100000) ∧ atI [PyData.int 48271, PyData.int 69621, PyData.int 16807, PyData.int 39373, PyData.int 30269, PyData.int 40014, PyData.int 40692, PyData.int 50021, PyData.int 61687, PyData.int 71993, PyData.int 83869, PyData.int 95561, PyData.int 30307] (j % 13) = some (.int x) := by
    obtain ⟨x, hx, e⟩ := atI_ints (l := [48271, 69621, 16807, 39373, 30269, 40014, 40692, 50021, 61687, 71993, 83869, 95561, 30307]) (i := j % 13) (by omega) (by simp only [List.length_cons, List.length_nil]; omega)
    refine ⟨x, ?_, e⟩
    have hall : ∀ x ∈ [(48271 : Int), 69621, 16807, 39373, 30269, 40014, 40692, 50021, 61687, 71993, 83869, 95561, 30307], 0 ≤ x ∧ x < 100000 := by decide
    exact hall x hx
  obtain ⟨x, ⟨hx0, hx1⟩, hx⟩ := hA
  have hm : ∃ a : Int, (c % 2147483647 + 12345) = a ∧ 0 ≤ a ∧ a < 3000000000 := ⟨_, rfl, by omega, by omega⟩
  obtain ⟨a, ea, ha0, ha1⟩ := hm
  have m1 : mulOk a x = true := mulOk_s (by omega) (by omega) (by omega) (by omega)
  have m2 : mulOk 977 j = true := mulOk_s (by omega) (by omega) (by omega) (by omega)
  have m3 : mulOk 7919 (j / 13) = true := mulOk_s (by omega) (by omega) (by omega) (by omega)
  have m4 : mulOk 48271 j = true := mulOk_s (by omega) (by omega) (by omega) (by omega)
  obtain ⟨s, es⟩ : ∃ s : Int, (a * x + 977 * j + 7919 * (j / 13)) % 1000000007 = s := ⟨_, rfl⟩
  have m5 : mulOk s s = true := mulOk_s (by omega) (by omega) (by omega) (by omega)
  refine ⟨(s * s + 48271 * j) % 1000000007 / 7, by omega, by omega, ?_⟩
  have d13 : divOk 13 = true := by decide
  have d7 : divOk 7 = true := by decide
  have f13 : fitsL 13 = true := by decide
  simp (decide := true) only [b__law_mix, ↓reduceIte, Bool.not_true, Bool.not_false, decide_true, decide_false, wipeE, Bool.false_eq_true, y_e_c, y_e_v, y_e_g, y_e_never, y_e_bin, y_e_neg, y_e_tst, y_e_ite, y_e_tup, y_e_lst, y_e_box, y_e_ix, y_e_sl, y_e_rev, y_e_call, y_e_blt, y_e_isi, y_e_lc, y_es_nil, y_es_cons, y_o_no, y_o_yes, y_t_val, y_t_cmp, y_t_chn, y_t_isnt, y_t_isnf, z_nnr_dat, z_nnr_own, z_nnr_brw, z_nn_none, z_nn_bool, z_nn_int, z_nn_str, z_nn_list, z_nn_tuple, y_t_isb, y_t_and, y_t_or, y_t_not, y_h_last, y_h_link, y_al_one, y_al_cons, y_an_one, y_an_cons, y_c_no, y_c_yes, y_i_seq, y_i_rng, y_i_zip, y_i_enum, y_s_never, y_s_pass, y_s_asg, y_s_par, y_s_par3, y_s_setO, y_s_unp, y_s_setB, y_s_exp, y_s_app, y_s_ext, y_s_iff, y_s_whl, y_s_forr, y_s_ret, y_s_retv, y_s_frz, y_ss_nil, y_ss_cons, argsOf, views, caps, Option.map_some, Option.map_none, Option.bind_some, Option.bind_none, List.getElem?_cons_zero, List.getElem?_cons_succ, List.set_cons_zero, List.set_cons_succ, List.length_cons, List.length_nil, z_read_dat, z_read_ref, z_read_scr, z_read_own, z_view_own, z_view_brw, z_view_dat, z_cap_dat, z_cap_own, z_hold_dat, z_hold_ref, z_hold_scr, z_hold_own, z_arg_dat, z_arg_ref, z_arg_scr, z_arg_own, z_look_t, z_look_f, z_len_ref, z_len_scr, z_len_l, z_len_t, z_len_o, z_len_b, z_ix_ref, z_ix_scr, z_ix_l, z_ix_t, z_ix_o, z_ix_b, z_blt_len, z_blt_abs, z_blt_tup, z_blt_lst, z_blt_sum, z_blt_all, z_blt_any, z_blt_min, z_blt_max, z_blt_sorted, z_blt_repr, z_blt_str, z_blt_int, z_blt_divmod, z_d_abs, z_d_tupl, z_d_tupt, z_d_lstl, z_d_lstt, z_d_sum, z_d_all, z_d_any, z_d_minl, z_d_maxl, z_d_min, z_d_max, z_d_sorted, z_d_divmod, z_d_int, z_d_repr, z_d_str, z_d_strt, z_bin_i, z_bin_ll, z_bin_tt, z_bin_rep, z_add, z_sub, z_mul, z_fdiv, z_mod, z_eq, z_ne, z_lt, z_le, z_gt, z_ge, z_inl, z_int, z_ninl, z_nint, z_isi_int_none, z_isi_int_bool, z_isi_int_int, z_isi_int_str, z_isi_int_list, z_isi_int_tuple, z_isi_bool_none, z_isi_bool_bool, z_isi_bool_int, z_isi_bool_str, z_isi_bool_list, z_isi_bool_tuple, z_isi_str_none, z_isi_str_bool, z_isi_str_int, z_isi_str_str, z_isi_str_list, z_isi_str_tuple, z_isi_list_none, z_isi_list_bool, z_isi_list_int, z_isi_list_str, z_isi_list_list, z_isi_list_tuple, z_isi_tuple_none, z_isi_tuple_bool, z_isi_tuple_int, z_isi_tuple_str, z_isi_tuple_list, z_isi_tuple_tuple, z_out_rt, z_out_nx, z_eqi, z_eqb, z_rng1, z_rng2, z_si_l, z_si_t, z_bind_nm, z_bind_tt, z_bind_tl, z_binds_n, z_binds_c, z_sl_l, z_sl_t, z_at0, z_at1, z_at2, z_at3, z_ixN0, z_intsn, z_intsc, z_boolsn, z_boolsc, y_e_isx, y_e_dct, y_e_lrg, y_e_mth, y_e_orv, y_callD, y_s_expC, y_s_retC, y_s_asgC, y_s_raise, y_s_tryE, y_s_forO, z_nox_dat, z_nox_own, z_nox_ref, z_nox_scr, z_nox_exc, z_nox_n, z_read_exo, z_arg_exo, z_hold_exo, z_exEnv, y_e_ixP, y_s_retP, z_sl_s, z_bin_ss, z_d_ints, z_ins, z_nins, y_i_sgn, d13, d7, f13, hx, ea, m1, m2, m3, m4, m5, es, List.map_cons]
theorem pow_grow (j : Nat) : (2 : Nat) ^ (30 * (j + 1)) = 2 ^ (30 * j) * 1073741824 := by
  rw [Nat.mul_add, Nat.pow_add]
theorem s_box (k : Nat) (ns : List Int) (i : Nat) (st : Bx) : ∃ n : Int, 0 ≤ n ∧ callF tb (k + 2) "_law_box" [.scr ns, .dat (.int i)] st = some (.ref st.length, st ++ [[.int n]]) := by
  rw [c__law_box]
  obtain ⟨c, hc⟩ := s_cell k ns i st
  have d2 : divOk 2 = true := by decide
  have f1 : fitsL 1 = true := by decide
  by_cases he : c % 2 = 0
  · refine ⟨(c.natAbs : Int) / 2, by omega, ?_⟩
    simp (decide := true) only [b__law_box, ↓reduceIte, Bool.not_true, Bool.not_false, decide_true, decide_false, wipeE, Bool.false_eq_true, y_e_c, y_e_v, y_e_g, y_e_never, y_e_bin, y_e_neg, y_e_tst, y_e_ite, y_e_tup, y_e_lst, y_e_box, y_e_ix, y_e_sl, y_e_rev, y_e_call, y_e_blt, y_e_isi, y_e_lc, y_es_nil, y_es_cons, y_o_no, y_o_yes, y_t_val, y_t_cmp, y_t_chn, y_t_isnt, y_t_isnf, z_nnr_dat, z_nnr_own, z_nnr_brw, z_nn_none, z_nn_bool, z_nn_int, z_nn_str, z_nn_list, z_nn_tuple, y_t_isb, y_t_and, y_t_or, y_t_not, y_h_last, y_h_link, y_al_one, y_al_cons, y_an_one, y_an_cons, y_c_no, y_c_yes, y_i_seq, y_i_rng, y_i_zip, y_i_enum, y_s_never, y_s_pass, y_s_asg, y_s_par, y_s_par3, y_s_setO, y_s_unp, y_s_setB, y_s_exp, y_s_app, y_s_ext, y_s_iff, y_s_whl, y_s_forr, y_s_ret, y_s_retv, y_s_frz, y_ss_nil, y_ss_cons, argsOf, views, caps, Option.map_some, Option.map_none, Option.bind_some, Option.bind_none, List.getElem?_cons_zero, List.getElem?_cons_succ, List.set_cons_zero, List.set_cons_succ, List.length_cons, List.length_nil, z_read_dat, z_read_ref, z_read_scr, z_read_own, z_view_own, z_view_brw, z_view_dat, z_cap_dat, z_cap_own, z_hold_dat, z_hold_ref, z_hold_scr, z_hold_own, z_arg_dat, z_arg_ref, z_arg_scr, z_arg_own, z_look_t, z_look_f, z_len_ref, z_len_scr, z_len_l, z_len_t, z_len_o, z_len_b, z_ix_ref, z_ix_scr, z_ix_l, z_ix_t, z_ix_o, z_ix_b, z_blt_len, z_blt_abs, z_blt_tup, z_blt_lst, z_blt_sum, z_blt_all, z_blt_any, z_blt_min, z_blt_max, z_blt_sorted, z_blt_repr, z_blt_str, z_blt_int, z_blt_divmod, z_d_abs, z_d_tupl, z_d_tupt, z_d_lstl, z_d_lstt, z_d_sum, z_d_all, z_d_any, z_d_minl, z_d_maxl, z_d_min, z_d_max, z_d_sorted, z_d_divmod, z_d_int, z_d_repr, z_d_str, z_d_strt, z_bin_i, z_bin_ll, z_bin_tt, z_bin_rep, z_add, z_sub, z_mul, z_fdiv, z_mod, z_eq, z_ne, z_lt, z_le, z_gt, z_ge, z_inl, z_int, z_ninl, z_nint, z_isi_int_none, z_isi_int_bool, z_isi_int_int, z_isi_int_str, z_isi_int_list, z_isi_int_tuple, z_isi_bool_none, z_isi_bool_bool, z_isi_bool_int, z_isi_bool_str, z_isi_bool_list, z_isi_bool_tuple, z_isi_str_none, z_isi_str_bool, z_isi_str_int, z_isi_str_str, z_isi_str_list, z_isi_str_tuple, z_isi_list_none, z_isi_list_bool, z_isi_list_int, z_isi_list_str, z_isi_list_list, z_isi_list_tuple, z_isi_tuple_none, z_isi_tuple_bool, z_isi_tuple_int, z_isi_tuple_str, z_isi_tuple_list, z_isi_tuple_tuple, z_out_rt, z_out_nx, z_eqi, z_eqb, z_rng1, z_rng2, z_si_l, z_si_t, z_bind_nm, z_bind_tt, z_bind_tl, z_binds_n, z_binds_c, z_sl_l, z_sl_t, z_at0, z_at1, z_at2, z_at3, z_ixN0, z_intsn, z_intsc, z_boolsn, z_boolsc, y_e_isx, y_e_dct, y_e_lrg, y_e_mth, y_e_orv, y_callD, y_s_expC, y_s_retC, y_s_asgC, y_s_raise, y_s_tryE, y_s_forO, z_nox_dat, z_nox_own, z_nox_ref, z_nox_scr, z_nox_exc, z_nox_n, z_read_exo, z_arg_exo, z_hold_exo, z_exEnv, y_e_ixP, y_s_retP, z_sl_s, z_bin_ss, z_d_ints, z_ins, z_nins, y_i_sgn, hc, d2, f1, he]
  · have r40 : rngOk 40 = true := by decide
    obtain ⟨env1, st2, e1, x, n, hn0, hn1, e2, e3⟩ := den_for (cf := callF tb (k + 1)) (tg := .nm 4) (it := .rng (.cons (.c (.int 40)) .nil)) (b := lb__law_box_1) (env := [some (.scr ns), some (.dat (.int i)), some (.dat (.int c)), some (.dat (.int 0)), none]) (st := st) (st1 := st) (items := rngItems 0 40)
      (by simp only [↓reduceIte, Bool.not_true, Bool.not_false, decide_true, decide_false, wipeE, Bool.false_eq_true, y_e_c, y_e_v, y_e_g, y_e_never, y_e_bin, y_e_neg, y_e_tst, y_e_ite, y_e_tup, y_e_lst, y_e_box, y_e_ix, y_e_sl, y_e_rev, y_e_call, y_e_blt, y_e_isi, y_e_lc, y_es_nil, y_es_cons, y_o_no, y_o_yes, y_t_val, y_t_cmp, y_t_chn, y_t_isnt, y_t_isnf, z_nnr_dat, z_nnr_own, z_nnr_brw, z_nn_none, z_nn_bool, z_nn_int, z_nn_str, z_nn_list, z_nn_tuple, y_t_isb, y_t_and, y_t_or, y_t_not, y_h_last, y_h_link, y_al_one, y_al_cons, y_an_one, y_an_cons, y_c_no, y_c_yes, y_i_seq, y_i_rng, y_i_zip, y_i_enum, y_s_never, y_s_pass, y_s_asg, y_s_par, y_s_par3, y_s_setO, y_s_unp, y_s_setB, y_s_exp, y_s_app, y_s_ext, y_s_iff, y_s_whl, y_s_forr, y_s_ret, y_s_retv, y_s_frz, y_ss_nil, y_ss_cons, argsOf, views, caps, Option.map_some, Option.map_none, Option.bind_some, Option.bind_none, List.getElem?_cons_zero, List.getElem?_cons_succ, List.set_cons_zero, List.set_cons_succ, List.length_cons, List.length_nil, z_read_dat, z_read_ref, z_read_scr, z_read_own, z_view_own, z_view_brw, z_view_dat, z_cap_dat, z_cap_own, z_hold_dat, z_hold_ref, z_hold_scr, z_hold_own, z_arg_dat, z_arg_ref, z_arg_scr, z_arg_own, z_look_t, z_look_f, z_len_ref, z_len_scr, z_len_l, z_len_t, z_len_o, z_len_b, z_ix_ref, z_ix_scr, z_ix_l, z_ix_t, z_ix_o, z_ix_b, z_blt_len, z_blt_abs, z_blt_tup, z_blt_lst, z_blt_sum, z_blt_all, z_blt_any, z_blt_min, z_blt_max, z_blt_sorted, z_blt_repr, z_blt_str, z_blt_int, z_blt_divmod, z_d_abs, z_d_tupl, z_d_tupt, z_d_lstl, z_d_lstt, z_d_sum, z_d_all, z_d_any, z_d_minl, z_d_maxl, z_d_min, z_d_max, z_d_sorted, z_d_divmod, z_d_int, z_d_repr, z_d_str, z_d_strt, z_bin_i, z_bin_ll, z_bin_tt, z_bin_rep, z_add, z_sub, z_mul, z_fdiv, z_mod, z_eq, z_ne, z_lt, z_le, z_gt, z_ge, z_inl, z_int, z_ninl, z_nint, z_isi_int_none, z_isi_int_bool, z_isi_int_int, z_isi_int_str, z_isi_int_list, z_isi_int_tuple, z_isi_bool_none, z_isi_bool_bool, z_isi_bool_int, z_isi_bool_str, z_isi_bool_list, z_isi_bool_tuple, z_isi_str_none, z_isi_str_bool, z_isi_str_int, z_isi_str_str, z_isi_str_list, z_isi_str_tuple, z_isi_list_none, z_isi_list_bool, z_isi_list_int, z_isi_list_str, z_isi_list_list, z_isi_list_tuple, z_isi_tuple_none, z_isi_tuple_bool, z_isi_tuple_int, z_isi_tuple_str, z_isi_tuple_list, z_isi_tuple_tuple, z_out_rt, z_out_nx, z_eqi, z_eqb, z_rng1, z_rng2, z_si_l, z_si_t, z_bind_nm, z_bind_tt, z_bind_tl, z_binds_n, z_binds_c, z_sl_l, z_sl_t, z_at0, z_at1, z_at2, z_at3, z_ixN0, z_intsn, z_intsc, z_boolsn, z_boolsc, y_e_isx, y_e_dct, y_e_lrg, y_e_mth, y_e_orv, y_callD, y_s_expC, y_s_retC, y_s_asgC, y_s_raise, y_s_tryE, y_s_forO, z_nox_dat, z_nox_own, z_nox_ref, z_nox_scr, z_nox_exc, z_nox_n, z_read_exo, z_arg_exo, z_hold_exo, z_exEnv, y_e_ixP, y_s_retP, z_sl_s, z_bin_ss, z_d_ints, z_ins, z_nins, y_i_sgn, r40]; rfl)
      (fun j env s => ∃ (x : Option R) (n : Int), 0 ≤ n ∧ n.natAbs < 2 ^ (30 * j) ∧ env = [some (.scr ns), some (.dat (.int i)), some (.dat (.int c)), some (.dat (.int n)), x] ∧ s = st)
      ⟨none, 0, by omega, by decide, rfl, rfl⟩ fun j d env s hd ⟨x, n, hn0, hn1, e, es⟩ => by
        obtain ⟨hj, ed⟩ := rngItems_get hd
        subst ed e es
        obtain ⟨m, hm0, hm1, hm⟩ := s_mix k c (0 + (j : Int)) s (by omega) (by omega)
        have mo : mulOk n 142857143 = true := mulOk_of (a := 30 * j) (b := 30) hn1 (by decide) (by omega)
        refine ⟨_, [some (.scr ns), some (.dat (.int i)), some (.dat (.int c)), some (.dat (.int (n * 142857143 + m))), some (.dat (.int (0 + (j : Int))))], s, z_bind_nm _ _ _, ?_, _, _, by omega, ?_, rfl, rfl⟩
        · simp only [lb__law_box_1, ↓reduceIte, Bool.not_true, Bool.not_false, decide_true, decide_false, wipeE, Bool.false_eq_true, y_e_c, y_e_v, y_e_g, y_e_never, y_e_bin, y_e_neg, y_e_tst, y_e_ite, y_e_tup, y_e_lst, y_e_box, y_e_ix, y_e_sl, y_e_rev, y_e_call, y_e_blt, y_e_isi, y_e_lc, y_es_nil, y_es_cons, y_o_no, y_o_yes, y_t_val, y_t_cmp, y_t_chn, y_t_isnt, y_t_isnf, z_nnr_dat, z_nnr_own, z_nnr_brw, z_nn_none, z_nn_bool, z_nn_int, z_nn_str, z_nn_list, z_nn_tuple, y_t_isb, y_t_and, y_t_or, y_t_not, y_h_last, y_h_link, y_al_one, y_al_cons, y_an_one, y_an_cons, y_c_no, y_c_yes, y_i_seq, y_i_rng, y_i_zip, y_i_enum, y_s_never, y_s_pass, y_s_asg, y_s_par, y_s_par3, y_s_setO, y_s_unp, y_s_setB, y_s_exp, y_s_app, y_s_ext, y_s_iff, y_s_whl, y_s_forr, y_s_ret, y_s_retv, y_s_frz, y_ss_nil, y_ss_cons, argsOf, views, caps, Option.map_some, Option.map_none, Option.bind_some, Option.bind_none, List.getElem?_cons_zero, List.getElem?_cons_succ, List.set_cons_zero, List.set_cons_succ, List.length_cons, List.length_nil, z_read_dat, z_read_ref, z_read_scr, z_read_own, z_view_own, z_view_brw, z_view_dat, z_cap_dat, z_cap_own, z_hold_dat, z_hold_ref, z_hold_scr, z_hold_own, z_arg_dat, z_arg_ref, z_arg_scr, z_arg_own, z_look_t, z_look_f, z_len_ref, z_len_scr, z_len_l, z_len_t, z_len_o, z_len_b, z_ix_ref, z_ix_scr, z_ix_l, z_ix_t, z_ix_o, z_ix_b, z_blt_len, z_blt_abs, z_blt_tup, z_blt_lst, z_blt_sum, z_blt_all, z_blt_any, z_blt_min, z_blt_max, z_blt_sorted, z_blt_repr, z_blt_str, z_blt_int, z_blt_divmod, z_d_abs, z_d_tupl, z_d_tupt, z_d_lstl, z_d_lstt, z_d_sum, z_d_all, z_d_any, z_d_minl, z_d_maxl, z_d_min, z_d_max, z_d_sorted, z_d_divmod, z_d_int, z_d_repr, z_d_str, z_d_strt, z_bin_i, z_bin_ll, z_bin_tt, z_bin_rep, z_add, z_sub, z_mul, z_fdiv, z_mod, z_eq, z_ne, z_lt, z_le, z_gt, z_ge, z_inl, z_int, z_ninl, z_nint, z_isi_int_none, z_isi_int_bool, z_isi_int_int, z_isi_int_str, z_isi_int_list, z_isi_int_tuple, z_isi_bool_none, z_isi_bool_bool, z_isi_bool_int, z_isi_bool_str, z_isi_bool_list, z_isi_bool_tuple, z_isi_str_none, z_isi_str_bool, z_isi_str_int, z_isi_str_str, z_isi_str_list, z_isi_str_tuple, z_isi_list_none, z_isi_list_bool, z_isi_list_int, z_isi_list_str, z_isi_list_list, z_isi_list_tuple, z_isi_tuple_none, z_isi_tuple_bool, z_isi_tuple_int, z_isi_tuple_str, z_isi_tuple_list, z_isi_tuple_tuple, z_out_rt, z_out_nx, z_eqi, z_eqb, z_rng1, z_rng2, z_si_l, z_si_t, z_bind_nm, z_bind_tt, z_bind_tl, z_binds_n, z_binds_c, z_sl_l, z_sl_t, z_at0, z_at1, z_at2, z_at3, z_ixN0, z_intsn, z_intsc, z_boolsn, z_boolsc, y_e_isx, y_e_dct, y_e_lrg, y_e_mth, y_e_orv, y_callD, y_s_expC, y_s_retC, y_s_asgC, y_s_raise, y_s_tryE, y_s_forO, z_nox_dat, z_nox_own, z_nox_ref, z_nox_scr, z_nox_exc, z_nox_n, z_read_exo, z_arg_exo, z_hold_exo, z_exEnv, y_e_ixP, y_s_retP, z_sl_s, z_bin_ss, z_d_ints, z_ins, z_nins, y_i_sgn, hm, mo]
        · rw [pow_grow]
          have : 1 ≤ 2 ^ (30 * j) := Nat.one_le_two_pow
          omega
    subst e2 e3
    refine ⟨n, hn0, ?_⟩
    have e1' : Stm.den (callF tb (k + 1)) l__law_box_1 [some (.scr ns), some (.dat (.int i)), some (.dat (.int c)), some (.dat (.int 0)), none] st2 = _ := e1
    simp (decide := true) only [b__law_box, ↓reduceIte, Bool.not_true, Bool.not_false, decide_true, decide_false, wipeE, Bool.false_eq_true, y_e_c, y_e_v, y_e_g, y_e_never, y_e_bin, y_e_neg, y_e_tst, y_e_ite, y_e_tup, y_e_lst, y_e_box, y_e_ix, y_e_sl, y_e_rev, y_e_call, y_e_blt, y_e_isi, y_e_lc, y_es_nil, y_es_cons, y_o_no, y_o_yes, y_t_val, y_t_cmp, y_t_chn, y_t_isnt, y_t_isnf, z_nnr_dat, z_nnr_own, z_nnr_brw, z_nn_none, z_nn_bool, z_nn_int, z_nn_str, z_nn_list, z_nn_tuple, y_t_isb, y_t_and, y_t_or, y_t_not, y_h_last, y_h_link, y_al_one, y_al_cons, y_an_one, y_an_cons, y_c_no, y_c_yes, y_i_seq, y_i_rng, y_i_zip, y_i_enum, y_s_never, y_s_pass, y_s_asg, y_s_par, y_s_par3, y_s_setO, y_s_unp, y_s_setB, y_s_exp, y_s_app, y_s_ext, y_s_iff, y_s_whl, y_s_forr, y_s_ret, y_s_retv, y_s_frz, y_ss_nil, y_ss_cons, argsOf, views, caps, Option.map_some, Option.map_none, Option.bind_some, Option.bind_none, List.getElem?_cons_zero, List.getElem?_cons_succ, List.set_cons_zero, List.set_cons_succ, List.length_cons, List.length_nil, z_read_dat, z_read_ref, z_read_scr, z_read_own, z_view_own, z_view_brw, z_view_dat, z_cap_dat, z_cap_own, z_hold_dat, z_hold_ref, z_hold_scr, z_hold_own, z_arg_dat, z_arg_ref, z_arg_scr, z_arg_own, z_look_t, z_look_f, z_len_ref, z_len_scr, z_len_l, z_len_t, z_len_o, z_len_b, z_ix_ref, z_ix_scr, z_ix_l, z_ix_t, z_ix_o, z_ix_b, z_blt_len, z_blt_abs, z_blt_tup, z_blt_lst, z_blt_sum, z_blt_all, z_blt_any, z_blt_min, z_blt_max, z_blt_sorted, z_blt_repr, z_blt_str, z_blt_int, z_blt_divmod, z_d_abs, z_d_tupl, z_d_tupt, z_d_lstl, z_d_lstt, z_d_sum, z_d_all, z_d_any, z_d_minl, z_d_maxl, z_d_min, z_d_max, z_d_sorted, z_d_divmod, z_d_int, z_d_repr, z_d_str, z_d_strt, z_bin_i, z_bin_ll, z_bin_tt, z_bin_rep, z_add, z_sub, z_mul, z_fdiv, z_mod, z_eq, z_ne, z_lt, z_le, z_gt, z_ge, z_inl, z_int, z_ninl, z_nint, z_isi_int_none, z_isi_int_bool, z_isi_int_int, z_isi_int_str, z_isi_int_list, z_isi_int_tuple, z_isi_bool_none, z_isi_bool_bool, z_isi_bool_int, z_isi_bool_str, z_isi_bool_list, z_isi_bool_tuple, z_isi_str_none, z_isi_str_bool, z_isi_str_int, z_isi_str_str, z_isi_str_list, z_isi_str_tuple, z_isi_list_none, z_isi_list_bool, z_isi_list_int, z_isi_list_str, z_isi_list_list, z_isi_list_tuple, z_isi_tuple_none, z_isi_tuple_bool, z_isi_tuple_int, z_isi_tuple_str, z_isi_tuple_list, z_isi_tuple_tuple, z_out_rt, z_out_nx, z_eqi, z_eqb, z_rng1, z_rng2, z_si_l, z_si_t, z_bind_nm, z_bind_tt, z_bind_tl, z_binds_n, z_binds_c, z_sl_l, z_sl_t, z_at0, z_at1, z_at2, z_at3, z_ixN0, z_intsn, z_intsc, z_boolsn, z_boolsc, y_e_isx, y_e_dct, y_e_lrg, y_e_mth, y_e_orv, y_callD, y_s_expC, y_s_retC, y_s_asgC, y_s_raise, y_s_tryE, y_s_forO, z_nox_dat, z_nox_own, z_nox_ref, z_nox_scr, z_nox_exc, z_nox_n, z_read_exo, z_arg_exo, z_hold_exo, z_exEnv, y_e_ixP, y_s_retP, z_sl_s, z_bin_ss, z_d_ints, z_ins, z_nins, y_i_sgn, hc, d2, f1, he, e1']

/-! whole numbers -/
def isW : PyData → Bool
  | .int _ => true
  | _ => false
theorem s_is_whole (k : Nat) (d : PyData) (st : Bx) : callF tb (k + 1) "is_whole" [.dat d] st = some (.dat (.bool (isW d)), st) := by
  rw [c_is_whole]
  have z1 : ∀ (t : Ty) (x : List (PyData × PyData)), isiD t (.dict x) = false := fun t x => by cases t <;> rfl
  cases d <;> simp only [b_is_whole, ↓reduceIte, Bool.not_true, Bool.not_false, decide_true, decide_false, wipeE, Bool.false_eq_true, y_e_c, y_e_v, y_e_g, y_e_never, y_e_bin, y_e_neg, y_e_tst, y_e_ite, y_e_tup, y_e_lst, y_e_box, y_e_ix, y_e_sl, y_e_rev, y_e_call, y_e_blt, y_e_isi, y_e_lc, y_es_nil, y_es_cons, y_o_no, y_o_yes, y_t_val, y_t_cmp, y_t_chn, y_t_isnt, y_t_isnf, z_nnr_dat, z_nnr_own, z_nnr_brw, z_nn_none, z_nn_bool, z_nn_int, z_nn_str, z_nn_list, z_nn_tuple, y_t_isb, y_t_and, y_t_or, y_t_not, y_h_last, y_h_link, y_al_one, y_al_cons, y_an_one, y_an_cons, y_c_no, y_c_yes, y_i_seq, y_i_rng, y_i_zip, y_i_enum, y_s_never, y_s_pass, y_s_asg, y_s_par, y_s_par3, y_s_setO, y_s_unp, y_s_setB, y_s_exp, y_s_app, y_s_ext, y_s_iff, y_s_whl, y_s_forr, y_s_ret, y_s_retv, y_s_frz, y_ss_nil, y_ss_cons, argsOf, views, caps, Option.map_some, Option.map_none, Option.bind_some, Option.bind_none, List.getElem?_cons_zero, List.getElem?_cons_succ, List.set_cons_zero, List.set_cons_succ, List.length_cons, List.length_nil, z_read_dat, z_read_ref, z_read_scr, z_read_own, z_view_own, z_view_brw, z_view_dat, z_cap_dat, z_cap_own, z_hold_dat, z_hold_ref, z_hold_scr, z_hold_own, z_arg_dat, z_arg_ref, z_arg_scr, z_arg_own, z_look_t, z_look_f, z_len_ref, z_len_scr, z_len_l, z_len_t, z_len_o, z_len_b, z_ix_ref, z_ix_scr, z_ix_l, z_ix_t, z_ix_o, z_ix_b, z_blt_len, z_blt_abs, z_blt_tup, z_blt_lst, z_blt_sum, z_blt_all, z_blt_any, z_blt_min, z_blt_max, z_blt_sorted, z_blt_repr, z_blt_str, z_blt_int, z_blt_divmod, z_d_abs, z_d_tupl, z_d_tupt, z_d_lstl, z_d_lstt, z_d_sum, z_d_all, z_d_any, z_d_minl, z_d_maxl, z_d_min, z_d_max, z_d_sorted, z_d_divmod, z_d_int, z_d_repr, z_d_str, z_d_strt, z_bin_i, z_bin_ll, z_bin_tt, z_bin_rep, z_add, z_sub, z_mul, z_fdiv, z_mod, z_eq, z_ne, z_lt, z_le, z_gt, z_ge, z_inl, z_int, z_ninl, z_nint, z_isi_int_none, z_isi_int_bool, z_isi_int_int, z_isi_int_str, z_isi_int_list, z_isi_int_tuple, z_isi_bool_none, z_isi_bool_bool, z_isi_bool_int, z_isi_bool_str, z_isi_bool_list, z_isi_bool_tuple, z_isi_str_none, z_isi_str_bool, z_isi_str_int, z_isi_str_str, z_isi_str_list, z_isi_str_tuple, z_isi_list_none, z_isi_list_bool, z_isi_list_int, z_isi_list_str, z_isi_list_list, z_isi_list_tuple, z_isi_tuple_none, z_isi_tuple_bool, z_isi_tuple_int, z_isi_tuple_str, z_isi_tuple_list, z_isi_tuple_tuple, z_out_rt, z_out_nx, z_eqi, z_eqb, z_rng1, z_rng2, z_si_l, z_si_t, z_bind_nm, z_bind_tt, z_bind_tl, z_binds_n, z_binds_c, z_sl_l, z_sl_t, z_at0, z_at1, z_at2, z_at3, z_ixN0, z_intsn, z_intsc, z_boolsn, z_boolsc, y_e_isx, y_e_dct, y_e_lrg, y_e_mth, y_e_orv, y_callD, y_s_expC, y_s_retC, y_s_asgC, y_s_raise, y_s_tryE, y_s_forO, z_nox_dat, z_nox_own, z_nox_ref, z_nox_scr, z_nox_exc, z_nox_n, z_read_exo, z_arg_exo, z_hold_exo, z_exEnv, y_e_ixP, y_s_retP, z_sl_s, z_bin_ss, z_d_ints, z_ins, z_nins, y_i_sgn, isW, z1, Bool.not_true, Bool.not_false]
theorem bools_map (f : PyData → Bool) : ∀ ds : List PyData, boolsOf (ds.filterMap fun d => some (.bool (f d))) = some (ds.map f)
  | [] => rfl
  | d :: ds => by
    rw [List.filterMap_cons]
    simp only [z_boolsc, bools_map f ds, Option.map_some, List.map_cons]
theorem s_are_whole (k : Nat) (ds : List PyData) (m : Int) (st : Bx) (hl : ds.length ≤ 100000) :
    callF tb (k + 2) "are_whole" [.dat (.tuple ds), .dat (.int m)] st = some (.dat (.bool (decide ((ds.length : Int) = m) && ds.all isW)), st) := by
  rw [c_are_whole]
  have hq : ∀ x : Option R, Ex.den (callF tb (k + 1)) q_are_whole_1 [some (.dat (.tuple ds)), some (.dat (.int m)), x] st = some (.own (ds.filterMap fun d => some (.bool (isW d))), st) := fun x =>
    den_lc (by simp only [↓reduceIte, Bool.not_true, Bool.not_false, decide_true, decide_false, wipeE, Bool.false_eq_true, y_e_c, y_e_v, y_e_g, y_e_never, y_e_bin, y_e_neg, y_e_tst, y_e_ite, y_e_tup, y_e_lst, y_e_box, y_e_ix, y_e_sl, y_e_rev, y_e_call, y_e_blt, y_e_isi, y_e_lc, y_es_nil, y_es_cons, y_o_no, y_o_yes, y_t_val, y_t_cmp, y_t_chn, y_t_isnt, y_t_isnf, z_nnr_dat, z_nnr_own, z_nnr_brw, z_nn_none, z_nn_bool, z_nn_int, z_nn_str, z_nn_list, z_nn_tuple, y_t_isb, y_t_and, y_t_or, y_t_not, y_h_last, y_h_link, y_al_one, y_al_cons, y_an_one, y_an_cons, y_c_no, y_c_yes, y_i_seq, y_i_rng, y_i_zip, y_i_enum, y_s_never, y_s_pass, y_s_asg, y_s_par, y_s_par3, y_s_setO, y_s_unp, y_s_setB, y_s_exp, y_s_app, y_s_ext, y_s_iff, y_s_whl, y_s_forr, y_s_ret, y_s_retv, y_s_frz, y_ss_nil, y_ss_cons, argsOf, views, caps, Option.map_some, Option.map_none, Option.bind_some, Option.bind_none, List.getElem?_cons_zero, List.getElem?_cons_succ, List.set_cons_zero, List.set_cons_succ, List.length_cons, List.length_nil, z_read_dat, z_read_ref, z_read_scr, z_read_own, z_view_own, z_view_brw, z_view_dat, z_cap_dat, z_cap_own, z_hold_dat, z_hold_ref, z_hold_scr, z_hold_own, z_arg_dat, z_arg_ref, z_arg_scr, z_arg_own, z_look_t, z_look_f, z_len_ref, z_len_scr, z_len_l, z_len_t, z_len_o, z_len_b, z_ix_ref, z_ix_scr, z_ix_l, z_ix_t, z_ix_o, z_ix_b, z_blt_len, z_blt_abs, z_blt_tup, z_blt_lst, z_blt_sum, z_blt_all, z_blt_any, z_blt_min, z_blt_max, z_blt_sorted, z_blt_repr, z_blt_str, z_blt_int, z_blt_divmod, z_d_abs, z_d_tupl, z_d_tupt, z_d_lstl, z_d_lstt, z_d_sum, z_d_all, z_d_any, z_d_minl, z_d_maxl, z_d_min, z_d_max, z_d_sorted, z_d_divmod, z_d_int, z_d_repr, z_d_str, z_d_strt, z_bin_i, z_bin_ll, z_bin_tt, z_bin_rep, z_add, z_sub, z_mul, z_fdiv, z_mod, z_eq, z_ne, z_lt, z_le, z_gt, z_ge, z_inl, z_int, z_ninl, z_nint, z_isi_int_none, z_isi_int_bool, z_isi_int_int, z_isi_int_str, z_isi_int_list, z_isi_int_tuple, z_isi_bool_none, z_isi_bool_bool, z_isi_bool_int, z_isi_bool_str, z_isi_bool_list, z_isi_bool_tuple, z_isi_str_none, z_isi_str_bool, z_isi_str_int, z_isi_str_str, z_isi_str_list, z_isi_str_tuple, z_isi_list_none, z_isi_list_bool, z_isi_list_int, z_isi_list_str, z_isi_list_list, z_isi_list_tuple, z_isi_tuple_none, z_isi_tuple_bool, z_isi_tuple_int, z_isi_tuple_str, z_isi_tuple_list, z_isi_tuple_tuple, z_out_rt, z_out_nx, z_eqi, z_eqb, z_rng1, z_rng2, z_si_l, z_si_t, z_bind_nm, z_bind_tt, z_bind_tl, z_binds_n, z_binds_c, z_sl_l, z_sl_t, z_at0, z_at1, z_at2, z_at3, z_ixN0, z_intsn, z_intsc, z_boolsn, z_boolsc, y_e_isx, y_e_dct, y_e_lrg, y_e_mth, y_e_orv, y_callD, y_s_expC, y_s_retC, y_s_asgC, y_s_raise, y_s_tryE, y_s_forO, z_nox_dat, z_nox_own, z_nox_ref, z_nox_scr, z_nox_exc, z_nox_n, z_read_exo, z_arg_exo, z_hold_exo, z_exEnv, y_e_ixP, y_s_retP, z_sl_s, z_bin_ss, z_d_ints, z_ins, z_nins, y_i_sgn]) _ (fun d hd => ⟨[some (.dat (.tuple ds)), some (.dat (.int m)), some (.dat d)], by simp only [↓reduceIte, Bool.not_true, Bool.not_false, decide_true, decide_false, wipeE, Bool.false_eq_true, y_e_c, y_e_v, y_e_g, y_e_never, y_e_bin, y_e_neg, y_e_tst, y_e_ite, y_e_tup, y_e_lst, y_e_box, y_e_ix, y_e_sl, y_e_rev, y_e_call, y_e_blt, y_e_isi, y_e_lc, y_es_nil, y_es_cons, y_o_no, y_o_yes, y_t_val, y_t_cmp, y_t_chn, y_t_isnt, y_t_isnf, z_nnr_dat, z_nnr_own, z_nnr_brw, z_nn_none, z_nn_bool, z_nn_int, z_nn_str, z_nn_list, z_nn_tuple, y_t_isb, y_t_and, y_t_or, y_t_not, y_h_last, y_h_link, y_al_one, y_al_cons, y_an_one, y_an_cons, y_c_no, y_c_yes, y_i_seq, y_i_rng, y_i_zip, y_i_enum, y_s_never, y_s_pass, y_s_asg, y_s_par, y_s_par3, y_s_setO, y_s_unp, y_s_setB, y_s_exp, y_s_app, y_s_ext, y_s_iff, y_s_whl, y_s_forr, y_s_ret, y_s_retv, y_s_frz, y_ss_nil, y_ss_cons, argsOf, views, caps, Option.map_some, Option.map_none, Option.bind_some, Option.bind_none, List.getElem?_cons_zero, List.getElem?_cons_succ, List.set_cons_zero, List.set_cons_succ, List.length_cons, List.length_nil, z_read_dat, z_read_ref, z_read_scr, z_read_own, z_view_own, z_view_brw, z_view_dat, z_cap_dat, z_cap_own, z_hold_dat, z_hold_ref, z_hold_scr, z_hold_own, z_arg_dat, z_arg_ref, z_arg_scr, z_arg_own, z_look_t, z_look_f, z_len_ref, z_len_scr, z_len_l, z_len_t, z_len_o, z_len_b, z_ix_ref, z_ix_scr, z_ix_l, z_ix_t, z_ix_o, z_ix_b, z_blt_len, z_blt_abs, z_blt_tup, z_blt_lst, z_blt_sum, z_blt_all, z_blt_any, z_blt_min, z_blt_max, z_blt_sorted, z_blt_repr, z_blt_str, z_blt_int, z_blt_divmod, z_d_abs, z_d_tupl, z_d_tupt, z_d_lstl, z_d_lstt, z_d_sum, z_d_all, z_d_any, z_d_minl, z_d_maxl, z_d_min, z_d_max, z_d_sorted, z_d_divmod, z_d_int, z_d_repr, z_d_str, z_d_strt, z_bin_i, z_bin_ll, z_bin_tt, z_bin_rep, z_add, z_sub, z_mul, z_fdiv, z_mod, z_eq, z_ne, z_lt, z_le, z_gt, z_ge, z_inl, z_int, z_ninl, z_nint, z_isi_int_none, z_isi_int_bool, z_isi_int_int, z_isi_int_str, z_isi_int_list, z_isi_int_tuple, z_isi_bool_none, z_isi_bool_bool, z_isi_bool_int, z_isi_bool_str, z_isi_bool_list, z_isi_bool_tuple, z_isi_str_none, z_isi_str_bool, z_isi_str_int, z_isi_str_str, z_isi_str_list, z_isi_str_tuple, z_isi_list_none, z_isi_list_bool, z_isi_list_int, z_isi_list_str, z_isi_list_list, z_isi_list_tuple, z_isi_tuple_none, z_isi_tuple_bool, z_isi_tuple_int, z_isi_tuple_str, z_isi_tuple_list, z_isi_tuple_tuple, z_out_rt, z_out_nx, z_eqi, z_eqb, z_rng1, z_rng2, z_si_l, z_si_t, z_bind_nm, z_bind_tt, z_bind_tl, z_binds_n, z_binds_c, z_sl_l, z_sl_t, z_at0, z_at1, z_at2, z_at3, z_ixN0, z_intsn, z_intsc, z_boolsn, z_boolsc, y_e_isx, y_e_dct, y_e_lrg, y_e_mth, y_e_orv, y_callD, y_s_expC, y_s_retC, y_s_asgC, y_s_raise, y_s_tryE, y_s_forO, z_nox_dat, z_nox_own, z_nox_ref, z_nox_scr, z_nox_exc, z_nox_n, z_read_exo, z_arg_exo, z_hold_exo, z_exEnv, y_e_ixP, y_s_retP, z_sl_s, z_bin_ss, z_d_ints, z_ins, z_nins, y_i_sgn], .inr ⟨by simp only [↓reduceIte, Bool.not_true, Bool.not_false, decide_true, decide_false, wipeE, Bool.false_eq_true, y_e_c, y_e_v, y_e_g, y_e_never, y_e_bin, y_e_neg, y_e_tst, y_e_ite, y_e_tup, y_e_lst, y_e_box, y_e_ix, y_e_sl, y_e_rev, y_e_call, y_e_blt, y_e_isi, y_e_lc, y_es_nil, y_es_cons, y_o_no, y_o_yes, y_t_val, y_t_cmp, y_t_chn, y_t_isnt, y_t_isnf, z_nnr_dat, z_nnr_own, z_nnr_brw, z_nn_none, z_nn_bool, z_nn_int, z_nn_str, z_nn_list, z_nn_tuple, y_t_isb, y_t_and, y_t_or, y_t_not, y_h_last, y_h_link, y_al_one, y_al_cons, y_an_one, y_an_cons, y_c_no, y_c_yes, y_i_seq, y_i_rng, y_i_zip, y_i_enum, y_s_never, y_s_pass, y_s_asg, y_s_par, y_s_par3, y_s_setO, y_s_unp, y_s_setB, y_s_exp, y_s_app, y_s_ext, y_s_iff, y_s_whl, y_s_forr, y_s_ret, y_s_retv, y_s_frz, y_ss_nil, y_ss_cons, argsOf, views, caps, Option.map_some, Option.map_none, Option.bind_some, Option.bind_none, List.getElem?_cons_zero, List.getElem?_cons_succ, List.set_cons_zero, List.set_cons_succ, List.length_cons, List.length_nil, z_read_dat, z_read_ref, z_read_scr, z_read_own, z_view_own, z_view_brw, z_view_dat, z_cap_dat, z_cap_own, z_hold_dat, z_hold_ref, z_hold_scr, z_hold_own, z_arg_dat, z_arg_ref, z_arg_scr, z_arg_own, z_look_t, z_look_f, z_len_ref, z_len_scr, z_len_l, z_len_t, z_len_o, z_len_b, z_ix_ref, z_ix_scr, z_ix_l, z_ix_t, z_ix_o, z_ix_b, z_blt_len, z_blt_abs, z_blt_tup, z_blt_lst, z_blt_sum, z_blt_all, z_blt_any, z_blt_min, z_blt_max, z_blt_sorted, z_blt_repr, z_blt_str, z_blt_int, z_blt_divmod, z_d_abs, z_d_tupl, z_d_tupt, z_d_lstl, z_d_lstt, z_d_sum, z_d_all, z_d_any, z_d_minl, z_d_maxl, z_d_min, z_d_max, z_d_sorted, z_d_divmod, z_d_int, z_d_repr, z_d_str, z_d_strt, z_bin_i, z_bin_ll, z_bin_tt, z_bin_rep, z_add, z_sub, z_mul, z_fdiv, z_mod, z_eq, z_ne, z_lt, z_le, z_gt, z_ge, z_inl, z_int, z_ninl, z_nint, z_isi_int_none, z_isi_int_bool, z_isi_int_int, z_isi_int_str, z_isi_int_list, z_isi_int_tuple, z_isi_bool_none, z_isi_bool_bool, z_isi_bool_int, z_isi_bool_str, z_isi_bool_list, z_isi_bool_tuple, z_isi_str_none, z_isi_str_bool, z_isi_str_int, z_isi_str_str, z_isi_str_list, z_isi_str_tuple, z_isi_list_none, z_isi_list_bool, z_isi_list_int, z_isi_list_str, z_isi_list_list, z_isi_list_tuple, z_isi_tuple_none, z_isi_tuple_bool, z_isi_tuple_int, z_isi_tuple_str, z_isi_tuple_list, z_isi_tuple_tuple, z_out_rt, z_out_nx, z_eqi, z_eqb, z_rng1, z_rng2, z_si_l, z_si_t, z_bind_nm, z_bind_tt, z_bind_tl, z_binds_n, z_binds_c, z_sl_l, z_sl_t, z_at0, z_at1, z_at2, z_at3, z_ixN0, z_intsn, z_intsc, z_boolsn, z_boolsc, y_e_isx, y_e_dct, y_e_lrg, y_e_mth, y_e_orv, y_callD, y_s_expC, y_s_retC, y_s_asgC, y_s_raise, y_s_tryE, y_s_forO, z_nox_dat, z_nox_own, z_nox_ref, z_nox_scr, z_nox_exc, z_nox_n, z_read_exo, z_arg_exo, z_hold_exo, z_exEnv, y_e_ixP, y_s_retP, z_sl_s, z_bin_ss, z_d_ints, z_ins, z_nins, y_i_sgn], .dat (.bool (isW d)), .bool (isW d), by simp only [↓reduceIte, Bool.not_true, Bool.not_false, decide_true, decide_false, wipeE, Bool.false_eq_true, y_e_c, y_e_v, y_e_g, y_e_never, y_e_bin, y_e_neg, y_e_tst, y_e_ite, y_e_tup, y_e_lst, y_e_box, y_e_ix, y_e_sl, y_e_rev, y_e_call, y_e_blt, y_e_isi, y_e_lc, y_es_nil, y_es_cons, y_o_no, y_o_yes, y_t_val, y_t_cmp, y_t_chn, y_t_isnt, y_t_isnf, z_nnr_dat, z_nnr_own, z_nnr_brw, z_nn_none, z_nn_bool, z_nn_int, z_nn_str, z_nn_list, z_nn_tuple, y_t_isb, y_t_and, y_t_or, y_t_not, y_h_last, y_h_link, y_al_one, y_al_cons, y_an_one, y_an_cons, y_c_no, y_c_yes, y_i_seq, y_i_rng, y_i_zip, y_i_enum, y_s_never, y_s_pass, y_s_asg, y_s_par, y_s_par3, y_s_setO, y_s_unp, y_s_setB, y_s_exp, y_s_app, y_s_ext, y_s_iff, y_s_whl, y_s_forr, y_s_ret, y_s_retv, y_s_frz, y_ss_nil, y_ss_cons, argsOf, views, caps, Option.map_some, Option.map_none, Option.bind_some, Option.bind_none, List.getElem?_cons_zero, List.getElem?_cons_succ, List.set_cons_zero, List.set_cons_succ, List.length_cons, List.length_nil, z_read_dat, z_read_ref, z_read_scr, z_read_own, z_view_own, z_view_brw, z_view_dat, z_cap_dat, z_cap_own, z_hold_dat, z_hold_ref, z_hold_scr, z_hold_own, z_arg_dat, z_arg_ref, z_arg_scr, z_arg_own, z_look_t, z_look_f, z_len_ref, z_len_scr, z_len_l, z_len_t, z_len_o, z_len_b, z_ix_ref, z_ix_scr, z_ix_l, z_ix_t, z_ix_o, z_ix_b, z_blt_len, z_blt_abs, z_blt_tup, z_blt_lst, z_blt_sum, z_blt_all, z_blt_any, z_blt_min, z_blt_max, z_blt_sorted, z_blt_repr, z_blt_str, z_blt_int, z_blt_divmod, z_d_abs, z_d_tupl, z_d_tupt, z_d_lstl, z_d_lstt, z_d_sum, z_d_all, z_d_any, z_d_minl, z_d_maxl, z_d_min, z_d_max, z_d_sorted, z_d_divmod, z_d_int, z_d_repr, z_d_str, z_d_strt, z_bin_i, z_bin_ll, z_bin_tt, z_bin_rep, z_add, z_sub, z_mul, z_fdiv, z_mod, z_eq, z_ne, z_lt, z_le, z_gt, z_ge, z_inl, z_int, z_ninl, z_nint, z_isi_int_none, z_isi_int_bool, z_isi_int_int, z_isi_int_str, z_isi_int_list, z_isi_int_tuple, z_isi_bool_none, z_isi_bool_bool, z_isi_bool_int, z_isi_bool_str, z_isi_bool_list, z_isi_bool_tuple, z_isi_str_none, z_isi_str_bool, z_isi_str_int, z_isi_str_str, z_isi_str_list, z_isi_str_tuple, z_isi_list_none, z_isi_list_bool, z_isi_list_int, z_isi_list_str, z_isi_list_list, z_isi_list_tuple, z_isi_tuple_none, z_isi_tuple_bool, z_isi_tuple_int, z_isi_tuple_str, z_isi_tuple_list, z_isi_tuple_tuple, z_out_rt, z_out_nx, z_eqi, z_eqb, z_rng1, z_rng2, z_si_l, z_si_t, z_bind_nm, z_bind_tt, z_bind_tl, z_binds_n, z_binds_c, z_sl_l, z_sl_t, z_at0, z_at1, z_at2, z_at3, z_ixN0, z_intsn, z_intsc, z_boolsn, z_boolsc, y_e_isx, y_e_dct, y_e_lrg, y_e_mth, y_e_orv, y_callD, y_s_expC, y_s_retC, y_s_asgC, y_s_raise, y_s_tryE, y_s_forO, z_nox_dat, z_nox_own, z_nox_ref, z_nox_scr, z_nox_exc, z_nox_n, z_read_exo, z_arg_exo, z_hold_exo, z_exEnv, y_e_ixP, y_s_retP, z_sl_s, z_bin_ss, z_d_ints, z_ins, z_nins, y_i_sgn, s_is_whole k d st], rfl, rfl⟩⟩) hl
  by_cases h : (ds.length : Int) = m
  · simp only [b_are_whole, ↓reduceIte, Bool.not_true, Bool.not_false, decide_true, decide_false, wipeE, Bool.false_eq_true, y_e_c, y_e_v, y_e_g, y_e_never, y_e_bin, y_e_neg, y_e_tst, y_e_ite, y_e_tup, y_e_lst, y_e_box, y_e_ix, y_e_sl, y_e_rev, y_e_call, y_e_blt, y_e_isi, y_e_lc, y_es_nil, y_es_cons, y_o_no, y_o_yes, y_t_val, y_t_cmp, y_t_chn, y_t_isnt, y_t_isnf, z_nnr_dat, z_nnr_own, z_nnr_brw, z_nn_none, z_nn_bool, z_nn_int, z_nn_str, z_nn_list, z_nn_tuple, y_t_isb, y_t_and, y_t_or, y_t_not, y_h_last, y_h_link, y_al_one, y_al_cons, y_an_one, y_an_cons, y_c_no, y_c_yes, y_i_seq, y_i_rng, y_i_zip, y_i_enum, y_s_never, y_s_pass, y_s_asg, y_s_par, y_s_par3, y_s_setO, y_s_unp, y_s_setB, y_s_exp, y_s_app, y_s_ext, y_s_iff, y_s_whl, y_s_forr, y_s_ret, y_s_retv, y_s_frz, y_ss_nil, y_ss_cons, argsOf, views, caps, Option.map_some, Option.map_none, Option.bind_some, Option.bind_none, List.getElem?_cons_zero, List.getElem?_cons_succ, List.set_cons_zero, List.set_cons_succ, List.length_cons, List.length_nil, z_read_dat, z_read_ref, z_read_scr, z_read_own, z_view_own, z_view_brw, z_view_dat, z_cap_dat, z_cap_own, z_hold_dat, z_hold_ref, z_hold_scr, z_hold_own, z_arg_dat, z_arg_ref, z_arg_scr, z_arg_own, z_look_t, z_look_f, z_len_ref, z_len_scr, z_len_l, z_len_t, z_len_o, z_len_b, z_ix_ref, z_ix_scr, z_ix_l, z_ix_t, z_ix_o, z_ix_b, z_blt_len, z_blt_abs, z_blt_tup, z_blt_lst, z_blt_sum, z_blt_all, z_blt_any, z_blt_min, z_blt_max, z_blt_sorted, z_blt_repr, z_blt_str, z_blt_int, z_blt_divmod, z_d_abs, z_d_tupl, z_d_tupt, z_d_lstl, z_d_lstt, z_d_sum, z_d_all, z_d_any, z_d_minl, z_d_maxl, z_d_min, z_d_max, z_d_sorted, z_d_divmod, z_d_int, z_d_repr, z_d_str, z_d_strt, z_bin_i, z_bin_ll, z_bin_tt, z_bin_rep, z_add, z_sub, z_mul, z_fdiv, z_mod, z_eq, z_ne, z_lt, z_le, z_gt, z_ge, z_inl, z_int, z_ninl, z_nint, z_isi_int_none, z_isi_int_bool, z_isi_int_int, z_isi_int_str, z_isi_int_list, z_isi_int_tuple, z_isi_bool_none, z_isi_bool_bool, z_isi_bool_int, z_isi_bool_str, z_isi_bool_list, z_isi_bool_tuple, z_isi_str_none, z_isi_str_bool, z_isi_str_int, z_isi_str_str, z_isi_str_list, z_isi_str_tuple, z_isi_list_none, z_isi_list_bool, z_isi_list_int, z_isi_list_str, z_isi_list_list, z_isi_list_tuple, z_isi_tuple_none, z_isi_tuple_bool, z_isi_tuple_int, z_isi_tuple_str, z_isi_tuple_list, z_isi_tuple_tuple, z_out_rt, z_out_nx, z_eqi, z_eqb, z_rng1, z_rng2, z_si_l, z_si_t, z_bind_nm, z_bind_tt, z_bind_tl, z_binds_n, z_binds_c, z_sl_l, z_sl_t, z_at0, z_at1, z_at2, z_at3, z_ixN0, z_intsn, z_intsc, z_boolsn, z_boolsc, y_e_isx, y_e_dct, y_e_lrg, y_e_mth, y_e_orv, y_callD, y_s_expC, y_s_retC, y_s_asgC, y_s_raise, y_s_tryE, y_s_forO, z_nox_dat, z_nox_own, z_nox_ref, z_nox_scr, z_nox_exc, z_nox_n, z_read_exo, z_arg_exo, z_hold_exo, z_exEnv, y_e_ixP, y_s_retP, z_sl_s, z_bin_ss, z_d_ints, z_ins, z_nins, y_i_sgn, hq, h, bools_map, Bool.true_and, List.all_map, Function.id_comp]
  · simp only [b_are_whole, ↓reduceIte, Bool.not_true, Bool.not_false, decide_true, decide_false, wipeE, Bool.false_eq_true, y_e_c, y_e_v, y_e_g, y_e_never, y_e_bin, y_e_neg, y_e_tst, y_e_ite, y_e_tup, y_e_lst, y_e_box, y_e_ix, y_e_sl, y_e_rev, y_e_call, y_e_blt, y_e_isi, y_e_lc, y_es_nil, y_es_cons, y_o_no, y_o_yes, y_t_val, y_t_cmp, y_t_chn, y_t_isnt, y_t_isnf, z_nnr_dat, z_nnr_own, z_nnr_brw, z_nn_none, z_nn_bool, z_nn_int, z_nn_str, z_nn_list, z_nn_tuple, y_t_isb, y_t_and, y_t_or, y_t_not, y_h_last, y_h_link, y_al_one, y_al_cons, y_an_one, y_an_cons, y_c_no, y_c_yes, y_i_seq, y_i_rng, y_i_zip, y_i_enum, y_s_never, y_s_pass, y_s_asg, y_s_par, y_s_par3, y_s_setO, y_s_unp, y_s_setB, y_s_exp, y_s_app, y_s_ext, y_s_iff, y_s_whl, y_s_forr, y_s_ret, y_s_retv, y_s_frz, y_ss_nil, y_ss_cons, argsOf, views, caps, Option.map_some, Option.map_none, Option.bind_some, Option.bind_none, List.getElem?_cons_zero, List.getElem?_cons_succ, List.set_cons_zero, List.set_cons_succ, List.length_cons, List.length_nil, z_read_dat, z_read_ref, z_read_scr, z_read_own, z_view_own, z_view_brw, z_view_dat, z_cap_dat, z_cap_own, z_hold_dat, z_hold_ref, z_hold_scr, z_hold_own, z_arg_dat, z_arg_ref, z_arg_scr, z_arg_own, z_look_t, z_look_f, z_len_ref, z_len_scr, z_len_l, z_len_t, z_len_o, z_len_b, z_ix_ref, z_ix_scr, z_ix_l, z_ix_t, z_ix_o, z_ix_b, z_blt_len, z_blt_abs, z_blt_tup, z_blt_lst, z_blt_sum, z_blt_all, z_blt_any, z_blt_min, z_blt_max, z_blt_sorted, z_blt_repr, z_blt_str, z_blt_int, z_blt_divmod, z_d_abs, z_d_tupl, z_d_tupt, z_d_lstl, z_d_lstt, z_d_sum, z_d_all, z_d_any, z_d_minl, z_d_maxl, z_d_min, z_d_max, z_d_sorted, z_d_divmod, z_d_int, z_d_repr, z_d_str, z_d_strt, z_bin_i, z_bin_ll, z_bin_tt, z_bin_rep, z_add, z_sub, z_mul, z_fdiv, z_mod, z_eq, z_ne, z_lt, z_le, z_gt, z_ge, z_inl, z_int, z_ninl, z_nint, z_isi_int_none, z_isi_int_bool, z_isi_int_int, z_isi_int_str, z_isi_int_list, z_isi_int_tuple, z_isi_bool_none, z_isi_bool_bool, z_isi_bool_int, z_isi_bool_str, z_isi_bool_list, z_isi_bool_tuple, z_isi_str_none, z_isi_str_bool, z_isi_str_int, z_isi_str_str, z_isi_str_list, z_isi_str_tuple, z_isi_list_none, z_isi_list_bool, z_isi_list_int, z_isi_list_str, z_isi_list_list, z_isi_list_tuple, z_isi_tuple_none, z_isi_tuple_bool, z_isi_tuple_int, z_isi_tuple_str, z_isi_tuple_list, z_isi_tuple_tuple, z_out_rt, z_out_nx, z_eqi, z_eqb, z_rng1, z_rng2, z_si_l, z_si_t, z_bind_nm, z_bind_tt, z_bind_tl, z_binds_n, z_binds_c, z_sl_l, z_sl_t, z_at0, z_at1, z_at2, z_at3, z_ixN0, z_intsn, z_intsc, z_boolsn, z_boolsc, y_e_isx, y_e_dct, y_e_lrg, y_e_mth, y_e_orv, y_callD, y_s_expC, y_s_retC, y_s_asgC, y_s_raise, y_s_tryE, y_s_forO, z_nox_dat, z_nox_own, z_nox_ref, z_nox_scr, z_nox_exc, z_nox_n, z_read_exo, z_arg_exo, z_hold_exo, z_exEnv, y_e_ixP, y_s_retP, z_sl_s, z_bin_ss, z_d_ints, z_ins, z_nins, y_i_sgn, hq, h, Bool.false_and]

/-! determinants and pairs of steps; every number within 2^1000 -/
theorem s_det1 (k : Nat) (x : Int) (st : Bx) : callF tb (k + 1) "determinant" [.dat (.list [.tuple [.int x]])] st = some (.dat (.int x), st) := by
  rw [c_determinant]
  simp (decide := true) only [b_determinant, ↓reduceIte, Bool.not_true, Bool.not_false, decide_true, decide_false, wipeE, Bool.false_eq_true, y_e_c, y_e_v, y_e_g, y_e_never, y_e_bin, y_e_neg, y_e_tst, y_e_ite, y_e_tup, y_e_lst, y_e_box, y_e_ix, y_e_sl, y_e_rev, y_e_call, y_e_blt, y_e_isi, y_e_lc, y_es_nil, y_es_cons, y_o_no, y_o_yes, y_t_val, y_t_cmp, y_t_chn, y_t_isnt, y_t_isnf, z_nnr_dat, z_nnr_own, z_nnr_brw, z_nn_none, z_nn_bool, z_nn_int, z_nn_str, z_nn_list, z_nn_tuple, y_t_isb, y_t_and, y_t_or, y_t_not, y_h_last, y_h_link, y_al_one, y_al_cons, y_an_one, y_an_cons, y_c_no, y_c_yes, y_i_seq, y_i_rng, y_i_zip, y_i_enum, y_s_never, y_s_pass, y_s_asg, y_s_par, y_s_par3, y_s_setO, y_s_unp, y_s_setB, y_s_exp, y_s_app, y_s_ext, y_s_iff, y_s_whl, y_s_forr, y_s_ret, y_s_retv, y_s_frz, y_ss_nil, y_ss_cons, argsOf, views, caps, Option.map_some, Option.map_none, Option.bind_some, Option.bind_none, List.getElem?_cons_zero, List.getElem?_cons_succ, List.set_cons_zero, List.set_cons_succ, List.length_cons, List.length_nil, z_read_dat, z_read_ref, z_read_scr, z_read_own, z_view_own, z_view_brw, z_view_dat, z_cap_dat, z_cap_own, z_hold_dat, z_hold_ref, z_hold_scr, z_hold_own, z_arg_dat, z_arg_ref, z_arg_scr, z_arg_own, z_look_t, z_look_f, z_len_ref, z_len_scr, z_len_l, z_len_t, z_len_o, z_len_b, z_ix_ref, z_ix_scr, z_ix_l, z_ix_t, z_ix_o, z_ix_b, z_blt_len, z_blt_abs, z_blt_tup, z_blt_lst, z_blt_sum, z_blt_all, z_blt_any, z_blt_min, z_blt_max, z_blt_sorted, z_blt_repr, z_blt_str, z_blt_int, z_blt_divmod, z_d_abs, z_d_tupl, z_d_tupt, z_d_lstl, z_d_lstt, z_d_sum, z_d_all, z_d_any, z_d_minl, z_d_maxl, z_d_min, z_d_max, z_d_sorted, z_d_divmod, z_d_int, z_d_repr, z_d_str, z_d_strt, z_bin_i, z_bin_ll, z_bin_tt, z_bin_rep, z_add, z_sub, z_mul, z_fdiv, z_mod, z_eq, z_ne, z_lt, z_le, z_gt, z_ge, z_inl, z_int, z_ninl, z_nint, z_isi_int_none, z_isi_int_bool, z_isi_int_int, z_isi_int_str, z_isi_int_list, z_isi_int_tuple, z_isi_bool_none, z_isi_bool_bool, z_isi_bool_int, z_isi_bool_str, z_isi_bool_list, z_isi_bool_tuple, z_isi_str_none, z_isi_str_bool, z_isi_str_int, z_isi_str_str, z_isi_str_list, z_isi_str_tuple, z_isi_list_none, z_isi_list_bool, z_isi_list_int, z_isi_list_str, z_isi_list_list, z_isi_list_tuple, z_isi_tuple_none, z_isi_tuple_bool, z_isi_tuple_int, z_isi_tuple_str, z_isi_tuple_list, z_isi_tuple_tuple, z_out_rt, z_out_nx, z_eqi, z_eqb, z_rng1, z_rng2, z_si_l, z_si_t, z_bind_nm, z_bind_tt, z_bind_tl, z_binds_n, z_binds_c, z_sl_l, z_sl_t, z_at0, z_at1, z_at2, z_at3, z_ixN0, z_intsn, z_intsc, z_boolsn, z_boolsc, y_e_isx, y_e_dct, y_e_lrg, y_e_mth, y_e_orv, y_callD, y_s_expC, y_s_retC, y_s_asgC, y_s_raise, y_s_tryE, y_s_forO, z_nox_dat, z_nox_own, z_nox_ref, z_nox_scr, z_nox_exc, z_nox_n, z_read_exo, z_arg_exo, z_hold_exo, z_exEnv, y_e_ixP, y_s_retP, z_sl_s, z_bin_ss, z_d_ints, z_ins, z_nins, y_i_sgn, z_eqs, z_fgn, z_fgc, z_lcn, z_lcc, rng_2, rng_3, z_en2, z_en3, z_zn, z_zn2, z_zc, cut2_a0, cut2_a1, cut2_b1, cut2_b2, cut3_a0, cut3_a1, cut3_a2, cut3_b1, cut3_b2, cut3_b3, List.nil_append, List.cons_append, Int.reduceAdd, Int.reduceSub, Int.reduceMul, Int.reduceMod, Int.reduceNeg, Int.reduceToNat, Nat.reduceAdd, Int.cast_ofNat_Int, Int.natCast_add]
theorem bd_b {x : Int} (h1 : -(2 ^ 120) < x) (h2 : x < 2 ^ 120) : Bd 120 x := by unfold Bd; omega
theorem bd1000 {x : Int} (h1 : -(2 ^ 120) < x) (h2 : x < 2 ^ 120) : Bd 1000 x := (bd_b h1 h2).mono (by decide)
theorem s_takeB (k n : Nat) (m x : Int) (st : Bx) (h : st[n]? = some [.int x]) (hm : 0 < m) (hd : Bd 2000 m) :
    callF tb (k + 1) "_law_take" [.ref n, .dat (.int m)] st = some (.dat (.int (x % m)), st.set n [.int (x / m)]) := by
  have hd : divOk m = true := divOk_bd hd (by omega) (by decide)
  rw [c__law_take]
  simp only [b__law_take, ↓reduceIte, Bool.not_true, Bool.not_false, decide_true, decide_false, wipeE, Bool.false_eq_true, y_e_c, y_e_v, y_e_g, y_e_never, y_e_bin, y_e_neg, y_e_tst, y_e_ite, y_e_tup, y_e_lst, y_e_box, y_e_ix, y_e_sl, y_e_rev, y_e_call, y_e_blt, y_e_isi, y_e_lc, y_es_nil, y_es_cons, y_o_no, y_o_yes, y_t_val, y_t_cmp, y_t_chn, y_t_isnt, y_t_isnf, z_nnr_dat, z_nnr_own, z_nnr_brw, z_nn_none, z_nn_bool, z_nn_int, z_nn_str, z_nn_list, z_nn_tuple, y_t_isb, y_t_and, y_t_or, y_t_not, y_h_last, y_h_link, y_al_one, y_al_cons, y_an_one, y_an_cons, y_c_no, y_c_yes, y_i_seq, y_i_rng, y_i_zip, y_i_enum, y_s_never, y_s_pass, y_s_asg, y_s_par, y_s_par3, y_s_setO, y_s_unp, y_s_setB, y_s_exp, y_s_app, y_s_ext, y_s_iff, y_s_whl, y_s_forr, y_s_ret, y_s_retv, y_s_frz, y_ss_nil, y_ss_cons, argsOf, views, caps, Option.map_some, Option.map_none, Option.bind_some, Option.bind_none, List.getElem?_cons_zero, List.getElem?_cons_succ, List.set_cons_zero, List.set_cons_succ, List.length_cons, List.length_nil, z_read_dat, z_read_ref, z_read_scr, z_read_own, z_view_own, z_view_brw, z_view_dat, z_cap_dat, z_cap_own, z_hold_dat, z_hold_ref, z_hold_scr, z_hold_own, z_arg_dat, z_arg_ref, z_arg_scr, z_arg_own, z_look_t, z_look_f, z_len_ref, z_len_scr, z_len_l, z_len_t, z_len_o, z_len_b, z_ix_ref, z_ix_scr, z_ix_l, z_ix_t, z_ix_o, z_ix_b, z_blt_len, z_blt_abs, z_blt_tup, z_blt_lst, z_blt_sum, z_blt_all, z_blt_any, z_blt_min, z_blt_max, z_blt_sorted, z_blt_repr, z_blt_str, z_blt_int, z_blt_divmod, z_d_abs, z_d_tupl, z_d_tupt, z_d_lstl, z_d_lstt, z_d_sum, z_d_all, z_d_any, z_d_minl, z_d_maxl, z_d_min, z_d_max, z_d_sorted, z_d_divmod, z_d_int, z_d_repr, z_d_str, z_d_strt, z_bin_i, z_bin_ll, z_bin_tt, z_bin_rep, z_add, z_sub, z_mul, z_fdiv, z_mod, z_eq, z_ne, z_lt, z_le, z_gt, z_ge, z_inl, z_int, z_ninl, z_nint, z_isi_int_none, z_isi_int_bool, z_isi_int_int, z_isi_int_str, z_isi_int_list, z_isi_int_tuple, z_isi_bool_none, z_isi_bool_bool, z_isi_bool_int, z_isi_bool_str, z_isi_bool_list, z_isi_bool_tuple, z_isi_str_none, z_isi_str_bool, z_isi_str_int, z_isi_str_str, z_isi_str_list, z_isi_str_tuple, z_isi_list_none, z_isi_list_bool, z_isi_list_int, z_isi_list_str, z_isi_list_list, z_isi_list_tuple, z_isi_tuple_none, z_isi_tuple_bool, z_isi_tuple_int, z_isi_tuple_str, z_isi_tuple_list, z_isi_tuple_tuple, z_out_rt, z_out_nx, z_eqi, z_eqb, z_rng1, z_rng2, z_si_l, z_si_t, z_bind_nm, z_bind_tt, z_bind_tl, z_binds_n, z_binds_c, z_sl_l, z_sl_t, z_at0, z_at1, z_at2, z_at3, z_ixN0, z_intsn, z_intsc, z_boolsn, z_boolsc, y_e_isx, y_e_dct, y_e_lrg, y_e_mth, y_e_orv, y_callD, y_s_expC, y_s_retC, y_s_asgC, y_s_raise, y_s_tryE, y_s_forO, z_nox_dat, z_nox_own, z_nox_ref, z_nox_scr, z_nox_exc, z_nox_n, z_read_exo, z_arg_exo, z_hold_exo, z_exEnv, y_e_ixP, y_s_retP, z_sl_s, z_bin_ss, z_d_ints, z_ins, z_nins, y_i_sgn, h, hm, hd]
theorem s_det2 (k : Nat) (a b c d : Int) (st : Bx) (ha : Bd 1000 a) (hb : Bd 1000 b) (hc : Bd 1000 c) (hd : Bd 1000 d) :
    callF tb (k + 2) "determinant" [.dat (.tuple [.tuple [.int a, .int b], .tuple [.int c, .int d]])] st = some (.dat (.int (a * d - b * c)), st) := by
  rw [c_determinant]
  have m0 : mulOk 2 0 = true := by decide
  have m1 : mulOk 2 1 = true := by decide
  have m2 : mulOk 1 a = true := by exact Sy.mulOk_bd (by repeat' (first | assumption | apply Sy.bd_mul | apply Sy.bd_add | apply Sy.bd_sub | apply Sy.bd_neg | apply Sy.bd_abs | (exact Sy.bd_s (by decide) (by decide)) | (exact Sy.bd_s (by omega) (by omega)))) (by repeat' (first | assumption | apply Sy.bd_mul | apply Sy.bd_add | apply Sy.bd_sub | apply Sy.bd_neg | apply Sy.bd_abs | (exact Sy.bd_s (by decide) (by decide)) | (exact Sy.bd_s (by omega) (by omega)))) (by decide)
  have m3 : mulOk (-1) b = true := by exact Sy.mulOk_bd (by repeat' (first | assumption | apply Sy.bd_mul | apply Sy.bd_add | apply Sy.bd_sub | apply Sy.bd_neg | apply Sy.bd_abs | (exact Sy.bd_s (by decide) (by decide)) | (exact Sy.bd_s (by omega) (by omega)))) (by repeat' (first | assumption | apply Sy.bd_mul | apply Sy.bd_add | apply Sy.bd_sub | apply Sy.bd_neg | apply Sy.bd_abs | (exact Sy.bd_s (by decide) (by decide)) | (exact Sy.bd_s (by omega) (by omega)))) (by decide)
  have m4 : mulOk (1 * a) d = true := by exact Sy.mulOk_bd (by repeat' (first | assumption | apply Sy.bd_mul | apply Sy.bd_add | apply Sy.bd_sub | apply Sy.bd_neg | apply Sy.bd_abs | (exact Sy.bd_s (by decide) (by decide)) | (exact Sy.bd_s (by omega) (by omega)))) (by repeat' (first | assumption | apply Sy.bd_mul | apply Sy.bd_add | apply Sy.bd_sub | apply Sy.bd_neg | apply Sy.bd_abs | (exact Sy.bd_s (by decide) (by decide)) | (exact Sy.bd_s (by omega) (by omega)))) (by decide)
  have m5 : mulOk (-1 * b) c = true := by exact Sy.mulOk_bd (by repeat' (first | assumption | apply Sy.bd_mul | apply Sy.bd_add | apply Sy.bd_sub | apply Sy.bd_neg | apply Sy.bd_abs | (exact Sy.bd_s (by decide) (by decide)) | (exact Sy.bd_s (by omega) (by omega)))) (by repeat' (first | assumption | apply Sy.bd_mul | apply Sy.bd_add | apply Sy.bd_sub | apply Sy.bd_neg | apply Sy.bd_abs | (exact Sy.bd_s (by decide) (by decide)) | (exact Sy.bd_s (by omega) (by omega)))) (by decide)
  have f1 : fitsL 1 = true := by decide
  have e : 0 + 1 * a * d + -1 * b * c = a * d - b * c := by grind
  simp (decide := true) only [b_determinant, l_determinant_1, lb_determinant_1, q_determinant_1, ↓reduceIte, Bool.not_true, Bool.not_false, decide_true, decide_false, wipeE, Bool.false_eq_true, y_e_c, y_e_v, y_e_g, y_e_never, y_e_bin, y_e_neg, y_e_tst, y_e_ite, y_e_tup, y_e_lst, y_e_box, y_e_ix, y_e_sl, y_e_rev, y_e_call, y_e_blt, y_e_isi, y_e_lc, y_es_nil, y_es_cons, y_o_no, y_o_yes, y_t_val, y_t_cmp, y_t_chn, y_t_isnt, y_t_isnf, z_nnr_dat, z_nnr_own, z_nnr_brw, z_nn_none, z_nn_bool, z_nn_int, z_nn_str, z_nn_list, z_nn_tuple, y_t_isb, y_t_and, y_t_or, y_t_not, y_h_last, y_h_link, y_al_one, y_al_cons, y_an_one, y_an_cons, y_c_no, y_c_yes, y_i_seq, y_i_rng, y_i_zip, y_i_enum, y_s_never, y_s_pass, y_s_asg, y_s_par, y_s_par3, y_s_setO, y_s_unp, y_s_setB, y_s_exp, y_s_app, y_s_ext, y_s_iff, y_s_whl, y_s_forr, y_s_ret, y_s_retv, y_s_frz, y_ss_nil, y_ss_cons, argsOf, views, caps, Option.map_some, Option.map_none, Option.bind_some, Option.bind_none, List.getElem?_cons_zero, List.getElem?_cons_succ, List.set_cons_zero, List.set_cons_succ, List.length_cons, List.length_nil, z_read_dat, z_read_ref, z_read_scr, z_read_own, z_view_own, z_view_brw, z_view_dat, z_cap_dat, z_cap_own, z_hold_dat, z_hold_ref, z_hold_scr, z_hold_own, z_arg_dat, z_arg_ref, z_arg_scr, z_arg_own, z_look_t, z_look_f, z_len_ref, z_len_scr, z_len_l, z_len_t, z_len_o, z_len_b, z_ix_ref, z_ix_scr, z_ix_l, z_ix_t, z_ix_o, z_ix_b, z_blt_len, z_blt_abs, z_blt_tup, z_blt_lst, z_blt_sum, z_blt_all, z_blt_any, z_blt_min, z_blt_max, z_blt_sorted, z_blt_repr, z_blt_str, z_blt_int, z_blt_divmod, z_d_abs, z_d_tupl, z_d_tupt, z_d_lstl, z_d_lstt, z_d_sum, z_d_all, z_d_any, z_d_minl, z_d_maxl, z_d_min, z_d_max, z_d_sorted, z_d_divmod, z_d_int, z_d_repr, z_d_str, z_d_strt, z_bin_i, z_bin_ll, z_bin_tt, z_bin_rep, z_add, z_sub, z_mul, z_fdiv, z_mod, z_eq, z_ne, z_lt, z_le, z_gt, z_ge, z_inl, z_int, z_ninl, z_nint, z_isi_int_none, z_isi_int_bool, z_isi_int_int, z_isi_int_str, z_isi_int_list, z_isi_int_tuple, z_isi_bool_none, z_isi_bool_bool, z_isi_bool_int, z_isi_bool_str, z_isi_bool_list, z_isi_bool_tuple, z_isi_str_none, z_isi_str_bool, z_isi_str_int, z_isi_str_str, z_isi_str_list, z_isi_str_tuple, z_isi_list_none, z_isi_list_bool, z_isi_list_int, z_isi_list_str, z_isi_list_list, z_isi_list_tuple, z_isi_tuple_none, z_isi_tuple_bool, z_isi_tuple_int, z_isi_tuple_str, z_isi_tuple_list, z_isi_tuple_tuple, z_out_rt, z_out_nx, z_eqi, z_eqb, z_rng1, z_rng2, z_si_l, z_si_t, z_bind_nm, z_bind_tt, z_bind_tl, z_binds_n, z_binds_c, z_sl_l, z_sl_t, z_at0, z_at1, z_at2, z_at3, z_ixN0, z_intsn, z_intsc, z_boolsn, z_boolsc, y_e_isx, y_e_dct, y_e_lrg, y_e_mth, y_e_orv, y_callD, y_s_expC, y_s_retC, y_s_asgC, y_s_raise, y_s_tryE, y_s_forO, z_nox_dat, z_nox_own, z_nox_ref, z_nox_scr, z_nox_exc, z_nox_n, z_read_exo, z_arg_exo, z_hold_exo, z_exEnv, y_e_ixP, y_s_retP, z_sl_s, z_bin_ss, z_d_ints, z_ins, z_nins, y_i_sgn, z_eqs, z_fgn, z_fgc, z_lcn, z_lcc, rng_2, rng_3, z_en2, z_en3, z_zn, z_zn2, z_zc, cut2_a0, cut2_a1, cut2_b1, cut2_b2, cut3_a0, cut3_a1, cut3_a2, cut3_b1, cut3_b2, cut3_b3, List.nil_append, List.cons_append, Int.reduceAdd, Int.reduceSub, Int.reduceMul, Int.reduceMod, Int.reduceNeg, Int.reduceToNat, Nat.reduceAdd, Int.cast_ofNat_Int, Int.natCast_add, s_det1, m0, m1, m2, m3, m4, m5, f1, e]
theorem s_is_steps2 (k : Nat) (a b c d : Int) (st : Bx) (ha : Bd 1000 a) (hb : Bd 1000 b) (hc : Bd 1000 c) (hd : Bd 1000 d) :
    callF tb (k + 3) "is_steps" [.dat (.tuple [.tuple [.int a, .int b], .tuple [.int c, .int d]])] st = some (.dat (.bool (decide (a * d - b * c ≠ 0))), st) := by
  rw [c_is_steps]
  have hin : inD (.int 2) [.int 2, .int 3] = some true := by decide
  have f2 : fitsL 2 = true := by decide
  have h1 : callF tb (k + 2) "are_whole" [.dat (.tuple [.int a, .int b]), .dat (.int 2)] st = some (.dat (.bool true), st) := s_are_whole k [.int a, .int b] 2 st (by simp)
  have h2 : callF tb (k + 2) "are_whole" [.dat (.tuple [.int c, .int d]), .dat (.int 2)] st = some (.dat (.bool true), st) := s_are_whole k [.int c, .int d] 2 st (by simp)
  by_cases h : a * d - b * c = 0 <;>
    simp (decide := true) only [b_is_steps, q_is_steps_1, ↓reduceIte, Bool.not_true, Bool.not_false, decide_true, decide_false, wipeE, Bool.false_eq_true, y_e_c, y_e_v, y_e_g, y_e_never, y_e_bin, y_e_neg, y_e_tst, y_e_ite, y_e_tup, y_e_lst, y_e_box, y_e_ix, y_e_sl, y_e_rev, y_e_call, y_e_blt, y_e_isi, y_e_lc, y_es_nil, y_es_cons, y_o_no, y_o_yes, y_t_val, y_t_cmp, y_t_chn, y_t_isnt, y_t_isnf, z_nnr_dat, z_nnr_own, z_nnr_brw, z_nn_none, z_nn_bool, z_nn_int, z_nn_str, z_nn_list, z_nn_tuple, y_t_isb, y_t_and, y_t_or, y_t_not, y_h_last, y_h_link, y_al_one, y_al_cons, y_an_one, y_an_cons, y_c_no, y_c_yes, y_i_seq, y_i_rng, y_i_zip, y_i_enum, y_s_never, y_s_pass, y_s_asg, y_s_par, y_s_par3, y_s_setO, y_s_unp, y_s_setB, y_s_exp, y_s_app, y_s_ext, y_s_iff, y_s_whl, y_s_forr, y_s_ret, y_s_retv, y_s_frz, y_ss_nil, y_ss_cons, argsOf, views, caps, Option.map_some, Option.map_none, Option.bind_some, Option.bind_none, List.getElem?_cons_zero, List.getElem?_cons_succ, List.set_cons_zero, List.set_cons_succ, List.length_cons, List.length_nil, z_read_dat, z_read_ref, z_read_scr, z_read_own, z_view_own, z_view_brw, z_view_dat, z_cap_dat, z_cap_own, z_hold_dat, z_hold_ref, z_hold_scr, z_hold_own, z_arg_dat, z_arg_ref, z_arg_scr, z_arg_own, z_look_t, z_look_f, z_len_ref, z_len_scr, z_len_l, z_len_t, z_len_o, z_len_b, z_ix_ref, z_ix_scr, z_ix_l, z_ix_t, z_ix_o, z_ix_b, z_blt_len, z_blt_abs, z_blt_tup, z_blt_lst, z_blt_sum, z_blt_all, z_blt_any, z_blt_min, z_blt_max, z_blt_sorted, z_blt_repr, z_blt_str, z_blt_int, z_blt_divmod, z_d_abs, z_d_tupl, z_d_tupt, z_d_lstl, z_d_lstt, z_d_sum, z_d_all, z_d_any, z_d_minl, z_d_maxl, z_d_min, z_d_max, z_d_sorted, z_d_divmod, z_d_int, z_d_repr, z_d_str, z_d_strt, z_bin_i, z_bin_ll, z_bin_tt, z_bin_rep, z_add, z_sub, z_mul, z_fdiv, z_mod, z_eq, z_ne, z_lt, z_le, z_gt, z_ge, z_inl, z_int, z_ninl, z_nint, z_isi_int_none, z_isi_int_bool, z_isi_int_int, z_isi_int_str, z_isi_int_list, z_isi_int_tuple, z_isi_bool_none, z_isi_bool_bool, z_isi_bool_int, z_isi_bool_str, z_isi_bool_list, z_isi_bool_tuple, z_isi_str_none, z_isi_str_bool, z_isi_str_int, z_isi_str_str, z_isi_str_list, z_isi_str_tuple, z_isi_list_none, z_isi_list_bool, z_isi_list_int, z_isi_list_str, z_isi_list_list, z_isi_list_tuple, z_isi_tuple_none, z_isi_tuple_bool, z_isi_tuple_int, z_isi_tuple_str, z_isi_tuple_list, z_isi_tuple_tuple, z_out_rt, z_out_nx, z_eqi, z_eqb, z_rng1, z_rng2, z_si_l, z_si_t, z_bind_nm, z_bind_tt, z_bind_tl, z_binds_n, z_binds_c, z_sl_l, z_sl_t, z_at0, z_at1, z_at2, z_at3, z_ixN0, z_intsn, z_intsc, z_boolsn, z_boolsc, y_e_isx, y_e_dct, y_e_lrg, y_e_mth, y_e_orv, y_callD, y_s_expC, y_s_retC, y_s_asgC, y_s_raise, y_s_tryE, y_s_forO, z_nox_dat, z_nox_own, z_nox_ref, z_nox_scr, z_nox_exc, z_nox_n, z_read_exo, z_arg_exo, z_hold_exo, z_exEnv, y_e_ixP, y_s_retP, z_sl_s, z_bin_ss, z_d_ints, z_ins, z_nins, y_i_sgn, z_eqs, z_fgn, z_fgc, z_lcn, z_lcc, rng_2, rng_3, z_en2, z_en3, z_zn, z_zn2, z_zc, cut2_a0, cut2_a1, cut2_b1, cut2_b2, cut3_a0, cut3_a1, cut3_a2, cut3_b1, cut3_b2, cut3_b3, List.nil_append, List.cons_append, Int.reduceAdd, Int.reduceSub, Int.reduceMul, Int.reduceMod, Int.reduceNeg, Int.reduceToNat, Nat.reduceAdd, Int.cast_ofNat_Int, Int.natCast_add, hin, f2, h1, h2, h, s_det2 k a b c d st ha hb hc hd, ne_eq, not_true_eq_false, not_false_eq_true, Bool.not_true, Bool.not_false, List.all_cons, List.all_nil, id, Bool.and_self]

/-! drawn numbers, points, pairs -/
theorem s_num (k n : Nat) (x s : Int) (st : Bx) (h : st[n]? = some [.int x]) (hs : 0 ≤ s) (hs2 : s < 2 ^ 118) :
    ∃ v y, -s ≤ v ∧ v ≤ s ∧ callF tb (k + 2) "_law_drawn_number" [.ref n, .dat (.int s)] st = some (.dat (.int v), st.set n [.int y]) := by
  rw [c__law_drawn_number]
  have t := s_takeB k n (2 * s + 1) x st h (by omega) ((bd_b (by omega) (by omega)).mono (by decide))
  have m : mulOk 2 s = true := mulOk_bd (bd_s (by decide) (by decide) : Bd 60 2) (bd_b (x := s) (by omega) (by omega)) (by decide)
  have h1 := Int.emod_nonneg x (show 2 * s + 1 ≠ 0 by omega)
  have h2 := Int.emod_lt_of_pos x (show 0 < 2 * s + 1 by omega)
  refine ⟨x % (2 * s + 1) - s, x / (2 * s + 1), by omega, by omega, ?_⟩
  simp (decide := true) only [b__law_drawn_number, ↓reduceIte, Bool.not_true, Bool.not_false, decide_true, decide_false, wipeE, Bool.false_eq_true, y_e_c, y_e_v, y_e_g, y_e_never, y_e_bin, y_e_neg, y_e_tst, y_e_ite, y_e_tup, y_e_lst, y_e_box, y_e_ix, y_e_sl, y_e_rev, y_e_call, y_e_blt, y_e_isi, y_e_lc, y_es_nil, y_es_cons, y_o_no, y_o_yes, y_t_val, y_t_cmp, y_t_chn, y_t_isnt, y_t_isnf, z_nnr_dat, z_nnr_own, z_nnr_brw, z_nn_none, z_nn_bool, z_nn_int, z_nn_str, z_nn_list, z_nn_tuple, y_t_isb, y_t_and, y_t_or, y_t_not, y_h_last, y_h_link, y_al_one, y_al_cons, y_an_one, y_an_cons, y_c_no, y_c_yes, y_i_seq, y_i_rng, y_i_zip, y_i_enum, y_s_never, y_s_pass, y_s_asg, y_s_par, y_s_par3, y_s_setO, y_s_unp, y_s_setB, y_s_exp, y_s_app, y_s_ext, y_s_iff, y_s_whl, y_s_forr, y_s_ret, y_s_retv, y_s_frz, y_ss_nil, y_ss_cons, argsOf, views, caps, Option.map_some, Option.map_none, Option.bind_some, Option.bind_none, List.getElem?_cons_zero, List.getElem?_cons_succ, List.set_cons_zero, List.set_cons_succ, List.length_cons, List.length_nil, z_read_dat, z_read_ref, z_read_scr, z_read_own, z_view_own, z_view_brw, z_view_dat, z_cap_dat, z_cap_own, z_hold_dat, z_hold_ref, z_hold_scr, z_hold_own, z_arg_dat, z_arg_ref, z_arg_scr, z_arg_own, z_look_t, z_look_f, z_len_ref, z_len_scr, z_len_l, z_len_t, z_len_o, z_len_b, z_ix_ref, z_ix_scr, z_ix_l, z_ix_t, z_ix_o, z_ix_b, z_blt_len, z_blt_abs, z_blt_tup, z_blt_lst, z_blt_sum, z_blt_all, z_blt_any, z_blt_min, z_blt_max, z_blt_sorted, z_blt_repr, z_blt_str, z_blt_int, z_blt_divmod, z_d_abs, z_d_tupl, z_d_tupt, z_d_lstl, z_d_lstt, z_d_sum, z_d_all, z_d_any, z_d_minl, z_d_maxl, z_d_min, z_d_max, z_d_sorted, z_d_divmod, z_d_int, z_d_repr, z_d_str, z_d_strt, z_bin_i, z_bin_ll, z_bin_tt, z_bin_rep, z_add, z_sub, z_mul, z_fdiv, z_mod, z_eq, z_ne, z_lt, z_le, z_gt, z_ge, z_inl, z_int, z_ninl, z_nint, z_isi_int_none, z_isi_int_bool, z_isi_int_int, z_isi_int_str, z_isi_int_list, z_isi_int_tuple, z_isi_bool_none, z_isi_bool_bool, z_isi_bool_int, z_isi_bool_str, z_isi_bool_list, z_isi_bool_tuple, z_isi_str_none, z_isi_str_bool, z_isi_str_int, z_isi_str_str, z_isi_str_list, z_isi_str_tuple, z_isi_list_none, z_isi_list_bool, z_isi_list_int, z_isi_list_str, z_isi_list_list, z_isi_list_tuple, z_isi_tuple_none, z_isi_tuple_bool, z_isi_tuple_int, z_isi_tuple_str, z_isi_tuple_list, z_isi_tuple_tuple, z_out_rt, z_out_nx, z_eqi, z_eqb, z_rng1, z_rng2, z_si_l, z_si_t, z_bind_nm, z_bind_tt, z_bind_tl, z_binds_n, z_binds_c, z_sl_l, z_sl_t, z_at0, z_at1, z_at2, z_at3, z_ixN0, z_intsn, z_intsc, z_boolsn, z_boolsc, y_e_isx, y_e_dct, y_e_lrg, y_e_mth, y_e_orv, y_callD, y_s_expC, y_s_retC, y_s_asgC, y_s_raise, y_s_tryE, y_s_forO, z_nox_dat, z_nox_own, z_nox_ref, z_nox_scr, z_nox_exc, z_nox_n, z_read_exo, z_arg_exo, z_hold_exo, z_exEnv, y_e_ixP, y_s_retP, z_sl_s, z_bin_ss, z_d_ints, z_ins, z_nins, y_i_sgn, m, t]
theorem s_point2 (k n : Nat) (x s : Int) (st : Bx) (h : st[n]? = some [.int x]) (hs : 0 ≤ s) (hs2 : s < 2 ^ 118) :
    ∃ u v y, -s ≤ u ∧ u ≤ s ∧ -s ≤ v ∧ v ≤ s ∧ callF tb (k + 3) "_law_drawn_point" [.ref n, .dat (.int 2), .dat (.int s)] st = some (.dat (.tuple [.int u, .int v]), st.set n [.int y]) := by
  rw [c__law_drawn_point]
  obtain ⟨u, y1, u1, u2, e1⟩ := s_num k n x s st h hs hs2
  obtain ⟨v, y2, v1, v2, e2⟩ := s_num k n y1 s _ (get_set h (z := [.int y1])) hs hs2
  rw [List.set_set] at e2
  have r2 : rngOk 2 = true := by decide
  refine ⟨u, v, y2, u1, u2, v1, v2, ?_⟩
  simp (decide := true) only [b__law_drawn_point, q__law_drawn_point_1, ↓reduceIte, Bool.not_true, Bool.not_false, decide_true, decide_false, wipeE, Bool.false_eq_true, y_e_c, y_e_v, y_e_g, y_e_never, y_e_bin, y_e_neg, y_e_tst, y_e_ite, y_e_tup, y_e_lst, y_e_box, y_e_ix, y_e_sl, y_e_rev, y_e_call, y_e_blt, y_e_isi, y_e_lc, y_es_nil, y_es_cons, y_o_no, y_o_yes, y_t_val, y_t_cmp, y_t_chn, y_t_isnt, y_t_isnf, z_nnr_dat, z_nnr_own, z_nnr_brw, z_nn_none, z_nn_bool, z_nn_int, z_nn_str, z_nn_list, z_nn_tuple, y_t_isb, y_t_and, y_t_or, y_t_not, y_h_last, y_h_link, y_al_one, y_al_cons, y_an_one, y_an_cons, y_c_no, y_c_yes, y_i_seq, y_i_rng, y_i_zip, y_i_enum, y_s_never, y_s_pass, y_s_asg, y_s_par, y_s_par3, y_s_setO, y_s_unp, y_s_setB, y_s_exp, y_s_app, y_s_ext, y_s_iff, y_s_whl, y_s_forr, y_s_ret, y_s_retv, y_s_frz, y_ss_nil, y_ss_cons, argsOf, views, caps, Option.map_some, Option.map_none, Option.bind_some, Option.bind_none, List.getElem?_cons_zero, List.getElem?_cons_succ, List.set_cons_zero, List.set_cons_succ, List.length_cons, List.length_nil, z_read_dat, z_read_ref, z_read_scr, z_read_own, z_view_own, z_view_brw, z_view_dat, z_cap_dat, z_cap_own, z_hold_dat, z_hold_ref, z_hold_scr, z_hold_own, z_arg_dat, z_arg_ref, z_arg_scr, z_arg_own, z_look_t, z_look_f, z_len_ref, z_len_scr, z_len_l, z_len_t, z_len_o, z_len_b, z_ix_ref, z_ix_scr, z_ix_l, z_ix_t, z_ix_o, z_ix_b, z_blt_len, z_blt_abs, z_blt_tup, z_blt_lst, z_blt_sum, z_blt_all, z_blt_any, z_blt_min, z_blt_max, z_blt_sorted, z_blt_repr, z_blt_str, z_blt_int, z_blt_divmod, z_d_abs, z_d_tupl, z_d_tupt, z_d_lstl, z_d_lstt, z_d_sum, z_d_all, z_d_any, z_d_minl, z_d_maxl, z_d_min, z_d_max, z_d_sorted, z_d_divmod, z_d_int, z_d_repr, z_d_str, z_d_strt, z_bin_i, z_bin_ll, z_bin_tt, z_bin_rep, z_add, z_sub, z_mul, z_fdiv, z_mod, z_eq, z_ne, z_lt, z_le, z_gt, z_ge, z_inl, z_int, z_ninl, z_nint, z_isi_int_none, z_isi_int_bool, z_isi_int_int, z_isi_int_str, z_isi_int_list, z_isi_int_tuple, z_isi_bool_none, z_isi_bool_bool, z_isi_bool_int, z_isi_bool_str, z_isi_bool_list, z_isi_bool_tuple, z_isi_str_none, z_isi_str_bool, z_isi_str_int, z_isi_str_str, z_isi_str_list, z_isi_str_tuple, z_isi_list_none, z_isi_list_bool, z_isi_list_int, z_isi_list_str, z_isi_list_list, z_isi_list_tuple, z_isi_tuple_none, z_isi_tuple_bool, z_isi_tuple_int, z_isi_tuple_str, z_isi_tuple_list, z_isi_tuple_tuple, z_out_rt, z_out_nx, z_eqi, z_eqb, z_rng1, z_rng2, z_si_l, z_si_t, z_bind_nm, z_bind_tt, z_bind_tl, z_binds_n, z_binds_c, z_sl_l, z_sl_t, z_at0, z_at1, z_at2, z_at3, z_ixN0, z_intsn, z_intsc, z_boolsn, z_boolsc, y_e_isx, y_e_dct, y_e_lrg, y_e_mth, y_e_orv, y_callD, y_s_expC, y_s_retC, y_s_asgC, y_s_raise, y_s_tryE, y_s_forO, z_nox_dat, z_nox_own, z_nox_ref, z_nox_scr, z_nox_exc, z_nox_n, z_read_exo, z_arg_exo, z_hold_exo, z_exEnv, y_e_ixP, y_s_retP, z_sl_s, z_bin_ss, z_d_ints, z_ins, z_nins, y_i_sgn, z_eqs, z_fgn, z_fgc, z_lcn, z_lcc, rng_2, rng_3, z_en2, z_en3, z_zn, z_zn2, z_zc, cut2_a0, cut2_a1, cut2_b1, cut2_b2, cut3_a0, cut3_a1, cut3_a2, cut3_b1, cut3_b2, cut3_b3, List.nil_append, List.cons_append, Int.reduceAdd, Int.reduceSub, Int.reduceMul, Int.reduceMod, Int.reduceNeg, Int.reduceToNat, Nat.reduceAdd, Int.cast_ofNat_Int, Int.natCast_add, r2, e1, e2]
theorem s_law_det2 (k : Nat) (a b c d : Int) (st : Bx) (ha : Bd 1000 a) (hb : Bd 1000 b) (hc : Bd 1000 c) (hd : Bd 1000 d) :
    callF tb (k + 1) "_law_det" [.dat (.tuple [.tuple [.int a, .int b], .tuple [.int c, .int d]])] st = some (.dat (.int (a * d - b * c)), st) := by
  rw [c__law_det]
  have m4 : mulOk a d = true := by exact Sy.mulOk_bd (by repeat' (first | assumption | apply Sy.bd_mul | apply Sy.bd_add | apply Sy.bd_sub | apply Sy.bd_neg | apply Sy.bd_abs | (exact Sy.bd_s (by decide) (by decide)) | (exact Sy.bd_s (by omega) (by omega)))) (by repeat' (first | assumption | apply Sy.bd_mul | apply Sy.bd_add | apply Sy.bd_sub | apply Sy.bd_neg | apply Sy.bd_abs | (exact Sy.bd_s (by decide) (by decide)) | (exact Sy.bd_s (by omega) (by omega)))) (by decide)
  have m5 : mulOk b c = true := by exact Sy.mulOk_bd (by repeat' (first | assumption | apply Sy.bd_mul | apply Sy.bd_add | apply Sy.bd_sub | apply Sy.bd_neg | apply Sy.bd_abs | (exact Sy.bd_s (by decide) (by decide)) | (exact Sy.bd_s (by omega) (by omega)))) (by repeat' (first | assumption | apply Sy.bd_mul | apply Sy.bd_add | apply Sy.bd_sub | apply Sy.bd_neg | apply Sy.bd_abs | (exact Sy.bd_s (by decide) (by decide)) | (exact Sy.bd_s (by omega) (by omega)))) (by decide)
  simp (decide := true) only [b__law_det, ↓reduceIte, Bool.not_true, Bool.not_false, decide_true, decide_false, wipeE, Bool.false_eq_true, y_e_c, y_e_v, y_e_g, y_e_never, y_e_bin, y_e_neg, y_e_tst, y_e_ite, y_e_tup, y_e_lst, y_e_box, y_e_ix, y_e_sl, y_e_rev, y_e_call, y_e_blt, y_e_isi, y_e_lc, y_es_nil, y_es_cons, y_o_no, y_o_yes, y_t_val, y_t_cmp, y_t_chn, y_t_isnt, y_t_isnf, z_nnr_dat, z_nnr_own, z_nnr_brw, z_nn_none, z_nn_bool, z_nn_int, z_nn_str, z_nn_list, z_nn_tuple, y_t_isb, y_t_and, y_t_or, y_t_not, y_h_last, y_h_link, y_al_one, y_al_cons, y_an_one, y_an_cons, y_c_no, y_c_yes, y_i_seq, y_i_rng, y_i_zip, y_i_enum, y_s_never, y_s_pass, y_s_asg, y_s_par, y_s_par3, y_s_setO, y_s_unp, y_s_setB, y_s_exp, y_s_app, y_s_ext, y_s_iff, y_s_whl, y_s_forr, y_s_ret, y_s_retv, y_s_frz, y_ss_nil, y_ss_cons, argsOf, views, caps, Option.map_some, Option.map_none, Option.bind_some, Option.bind_none, List.getElem?_cons_zero, List.getElem?_cons_succ, List.set_cons_zero, List.set_cons_succ, List.length_cons, List.length_nil, z_read_dat, z_read_ref, z_read_scr, z_read_own, z_view_own, z_view_brw, z_view_dat, z_cap_dat, z_cap_own, z_hold_dat, z_hold_ref, z_hold_scr, z_hold_own, z_arg_dat, z_arg_ref, z_arg_scr, z_arg_own, z_look_t, z_look_f, z_len_ref, z_len_scr, z_len_l, z_len_t, z_len_o, z_len_b, z_ix_ref, z_ix_scr, z_ix_l, z_ix_t, z_ix_o, z_ix_b, z_blt_len, z_blt_abs, z_blt_tup, z_blt_lst, z_blt_sum, z_blt_all, z_blt_any, z_blt_min, z_blt_max, z_blt_sorted, z_blt_repr, z_blt_str, z_blt_int, z_blt_divmod, z_d_abs, z_d_tupl, z_d_tupt, z_d_lstl, z_d_lstt, z_d_sum, z_d_all, z_d_any, z_d_minl, z_d_maxl, z_d_min, z_d_max, z_d_sorted, z_d_divmod, z_d_int, z_d_repr, z_d_str, z_d_strt, z_bin_i, z_bin_ll, z_bin_tt, z_bin_rep, z_add, z_sub, z_mul, z_fdiv, z_mod, z_eq, z_ne, z_lt, z_le, z_gt, z_ge, z_inl, z_int, z_ninl, z_nint, z_isi_int_none, z_isi_int_bool, z_isi_int_int, z_isi_int_str, z_isi_int_list, z_isi_int_tuple, z_isi_bool_none, z_isi_bool_bool, z_isi_bool_int, z_isi_bool_str, z_isi_bool_list, z_isi_bool_tuple, z_isi_str_none, z_isi_str_bool, z_isi_str_int, z_isi_str_str, z_isi_str_list, z_isi_str_tuple, z_isi_list_none, z_isi_list_bool, z_isi_list_int, z_isi_list_str, z_isi_list_list, z_isi_list_tuple, z_isi_tuple_none, z_isi_tuple_bool, z_isi_tuple_int, z_isi_tuple_str, z_isi_tuple_list, z_isi_tuple_tuple, z_out_rt, z_out_nx, z_eqi, z_eqb, z_rng1, z_rng2, z_si_l, z_si_t, z_bind_nm, z_bind_tt, z_bind_tl, z_binds_n, z_binds_c, z_sl_l, z_sl_t, z_at0, z_at1, z_at2, z_at3, z_ixN0, z_intsn, z_intsc, z_boolsn, z_boolsc, y_e_isx, y_e_dct, y_e_lrg, y_e_mth, y_e_orv, y_callD, y_s_expC, y_s_retC, y_s_asgC, y_s_raise, y_s_tryE, y_s_forO, z_nox_dat, z_nox_own, z_nox_ref, z_nox_scr, z_nox_exc, z_nox_n, z_read_exo, z_arg_exo, z_hold_exo, z_exEnv, y_e_ixP, y_s_retP, z_sl_s, z_bin_ss, z_d_ints, z_ins, z_nins, y_i_sgn, z_eqs, z_fgn, z_fgc, z_lcn, z_lcc, rng_2, rng_3, z_en2, z_en3, z_zn, z_zn2, z_zc, cut2_a0, cut2_a1, cut2_b1, cut2_b2, cut3_a0, cut3_a1, cut3_a2, cut3_b1, cut3_b2, cut3_b3, List.nil_append, List.cons_append, Int.reduceAdd, Int.reduceSub, Int.reduceMul, Int.reduceMod, Int.reduceNeg, Int.reduceToNat, Nat.reduceAdd, Int.cast_ofNat_Int, Int.natCast_add, m4, m5]
theorem s_pair (k n : Nat) (x s : Int) (st : Bx) (h : st[n]? = some [.int x]) (hs : 0 ≤ s) (hs2 : s < 2 ^ 118) :
    ∃ a b c d y, (-(s + 2) ≤ a ∧ a ≤ s + 2) ∧ (-(s + 2) ≤ b ∧ b ≤ s + 2) ∧ (-(s + 2) ≤ c ∧ c ≤ s + 2) ∧ (-(s + 2) ≤ d ∧ d ≤ s + 2) ∧ a * d - b * c ≠ 0 ∧
      callF tb (k + 4) "_law_drawn_pair" [.ref n, .dat (.int s)] st = some (.dat (.tuple [.tuple [.int a, .int b], .tuple [.int c, .int d]]), st.set n [.int y]) := by
  rw [c__law_drawn_pair]
  obtain ⟨a, b, y1, a1, a2, b1, b2, e1⟩ := s_point2 k n x s st h hs hs2
  obtain ⟨c, d, y2, c1, c2, d1, d2, e2⟩ := s_point2 k n y1 s _ (get_set h (z := [.int y1])) hs hs2
  rw [List.set_set] at e2
  have t := s_take (k + 2) n 6 y2 _ (get_set h (z := [.int y2])) (by decide) (by decide)
  rw [List.set_set] at t
  obtain ⟨u, v, y4, u1, u2, v1, v2, e4⟩ := s_point2 k n (y2 / 6) 2 _ (get_set h (z := [.int (y2 / 6)])) (by decide) (by decide)
  rw [List.set_set] at e4
  have f2 : fitsL 2 = true := by decide
  -- the end: the two steps as they stand
  have fin : ∀ (c d y : Int), (-(s + 2) ≤ c ∧ c ≤ s + 2) → (-(s + 2) ≤ d ∧ d ≤ s + 2) →
      ∃ a' b' c' d' y, (-(s + 2) ≤ a' ∧ a' ≤ s + 2) ∧ (-(s + 2) ≤ b' ∧ b' ≤ s + 2) ∧ (-(s + 2) ≤ c' ∧ c' ≤ s + 2) ∧ (-(s + 2) ≤ d' ∧ d' ≤ s + 2) ∧ a' * d' - b' * c' ≠ 0 ∧
        (if a * d - b * c = 0 then (PyData.tuple [.tuple [.int (a + 1), .int 1], .tuple [.int a, .int 1]]) else .tuple [.tuple [.int a, .int b], .tuple [.int c, .int d]]) = .tuple [.tuple [.int a', .int b'], .tuple [.int c', .int d']] := fun c d y hc hd => by
    by_cases h0 : a * d - b * c = 0
    · exact ⟨a + 1, 1, a, 1, 0, by omega, by omega, by omega, by omega, by omega, by rw [if_pos h0]⟩
    · exact ⟨a, b, c, d, 0, by omega, by omega, by omega, by omega, h0, by rw [if_neg h0]⟩
  by_cases w0 : y2 % 6 = 0
  · obtain ⟨a', b', c', d', -, p1, p2, p3, p4, p5, p6⟩ := fin (0 - b) a 0 (by omega) (by omega)
    refine ⟨a', b', c', d', y2 / 6, p1, p2, p3, p4, p5, ?_⟩
    rw [← p6]
    have hd := s_law_det2 (k + 2) a b (0 - b) a (st.set n [.int (y2 / 6)]) (bd1000 (by omega) (by omega)) (bd1000 (by omega) (by omega)) (bd1000 (by omega) (by omega)) (bd1000 (by omega) (by omega))
    by_cases h0 : a * a - b * (0 - b) = 0 <;>
      simp (decide := true) only [b__law_drawn_pair, ↓reduceIte, Bool.not_true, Bool.not_false, decide_true, decide_false, wipeE, Bool.false_eq_true, y_e_c, y_e_v, y_e_g, y_e_never, y_e_bin, y_e_neg, y_e_tst, y_e_ite, y_e_tup, y_e_lst, y_e_box, y_e_ix, y_e_sl, y_e_rev, y_e_call, y_e_blt, y_e_isi, y_e_lc, y_es_nil, y_es_cons, y_o_no, y_o_yes, y_t_val, y_t_cmp, y_t_chn, y_t_isnt, y_t_isnf, z_nnr_dat, z_nnr_own, z_nnr_brw, z_nn_none, z_nn_bool, z_nn_int, z_nn_str, z_nn_list, z_nn_tuple, y_t_isb, y_t_and, y_t_or, y_t_not, y_h_last, y_h_link, y_al_one, y_al_cons, y_an_one, y_an_cons, y_c_no, y_c_yes, y_i_seq, y_i_rng, y_i_zip, y_i_enum, y_s_never, y_s_pass, y_s_asg, y_s_par, y_s_par3, y_s_setO, y_s_unp, y_s_setB, y_s_exp, y_s_app, y_s_ext, y_s_iff, y_s_whl, y_s_forr, y_s_ret, y_s_retv, y_s_frz, y_ss_nil, y_ss_cons, argsOf, views, caps, Option.map_some, Option.map_none, Option.bind_some, Option.bind_none, List.getElem?_cons_zero, List.getElem?_cons_succ, List.set_cons_zero, List.set_cons_succ, List.length_cons, List.length_nil, z_read_dat, z_read_ref, z_read_scr, z_read_own, z_view_own, z_view_brw, z_view_dat, z_cap_dat, z_cap_own, z_hold_dat, z_hold_ref, z_hold_scr, z_hold_own, z_arg_dat, z_arg_ref, z_arg_scr, z_arg_own, z_look_t, z_look_f, z_len_ref, z_len_scr, z_len_l, z_len_t, z_len_o, z_len_b, z_ix_ref, z_ix_scr, z_ix_l, z_ix_t, z_ix_o, z_ix_b, z_blt_len, z_blt_abs, z_blt_tup, z_blt_lst, z_blt_sum, z_blt_all, z_blt_any, z_blt_min, z_blt_max, z_blt_sorted, z_blt_repr, z_blt_str, z_blt_int, z_blt_divmod, z_d_abs, z_d_tupl, z_d_tupt, z_d_lstl, z_d_lstt, z_d_sum, z_d_all, z_d_any, z_d_minl, z_d_maxl, z_d_min, z_d_max, z_d_sorted, z_d_divmod, z_d_int, z_d_repr, z_d_str, z_d_strt, z_bin_i, z_bin_ll, z_bin_tt, z_bin_rep, z_add, z_sub, z_mul, z_fdiv, z_mod, z_eq, z_ne, z_lt, z_le, z_gt, z_ge, z_inl, z_int, z_ninl, z_nint, z_isi_int_none, z_isi_int_bool, z_isi_int_int, z_isi_int_str, z_isi_int_list, z_isi_int_tuple, z_isi_bool_none, z_isi_bool_bool, z_isi_bool_int, z_isi_bool_str, z_isi_bool_list, z_isi_bool_tuple, z_isi_str_none, z_isi_str_bool, z_isi_str_int, z_isi_str_str, z_isi_str_list, z_isi_str_tuple, z_isi_list_none, z_isi_list_bool, z_isi_list_int, z_isi_list_str, z_isi_list_list, z_isi_list_tuple, z_isi_tuple_none, z_isi_tuple_bool, z_isi_tuple_int, z_isi_tuple_str, z_isi_tuple_list, z_isi_tuple_tuple, z_out_rt, z_out_nx, z_eqi, z_eqb, z_rng1, z_rng2, z_si_l, z_si_t, z_bind_nm, z_bind_tt, z_bind_tl, z_binds_n, z_binds_c, z_sl_l, z_sl_t, z_at0, z_at1, z_at2, z_at3, z_ixN0, z_intsn, z_intsc, z_boolsn, z_boolsc, y_e_isx, y_e_dct, y_e_lrg, y_e_mth, y_e_orv, y_callD, y_s_expC, y_s_retC, y_s_asgC, y_s_raise, y_s_tryE, y_s_forO, z_nox_dat, z_nox_own, z_nox_ref, z_nox_scr, z_nox_exc, z_nox_n, z_read_exo, z_arg_exo, z_hold_exo, z_exEnv, y_e_ixP, y_s_retP, z_sl_s, z_bin_ss, z_d_ints, z_ins, z_nins, y_i_sgn, z_eqs, z_fgn, z_fgc, z_lcn, z_lcc, rng_2, rng_3, z_en2, z_en3, z_zn, z_zn2, z_zc, cut2_a0, cut2_a1, cut2_b1, cut2_b2, cut3_a0, cut3_a1, cut3_a2, cut3_b1, cut3_b2, cut3_b3, List.nil_append, List.cons_append, Int.reduceAdd, Int.reduceSub, Int.reduceMul, Int.reduceMod, Int.reduceNeg, Int.reduceToNat, Nat.reduceAdd, Int.cast_ofNat_Int, Int.natCast_add, e1, e2, t, w0, f2, hd, h0]
  · by_cases w1 : y2 % 6 = 1
    · obtain ⟨a', b', c', d', -, p1, p2, p3, p4, p5, p6⟩ := fin (a + u) (b + v) 0 (by omega) (by omega)
      refine ⟨a', b', c', d', y4, p1, p2, p3, p4, p5, ?_⟩
      rw [← p6]
      have hd := s_law_det2 (k + 2) a b (a + u) (b + v) (st.set n [.int y4]) (bd1000 (by omega) (by omega)) (bd1000 (by omega) (by omega)) (bd1000 (by omega) (by omega)) (bd1000 (by omega) (by omega))
      by_cases h0 : a * (b + v) - b * (a + u) = 0 <;>
        simp (decide := true) only [b__law_drawn_pair, ↓reduceIte, Bool.not_true, Bool.not_false, decide_true, decide_false, wipeE, Bool.false_eq_true, y_e_c, y_e_v, y_e_g, y_e_never, y_e_bin, y_e_neg, y_e_tst, y_e_ite, y_e_tup, y_e_lst, y_e_box, y_e_ix, y_e_sl, y_e_rev, y_e_call, y_e_blt, y_e_isi, y_e_lc, y_es_nil, y_es_cons, y_o_no, y_o_yes, y_t_val, y_t_cmp, y_t_chn, y_t_isnt, y_t_isnf, z_nnr_dat, z_nnr_own, z_nnr_brw, z_nn_none, z_nn_bool, z_nn_int, z_nn_str, z_nn_list, z_nn_tuple, y_t_isb, y_t_and, y_t_or, y_t_not, y_h_last, y_h_link, y_al_one, y_al_cons, y_an_one, y_an_cons, y_c_no, y_c_yes, y_i_seq, y_i_rng, y_i_zip, y_i_enum, y_s_never, y_s_pass, y_s_asg, y_s_par, y_s_par3, y_s_setO, y_s_unp, y_s_setB, y_s_exp, y_s_app, y_s_ext, y_s_iff, y_s_whl, y_s_forr, y_s_ret, y_s_retv, y_s_frz, y_ss_nil, y_ss_cons, argsOf, views, caps, Option.map_some, Option.map_none, Option.bind_some, Option.bind_none, List.getElem?_cons_zero, List.getElem?_cons_succ, List.set_cons_zero, List.set_cons_succ, List.length_cons, List.length_nil, z_read_dat, z_read_ref, z_read_scr, z_read_own, z_view_own, z_view_brw, z_view_dat, z_cap_dat, z_cap_own, z_hold_dat, z_hold_ref, z_hold_scr, z_hold_own, z_arg_dat, z_arg_ref, z_arg_scr, z_arg_own, z_look_t, z_look_f, z_len_ref, z_len_scr, z_len_l, z_len_t, z_len_o, z_len_b, z_ix_ref, z_ix_scr, z_ix_l, z_ix_t, z_ix_o, z_ix_b, z_blt_len, z_blt_abs, z_blt_tup, z_blt_lst, z_blt_sum, z_blt_all, z_blt_any, z_blt_min, z_blt_max, z_blt_sorted, z_blt_repr, z_blt_str, z_blt_int, z_blt_divmod, z_d_abs, z_d_tupl, z_d_tupt, z_d_lstl, z_d_lstt, z_d_sum, z_d_all, z_d_any, z_d_minl, z_d_maxl, z_d_min, z_d_max, z_d_sorted, z_d_divmod, z_d_int, z_d_repr, z_d_str, z_d_strt, z_bin_i, z_bin_ll, z_bin_tt, z_bin_rep, z_add, z_sub, z_mul, z_fdiv, z_mod, z_eq, z_ne, z_lt, z_le, z_gt, z_ge, z_inl, z_int, z_ninl, z_nint, z_isi_int_none, z_isi_int_bool, z_isi_int_int, z_isi_int_str, z_isi_int_list, z_isi_int_tuple, z_isi_bool_none, z_isi_bool_bool, z_isi_bool_int, z_isi_bool_str, z_isi_bool_list, z_isi_bool_tuple, z_isi_str_none, z_isi_str_bool, z_isi_str_int, z_isi_str_str, z_isi_str_list, z_isi_str_tuple, z_isi_list_none, z_isi_list_bool, z_isi_list_int, z_isi_list_str, z_isi_list_list, z_isi_list_tuple, z_isi_tuple_none, z_isi_tuple_bool, z_isi_tuple_int, z_isi_tuple_str, z_isi_tuple_list, z_isi_tuple_tuple, z_out_rt, z_out_nx, z_eqi, z_eqb, z_rng1, z_rng2, z_si_l, z_si_t, z_bind_nm, z_bind_tt, z_bind_tl, z_binds_n, z_binds_c, z_sl_l, z_sl_t, z_at0, z_at1, z_at2, z_at3, z_ixN0, z_intsn, z_intsc, z_boolsn, z_boolsc, y_e_isx, y_e_dct, y_e_lrg, y_e_mth, y_e_orv, y_callD, y_s_expC, y_s_retC, y_s_asgC, y_s_raise, y_s_tryE, y_s_forO, z_nox_dat, z_nox_own, z_nox_ref, z_nox_scr, z_nox_exc, z_nox_n, z_read_exo, z_arg_exo, z_hold_exo, z_exEnv, y_e_ixP, y_s_retP, z_sl_s, z_bin_ss, z_d_ints, z_ins, z_nins, y_i_sgn, z_eqs, z_fgn, z_fgc, z_lcn, z_lcc, rng_2, rng_3, z_en2, z_en3, z_zn, z_zn2, z_zc, cut2_a0, cut2_a1, cut2_b1, cut2_b2, cut3_a0, cut3_a1, cut3_a2, cut3_b1, cut3_b2, cut3_b3, List.nil_append, List.cons_append, Int.reduceAdd, Int.reduceSub, Int.reduceMul, Int.reduceMod, Int.reduceNeg, Int.reduceToNat, Nat.reduceAdd, Int.cast_ofNat_Int, Int.natCast_add, e1, e2, t, w1, e4, f2, hd, h0]
    · obtain ⟨a', b', c', d', -, p1, p2, p3, p4, p5, p6⟩ := fin c d 0 (by omega) (by omega)
      refine ⟨a', b', c', d', y2 / 6, p1, p2, p3, p4, p5, ?_⟩
      rw [← p6]
      have hd := s_law_det2 (k + 2) a b c d (st.set n [.int (y2 / 6)]) (bd1000 (by omega) (by omega)) (bd1000 (by omega) (by omega)) (bd1000 (by omega) (by omega)) (bd1000 (by omega) (by omega))
      by_cases h0 : a * d - b * c = 0 <;>
        simp (decide := true) only [b__law_drawn_pair, ↓reduceIte, Bool.not_true, Bool.not_false, decide_true, decide_false, wipeE, Bool.false_eq_true, y_e_c, y_e_v, y_e_g, y_e_never, y_e_bin, y_e_neg, y_e_tst, y_e_ite, y_e_tup, y_e_lst, y_e_box, y_e_ix, y_e_sl, y_e_rev, y_e_call, y_e_blt, y_e_isi, y_e_lc, y_es_nil, y_es_cons, y_o_no, y_o_yes, y_t_val, y_t_cmp, y_t_chn, y_t_isnt, y_t_isnf, z_nnr_dat, z_nnr_own, z_nnr_brw, z_nn_none, z_nn_bool, z_nn_int, z_nn_str, z_nn_list, z_nn_tuple, y_t_isb, y_t_and, y_t_or, y_t_not, y_h_last, y_h_link, y_al_one, y_al_cons, y_an_one, y_an_cons, y_c_no, y_c_yes, y_i_seq, y_i_rng, y_i_zip, y_i_enum, y_s_never, y_s_pass, y_s_asg, y_s_par, y_s_par3, y_s_setO, y_s_unp, y_s_setB, y_s_exp, y_s_app, y_s_ext, y_s_iff, y_s_whl, y_s_forr, y_s_ret, y_s_retv, y_s_frz, y_ss_nil, y_ss_cons, argsOf, views, caps, Option.map_some, Option.map_none, Option.bind_some, Option.bind_none, List.getElem?_cons_zero, List.getElem?_cons_succ, List.set_cons_zero, List.set_cons_succ, List.length_cons, List.length_nil, z_read_dat, z_read_ref, z_read_scr, z_read_own, z_view_own, z_view_brw, z_view_dat, z_cap_dat, z_cap_own, z_hold_dat, z_hold_ref, z_hold_scr, z_hold_own, z_arg_dat, z_arg_ref, z_arg_scr, z_arg_own, z_look_t, z_look_f, z_len_ref, z_len_scr, z_len_l, z_len_t, z_len_o, z_len_b, z_ix_ref, z_ix_scr, z_ix_l, z_ix_t, z_ix_o, z_ix_b, z_blt_len, z_blt_abs, z_blt_tup, z_blt_lst, z_blt_sum, z_blt_all, z_blt_any, z_blt_min, z_blt_max, z_blt_sorted, z_blt_repr, z_blt_str, z_blt_int, z_blt_divmod, z_d_abs, z_d_tupl, z_d_tupt, z_d_lstl, z_d_lstt, z_d_sum, z_d_all, z_d_any, z_d_minl, z_d_maxl, z_d_min, z_d_max, z_d_sorted, z_d_divmod, z_d_int, z_d_repr, z_d_str, z_d_strt, z_bin_i, z_bin_ll, z_bin_tt, z_bin_rep, z_add, z_sub, z_mul, z_fdiv, z_mod, z_eq, z_ne, z_lt, z_le, z_gt, z_ge, z_inl, z_int, z_ninl, z_nint, z_isi_int_none, z_isi_int_bool, z_isi_int_int, z_isi_int_str, z_isi_int_list, z_isi_int_tuple, z_isi_bool_none, z_isi_bool_bool, z_isi_bool_int, z_isi_bool_str, z_isi_bool_list, z_isi_bool_tuple, z_isi_str_none, z_isi_str_bool, z_isi_str_int, z_isi_str_str, z_isi_str_list, z_isi_str_tuple, z_isi_list_none, z_isi_list_bool, z_isi_list_int, z_isi_list_str, z_isi_list_list, z_isi_list_tuple, z_isi_tuple_none, z_isi_tuple_bool, z_isi_tuple_int, z_isi_tuple_str, z_isi_tuple_list, z_isi_tuple_tuple, z_out_rt, z_out_nx, z_eqi, z_eqb, z_rng1, z_rng2, z_si_l, z_si_t, z_bind_nm, z_bind_tt, z_bind_tl, z_binds_n, z_binds_c, z_sl_l, z_sl_t, z_at0, z_at1, z_at2, z_at3, z_ixN0, z_intsn, z_intsc, z_boolsn, z_boolsc, y_e_isx, y_e_dct, y_e_lrg, y_e_mth, y_e_orv, y_callD, y_s_expC, y_s_retC, y_s_asgC, y_s_raise, y_s_tryE, y_s_forO, z_nox_dat, z_nox_own, z_nox_ref, z_nox_scr, z_nox_exc, z_nox_n, z_read_exo, z_arg_exo, z_hold_exo, z_exEnv, y_e_ixP, y_s_retP, z_sl_s, z_bin_ss, z_d_ints, z_ins, z_nins, y_i_sgn, z_eqs, z_fgn, z_fgc, z_lcn, z_lcc, rng_2, rng_3, z_en2, z_en3, z_zn, z_zn2, z_zc, cut2_a0, cut2_a1, cut2_b1, cut2_b2, cut3_a0, cut3_a1, cut3_a2, cut3_b1, cut3_b2, cut3_b3, List.nil_append, List.cons_append, Int.reduceAdd, Int.reduceSub, Int.reduceMul, Int.reduceMod, Int.reduceNeg, Int.reduceToNat, Nat.reduceAdd, Int.cast_ofNat_Int, Int.natCast_add, e1, e2, t, w0, w1, f2, hd, h0]

/-! width three -/
theorem s_det2l (k : Nat) (a b c d : Int) (st : Bx) (ha : Bd 1000 a) (hb : Bd 1000 b) (hc : Bd 1000 c) (hd : Bd 1000 d) :
    callF tb (k + 2) "determinant" [.dat (.list [(PyData.tuple [PyData.int (a), PyData.int (b)]), (PyData.tuple [PyData.int (c), PyData.int (d)])])] st = some (.dat (.int (a * d - b * c)), st) := by
  rw [c_determinant]
  have m0 : mulOk 2 0 = true := by decide
  have m1 : mulOk 2 1 = true := by decide
  have m2 : mulOk 1 a = true := by exact Sy.mulOk_bd (by repeat' (first | assumption | apply Sy.bd_mul | apply Sy.bd_add | apply Sy.bd_sub | apply Sy.bd_neg | apply Sy.bd_abs | (exact Sy.bd_s (by decide) (by decide)) | (exact Sy.bd_s (by omega) (by omega)))) (by repeat' (first | assumption | apply Sy.bd_mul | apply Sy.bd_add | apply Sy.bd_sub | apply Sy.bd_neg | apply Sy.bd_abs | (exact Sy.bd_s (by decide) (by decide)) | (exact Sy.bd_s (by omega) (by omega)))) (by decide)
  have m3 : mulOk (-1) b = true := by exact Sy.mulOk_bd (by repeat' (first | assumption | apply Sy.bd_mul | apply Sy.bd_add | apply Sy.bd_sub | apply Sy.bd_neg | apply Sy.bd_abs | (exact Sy.bd_s (by decide) (by decide)) | (exact Sy.bd_s (by omega) (by omega)))) (by repeat' (first | assumption | apply Sy.bd_mul | apply Sy.bd_add | apply Sy.bd_sub | apply Sy.bd_neg | apply Sy.bd_abs | (exact Sy.bd_s (by decide) (by decide)) | (exact Sy.bd_s (by omega) (by omega)))) (by decide)
  have m4 : mulOk (1 * a) d = true := by exact Sy.mulOk_bd (by repeat' (first | assumption | apply Sy.bd_mul | apply Sy.bd_add | apply Sy.bd_sub | apply Sy.bd_neg | apply Sy.bd_abs | (exact Sy.bd_s (by decide) (by decide)) | (exact Sy.bd_s (by omega) (by omega)))) (by repeat' (first | assumption | apply Sy.bd_mul | apply Sy.bd_add | apply Sy.bd_sub | apply Sy.bd_neg | apply Sy.bd_abs | (exact Sy.bd_s (by decide) (by decide)) | (exact Sy.bd_s (by omega) (by omega)))) (by decide)
  have m5 : mulOk (-1 * b) c = true := by exact Sy.mulOk_bd (by repeat' (first | assumption | apply Sy.bd_mul | apply Sy.bd_add | apply Sy.bd_sub | apply Sy.bd_neg | apply Sy.bd_abs | (exact Sy.bd_s (by decide) (by decide)) | (exact Sy.bd_s (by omega) (by omega)))) (by repeat' (first | assumption | apply Sy.bd_mul | apply Sy.bd_add | apply Sy.bd_sub | apply Sy.bd_neg | apply Sy.bd_abs | (exact Sy.bd_s (by decide) (by decide)) | (exact Sy.bd_s (by omega) (by omega)))) (by decide)
  have f1 : fitsL 1 = true := by decide
  have e : 0 + 1 * a * d + -1 * b * c = a * d - b * c := by grind
  simp (decide := true) only [b_determinant, l_determinant_1, lb_determinant_1, q_determinant_1, ↓reduceIte, Bool.not_true, Bool.not_false, decide_true, decide_false, wipeE, Bool.false_eq_true, y_e_c, y_e_v, y_e_g, y_e_never, y_e_bin, y_e_neg, y_e_tst, y_e_ite, y_e_tup, y_e_lst, y_e_box, y_e_ix, y_e_sl, y_e_rev, y_e_call, y_e_blt, y_e_isi, y_e_lc, y_es_nil, y_es_cons, y_o_no, y_o_yes, y_t_val, y_t_cmp, y_t_chn, y_t_isnt, y_t_isnf, z_nnr_dat, z_nnr_own, z_nnr_brw, z_nn_none, z_nn_bool, z_nn_int, z_nn_str, z_nn_list, z_nn_tuple, y_t_isb, y_t_and, y_t_or, y_t_not, y_h_last, y_h_link, y_al_one, y_al_cons, y_an_one, y_an_cons, y_c_no, y_c_yes, y_i_seq, y_i_rng, y_i_zip, y_i_enum, y_s_never, y_s_pass, y_s_asg, y_s_par, y_s_par3, y_s_setO, y_s_unp, y_s_setB, y_s_exp, y_s_app, y_s_ext, y_s_iff, y_s_whl, y_s_forr, y_s_ret, y_s_retv, y_s_frz, y_ss_nil, y_ss_cons, argsOf, views, caps, Option.map_some, Option.map_none, Option.bind_some, Option.bind_none, List.getElem?_cons_zero, List.getElem?_cons_succ, List.set_cons_zero, List.set_cons_succ, List.length_cons, List.length_nil, z_read_dat, z_read_ref, z_read_scr, z_read_own, z_view_own, z_view_brw, z_view_dat, z_cap_dat, z_cap_own, z_hold_dat, z_hold_ref, z_hold_scr, z_hold_own, z_arg_dat, z_arg_ref, z_arg_scr, z_arg_own, z_look_t, z_look_f, z_len_ref, z_len_scr, z_len_l, z_len_t, z_len_o, z_len_b, z_ix_ref, z_ix_scr, z_ix_l, z_ix_t, z_ix_o, z_ix_b, z_blt_len, z_blt_abs, z_blt_tup, z_blt_lst, z_blt_sum, z_blt_all, z_blt_any, z_blt_min, z_blt_max, z_blt_sorted, z_blt_repr, z_blt_str, z_blt_int, z_blt_divmod, z_d_abs, z_d_tupl, z_d_tupt, z_d_lstl, z_d_lstt, z_d_sum, z_d_all, z_d_any, z_d_minl, z_d_maxl, z_d_min, z_d_max, z_d_sorted, z_d_divmod, z_d_int, z_d_repr, z_d_str, z_d_strt, z_bin_i, z_bin_ll, z_bin_tt, z_bin_rep, z_add, z_sub, z_mul, z_fdiv, z_mod, z_eq, z_ne, z_lt, z_le, z_gt, z_ge, z_inl, z_int, z_ninl, z_nint, z_isi_int_none, z_isi_int_bool, z_isi_int_int, z_isi_int_str, z_isi_int_list, z_isi_int_tuple, z_isi_bool_none, z_isi_bool_bool, z_isi_bool_int, z_isi_bool_str, z_isi_bool_list, z_isi_bool_tuple, z_isi_str_none, z_isi_str_bool, z_isi_str_int, z_isi_str_str, z_isi_str_list, z_isi_str_tuple, z_isi_list_none, z_isi_list_bool, z_isi_list_int, z_isi_list_str, z_isi_list_list, z_isi_list_tuple, z_isi_tuple_none, z_isi_tuple_bool, z_isi_tuple_int, z_isi_tuple_str, z_isi_tuple_list, z_isi_tuple_tuple, z_out_rt, z_out_nx, z_eqi, z_eqb, z_rng1, z_rng2, z_si_l, z_si_t, z_bind_nm, z_bind_tt, z_bind_tl, z_binds_n, z_binds_c, z_sl_l, z_sl_t, z_at0, z_at1, z_at2, z_at3, z_ixN0, z_intsn, z_intsc, z_boolsn, z_boolsc, y_e_isx, y_e_dct, y_e_lrg, y_e_mth, y_e_orv, y_callD, y_s_expC, y_s_retC, y_s_asgC, y_s_raise, y_s_tryE, y_s_forO, z_nox_dat, z_nox_own, z_nox_ref, z_nox_scr, z_nox_exc, z_nox_n, z_read_exo, z_arg_exo, z_hold_exo, z_exEnv, y_e_ixP, y_s_retP, z_sl_s, z_bin_ss, z_d_ints, z_ins, z_nins, y_i_sgn, z_eqs, z_fgn, z_fgc, z_lcn, z_lcc, rng_2, rng_3, z_en2, z_en3, z_zn, z_zn2, z_zc, cut2_a0, cut2_a1, cut2_b1, cut2_b2, cut3_a0, cut3_a1, cut3_a2, cut3_b1, cut3_b2, cut3_b3, List.nil_append, List.cons_append, Int.reduceAdd, Int.reduceSub, Int.reduceMul, Int.reduceMod, Int.reduceNeg, Int.reduceToNat, Nat.reduceAdd, Int.cast_ofNat_Int, Int.natCast_add, s_det1, m0, m1, m2, m3, m4, m5, f1, e]
def det3 (a b c d e f g h i : Int) : Int := a * (e * i - f * h) - b * (d * i - f * g) + c * (d * h - e * g)
theorem s_det3 (k : Nat) (a b c d e f g h i : Int) (st : Bx) (ha : Bd 1000 a) (hb : Bd 1000 b) (hc : Bd 1000 c) (hd : Bd 1000 d) (he : Bd 1000 e) (hf : Bd 1000 f) (hg : Bd 1000 g) (hh : Bd 1000 h) (hi : Bd 1000 i) :
    callF tb (k + 3) "determinant" [.dat (PyData.tuple [PyData.tuple [PyData.int (a), PyData.int (b), PyData.int (c)], PyData.tuple [PyData.int (d), PyData.int (e), PyData.int (f)], PyData.tuple [PyData.int (g), PyData.int (h), PyData.int (i)]])] st = some (.dat (.int (det3 a b c d e f g h i)), st) := by
  rw [c_determinant]
  have m0 : mulOk 2 0 = true := by decide
  have m1 : mulOk 2 1 = true := by decide
  have m2 : mulOk 1 a = true := by exact Sy.mulOk_bd (by repeat' (first | assumption | apply Sy.bd_mul | apply Sy.bd_add | apply Sy.bd_sub | apply Sy.bd_neg | apply Sy.bd_abs | (exact Sy.bd_s (by decide) (by decide)) | (exact Sy.bd_s (by omega) (by omega)))) (by repeat' (first | assumption | apply Sy.bd_mul | apply Sy.bd_add | apply Sy.bd_sub | apply Sy.bd_neg | apply Sy.bd_abs | (exact Sy.bd_s (by decide) (by decide)) | (exact Sy.bd_s (by omega) (by omega)))) (by decide)
  have m3 : mulOk (-1) b = true := by exact Sy.mulOk_bd (by repeat' (first | assumption | apply Sy.bd_mul | apply Sy.bd_add | apply Sy.bd_sub | apply Sy.bd_neg | apply Sy.bd_abs | (exact Sy.bd_s (by decide) (by decide)) | (exact Sy.bd_s (by omega) (by omega)))) (by repeat' (first | assumption | apply Sy.bd_mul | apply Sy.bd_add | apply Sy.bd_sub | apply Sy.bd_neg | apply Sy.bd_abs | (exact Sy.bd_s (by decide) (by decide)) | (exact Sy.bd_s (by omega) (by omega)))) (by decide)
  have m4 : mulOk 1 c = true := by exact Sy.mulOk_bd (by repeat' (first | assumption | apply Sy.bd_mul | apply Sy.bd_add | apply Sy.bd_sub | apply Sy.bd_neg | apply Sy.bd_abs | (exact Sy.bd_s (by decide) (by decide)) | (exact Sy.bd_s (by omega) (by omega)))) (by repeat' (first | assumption | apply Sy.bd_mul | apply Sy.bd_add | apply Sy.bd_sub | apply Sy.bd_neg | apply Sy.bd_abs | (exact Sy.bd_s (by decide) (by decide)) | (exact Sy.bd_s (by omega) (by omega)))) (by decide)
  have m5 : mulOk (1 * a) (e * i - f * h) = true := by exact Sy.mulOk_bd (by repeat' (first | assumption | apply Sy.bd_mul | apply Sy.bd_add | apply Sy.bd_sub | apply Sy.bd_neg | apply Sy.bd_abs | (exact Sy.bd_s (by decide) (by decide)) | (exact Sy.bd_s (by omega) (by omega)))) (by repeat' (first | assumption | apply Sy.bd_mul | apply Sy.bd_add | apply Sy.bd_sub | apply Sy.bd_neg | apply Sy.bd_abs | (exact Sy.bd_s (by decide) (by decide)) | (exact Sy.bd_s (by omega) (by omega)))) (by decide)
  have m6 : mulOk (-1 * b) (d * i - f * g) = true := by exact Sy.mulOk_bd (by repeat' (first | assumption | apply Sy.bd_mul | apply Sy.bd_add | apply Sy.bd_sub | apply Sy.bd_neg | apply Sy.bd_abs | (exact Sy.bd_s (by decide) (by decide)) | (exact Sy.bd_s (by omega) (by omega)))) (by repeat' (first | assumption | apply Sy.bd_mul | apply Sy.bd_add | apply Sy.bd_sub | apply Sy.bd_neg | apply Sy.bd_abs | (exact Sy.bd_s (by decide) (by decide)) | (exact Sy.bd_s (by omega) (by omega)))) (by decide)
  have m7 : mulOk (1 * c) (d * h - e * g) = true := by exact Sy.mulOk_bd (by repeat' (first | assumption | apply Sy.bd_mul | apply Sy.bd_add | apply Sy.bd_sub | apply Sy.bd_neg | apply Sy.bd_abs | (exact Sy.bd_s (by decide) (by decide)) | (exact Sy.bd_s (by omega) (by omega)))) (by repeat' (first | assumption | apply Sy.bd_mul | apply Sy.bd_add | apply Sy.bd_sub | apply Sy.bd_neg | apply Sy.bd_abs | (exact Sy.bd_s (by decide) (by decide)) | (exact Sy.bd_s (by omega) (by omega)))) (by decide)
  have f2 : fitsL 2 = true := by decide
  have d1 := s_det2l k e f h i st he hf hh hi
  have d2 := s_det2l k d f g i st hd hf hg hi
  have d3 := s_det2l k d e g h st hd he hg hh
  have e : 0 + 1 * a * (e * i - f * h) + -1 * b * (d * i - f * g) + 1 * c * (d * h - e * g) = det3 a b c d e f g h i := by unfold det3; grind
  simp (decide := true) only [b_determinant, l_determinant_1, lb_determinant_1, q_determinant_1, ↓reduceIte, Bool.not_true, Bool.not_false, decide_true, decide_false, wipeE, Bool.false_eq_true, y_e_c, y_e_v, y_e_g, y_e_never, y_e_bin, y_e_neg, y_e_tst, y_e_ite, y_e_tup, y_e_lst, y_e_box, y_e_ix, y_e_sl, y_e_rev, y_e_call, y_e_blt, y_e_isi, y_e_lc, y_es_nil, y_es_cons, y_o_no, y_o_yes, y_t_val, y_t_cmp, y_t_chn, y_t_isnt, y_t_isnf, z_nnr_dat, z_nnr_own, z_nnr_brw, z_nn_none, z_nn_bool, z_nn_int, z_nn_str, z_nn_list, z_nn_tuple, y_t_isb, y_t_and, y_t_or, y_t_not, y_h_last, y_h_link, y_al_one, y_al_cons, y_an_one, y_an_cons, y_c_no, y_c_yes, y_i_seq, y_i_rng, y_i_zip, y_i_enum, y_s_never, y_s_pass, y_s_asg, y_s_par, y_s_par3, y_s_setO, y_s_unp, y_s_setB, y_s_exp, y_s_app, y_s_ext, y_s_iff, y_s_whl, y_s_forr, y_s_ret, y_s_retv, y_s_frz, y_ss_nil, y_ss_cons, argsOf, views, caps, Option.map_some, Option.map_none, Option.bind_some, Option.bind_none, List.getElem?_cons_zero, List.getElem?_cons_succ, List.set_cons_zero, List.set_cons_succ, List.length_cons, List.length_nil, z_read_dat, z_read_ref, z_read_scr, z_read_own, z_view_own, z_view_brw, z_view_dat, z_cap_dat, z_cap_own, z_hold_dat, z_hold_ref, z_hold_scr, z_hold_own, z_arg_dat, z_arg_ref, z_arg_scr, z_arg_own, z_look_t, z_look_f, z_len_ref, z_len_scr, z_len_l, z_len_t, z_len_o, z_len_b, z_ix_ref, z_ix_scr, z_ix_l, z_ix_t, z_ix_o, z_ix_b, z_blt_len, z_blt_abs, z_blt_tup, z_blt_lst, z_blt_sum, z_blt_all, z_blt_any, z_blt_min, z_blt_max, z_blt_sorted, z_blt_repr, z_blt_str, z_blt_int, z_blt_divmod, z_d_abs, z_d_tupl, z_d_tupt, z_d_lstl, z_d_lstt, z_d_sum, z_d_all, z_d_any, z_d_minl, z_d_maxl, z_d_min, z_d_max, z_d_sorted, z_d_divmod, z_d_int, z_d_repr, z_d_str, z_d_strt, z_bin_i, z_bin_ll, z_bin_tt, z_bin_rep, z_add, z_sub, z_mul, z_fdiv, z_mod, z_eq, z_ne, z_lt, z_le, z_gt, z_ge, z_inl, z_int, z_ninl, z_nint, z_isi_int_none, z_isi_int_bool, z_isi_int_int, z_isi_int_str, z_isi_int_list, z_isi_int_tuple, z_isi_bool_none, z_isi_bool_bool, z_isi_bool_int, z_isi_bool_str, z_isi_bool_list, z_isi_bool_tuple, z_isi_str_none, z_isi_str_bool, z_isi_str_int, z_isi_str_str, z_isi_str_list, z_isi_str_tuple, z_isi_list_none, z_isi_list_bool, z_isi_list_int, z_isi_list_str, z_isi_list_list, z_isi_list_tuple, z_isi_tuple_none, z_isi_tuple_bool, z_isi_tuple_int, z_isi_tuple_str, z_isi_tuple_list, z_isi_tuple_tuple, z_out_rt, z_out_nx, z_eqi, z_eqb, z_rng1, z_rng2, z_si_l, z_si_t, z_bind_nm, z_bind_tt, z_bind_tl, z_binds_n, z_binds_c, z_sl_l, z_sl_t, z_at0, z_at1, z_at2, z_at3, z_ixN0, z_intsn, z_intsc, z_boolsn, z_boolsc, y_e_isx, y_e_dct, y_e_lrg, y_e_mth, y_e_orv, y_callD, y_s_expC, y_s_retC, y_s_asgC, y_s_raise, y_s_tryE, y_s_forO, z_nox_dat, z_nox_own, z_nox_ref, z_nox_scr, z_nox_exc, z_nox_n, z_read_exo, z_arg_exo, z_hold_exo, z_exEnv, y_e_ixP, y_s_retP, z_sl_s, z_bin_ss, z_d_ints, z_ins, z_nins, y_i_sgn, z_eqs, z_fgn, z_fgc, z_lcn, z_lcc, rng_2, rng_3, z_en2, z_en3, z_zn, z_zn2, z_zc, cut2_a0, cut2_a1, cut2_b1, cut2_b2, cut3_a0, cut3_a1, cut3_a2, cut3_b1, cut3_b2, cut3_b3, List.nil_append, List.cons_append, Int.reduceAdd, Int.reduceSub, Int.reduceMul, Int.reduceMod, Int.reduceNeg, Int.reduceToNat, Nat.reduceAdd, Int.cast_ofNat_Int, Int.natCast_add, d1, d2, d3, m0, m1, m2, m3, m4, m5, m6, m7, f2, e]
theorem s_law_det3 (k : Nat) (a b c d e f g h i : Int) (st : Bx) (ha : Bd 1000 a) (hb : Bd 1000 b) (hc : Bd 1000 c) (hd : Bd 1000 d) (he : Bd 1000 e) (hf : Bd 1000 f) (hg : Bd 1000 g) (hh : Bd 1000 h) (hi : Bd 1000 i) :
    callF tb (k + 1) "_law_det" [.dat (PyData.tuple [PyData.tuple [PyData.int (a), PyData.int (b), PyData.int (c)], PyData.tuple [PyData.int (d), PyData.int (e), PyData.int (f)], PyData.tuple [PyData.int (g), PyData.int (h), PyData.int (i)]])] st = some (.dat (.int (det3 a b c d e f g h i)), st) := by
  rw [c__law_det]
  have r3 : rngOk 3 = true := by decide
  have f3 : fitsL 3 = true := by decide
  have m1 : mulOk e i = true := by exact Sy.mulOk_bd (by repeat' (first | assumption | apply Sy.bd_mul | apply Sy.bd_add | apply Sy.bd_sub | apply Sy.bd_neg | apply Sy.bd_abs | (exact Sy.bd_s (by decide) (by decide)) | (exact Sy.bd_s (by omega) (by omega)))) (by repeat' (first | assumption | apply Sy.bd_mul | apply Sy.bd_add | apply Sy.bd_sub | apply Sy.bd_neg | apply Sy.bd_abs | (exact Sy.bd_s (by decide) (by decide)) | (exact Sy.bd_s (by omega) (by omega)))) (by decide)
  have m2 : mulOk f h = true := by exact Sy.mulOk_bd (by repeat' (first | assumption | apply Sy.bd_mul | apply Sy.bd_add | apply Sy.bd_sub | apply Sy.bd_neg | apply Sy.bd_abs | (exact Sy.bd_s (by decide) (by decide)) | (exact Sy.bd_s (by omega) (by omega)))) (by repeat' (first | assumption | apply Sy.bd_mul | apply Sy.bd_add | apply Sy.bd_sub | apply Sy.bd_neg | apply Sy.bd_abs | (exact Sy.bd_s (by decide) (by decide)) | (exact Sy.bd_s (by omega) (by omega)))) (by decide)
  have m3 : mulOk d i = true := by exact Sy.mulOk_bd (by repeat' (first | assumption | apply Sy.bd_mul | apply Sy.bd_add | apply Sy.bd_sub | apply Sy.bd_neg | apply Sy.bd_abs | (exact Sy.bd_s (by decide) (by decide)) | (exact Sy.bd_s (by omega) (by omega)))) (by repeat' (first | assumption | apply Sy.bd_mul | apply Sy.bd_add | apply Sy.bd_sub | apply Sy.bd_neg | apply Sy.bd_abs | (exact Sy.bd_s (by decide) (by decide)) | (exact Sy.bd_s (by omega) (by omega)))) (by decide)
  have m4 : mulOk f g = true := by exact Sy.mulOk_bd (by repeat' (first | assumption | apply Sy.bd_mul | apply Sy.bd_add | apply Sy.bd_sub | apply Sy.bd_neg | apply Sy.bd_abs | (exact Sy.bd_s (by decide) (by decide)) | (exact Sy.bd_s (by omega) (by omega)))) (by repeat' (first | assumption | apply Sy.bd_mul | apply Sy.bd_add | apply Sy.bd_sub | apply Sy.bd_neg | apply Sy.bd_abs | (exact Sy.bd_s (by decide) (by decide)) | (exact Sy.bd_s (by omega) (by omega)))) (by decide)
  have m5 : mulOk d h = true := by exact Sy.mulOk_bd (by repeat' (first | assumption | apply Sy.bd_mul | apply Sy.bd_add | apply Sy.bd_sub | apply Sy.bd_neg | apply Sy.bd_abs | (exact Sy.bd_s (by decide) (by decide)) | (exact Sy.bd_s (by omega) (by omega)))) (by repeat' (first | assumption | apply Sy.bd_mul | apply Sy.bd_add | apply Sy.bd_sub | apply Sy.bd_neg | apply Sy.bd_abs | (exact Sy.bd_s (by decide) (by decide)) | (exact Sy.bd_s (by omega) (by omega)))) (by decide)
  have m6 : mulOk e g = true := by exact Sy.mulOk_bd (by repeat' (first | assumption | apply Sy.bd_mul | apply Sy.bd_add | apply Sy.bd_sub | apply Sy.bd_neg | apply Sy.bd_abs | (exact Sy.bd_s (by decide) (by decide)) | (exact Sy.bd_s (by omega) (by omega)))) (by repeat' (first | assumption | apply Sy.bd_mul | apply Sy.bd_add | apply Sy.bd_sub | apply Sy.bd_neg | apply Sy.bd_abs | (exact Sy.bd_s (by decide) (by decide)) | (exact Sy.bd_s (by omega) (by omega)))) (by decide)
  have m7 : mulOk 1 a = true := by exact Sy.mulOk_bd (by repeat' (first | assumption | apply Sy.bd_mul | apply Sy.bd_add | apply Sy.bd_sub | apply Sy.bd_neg | apply Sy.bd_abs | (exact Sy.bd_s (by decide) (by decide)) | (exact Sy.bd_s (by omega) (by omega)))) (by repeat' (first | assumption | apply Sy.bd_mul | apply Sy.bd_add | apply Sy.bd_sub | apply Sy.bd_neg | apply Sy.bd_abs | (exact Sy.bd_s (by decide) (by decide)) | (exact Sy.bd_s (by omega) (by omega)))) (by decide)
  have m8 : mulOk (-1) b = true := by exact Sy.mulOk_bd (by repeat' (first | assumption | apply Sy.bd_mul | apply Sy.bd_add | apply Sy.bd_sub | apply Sy.bd_neg | apply Sy.bd_abs | (exact Sy.bd_s (by decide) (by decide)) | (exact Sy.bd_s (by omega) (by omega)))) (by repeat' (first | assumption | apply Sy.bd_mul | apply Sy.bd_add | apply Sy.bd_sub | apply Sy.bd_neg | apply Sy.bd_abs | (exact Sy.bd_s (by decide) (by decide)) | (exact Sy.bd_s (by omega) (by omega)))) (by decide)
  have m9 : mulOk 1 c = true := by exact Sy.mulOk_bd (by repeat' (first | assumption | apply Sy.bd_mul | apply Sy.bd_add | apply Sy.bd_sub | apply Sy.bd_neg | apply Sy.bd_abs | (exact Sy.bd_s (by decide) (by decide)) | (exact Sy.bd_s (by omega) (by omega)))) (by repeat' (first | assumption | apply Sy.bd_mul | apply Sy.bd_add | apply Sy.bd_sub | apply Sy.bd_neg | apply Sy.bd_abs | (exact Sy.bd_s (by decide) (by decide)) | (exact Sy.bd_s (by omega) (by omega)))) (by decide)
  have n1 : mulOk (1 * a) (e * i - f * h) = true := by exact Sy.mulOk_bd (by repeat' (first | assumption | apply Sy.bd_mul | apply Sy.bd_add | apply Sy.bd_sub | apply Sy.bd_neg | apply Sy.bd_abs | (exact Sy.bd_s (by decide) (by decide)) | (exact Sy.bd_s (by omega) (by omega)))) (by repeat' (first | assumption | apply Sy.bd_mul | apply Sy.bd_add | apply Sy.bd_sub | apply Sy.bd_neg | apply Sy.bd_abs | (exact Sy.bd_s (by decide) (by decide)) | (exact Sy.bd_s (by omega) (by omega)))) (by decide)
  have n2 : mulOk (-1 * b) (d * i - f * g) = true := by exact Sy.mulOk_bd (by repeat' (first | assumption | apply Sy.bd_mul | apply Sy.bd_add | apply Sy.bd_sub | apply Sy.bd_neg | apply Sy.bd_abs | (exact Sy.bd_s (by decide) (by decide)) | (exact Sy.bd_s (by omega) (by omega)))) (by repeat' (first | assumption | apply Sy.bd_mul | apply Sy.bd_add | apply Sy.bd_sub | apply Sy.bd_neg | apply Sy.bd_abs | (exact Sy.bd_s (by decide) (by decide)) | (exact Sy.bd_s (by omega) (by omega)))) (by decide)
  have n3 : mulOk (1 * c) (d * h - e * g) = true := by exact Sy.mulOk_bd (by repeat' (first | assumption | apply Sy.bd_mul | apply Sy.bd_add | apply Sy.bd_sub | apply Sy.bd_neg | apply Sy.bd_abs | (exact Sy.bd_s (by decide) (by decide)) | (exact Sy.bd_s (by omega) (by omega)))) (by repeat' (first | assumption | apply Sy.bd_mul | apply Sy.bd_add | apply Sy.bd_sub | apply Sy.bd_neg | apply Sy.bd_abs | (exact Sy.bd_s (by decide) (by decide)) | (exact Sy.bd_s (by omega) (by omega)))) (by decide)
  have e : 0 + 1 * a * (e * i - f * h) + -1 * b * (d * i - f * g) + 1 * c * (d * h - e * g) = det3 a b c d e f g h i := by unfold det3; grind
  simp (decide := true) only [b__law_det, l__law_det_1, lb__law_det_1, q__law_det_1, ↓reduceIte, Bool.not_true, Bool.not_false, decide_true, decide_false, wipeE, Bool.false_eq_true, y_e_c, y_e_v, y_e_g, y_e_never, y_e_bin, y_e_neg, y_e_tst, y_e_ite, y_e_tup, y_e_lst, y_e_box, y_e_ix, y_e_sl, y_e_rev, y_e_call, y_e_blt, y_e_isi, y_e_lc, y_es_nil, y_es_cons, y_o_no, y_o_yes, y_t_val, y_t_cmp, y_t_chn, y_t_isnt, y_t_isnf, z_nnr_dat, z_nnr_own, z_nnr_brw, z_nn_none, z_nn_bool, z_nn_int, z_nn_str, z_nn_list, z_nn_tuple, y_t_isb, y_t_and, y_t_or, y_t_not, y_h_last, y_h_link, y_al_one, y_al_cons, y_an_one, y_an_cons, y_c_no, y_c_yes, y_i_seq, y_i_rng, y_i_zip, y_i_enum, y_s_never, y_s_pass, y_s_asg, y_s_par, y_s_par3, y_s_setO, y_s_unp, y_s_setB, y_s_exp, y_s_app, y_s_ext, y_s_iff, y_s_whl, y_s_forr, y_s_ret, y_s_retv, y_s_frz, y_ss_nil, y_ss_cons, argsOf, views, caps, Option.map_some, Option.map_none, Option.bind_some, Option.bind_none, List.getElem?_cons_zero, List.getElem?_cons_succ, List.set_cons_zero, List.set_cons_succ, List.length_cons, List.length_nil, z_read_dat, z_read_ref, z_read_scr, z_read_own, z_view_own, z_view_brw, z_view_dat, z_cap_dat, z_cap_own, z_hold_dat, z_hold_ref, z_hold_scr, z_hold_own, z_arg_dat, z_arg_ref, z_arg_scr, z_arg_own, z_look_t, z_look_f, z_len_ref, z_len_scr, z_len_l, z_len_t, z_len_o, z_len_b, z_ix_ref, z_ix_scr, z_ix_l, z_ix_t, z_ix_o, z_ix_b, z_blt_len, z_blt_abs, z_blt_tup, z_blt_lst, z_blt_sum, z_blt_all, z_blt_any, z_blt_min, z_blt_max, z_blt_sorted, z_blt_repr, z_blt_str, z_blt_int, z_blt_divmod, z_d_abs, z_d_tupl, z_d_tupt, z_d_lstl, z_d_lstt, z_d_sum, z_d_all, z_d_any, z_d_minl, z_d_maxl, z_d_min, z_d_max, z_d_sorted, z_d_divmod, z_d_int, z_d_repr, z_d_str, z_d_strt, z_bin_i, z_bin_ll, z_bin_tt, z_bin_rep, z_add, z_sub, z_mul, z_fdiv, z_mod, z_eq, z_ne, z_lt, z_le, z_gt, z_ge, z_inl, z_int, z_ninl, z_nint, z_isi_int_none, z_isi_int_bool, z_isi_int_int, z_isi_int_str, z_isi_int_list, z_isi_int_tuple, z_isi_bool_none, z_isi_bool_bool, z_isi_bool_int, z_isi_bool_str, z_isi_bool_list, z_isi_bool_tuple, z_isi_str_none, z_isi_str_bool, z_isi_str_int, z_isi_str_str, z_isi_str_list, z_isi_str_tuple, z_isi_list_none, z_isi_list_bool, z_isi_list_int, z_isi_list_str, z_isi_list_list, z_isi_list_tuple, z_isi_tuple_none, z_isi_tuple_bool, z_isi_tuple_int, z_isi_tuple_str, z_isi_tuple_list, z_isi_tuple_tuple, z_out_rt, z_out_nx, z_eqi, z_eqb, z_rng1, z_rng2, z_si_l, z_si_t, z_bind_nm, z_bind_tt, z_bind_tl, z_binds_n, z_binds_c, z_sl_l, z_sl_t, z_at0, z_at1, z_at2, z_at3, z_ixN0, z_intsn, z_intsc, z_boolsn, z_boolsc, y_e_isx, y_e_dct, y_e_lrg, y_e_mth, y_e_orv, y_callD, y_s_expC, y_s_retC, y_s_asgC, y_s_raise, y_s_tryE, y_s_forO, z_nox_dat, z_nox_own, z_nox_ref, z_nox_scr, z_nox_exc, z_nox_n, z_read_exo, z_arg_exo, z_hold_exo, z_exEnv, y_e_ixP, y_s_retP, z_sl_s, z_bin_ss, z_d_ints, z_ins, z_nins, y_i_sgn, z_eqs, z_fgn, z_fgc, z_lcn, z_lcc, rng_2, rng_3, z_en2, z_en3, z_zn, z_zn2, z_zc, cut2_a0, cut2_a1, cut2_b1, cut2_b2, cut3_a0, cut3_a1, cut3_a2, cut3_b1, cut3_b2, cut3_b3, List.nil_append, List.cons_append, Int.reduceAdd, Int.reduceSub, Int.reduceMul, Int.reduceMod, Int.reduceNeg, Int.reduceToNat, Nat.reduceAdd, Int.cast_ofNat_Int, Int.natCast_add, r3, f3, m1, m2, m3, m4, m5, m6, m7, m8, m9, n1, n2, n3, e]
theorem s_is_steps3 (k : Nat) (a b c d e f g h i : Int) (st : Bx) (ha : Bd 1000 a) (hb : Bd 1000 b) (hc : Bd 1000 c) (hd : Bd 1000 d) (he : Bd 1000 e) (hf : Bd 1000 f) (hg : Bd 1000 g) (hh : Bd 1000 h) (hi : Bd 1000 i) :
    callF tb (k + 4) "is_steps" [.dat (PyData.tuple [PyData.tuple [PyData.int (a), PyData.int (b), PyData.int (c)], PyData.tuple [PyData.int (d), PyData.int (e), PyData.int (f)], PyData.tuple [PyData.int (g), PyData.int (h), PyData.int (i)]])] st = some (.dat (.bool (decide (det3 a b c d e f g h i ≠ 0))), st) := by
  rw [c_is_steps]
  have hin : inD (.int 3) [.int 2, .int 3] = some true := by decide
  have f2 : fitsL 2 = true := by decide
  have h1 : callF tb (k + 3) "are_whole" [.dat (PyData.tuple [PyData.int (a), PyData.int (b), PyData.int (c)]), .dat (.int 3)] st = some (.dat (.bool true), st) := s_are_whole (k + 1) [.int a, .int b, .int c] 3 st (by simp)
  have h2 : callF tb (k + 3) "are_whole" [.dat (PyData.tuple [PyData.int (d), PyData.int (e), PyData.int (f)]), .dat (.int 3)] st = some (.dat (.bool true), st) := s_are_whole (k + 1) [.int d, .int e, .int f] 3 st (by simp)
  have h3 : callF tb (k + 3) "are_whole" [.dat (PyData.tuple [PyData.int (g), PyData.int (h), PyData.int (i)]), .dat (.int 3)] st = some (.dat (.bool true), st) := s_are_whole (k + 1) [.int g, .int h, .int i] 3 st (by simp)
  by_cases hz : det3 a b c d e f g h i = 0 <;>
    simp (decide := true) only [b_is_steps, q_is_steps_1, ↓reduceIte, Bool.not_true, Bool.not_false, decide_true, decide_false, wipeE, Bool.false_eq_true, y_e_c, y_e_v, y_e_g, y_e_never, y_e_bin, y_e_neg, y_e_tst, y_e_ite, y_e_tup, y_e_lst, y_e_box, y_e_ix, y_e_sl, y_e_rev, y_e_call, y_e_blt, y_e_isi, y_e_lc, y_es_nil, y_es_cons, y_o_no, y_o_yes, y_t_val, y_t_cmp, y_t_chn, y_t_isnt, y_t_isnf, z_nnr_dat, z_nnr_own, z_nnr_brw, z_nn_none, z_nn_bool, z_nn_int, z_nn_str, z_nn_list, z_nn_tuple, y_t_isb, y_t_and, y_t_or, y_t_not, y_h_last, y_h_link, y_al_one, y_al_cons, y_an_one, y_an_cons, y_c_no, y_c_yes, y_i_seq, y_i_rng, y_i_zip, y_i_enum, y_s_never, y_s_pass, y_s_asg, y_s_par, y_s_par3, y_s_setO, y_s_unp, y_s_setB, y_s_exp, y_s_app, y_s_ext, y_s_iff, y_s_whl, y_s_forr, y_s_ret, y_s_retv, y_s_frz, y_ss_nil, y_ss_cons, argsOf, views, caps, Option.map_some, Option.map_none, Option.bind_some, Option.bind_none, List.getElem?_cons_zero, List.getElem?_cons_succ, List.set_cons_zero, List.set_cons_succ, List.length_cons, List.length_nil, z_read_dat, z_read_ref, z_read_scr, z_read_own, z_view_own, z_view_brw, z_view_dat, z_cap_dat, z_cap_own, z_hold_dat, z_hold_ref, z_hold_scr, z_hold_own, z_arg_dat, z_arg_ref, z_arg_scr, z_arg_own, z_look_t, z_look_f, z_len_ref, z_len_scr, z_len_l, z_len_t, z_len_o, z_len_b, z_ix_ref, z_ix_scr, z_ix_l, z_ix_t, z_ix_o, z_ix_b, z_blt_len, z_blt_abs, z_blt_tup, z_blt_lst, z_blt_sum, z_blt_all, z_blt_any, z_blt_min, z_blt_max, z_blt_sorted, z_blt_repr, z_blt_str, z_blt_int, z_blt_divmod, z_d_abs, z_d_tupl, z_d_tupt, z_d_lstl, z_d_lstt, z_d_sum, z_d_all, z_d_any, z_d_minl, z_d_maxl, z_d_min, z_d_max, z_d_sorted, z_d_divmod, z_d_int, z_d_repr, z_d_str, z_d_strt, z_bin_i, z_bin_ll, z_bin_tt, z_bin_rep, z_add, z_sub, z_mul, z_fdiv, z_mod, z_eq, z_ne, z_lt, z_le, z_gt, z_ge, z_inl, z_int, z_ninl, z_nint, z_isi_int_none, z_isi_int_bool, z_isi_int_int, z_isi_int_str, z_isi_int_list, z_isi_int_tuple, z_isi_bool_none, z_isi_bool_bool, z_isi_bool_int, z_isi_bool_str, z_isi_bool_list, z_isi_bool_tuple, z_isi_str_none, z_isi_str_bool, z_isi_str_int, z_isi_str_str, z_isi_str_list, z_isi_str_tuple, z_isi_list_none, z_isi_list_bool, z_isi_list_int, z_isi_list_str, z_isi_list_list, z_isi_list_tuple, z_isi_tuple_none, z_isi_tuple_bool, z_isi_tuple_int, z_isi_tuple_str, z_isi_tuple_list, z_isi_tuple_tuple, z_out_rt, z_out_nx, z_eqi, z_eqb, z_rng1, z_rng2, z_si_l, z_si_t, z_bind_nm, z_bind_tt, z_bind_tl, z_binds_n, z_binds_c, z_sl_l, z_sl_t, z_at0, z_at1, z_at2, z_at3, z_ixN0, z_intsn, z_intsc, z_boolsn, z_boolsc, y_e_isx, y_e_dct, y_e_lrg, y_e_mth, y_e_orv, y_callD, y_s_expC, y_s_retC, y_s_asgC, y_s_raise, y_s_tryE, y_s_forO, z_nox_dat, z_nox_own, z_nox_ref, z_nox_scr, z_nox_exc, z_nox_n, z_read_exo, z_arg_exo, z_hold_exo, z_exEnv, y_e_ixP, y_s_retP, z_sl_s, z_bin_ss, z_d_ints, z_ins, z_nins, y_i_sgn, z_eqs, z_fgn, z_fgc, z_lcn, z_lcc, rng_2, rng_3, z_en2, z_en3, z_zn, z_zn2, z_zc, cut2_a0, cut2_a1, cut2_b1, cut2_b2, cut3_a0, cut3_a1, cut3_a2, cut3_b1, cut3_b2, cut3_b3, List.nil_append, List.cons_append, Int.reduceAdd, Int.reduceSub, Int.reduceMul, Int.reduceMod, Int.reduceNeg, Int.reduceToNat, Nat.reduceAdd, Int.cast_ofNat_Int, Int.natCast_add, hin, f2, h1, h2, h3, hz, s_det3 k a b c d e f g h i st ha hb hc hd he hf hg hh hi, ne_eq, not_true_eq_false, not_false_eq_true, Bool.not_true, Bool.not_false, List.all_cons, List.all_nil, id, Bool.and_self]
theorem s_point3 (k n : Nat) (x s : Int) (st : Bx) (h : st[n]? = some [.int x]) (hs : 0 ≤ s) (hs2 : s < 2 ^ 118) :
    ∃ u v w y, -s ≤ u ∧ u ≤ s ∧ -s ≤ v ∧ v ≤ s ∧ -s ≤ w ∧ w ≤ s ∧ callF tb (k + 3) "_law_drawn_point" [.ref n, .dat (.int 3), .dat (.int s)] st = some (.dat (PyData.tuple [PyData.int (u), PyData.int (v), PyData.int (w)]), st.set n [.int y]) := by
  rw [c__law_drawn_point]
  obtain ⟨u, y1, u1, u2, e1⟩ := s_num k n x s st h hs hs2
  obtain ⟨v, y2, v1, v2, e2⟩ := s_num k n y1 s _ (get_set h (z := [.int y1])) hs hs2
  rw [List.set_set] at e2
  obtain ⟨w, y3, w1, w2, e3⟩ := s_num k n y2 s _ (get_set h (z := [.int y2])) hs hs2
  rw [List.set_set] at e3
  have r3 : rngOk 3 = true := by decide
  refine ⟨u, v, w, y3, u1, u2, v1, v2, w1, w2, ?_⟩
  simp (decide := true) only [b__law_drawn_point, q__law_drawn_point_1, ↓reduceIte, Bool.not_true, Bool.not_false, decide_true, decide_false, wipeE, Bool.false_eq_true, y_e_c, y_e_v, y_e_g, y_e_never, y_e_bin, y_e_neg, y_e_tst, y_e_ite, y_e_tup, y_e_lst, y_e_box, y_e_ix, y_e_sl, y_e_rev, y_e_call, y_e_blt, y_e_isi, y_e_lc, y_es_nil, y_es_cons, y_o_no, y_o_yes, y_t_val, y_t_cmp, y_t_chn, y_t_isnt, y_t_isnf, z_nnr_dat, z_nnr_own, z_nnr_brw, z_nn_none, z_nn_bool, z_nn_int, z_nn_str, z_nn_list, z_nn_tuple, y_t_isb, y_t_and, y_t_or, y_t_not, y_h_last, y_h_link, y_al_one, y_al_cons, y_an_one, y_an_cons, y_c_no, y_c_yes, y_i_seq, y_i_rng, y_i_zip, y_i_enum, y_s_never, y_s_pass, y_s_asg, y_s_par, y_s_par3, y_s_setO, y_s_unp, y_s_setB, y_s_exp, y_s_app, y_s_ext, y_s_iff, y_s_whl, y_s_forr, y_s_ret, y_s_retv, y_s_frz, y_ss_nil, y_ss_cons, argsOf, views, caps, Option.map_some, Option.map_none, Option.bind_some, Option.bind_none, List.getElem?_cons_zero, List.getElem?_cons_succ, List.set_cons_zero, List.set_cons_succ, List.length_cons, List.length_nil, z_read_dat, z_read_ref, z_read_scr, z_read_own, z_view_own, z_view_brw, z_view_dat, z_cap_dat, z_cap_own, z_hold_dat, z_hold_ref, z_hold_scr, z_hold_own, z_arg_dat, z_arg_ref, z_arg_scr, z_arg_own, z_look_t, z_look_f, z_len_ref, z_len_scr, z_len_l, z_len_t, z_len_o, z_len_b, z_ix_ref, z_ix_scr, z_ix_l, z_ix_t, z_ix_o, z_ix_b, z_blt_len, z_blt_abs, z_blt_tup, z_blt_lst, z_blt_sum, z_blt_all, z_blt_any, z_blt_min, z_blt_max, z_blt_sorted, z_blt_repr, z_blt_str, z_blt_int, z_blt_divmod, z_d_abs, z_d_tupl, z_d_tupt, z_d_lstl, z_d_lstt, z_d_sum, z_d_all, z_d_any, z_d_minl, z_d_maxl, z_d_min, z_d_max, z_d_sorted, z_d_divmod, z_d_int, z_d_repr, z_d_str, z_d_strt, z_bin_i, z_bin_ll, z_bin_tt, z_bin_rep, z_add, z_sub, z_mul, z_fdiv, z_mod, z_eq, z_ne, z_lt, z_le, z_gt, z_ge, z_inl, z_int, z_ninl, z_nint, z_isi_int_none, z_isi_int_bool, z_isi_int_int, z_isi_int_str, z_isi_int_list, z_isi_int_tuple, z_isi_bool_none, z_isi_bool_bool, z_isi_bool_int, z_isi_bool_str, z_isi_bool_list, z_isi_bool_tuple, z_isi_str_none, z_isi_str_bool, z_isi_str_int, z_isi_str_str, z_isi_str_list, z_isi_str_tuple, z_isi_list_none, z_isi_list_bool, z_isi_list_int, z_isi_list_str, z_isi_list_list, z_isi_list_tuple, z_isi_tuple_none, z_isi_tuple_bool, z_isi_tuple_int, z_isi_tuple_str, z_isi_tuple_list, z_isi_tuple_tuple, z_out_rt, z_out_nx, z_eqi, z_eqb, z_rng1, z_rng2, z_si_l, z_si_t, z_bind_nm, z_bind_tt, z_bind_tl, z_binds_n, z_binds_c, z_sl_l, z_sl_t, z_at0, z_at1, z_at2, z_at3, z_ixN0, z_intsn, z_intsc, z_boolsn, z_boolsc, y_e_isx, y_e_dct, y_e_lrg, y_e_mth, y_e_orv, y_callD, y_s_expC, y_s_retC, y_s_asgC, y_s_raise, y_s_tryE, y_s_forO, z_nox_dat, z_nox_own, z_nox_ref, z_nox_scr, z_nox_exc, z_nox_n, z_read_exo, z_arg_exo, z_hold_exo, z_exEnv, y_e_ixP, y_s_retP, z_sl_s, z_bin_ss, z_d_ints, z_ins, z_nins, y_i_sgn, z_eqs, z_fgn, z_fgc, z_lcn, z_lcc, rng_2, rng_3, z_en2, z_en3, z_zn, z_zn2, z_zc, cut2_a0, cut2_a1, cut2_b1, cut2_b2, cut3_a0, cut3_a1, cut3_a2, cut3_b1, cut3_b2, cut3_b3, List.nil_append, List.cons_append, Int.reduceAdd, Int.reduceSub, Int.reduceMul, Int.reduceMod, Int.reduceNeg, Int.reduceToNat, Nat.reduceAdd, Int.cast_ofNat_Int, Int.natCast_add, r3, e1, e2, e3]
theorem s_three (k n : Nat) (x s : Int) (st : Bx) (hst : st[n]? = some [.int x]) (hs : 0 ≤ s) (hs2 : s < 2 ^ 118) :
    ∃ a b c d e f g h i y, (-(s + 2) ≤ a ∧ a ≤ s + 2) ∧ (-(s + 2) ≤ b ∧ b ≤ s + 2) ∧ (-(s + 2) ≤ c ∧ c ≤ s + 2) ∧ (-(s + 2) ≤ d ∧ d ≤ s + 2) ∧ (-(s + 2) ≤ e ∧ e ≤ s + 2) ∧ (-(s + 2) ≤ f ∧ f ≤ s + 2) ∧ (-(s + 2) ≤ g ∧ g ≤ s + 2) ∧ (-(s + 2) ≤ h ∧ h ≤ s + 2) ∧ (-(s + 2) ≤ i ∧ i ≤ s + 2) ∧ det3 a b c d e f g h i ≠ 0 ∧
      callF tb (k + 4) "_law_drawn_three" [.ref n, .dat (.int s)] st = some (.dat (PyData.tuple [PyData.tuple [PyData.int (a), PyData.int (b), PyData.int (c)], PyData.tuple [PyData.int (d), PyData.int (e), PyData.int (f)], PyData.tuple [PyData.int (g), PyData.int (h), PyData.int (i)]]), st.set n [.int y]) := by
  rw [c__law_drawn_three]
  obtain ⟨a, b, c, y1, a1, a2, b1, b2, c1, c2, e1⟩ := s_point3 k n x s st hst hs hs2
  obtain ⟨d, e, f, y2, d1, d2, g1, g2, f1, f2, e2⟩ := s_point3 k n y1 s _ (get_set hst (z := [.int y1])) hs hs2
  rw [List.set_set] at e2
  obtain ⟨g, h, i, y3, h1, h2, i1, i2, j1, j2, e3⟩ := s_point3 k n y2 s _ (get_set hst (z := [.int y2])) hs hs2
  rw [List.set_set] at e3
  have r3 : rngOk 3 = true := by decide
  have ft : fitsL 3 = true := by decide
  have hd := s_law_det3 (k + 2) a b c d e f g h i (st.set n [.int y3]) (bd1000 (by omega) (by omega)) (bd1000 (by omega) (by omega)) (bd1000 (by omega) (by omega)) (bd1000 (by omega) (by omega)) (bd1000 (by omega) (by omega)) (bd1000 (by omega) (by omega)) (bd1000 (by omega) (by omega)) (bd1000 (by omega) (by omega)) (bd1000 (by omega) (by omega))
  by_cases h0 : det3 a b c d e f g h i = 0
  · refine ⟨1 + (a.natAbs : Int), 0, 0, b, 1, 0, c, d, 2, y3, by omega, by omega, by omega, by omega, by omega, by omega, by omega, by omega, by omega, by unfold det3; omega, ?_⟩
    simp (decide := true) only [b__law_drawn_three, q__law_drawn_three_1, ↓reduceIte, Bool.not_true, Bool.not_false, decide_true, decide_false, wipeE, Bool.false_eq_true, y_e_c, y_e_v, y_e_g, y_e_never, y_e_bin, y_e_neg, y_e_tst, y_e_ite, y_e_tup, y_e_lst, y_e_box, y_e_ix, y_e_sl, y_e_rev, y_e_call, y_e_blt, y_e_isi, y_e_lc, y_es_nil, y_es_cons, y_o_no, y_o_yes, y_t_val, y_t_cmp, y_t_chn, y_t_isnt, y_t_isnf, z_nnr_dat, z_nnr_own, z_nnr_brw, z_nn_none, z_nn_bool, z_nn_int, z_nn_str, z_nn_list, z_nn_tuple, y_t_isb, y_t_and, y_t_or, y_t_not, y_h_last, y_h_link, y_al_one, y_al_cons, y_an_one, y_an_cons, y_c_no, y_c_yes, y_i_seq, y_i_rng, y_i_zip, y_i_enum, y_s_never, y_s_pass, y_s_asg, y_s_par, y_s_par3, y_s_setO, y_s_unp, y_s_setB, y_s_exp, y_s_app, y_s_ext, y_s_iff, y_s_whl, y_s_forr, y_s_ret, y_s_retv, y_s_frz, y_ss_nil, y_ss_cons, argsOf, views, caps, Option.map_some, Option.map_none, Option.bind_some, Option.bind_none, List.getElem?_cons_zero, List.getElem?_cons_succ, List.set_cons_zero, List.set_cons_succ, List.length_cons, List.length_nil, z_read_dat, z_read_ref, z_read_scr, z_read_own, z_view_own, z_view_brw, z_view_dat, z_cap_dat, z_cap_own, z_hold_dat, z_hold_ref, z_hold_scr, z_hold_own, z_arg_dat, z_arg_ref, z_arg_scr, z_arg_own, z_look_t, z_look_f, z_len_ref, z_len_scr, z_len_l, z_len_t, z_len_o, z_len_b, z_ix_ref, z_ix_scr, z_ix_l, z_ix_t, z_ix_o, z_ix_b, z_blt_len, z_blt_abs, z_blt_tup, z_blt_lst, z_blt_sum, z_blt_all, z_blt_any, z_blt_min, z_blt_max, z_blt_sorted, z_blt_repr, z_blt_str, z_blt_int, z_blt_divmod, z_d_abs, z_d_tupl, z_d_tupt, z_d_lstl, z_d_lstt, z_d_sum, z_d_all, z_d_any, z_d_minl, z_d_maxl, z_d_min, z_d_max, z_d_sorted, z_d_divmod, z_d_int, z_d_repr, z_d_str, z_d_strt, z_bin_i, z_bin_ll, z_bin_tt, z_bin_rep, z_add, z_sub, z_mul, z_fdiv, z_mod, z_eq, z_ne, z_lt, z_le, z_gt, z_ge, z_inl, z_int, z_ninl, z_nint, z_isi_int_none, z_isi_int_bool, z_isi_int_int, z_isi_int_str, z_isi_int_list, z_isi_int_tuple, z_isi_bool_none, z_isi_bool_bool, z_isi_bool_int, z_isi_bool_str, z_isi_bool_list, z_isi_bool_tuple, z_isi_str_none, z_isi_str_bool, z_isi_str_int, z_isi_str_str, z_isi_str_list, z_isi_str_tuple, z_isi_list_none, z_isi_list_bool, z_isi_list_int, z_isi_list_str, z_isi_list_list, z_isi_list_tuple, z_isi_tuple_none, z_isi_tuple_bool, z_isi_tuple_int, z_isi_tuple_str, z_isi_tuple_list, z_isi_tuple_tuple, z_out_rt, z_out_nx, z_eqi, z_eqb, z_rng1, z_rng2, z_si_l, z_si_t, z_bind_nm, z_bind_tt, z_bind_tl, z_binds_n, z_binds_c, z_sl_l, z_sl_t, z_at0, z_at1, z_at2, z_at3, z_ixN0, z_intsn, z_intsc, z_boolsn, z_boolsc, y_e_isx, y_e_dct, y_e_lrg, y_e_mth, y_e_orv, y_callD, y_s_expC, y_s_retC, y_s_asgC, y_s_raise, y_s_tryE, y_s_forO, z_nox_dat, z_nox_own, z_nox_ref, z_nox_scr, z_nox_exc, z_nox_n, z_read_exo, z_arg_exo, z_hold_exo, z_exEnv, y_e_ixP, y_s_retP, z_sl_s, z_bin_ss, z_d_ints, z_ins, z_nins, y_i_sgn, z_eqs, z_fgn, z_fgc, z_lcn, z_lcc, rng_2, rng_3, z_en2, z_en3, z_zn, z_zn2, z_zc, cut2_a0, cut2_a1, cut2_b1, cut2_b2, cut3_a0, cut3_a1, cut3_a2, cut3_b1, cut3_b2, cut3_b3, List.nil_append, List.cons_append, Int.reduceAdd, Int.reduceSub, Int.reduceMul, Int.reduceMod, Int.reduceNeg, Int.reduceToNat, Nat.reduceAdd, Int.cast_ofNat_Int, Int.natCast_add, r3, ft, e1, e2, e3, hd, h0]
  · refine ⟨a, b, c, d, e, f, g, h, i, y3, by omega, by omega, by omega, by omega, by omega, by omega, by omega, by omega, by omega, h0, ?_⟩
    simp (decide := true) only [b__law_drawn_three, q__law_drawn_three_1, ↓reduceIte, Bool.not_true, Bool.not_false, decide_true, decide_false, wipeE, Bool.false_eq_true, y_e_c, y_e_v, y_e_g, y_e_never, y_e_bin, y_e_neg, y_e_tst, y_e_ite, y_e_tup, y_e_lst, y_e_box, y_e_ix, y_e_sl, y_e_rev, y_e_call, y_e_blt, y_e_isi, y_e_lc, y_es_nil, y_es_cons, y_o_no, y_o_yes, y_t_val, y_t_cmp, y_t_chn, y_t_isnt, y_t_isnf, z_nnr_dat, z_nnr_own, z_nnr_brw, z_nn_none, z_nn_bool, z_nn_int, z_nn_str, z_nn_list, z_nn_tuple, y_t_isb, y_t_and, y_t_or, y_t_not, y_h_last, y_h_link, y_al_one, y_al_cons, y_an_one, y_an_cons, y_c_no, y_c_yes, y_i_seq, y_i_rng, y_i_zip, y_i_enum, y_s_never, y_s_pass, y_s_asg, y_s_par, y_s_par3, y_s_setO, y_s_unp, y_s_setB, y_s_exp, y_s_app, y_s_ext, y_s_iff, y_s_whl, y_s_forr, y_s_ret, y_s_retv, y_s_frz, y_ss_nil, y_ss_cons, argsOf, views, caps, Option.map_some, Option.map_none, Option.bind_some, Option.bind_none, List.getElem?_cons_zero, List.getElem?_cons_succ, List.set_cons_zero, List.set_cons_succ, List.length_cons, List.length_nil, z_read_dat, z_read_ref, z_read_scr, z_read_own, z_view_own, z_view_brw, z_view_dat, z_cap_dat, z_cap_own, z_hold_dat, z_hold_ref, z_hold_scr, z_hold_own, z_arg_dat, z_arg_ref, z_arg_scr, z_arg_own, z_look_t, z_look_f, z_len_ref, z_len_scr, z_len_l, z_len_t, z_len_o, z_len_b, z_ix_ref, z_ix_scr, z_ix_l, z_ix_t, z_ix_o, z_ix_b, z_blt_len, z_blt_abs, z_blt_tup, z_blt_lst, z_blt_sum, z_blt_all, z_blt_any, z_blt_min, z_blt_max, z_blt_sorted, z_blt_repr, z_blt_str, z_blt_int, z_blt_divmod, z_d_abs, z_d_tupl, z_d_tupt, z_d_lstl, z_d_lstt, z_d_sum, z_d_all, z_d_any, z_d_minl, z_d_maxl, z_d_min, z_d_max, z_d_sorted, z_d_divmod, z_d_int, z_d_repr, z_d_str, z_d_strt, z_bin_i, z_bin_ll, z_bin_tt, z_bin_rep, z_add, z_sub, z_mul, z_fdiv, z_mod, z_eq, z_ne, z_lt, z_le, z_gt, z_ge, z_inl, z_int, z_ninl, z_nint, z_isi_int_none, z_isi_int_bool, z_isi_int_int, z_isi_int_str, z_isi_int_list, z_isi_int_tuple, z_isi_bool_none, z_isi_bool_bool, z_isi_bool_int, z_isi_bool_str, z_isi_bool_list, z_isi_bool_tuple, z_isi_str_none, z_isi_str_bool, z_isi_str_int, z_isi_str_str, z_isi_str_list, z_isi_str_tuple, z_isi_list_none, z_isi_list_bool, z_isi_list_int, z_isi_list_str, z_isi_list_list, z_isi_list_tuple, z_isi_tuple_none, z_isi_tuple_bool, z_isi_tuple_int, z_isi_tuple_str, z_isi_tuple_list, z_isi_tuple_tuple, z_out_rt, z_out_nx, z_eqi, z_eqb, z_rng1, z_rng2, z_si_l, z_si_t, z_bind_nm, z_bind_tt, z_bind_tl, z_binds_n, z_binds_c, z_sl_l, z_sl_t, z_at0, z_at1, z_at2, z_at3, z_ixN0, z_intsn, z_intsc, z_boolsn, z_boolsc, y_e_isx, y_e_dct, y_e_lrg, y_e_mth, y_e_orv, y_callD, y_s_expC, y_s_retC, y_s_asgC, y_s_raise, y_s_tryE, y_s_forO, z_nox_dat, z_nox_own, z_nox_ref, z_nox_scr, z_nox_exc, z_nox_n, z_read_exo, z_arg_exo, z_hold_exo, z_exEnv, y_e_ixP, y_s_retP, z_sl_s, z_bin_ss, z_d_ints, z_ins, z_nins, y_i_sgn, z_eqs, z_fgn, z_fgc, z_lcn, z_lcc, rng_2, rng_3, z_en2, z_en3, z_zn, z_zn2, z_zc, cut2_a0, cut2_a1, cut2_b1, cut2_b2, cut3_a0, cut3_a1, cut3_a2, cut3_b1, cut3_b2, cut3_b3, List.nil_append, List.cons_append, Int.reduceAdd, Int.reduceSub, Int.reduceMul, Int.reduceMod, Int.reduceNeg, Int.reduceToNat, Nat.reduceAdd, Int.cast_ofNat_Int, Int.natCast_add, r3, ft, e1, e2, e3, hd, h0]

/-! steps as rows, no law -/
def vec (v : List Int) : PyData := .tuple (v.map .int)
def mat (M : List (List Int)) : PyData := .tuple (M.map vec)
def det : List (List Int) → Int
  | [[a, b], [c, d]] => a * d - b * c
  | [[a, b, c], [d, e, f], [g, h, i]] => det3 a b c d e f g h i
  | _ => 0
/-- square, numbers within -/
def Sq (B : Nat) (M : List (List Int)) : Prop :=
  (∃ a b c d, M = [[a, b], [c, d]] ∧ Bd B a ∧ Bd B b ∧ Bd B c ∧ Bd B d) ∨
  ∃ a b c d e f g h i, M = [[a, b, c], [d, e, f], [g, h, i]] ∧ Bd B a ∧ Bd B b ∧ Bd B c ∧ Bd B d ∧ Bd B e ∧ Bd B f ∧ Bd B g ∧ Bd B h ∧ Bd B i
/-- a point of the width -/
def Pt (B w : Nat) (p : List Int) : Prop := (w = 2 ∧ ∃ a b, p = [a, b] ∧ Bd B a ∧ Bd B b) ∨ (w = 3 ∧ ∃ a b c, p = [a, b, c] ∧ Bd B a ∧ Bd B b ∧ Bd B c)
theorem Sq.mono {A B : Nat} {M : List (List Int)} (h : Sq A M) (k : A ≤ B) : Sq B M := by
  rcases h with ⟨a, b, c, d, e, h1, h2, h3, h4⟩ | ⟨a, b, c, d, e, f, g, h, i, e', h1, h2, h3, h4, h5, h6, h7, h8, h9⟩
  · exact .inl ⟨a, b, c, d, e, h1.mono k, h2.mono k, h3.mono k, h4.mono k⟩
  · exact .inr ⟨a, b, c, d, e, f, g, h, i, e', h1.mono k, h2.mono k, h3.mono k, h4.mono k, h5.mono k, h6.mono k, h7.mono k, h8.mono k, h9.mono k⟩
theorem Pt.mono {A B w : Nat} {p : List Int} (h : Pt A w p) (k : A ≤ B) : Pt B w p := by
  rcases h with ⟨e, a, b, e2, h1, h2⟩ | ⟨e, a, b, c, e2, h1, h2, h3⟩
  · exact .inl ⟨e, a, b, e2, h1.mono k, h2.mono k⟩
  · exact .inr ⟨e, a, b, c, e2, h1.mono k, h2.mono k, h3.mono k⟩
theorem Sq.len {B : Nat} {M : List (List Int)} (h : Sq B M) : M.length = 2 ∨ M.length = 3 := by
  rcases h with ⟨a, b, c, d, rfl, _⟩ | ⟨a, b, c, d, e, f, g, h, i, rfl, _⟩
  · exact .inl rfl
  · exact .inr rfl
theorem Sq.row {B : Nat} {M : List (List Int)} (h : Sq B M) {r : List Int} (hr : r ∈ M) : Pt B M.length r := by
  rcases h with ⟨a, b, c, d, rfl, h1, h2, h3, h4⟩ | ⟨a, b, c, d, e, f, g, h, i, rfl, h1, h2, h3, h4, h5, h6, h7, h8, h9⟩
  · simp only [List.mem_cons, List.not_mem_nil, or_false] at hr
    rcases hr with rfl | rfl
    · exact .inl ⟨rfl, _, _, rfl, h1, h2⟩
    · exact .inl ⟨rfl, _, _, rfl, h3, h4⟩
  · simp only [List.mem_cons, List.not_mem_nil, or_false] at hr
    rcases hr with rfl | rfl | rfl
    · exact .inr ⟨rfl, _, _, _, rfl, h1, h2, h3⟩
    · exact .inr ⟨rfl, _, _, _, rfl, h4, h5, h6⟩
    · exact .inr ⟨rfl, _, _, _, rfl, h7, h8, h9⟩
theorem Sq.of_rows {B : Nat} {M : List (List Int)} (hl : M.length = 2 ∨ M.length = 3) (h : ∀ r ∈ M, Pt B M.length r) : Sq B M := by
  rcases hl with hl | hl
  · match M, hl, h with
    | [r, s], _, h =>
      rcases h r (by simp) with ⟨_, a, b, rfl, h1, h2⟩ | ⟨e, _⟩
      · rcases h s (by simp) with ⟨_, c, d, rfl, h3, h4⟩ | ⟨e, _⟩
        · exact .inl ⟨a, b, c, d, rfl, h1, h2, h3, h4⟩
        · cases e
      · cases e
  · match M, hl, h with
    | [r, s, t], _, h =>
      rcases h r (by simp) with ⟨e, _⟩ | ⟨_, a, b, c, rfl, h1, h2, h3⟩
      · cases e
      · rcases h s (by simp) with ⟨e, _⟩ | ⟨_, d, e, f, rfl, h4, h5, h6⟩
        · cases e
        · rcases h t (by simp) with ⟨e, _⟩ | ⟨_, g, h', i, rfl, h7, h8, h9⟩
          · cases e
          · exact .inr ⟨a, b, c, d, e, f, g, h', i, rfl, h1, h2, h3, h4, h5, h6, h7, h8, h9⟩
theorem Sq.set {B : Nat} {M : List (List Int)} (h : Sq B M) {p : List Int} (hp : Pt B M.length p) (j : Nat) : Sq B (M.set j p) := by
  refine Sq.of_rows (by rw [List.length_set]; exact h.len) fun r hr => ?_
  rw [List.length_set]
  rcases List.mem_or_eq_of_mem_set hr with hr | rfl
  · exact h.row hr
  · exact hp
theorem det_bd {M : List (List Int)} {B : Nat} (h : Sq B M) (hB : B ≤ 1000) : Bd (3 * B + 6) (det M) := by
  rcases h with ⟨a, b, c, d, rfl, h1, h2, h3, h4⟩ | ⟨a, b, c, d, e, f, g, h, i, rfl, h1, h2, h3, h4, h5, h6, h7, h8, h9⟩
  · exact (bd_sub (bd_mul h1 h4) (bd_mul h2 h3)).mono (by omega)
  · exact (bd_add (bd_sub (bd_mul h1 (bd_sub (bd_mul h5 h9) (bd_mul h6 h8))) (bd_mul h2 (bd_sub (bd_mul h4 h9) (bd_mul h6 h7)))) (bd_mul h3 (bd_sub (bd_mul h4 h8) (bd_mul h5 h7)))).mono (by omega)
theorem g_det (k : Nat) (M : List (List Int)) (st : Bx) (h : Sq 1000 M) : callF tb (k + 3) "determinant" [.dat (mat M)] st = some (.dat (.int (det M)), st) := by
  rcases h with ⟨a, b, c, d, rfl, h1, h2, h3, h4⟩ | ⟨a, b, c, d, e, f, g, h, i, rfl, h1, h2, h3, h4, h5, h6, h7, h8, h9⟩
  · exact s_det2 (k + 1) a b c d st h1 h2 h3 h4
  · exact s_det3 k a b c d e f g h i st h1 h2 h3 h4 h5 h6 h7 h8 h9
theorem g_law_det (k : Nat) (M : List (List Int)) (st : Bx) (h : Sq 1000 M) : callF tb (k + 1) "_law_det" [.dat (mat M)] st = some (.dat (.int (det M)), st) := by
  rcases h with ⟨a, b, c, d, rfl, h1, h2, h3, h4⟩ | ⟨a, b, c, d, e, f, g, h, i, rfl, h1, h2, h3, h4, h5, h6, h7, h8, h9⟩
  · exact s_law_det2 k a b c d st h1 h2 h3 h4
  · exact s_law_det3 k a b c d e f g h i st h1 h2 h3 h4 h5 h6 h7 h8 h9
theorem g_is_steps (k : Nat) (M : List (List Int)) (st : Bx) (h : Sq 1000 M) : callF tb (k + 4) "is_steps" [.dat (mat M)] st = some (.dat (.bool (decide (det M ≠ 0))), st) := by
  rcases h with ⟨a, b, c, d, rfl, h1, h2, h3, h4⟩ | ⟨a, b, c, d, e, f, g, h, i, rfl, h1, h2, h3, h4, h5, h6, h7, h8, h9⟩
  · exact s_is_steps2 (k + 1) a b c d st h1 h2 h3 h4
  · exact s_is_steps3 k a b c d e f g h i st h1 h2 h3 h4 h5 h6 h7 h8 h9
theorem g_need_steps (k : Nat) (M : List (List Int)) (st : Bx) (h : Sq 1000 M) (hd : det M ≠ 0) : callF tb (k + 5) "need_steps" [.dat (mat M)] st = some (.dat .none, st) := by
  rw [c_need_steps]
  have h1 := g_is_steps k M st h
  rw [decide_eq_true hd] at h1
  simp (decide := true) only [b_need_steps, ↓reduceIte, Bool.not_true, Bool.not_false, decide_true, decide_false, wipeE, Bool.false_eq_true, y_e_c, y_e_v, y_e_g, y_e_never, y_e_bin, y_e_neg, y_e_tst, y_e_ite, y_e_tup, y_e_lst, y_e_box, y_e_ix, y_e_sl, y_e_rev, y_e_call, y_e_blt, y_e_isi, y_e_lc, y_es_nil, y_es_cons, y_o_no, y_o_yes, y_t_val, y_t_cmp, y_t_chn, y_t_isnt, y_t_isnf, z_nnr_dat, z_nnr_own, z_nnr_brw, z_nn_none, z_nn_bool, z_nn_int, z_nn_str, z_nn_list, z_nn_tuple, y_t_isb, y_t_and, y_t_or, y_t_not, y_h_last, y_h_link, y_al_one, y_al_cons, y_an_one, y_an_cons, y_c_no, y_c_yes, y_i_seq, y_i_rng, y_i_zip, y_i_enum, y_s_never, y_s_pass, y_s_asg, y_s_par, y_s_par3, y_s_setO, y_s_unp, y_s_setB, y_s_exp, y_s_app, y_s_ext, y_s_iff, y_s_whl, y_s_forr, y_s_ret, y_s_retv, y_s_frz, y_ss_nil, y_ss_cons, argsOf, views, caps, Option.map_some, Option.map_none, Option.bind_some, Option.bind_none, List.getElem?_cons_zero, List.getElem?_cons_succ, List.set_cons_zero, List.set_cons_succ, List.length_cons, List.length_nil, z_read_dat, z_read_ref, z_read_scr, z_read_own, z_view_own, z_view_brw, z_view_dat, z_cap_dat, z_cap_own, z_hold_dat, z_hold_ref, z_hold_scr, z_hold_own, z_arg_dat, z_arg_ref, z_arg_scr, z_arg_own, z_look_t, z_look_f, z_len_ref, z_len_scr, z_len_l, z_len_t, z_len_o, z_len_b, z_ix_ref, z_ix_scr, z_ix_l, z_ix_t, z_ix_o, z_ix_b, z_blt_len, z_blt_abs, z_blt_tup, z_blt_lst, z_blt_sum, z_blt_all, z_blt_any, z_blt_min, z_blt_max, z_blt_sorted, z_blt_repr, z_blt_str, z_blt_int, z_blt_divmod, z_d_abs, z_d_tupl, z_d_tupt, z_d_lstl, z_d_lstt, z_d_sum, z_d_all, z_d_any, z_d_minl, z_d_maxl, z_d_min, z_d_max, z_d_sorted, z_d_divmod, z_d_int, z_d_repr, z_d_str, z_d_strt, z_bin_i, z_bin_ll, z_bin_tt, z_bin_rep, z_add, z_sub, z_mul, z_fdiv, z_mod, z_eq, z_ne, z_lt, z_le, z_gt, z_ge, z_inl, z_int, z_ninl, z_nint, z_isi_int_none, z_isi_int_bool, z_isi_int_int, z_isi_int_str, z_isi_int_list, z_isi_int_tuple, z_isi_bool_none, z_isi_bool_bool, z_isi_bool_int, z_isi_bool_str, z_isi_bool_list, z_isi_bool_tuple, z_isi_str_none, z_isi_str_bool, z_isi_str_int, z_isi_str_str, z_isi_str_list, z_isi_str_tuple, z_isi_list_none, z_isi_list_bool, z_isi_list_int, z_isi_list_str, z_isi_list_list, z_isi_list_tuple, z_isi_tuple_none, z_isi_tuple_bool, z_isi_tuple_int, z_isi_tuple_str, z_isi_tuple_list, z_isi_tuple_tuple, z_out_rt, z_out_nx, z_eqi, z_eqb, z_rng1, z_rng2, z_si_l, z_si_t, z_bind_nm, z_bind_tt, z_bind_tl, z_binds_n, z_binds_c, z_sl_l, z_sl_t, z_at0, z_at1, z_at2, z_at3, z_ixN0, z_intsn, z_intsc, z_boolsn, z_boolsc, y_e_isx, y_e_dct, y_e_lrg, y_e_mth, y_e_orv, y_callD, y_s_expC, y_s_retC, y_s_asgC, y_s_raise, y_s_tryE, y_s_forO, z_nox_dat, z_nox_own, z_nox_ref, z_nox_scr, z_nox_exc, z_nox_n, z_read_exo, z_arg_exo, z_hold_exo, z_exEnv, y_e_ixP, y_s_retP, z_sl_s, z_bin_ss, z_d_ints, z_ins, z_nins, y_i_sgn, z_eqs, z_fgn, z_fgc, z_lcn, z_lcc, rng_2, rng_3, z_en2, z_en3, z_zn, z_zn2, z_zc, cut2_a0, cut2_a1, cut2_b1, cut2_b2, cut3_a0, cut3_a1, cut3_a2, cut3_b1, cut3_b2, cut3_b3, List.nil_append, List.cons_append, Int.reduceAdd, Int.reduceSub, Int.reduceMul, Int.reduceMod, Int.reduceNeg, Int.reduceToNat, Nat.reduceAdd, Int.cast_ofNat_Int, Int.natCast_add, h1, Bool.not_true]
def optD : Option (List Int) → PyData
  | some l => vec l
  | none => .none
def tops (M : List (List Int)) (p : List Int) : List Int := (List.range M.length).map fun (j : Nat) => det (M.set j p)
def nums (M : List (List Int)) (p : List Int) : Option (List Int) := if ∀ t ∈ tops M p, t.fmod (det M) = 0 then some ((tops M p).map fun t => t.fdiv (det M)) else none
theorem mat_cut (M : List (List Int)) (j : Nat) (p : List Int) (h : Sq 1000 M) (hj : j < M.length) :
    cutD (M.map vec) none (some (j : Int)) ++ [vec p] ++ cutD (M.map vec) (some ((j : Int) + 1)) none = (M.set j p).map vec := by
  rcases h with ⟨a, b, c, d, rfl, _⟩ | ⟨a, b, c, d, e, f, g, h, i, rfl, _⟩
  · match j, hj with
    | 0, _ => rfl
    | 1, _ => rfl
  · match j, hj with
    | 0, _ => rfl
    | 1, _ => rfl
    | 2, _ => rfl
theorem cutD_len {α : Type} (xs : List α) (lo hi : Option Int) : (cutD xs lo hi).length ≤ xs.length := by
  unfold cutD
  rw [List.length_take, List.length_drop]
  omega
theorem fmap_some {α β : Type} (g : α → β) : ∀ l : List α, l.filterMap (fun x => some (g x)) = l.map g
  | [] => rfl
  | x :: l => by rw [List.filterMap_cons, List.map_cons, fmap_some g l]
theorem fmap_congr {α β : Type} {f g : α → Option β} : ∀ l : List α, (∀ x ∈ l, f x = g x) → l.filterMap f = l.filterMap g
  | [], _ => rfl
  | x :: l, h => by rw [List.filterMap_cons, List.filterMap_cons, h x List.mem_cons_self, fmap_congr l fun y hy => h y (List.mem_cons_of_mem _ hy)]
theorem rng_map {β : Type} (g : Nat → β) (n : Nat) (F : PyData → Option β) (h : ∀ j : Nat, j < n → F (.int (j : Int)) = some (g j)) : (rngItems 0 n).filterMap F = (List.range n).map g := by
  unfold rngItems
  rw [List.filterMap_map, ← fmap_some]
  refine fmap_congr _ fun j hj => ?_
  rw [Function.comp_apply, Int.zero_add]
  exact h j (List.mem_range.mp hj)
theorem g_tops_of (k : Nat) (M : List (List Int)) (p : List Int) (st : Bx) (h : Sq 1000 M) (hp : Pt 1000 M.length p) :
    callF tb (k + 4) "tops_of" [.dat (mat M), .dat (vec p)] st = some (.own ((tops M p).map .int), st) := by
  rw [c_tops_of]
  have hl := h.len
  have rk : rngOk (M.length : Int) = true := rngOk_s (by omega) (by omega)
  have f1 : fitsL 1 = true := by decide
  have hq : Ex.den (callF tb (k + 3)) q_tops_of_1 [some (.dat (mat M)), some (.dat (vec p)), none] st = some (.own ((tops M p).map .int), st) := by
    have e : (tops M p).map PyData.int = (rngItems 0 M.length).filterMap (fun d => match d with | .int z => some (.int (det (M.set z.toNat p))) | _ => none) := by
      rw [rng_map (fun j => PyData.int (det (M.set j p))) _ _ (fun j hj => by simp)]
      unfold tops
      rw [List.map_map]
      rfl
    rw [e]
    refine den_lc (items := rngItems 0 M.length) (by simp (decide := true) only [mat, ↓reduceIte, Bool.not_true, Bool.not_false, decide_true, decide_false, wipeE, Bool.false_eq_true, y_e_c, y_e_v, y_e_g, y_e_never, y_e_bin, y_e_neg, y_e_tst, y_e_ite, y_e_tup, y_e_lst, y_e_box, y_e_ix, y_e_sl, y_e_rev, y_e_call, y_e_blt, y_e_isi, y_e_lc, y_es_nil, y_es_cons, y_o_no, y_o_yes, y_t_val, y_t_cmp, y_t_chn, y_t_isnt, y_t_isnf, z_nnr_dat, z_nnr_own, z_nnr_brw, z_nn_none, z_nn_bool, z_nn_int, z_nn_str, z_nn_list, z_nn_tuple, y_t_isb, y_t_and, y_t_or, y_t_not, y_h_last, y_h_link, y_al_one, y_al_cons, y_an_one, y_an_cons, y_c_no, y_c_yes, y_i_seq, y_i_rng, y_i_zip, y_i_enum, y_s_never, y_s_pass, y_s_asg, y_s_par, y_s_par3, y_s_setO, y_s_unp, y_s_setB, y_s_exp, y_s_app, y_s_ext, y_s_iff, y_s_whl, y_s_forr, y_s_ret, y_s_retv, y_s_frz, y_ss_nil, y_ss_cons, argsOf, views, caps, Option.map_some, Option.map_none, Option.bind_some, Option.bind_none, List.getElem?_cons_zero, List.getElem?_cons_succ, List.set_cons_zero, List.set_cons_succ, List.length_cons, List.length_nil, z_read_dat, z_read_ref, z_read_scr, z_read_own, z_view_own, z_view_brw, z_view_dat, z_cap_dat, z_cap_own, z_hold_dat, z_hold_ref, z_hold_scr, z_hold_own, z_arg_dat, z_arg_ref, z_arg_scr, z_arg_own, z_look_t, z_look_f, z_len_ref, z_len_scr, z_len_l, z_len_t, z_len_o, z_len_b, z_ix_ref, z_ix_scr, z_ix_l, z_ix_t, z_ix_o, z_ix_b, z_blt_len, z_blt_abs, z_blt_tup, z_blt_lst, z_blt_sum, z_blt_all, z_blt_any, z_blt_min, z_blt_max, z_blt_sorted, z_blt_repr, z_blt_str, z_blt_int, z_blt_divmod, z_d_abs, z_d_tupl, z_d_tupt, z_d_lstl, z_d_lstt, z_d_sum, z_d_all, z_d_any, z_d_minl, z_d_maxl, z_d_min, z_d_max, z_d_sorted, z_d_divmod, z_d_int, z_d_repr, z_d_str, z_d_strt, z_bin_i, z_bin_ll, z_bin_tt, z_bin_rep, z_add, z_sub, z_mul, z_fdiv, z_mod, z_eq, z_ne, z_lt, z_le, z_gt, z_ge, z_inl, z_int, z_ninl, z_nint, z_isi_int_none, z_isi_int_bool, z_isi_int_int, z_isi_int_str, z_isi_int_list, z_isi_int_tuple, z_isi_bool_none, z_isi_bool_bool, z_isi_bool_int, z_isi_bool_str, z_isi_bool_list, z_isi_bool_tuple, z_isi_str_none, z_isi_str_bool, z_isi_str_int, z_isi_str_str, z_isi_str_list, z_isi_str_tuple, z_isi_list_none, z_isi_list_bool, z_isi_list_int, z_isi_list_str, z_isi_list_list, z_isi_list_tuple, z_isi_tuple_none, z_isi_tuple_bool, z_isi_tuple_int, z_isi_tuple_str, z_isi_tuple_list, z_isi_tuple_tuple, z_out_rt, z_out_nx, z_eqi, z_eqb, z_rng1, z_rng2, z_si_l, z_si_t, z_bind_nm, z_bind_tt, z_bind_tl, z_binds_n, z_binds_c, z_sl_l, z_sl_t, z_at0, z_at1, z_at2, z_at3, z_ixN0, z_intsn, z_intsc, z_boolsn, z_boolsc, y_e_isx, y_e_dct, y_e_lrg, y_e_mth, y_e_orv, y_callD, y_s_expC, y_s_retC, y_s_asgC, y_s_raise, y_s_tryE, y_s_forO, z_nox_dat, z_nox_own, z_nox_ref, z_nox_scr, z_nox_exc, z_nox_n, z_read_exo, z_arg_exo, z_hold_exo, z_exEnv, y_e_ixP, y_s_retP, z_sl_s, z_bin_ss, z_d_ints, z_ins, z_nins, y_i_sgn, List.length_map, rk, Int.toNat_natCast]) _ (fun d hd => ?_) (by unfold rngItems; simp; omega)
    obtain ⟨j, hj, rfl⟩ : ∃ j : Nat, j < M.length ∧ d = .int (0 + (j : Int)) := by
      obtain ⟨i, hi, e⟩ := List.getElem_of_mem hd
      exact ⟨i, rngItems_get (by rw [List.getElem?_eq_getElem hi, e])⟩
    rw [Int.zero_add]
    have hc := mat_cut M j p h hj
    have c1 := cutD_len (M.map vec) none (some (j : Int))
    have c2 := cutD_len (M.map vec) (some ((j : Int) + 1)) none
    rw [List.length_map] at c1 c2
    have ff1 : fitsL ((cutD (M.map vec) none (some (j : Int))).length + [vec p].length) = true := fitsL_s (by simp only [List.length_cons, List.length_nil]; omega)
    have ff2 : fitsL ((cutD (M.map vec) none (some (j : Int)) ++ [vec p]).length + (cutD (M.map vec) (some ((j : Int) + 1)) none).length) = true := fitsL_s (by simp only [List.length_append, List.length_cons, List.length_nil]; omega)
    have ed := g_det k (M.set j p) st (h.set hp j)
    unfold mat at ed
    refine ⟨[some (.dat (mat M)), some (.dat (vec p)), some (.dat (.int (j : Int)))], by simp only [↓reduceIte, Bool.not_true, Bool.not_false, decide_true, decide_false, wipeE, Bool.false_eq_true, y_e_c, y_e_v, y_e_g, y_e_never, y_e_bin, y_e_neg, y_e_tst, y_e_ite, y_e_tup, y_e_lst, y_e_box, y_e_ix, y_e_sl, y_e_rev, y_e_call, y_e_blt, y_e_isi, y_e_lc, y_es_nil, y_es_cons, y_o_no, y_o_yes, y_t_val, y_t_cmp, y_t_chn, y_t_isnt, y_t_isnf, z_nnr_dat, z_nnr_own, z_nnr_brw, z_nn_none, z_nn_bool, z_nn_int, z_nn_str, z_nn_list, z_nn_tuple, y_t_isb, y_t_and, y_t_or, y_t_not, y_h_last, y_h_link, y_al_one, y_al_cons, y_an_one, y_an_cons, y_c_no, y_c_yes, y_i_seq, y_i_rng, y_i_zip, y_i_enum, y_s_never, y_s_pass, y_s_asg, y_s_par, y_s_par3, y_s_setO, y_s_unp, y_s_setB, y_s_exp, y_s_app, y_s_ext, y_s_iff, y_s_whl, y_s_forr, y_s_ret, y_s_retv, y_s_frz, y_ss_nil, y_ss_cons, argsOf, views, caps, Option.map_some, Option.map_none, Option.bind_some, Option.bind_none, List.getElem?_cons_zero, List.getElem?_cons_succ, List.set_cons_zero, List.set_cons_succ, List.length_cons, List.length_nil, z_read_dat, z_read_ref, z_read_scr, z_read_own, z_view_own, z_view_brw, z_view_dat, z_cap_dat, z_cap_own, z_hold_dat, z_hold_ref, z_hold_scr, z_hold_own, z_arg_dat, z_arg_ref, z_arg_scr, z_arg_own, z_look_t, z_look_f, z_len_ref, z_len_scr, z_len_l, z_len_t, z_len_o, z_len_b, z_ix_ref, z_ix_scr, z_ix_l, z_ix_t, z_ix_o, z_ix_b, z_blt_len, z_blt_abs, z_blt_tup, z_blt_lst, z_blt_sum, z_blt_all, z_blt_any, z_blt_min, z_blt_max, z_blt_sorted, z_blt_repr, z_blt_str, z_blt_int, z_blt_divmod, z_d_abs, z_d_tupl, z_d_tupt, z_d_lstl, z_d_lstt, z_d_sum, z_d_all, z_d_any, z_d_minl, z_d_maxl, z_d_min, z_d_max, z_d_sorted, z_d_divmod, z_d_int, z_d_repr, z_d_str, z_d_strt, z_bin_i, z_bin_ll, z_bin_tt, z_bin_rep, z_add, z_sub, z_mul, z_fdiv, z_mod, z_eq, z_ne, z_lt, z_le, z_gt, z_ge, z_inl, z_int, z_ninl, z_nint, z_isi_int_none, z_isi_int_bool, z_isi_int_int, z_isi_int_str, z_isi_int_list, z_isi_int_tuple, z_isi_bool_none, z_isi_bool_bool, z_isi_bool_int, z_isi_bool_str, z_isi_bool_list, z_isi_bool_tuple, z_isi_str_none, z_isi_str_bool, z_isi_str_int, z_isi_str_str, z_isi_str_list, z_isi_str_tuple, z_isi_list_none, z_isi_list_bool, z_isi_list_int, z_isi_list_str, z_isi_list_list, z_isi_list_tuple, z_isi_tuple_none, z_isi_tuple_bool, z_isi_tuple_int, z_isi_tuple_str, z_isi_tuple_list, z_isi_tuple_tuple, z_out_rt, z_out_nx, z_eqi, z_eqb, z_rng1, z_rng2, z_si_l, z_si_t, z_bind_nm, z_bind_tt, z_bind_tl, z_binds_n, z_binds_c, z_sl_l, z_sl_t, z_at0, z_at1, z_at2, z_at3, z_ixN0, z_intsn, z_intsc, z_boolsn, z_boolsc, y_e_isx, y_e_dct, y_e_lrg, y_e_mth, y_e_orv, y_callD, y_s_expC, y_s_retC, y_s_asgC, y_s_raise, y_s_tryE, y_s_forO, z_nox_dat, z_nox_own, z_nox_ref, z_nox_scr, z_nox_exc, z_nox_n, z_read_exo, z_arg_exo, z_hold_exo, z_exEnv, y_e_ixP, y_s_retP, z_sl_s, z_bin_ss, z_d_ints, z_ins, z_nins, y_i_sgn], .inr ⟨by simp only [↓reduceIte, Bool.not_true, Bool.not_false, decide_true, decide_false, wipeE, Bool.false_eq_true, y_e_c, y_e_v, y_e_g, y_e_never, y_e_bin, y_e_neg, y_e_tst, y_e_ite, y_e_tup, y_e_lst, y_e_box, y_e_ix, y_e_sl, y_e_rev, y_e_call, y_e_blt, y_e_isi, y_e_lc, y_es_nil, y_es_cons, y_o_no, y_o_yes, y_t_val, y_t_cmp, y_t_chn, y_t_isnt, y_t_isnf, z_nnr_dat, z_nnr_own, z_nnr_brw, z_nn_none, z_nn_bool, z_nn_int, z_nn_str, z_nn_list, z_nn_tuple, y_t_isb, y_t_and, y_t_or, y_t_not, y_h_last, y_h_link, y_al_one, y_al_cons, y_an_one, y_an_cons, y_c_no, y_c_yes, y_i_seq, y_i_rng, y_i_zip, y_i_enum, y_s_never, y_s_pass, y_s_asg, y_s_par, y_s_par3, y_s_setO, y_s_unp, y_s_setB, y_s_exp, y_s_app, y_s_ext, y_s_iff, y_s_whl, y_s_forr, y_s_ret, y_s_retv, y_s_frz, y_ss_nil, y_ss_cons, argsOf, views, caps, Option.map_some, Option.map_none, Option.bind_some, Option.bind_none, List.getElem?_cons_zero, List.getElem?_cons_succ, List.set_cons_zero, List.set_cons_succ, List.length_cons, List.length_nil, z_read_dat, z_read_ref, z_read_scr, z_read_own, z_view_own, z_view_brw, z_view_dat, z_cap_dat, z_cap_own, z_hold_dat, z_hold_ref, z_hold_scr, z_hold_own, z_arg_dat, z_arg_ref, z_arg_scr, z_arg_own, z_look_t, z_look_f, z_len_ref, z_len_scr, z_len_l, z_len_t, z_len_o, z_len_b, z_ix_ref, z_ix_scr, z_ix_l, z_ix_t, z_ix_o, z_ix_b, z_blt_len, z_blt_abs, z_blt_tup, z_blt_lst, z_blt_sum, z_blt_all, z_blt_any, z_blt_min, z_blt_max, z_blt_sorted, z_blt_repr, z_blt_str, z_blt_int, z_blt_divmod, z_d_abs, z_d_tupl, z_d_tupt, z_d_lstl, z_d_lstt, z_d_sum, z_d_all, z_d_any, z_d_minl, z_d_maxl, z_d_min, z_d_max, z_d_sorted, z_d_divmod, z_d_int, z_d_repr, z_d_str, z_d_strt, z_bin_i, z_bin_ll, z_bin_tt, z_bin_rep, z_add, z_sub, z_mul, z_fdiv, z_mod, z_eq, z_ne, z_lt, z_le, z_gt, z_ge, z_inl, z_int, z_ninl, z_nint, z_isi_int_none, z_isi_int_bool, z_isi_int_int, z_isi_int_str, z_isi_int_list, z_isi_int_tuple, z_isi_bool_none, z_isi_bool_bool, z_isi_bool_int, z_isi_bool_str, z_isi_bool_list, z_isi_bool_tuple, z_isi_str_none, z_isi_str_bool, z_isi_str_int, z_isi_str_str, z_isi_str_list, z_isi_str_tuple, z_isi_list_none, z_isi_list_bool, z_isi_list_int, z_isi_list_str, z_isi_list_list, z_isi_list_tuple, z_isi_tuple_none, z_isi_tuple_bool, z_isi_tuple_int, z_isi_tuple_str, z_isi_tuple_list, z_isi_tuple_tuple, z_out_rt, z_out_nx, z_eqi, z_eqb, z_rng1, z_rng2, z_si_l, z_si_t, z_bind_nm, z_bind_tt, z_bind_tl, z_binds_n, z_binds_c, z_sl_l, z_sl_t, z_at0, z_at1, z_at2, z_at3, z_ixN0, z_intsn, z_intsc, z_boolsn, z_boolsc, y_e_isx, y_e_dct, y_e_lrg, y_e_mth, y_e_orv, y_callD, y_s_expC, y_s_retC, y_s_asgC, y_s_raise, y_s_tryE, y_s_forO, z_nox_dat, z_nox_own, z_nox_ref, z_nox_scr, z_nox_exc, z_nox_n, z_read_exo, z_arg_exo, z_hold_exo, z_exEnv, y_e_ixP, y_s_retP, z_sl_s, z_bin_ss, z_d_ints, z_ins, z_nins, y_i_sgn], .dat (.int (det (M.set j p))), .int (det (M.set j p)), ?_, rfl, by simp⟩⟩
    simp (decide := true) only [mat, ↓reduceIte, Bool.not_true, Bool.not_false, decide_true, decide_false, wipeE, Bool.false_eq_true, y_e_c, y_e_v, y_e_g, y_e_never, y_e_bin, y_e_neg, y_e_tst, y_e_ite, y_e_tup, y_e_lst, y_e_box, y_e_ix, y_e_sl, y_e_rev, y_e_call, y_e_blt, y_e_isi, y_e_lc, y_es_nil, y_es_cons, y_o_no, y_o_yes, y_t_val, y_t_cmp, y_t_chn, y_t_isnt, y_t_isnf, z_nnr_dat, z_nnr_own, z_nnr_brw, z_nn_none, z_nn_bool, z_nn_int, z_nn_str, z_nn_list, z_nn_tuple, y_t_isb, y_t_and, y_t_or, y_t_not, y_h_last, y_h_link, y_al_one, y_al_cons, y_an_one, y_an_cons, y_c_no, y_c_yes, y_i_seq, y_i_rng, y_i_zip, y_i_enum, y_s_never, y_s_pass, y_s_asg, y_s_par, y_s_par3, y_s_setO, y_s_unp, y_s_setB, y_s_exp, y_s_app, y_s_ext, y_s_iff, y_s_whl, y_s_forr, y_s_ret, y_s_retv, y_s_frz, y_ss_nil, y_ss_cons, argsOf, views, caps, Option.map_some, Option.map_none, Option.bind_some, Option.bind_none, List.getElem?_cons_zero, List.getElem?_cons_succ, List.set_cons_zero, List.set_cons_succ, List.length_cons, List.length_nil, z_read_dat, z_read_ref, z_read_scr, z_read_own, z_view_own, z_view_brw, z_view_dat, z_cap_dat, z_cap_own, z_hold_dat, z_hold_ref, z_hold_scr, z_hold_own, z_arg_dat, z_arg_ref, z_arg_scr, z_arg_own, z_look_t, z_look_f, z_len_ref, z_len_scr, z_len_l, z_len_t, z_len_o, z_len_b, z_ix_ref, z_ix_scr, z_ix_l, z_ix_t, z_ix_o, z_ix_b, z_blt_len, z_blt_abs, z_blt_tup, z_blt_lst, z_blt_sum, z_blt_all, z_blt_any, z_blt_min, z_blt_max, z_blt_sorted, z_blt_repr, z_blt_str, z_blt_int, z_blt_divmod, z_d_abs, z_d_tupl, z_d_tupt, z_d_lstl, z_d_lstt, z_d_sum, z_d_all, z_d_any, z_d_minl, z_d_maxl, z_d_min, z_d_max, z_d_sorted, z_d_divmod, z_d_int, z_d_repr, z_d_str, z_d_strt, z_bin_i, z_bin_ll, z_bin_tt, z_bin_rep, z_add, z_sub, z_mul, z_fdiv, z_mod, z_eq, z_ne, z_lt, z_le, z_gt, z_ge, z_inl, z_int, z_ninl, z_nint, z_isi_int_none, z_isi_int_bool, z_isi_int_int, z_isi_int_str, z_isi_int_list, z_isi_int_tuple, z_isi_bool_none, z_isi_bool_bool, z_isi_bool_int, z_isi_bool_str, z_isi_bool_list, z_isi_bool_tuple, z_isi_str_none, z_isi_str_bool, z_isi_str_int, z_isi_str_str, z_isi_str_list, z_isi_str_tuple, z_isi_list_none, z_isi_list_bool, z_isi_list_int, z_isi_list_str, z_isi_list_list, z_isi_list_tuple, z_isi_tuple_none, z_isi_tuple_bool, z_isi_tuple_int, z_isi_tuple_str, z_isi_tuple_list, z_isi_tuple_tuple, z_out_rt, z_out_nx, z_eqi, z_eqb, z_rng1, z_rng2, z_si_l, z_si_t, z_bind_nm, z_bind_tt, z_bind_tl, z_binds_n, z_binds_c, z_sl_l, z_sl_t, z_at0, z_at1, z_at2, z_at3, z_ixN0, z_intsn, z_intsc, z_boolsn, z_boolsc, y_e_isx, y_e_dct, y_e_lrg, y_e_mth, y_e_orv, y_callD, y_s_expC, y_s_retC, y_s_asgC, y_s_raise, y_s_tryE, y_s_forO, z_nox_dat, z_nox_own, z_nox_ref, z_nox_scr, z_nox_exc, z_nox_n, z_read_exo, z_arg_exo, z_hold_exo, z_exEnv, y_e_ixP, y_s_retP, z_sl_s, z_bin_ss, z_d_ints, z_ins, z_nins, y_i_sgn, f1, z_bin_tt ff1, z_bin_tt ff2, hc, ed]
  simp (decide := true) only [b_tops_of, ↓reduceIte, Bool.not_true, Bool.not_false, decide_true, decide_false, wipeE, Bool.false_eq_true, y_e_c, y_e_v, y_e_g, y_e_never, y_e_bin, y_e_neg, y_e_tst, y_e_ite, y_e_tup, y_e_lst, y_e_box, y_e_ix, y_e_sl, y_e_rev, y_e_call, y_e_blt, y_e_isi, y_e_lc, y_es_nil, y_es_cons, y_o_no, y_o_yes, y_t_val, y_t_cmp, y_t_chn, y_t_isnt, y_t_isnf, z_nnr_dat, z_nnr_own, z_nnr_brw, z_nn_none, z_nn_bool, z_nn_int, z_nn_str, z_nn_list, z_nn_tuple, y_t_isb, y_t_and, y_t_or, y_t_not, y_h_last, y_h_link, y_al_one, y_al_cons, y_an_one, y_an_cons, y_c_no, y_c_yes, y_i_seq, y_i_rng, y_i_zip, y_i_enum, y_s_never, y_s_pass, y_s_asg, y_s_par, y_s_par3, y_s_setO, y_s_unp, y_s_setB, y_s_exp, y_s_app, y_s_ext, y_s_iff, y_s_whl, y_s_forr, y_s_ret, y_s_retv, y_s_frz, y_ss_nil, y_ss_cons, argsOf, views, caps, Option.map_some, Option.map_none, Option.bind_some, Option.bind_none, List.getElem?_cons_zero, List.getElem?_cons_succ, List.set_cons_zero, List.set_cons_succ, List.length_cons, List.length_nil, z_read_dat, z_read_ref, z_read_scr, z_read_own, z_view_own, z_view_brw, z_view_dat, z_cap_dat, z_cap_own, z_hold_dat, z_hold_ref, z_hold_scr, z_hold_own, z_arg_dat, z_arg_ref, z_arg_scr, z_arg_own, z_look_t, z_look_f, z_len_ref, z_len_scr, z_len_l, z_len_t, z_len_o, z_len_b, z_ix_ref, z_ix_scr, z_ix_l, z_ix_t, z_ix_o, z_ix_b, z_blt_len, z_blt_abs, z_blt_tup, z_blt_lst, z_blt_sum, z_blt_all, z_blt_any, z_blt_min, z_blt_max, z_blt_sorted, z_blt_repr, z_blt_str, z_blt_int, z_blt_divmod, z_d_abs, z_d_tupl, z_d_tupt, z_d_lstl, z_d_lstt, z_d_sum, z_d_all, z_d_any, z_d_minl, z_d_maxl, z_d_min, z_d_max, z_d_sorted, z_d_divmod, z_d_int, z_d_repr, z_d_str, z_d_strt, z_bin_i, z_bin_ll, z_bin_tt, z_bin_rep, z_add, z_sub, z_mul, z_fdiv, z_mod, z_eq, z_ne, z_lt, z_le, z_gt, z_ge, z_inl, z_int, z_ninl, z_nint, z_isi_int_none, z_isi_int_bool, z_isi_int_int, z_isi_int_str, z_isi_int_list, z_isi_int_tuple, z_isi_bool_none, z_isi_bool_bool, z_isi_bool_int, z_isi_bool_str, z_isi_bool_list, z_isi_bool_tuple, z_isi_str_none, z_isi_str_bool, z_isi_str_int, z_isi_str_str, z_isi_str_list, z_isi_str_tuple, z_isi_list_none, z_isi_list_bool, z_isi_list_int, z_isi_list_str, z_isi_list_list, z_isi_list_tuple, z_isi_tuple_none, z_isi_tuple_bool, z_isi_tuple_int, z_isi_tuple_str, z_isi_tuple_list, z_isi_tuple_tuple, z_out_rt, z_out_nx, z_eqi, z_eqb, z_rng1, z_rng2, z_si_l, z_si_t, z_bind_nm, z_bind_tt, z_bind_tl, z_binds_n, z_binds_c, z_sl_l, z_sl_t, z_at0, z_at1, z_at2, z_at3, z_ixN0, z_intsn, z_intsc, z_boolsn, z_boolsc, y_e_isx, y_e_dct, y_e_lrg, y_e_mth, y_e_orv, y_callD, y_s_expC, y_s_retC, y_s_asgC, y_s_raise, y_s_tryE, y_s_forO, z_nox_dat, z_nox_own, z_nox_ref, z_nox_scr, z_nox_exc, z_nox_n, z_read_exo, z_arg_exo, z_hold_exo, z_exEnv, y_e_ixP, y_s_retP, z_sl_s, z_bin_ss, z_d_ints, z_ins, z_nins, y_i_sgn, hq]
theorem ints_map {β : Type} (g : Int → β) (l : List Int) (F : PyData → Option β) (h : ∀ t ∈ l, F (.int t) = some (g t)) : (l.map PyData.int).filterMap F = l.map g := by
  rw [List.filterMap_map, ← fmap_some]
  exact fmap_congr _ fun t ht => h t ht
theorem bools_ints (f : Int → Bool) : ∀ l : List Int, boolsOf (l.map fun t => PyData.bool (f t)) = some (l.map f)
  | [] => rfl
  | t :: l => by rw [List.map_cons, z_boolsc, bools_ints f l]; rfl
theorem tops_len (M : List (List Int)) (p : List Int) : (tops M p).length = M.length := by unfold tops; rw [List.length_map, List.length_range]
theorem tops_bd {M : List (List Int)} {p : List Int} {B : Nat} (h : Sq B M) (hp : Pt B M.length p) (hB : B ≤ 1000) : ∀ t ∈ tops M p, Bd (3 * B + 6) t := fun t ht => by
  obtain ⟨j, -, rfl⟩ := List.mem_map.mp ht
  exact det_bd (h.set hp j) hB
theorem any_iff {l : List Int} {D : Int} : (l.map fun t => !decide (t.fmod D = 0)).any id = !decide (∀ t ∈ l, t.fmod D = 0) := by
  rw [Bool.eq_iff_iff, Bool.not_eq_true', decide_eq_false_iff_not, List.any_eq_true]
  constructor
  · rintro ⟨b, hb, hb2⟩ q
    obtain ⟨t, ht, rfl⟩ := List.mem_map.mp hb
    simp [q t ht] at hb2
  · intro q
    have ⟨t, ht⟩ := Classical.not_forall.mp q
    have ⟨h1, h2⟩ := Classical.not_imp.mp ht
    exact ⟨true, List.mem_map.mpr ⟨t, h1, by simp [h2]⟩, rfl⟩
theorem optD_map (g : Int → Int) (l : List Int) : optD (some (l.map g)) = .tuple (l.map fun t => .int (g t)) := by
  show PyData.tuple ((l.map g).map PyData.int) = _
  rw [List.map_map]
  rfl
theorem g_numbers_for (k : Nat) (M : List (List Int)) (p : List Int) (st : Bx) (h : Sq 1000 M) (hp : Pt 1000 M.length p) (hd : det M ≠ 0) :
    callF tb (k + 5) "numbers_for" [.dat (mat M), .dat (vec p)] st = some (.dat (optD (nums M p)), st) := by
  rw [c_numbers_for]
  have hl := h.len
  have dv : divOk (det M) = true := divOk_bd (det_bd h (by decide)) hd (by decide)
  have e0 := g_det (k + 1) M st h
  have e1 := g_tops_of k M p st h hp
  have hl3 : ((tops M p).map PyData.int).length ≤ 100000 := by rw [List.length_map, tops_len]; omega
  have q1 : ∀ x4 : Option R, Ex.den (callF tb (k + 4)) q_numbers_for_1 [some (.dat (mat M)), some (.dat (vec p)), some (.dat (.int (det M))), some (.dat (.list ((tops M p).map PyData.int))), x4] st = some (.own ((tops M p).map fun t => .bool (!decide (t.fmod (det M) = 0))), st) := fun x4 => by
    rw [← ints_map (fun t => PyData.bool (!decide (t.fmod (det M) = 0))) (tops M p) (fun d => match d with | .int t => some (.bool (!decide (t.fmod (det M) = 0))) | _ => none) (fun t _ => rfl)]
    refine den_lc (by simp only [↓reduceIte, Bool.not_true, Bool.not_false, decide_true, decide_false, wipeE, Bool.false_eq_true, y_e_c, y_e_v, y_e_g, y_e_never, y_e_bin, y_e_neg, y_e_tst, y_e_ite, y_e_tup, y_e_lst, y_e_box, y_e_ix, y_e_sl, y_e_rev, y_e_call, y_e_blt, y_e_isi, y_e_lc, y_es_nil, y_es_cons, y_o_no, y_o_yes, y_t_val, y_t_cmp, y_t_chn, y_t_isnt, y_t_isnf, z_nnr_dat, z_nnr_own, z_nnr_brw, z_nn_none, z_nn_bool, z_nn_int, z_nn_str, z_nn_list, z_nn_tuple, y_t_isb, y_t_and, y_t_or, y_t_not, y_h_last, y_h_link, y_al_one, y_al_cons, y_an_one, y_an_cons, y_c_no, y_c_yes, y_i_seq, y_i_rng, y_i_zip, y_i_enum, y_s_never, y_s_pass, y_s_asg, y_s_par, y_s_par3, y_s_setO, y_s_unp, y_s_setB, y_s_exp, y_s_app, y_s_ext, y_s_iff, y_s_whl, y_s_forr, y_s_ret, y_s_retv, y_s_frz, y_ss_nil, y_ss_cons, argsOf, views, caps, Option.map_some, Option.map_none, Option.bind_some, Option.bind_none, List.getElem?_cons_zero, List.getElem?_cons_succ, List.set_cons_zero, List.set_cons_succ, List.length_cons, List.length_nil, z_read_dat, z_read_ref, z_read_scr, z_read_own, z_view_own, z_view_brw, z_view_dat, z_cap_dat, z_cap_own, z_hold_dat, z_hold_ref, z_hold_scr, z_hold_own, z_arg_dat, z_arg_ref, z_arg_scr, z_arg_own, z_look_t, z_look_f, z_len_ref, z_len_scr, z_len_l, z_len_t, z_len_o, z_len_b, z_ix_ref, z_ix_scr, z_ix_l, z_ix_t, z_ix_o, z_ix_b, z_blt_len, z_blt_abs, z_blt_tup, z_blt_lst, z_blt_sum, z_blt_all, z_blt_any, z_blt_min, z_blt_max, z_blt_sorted, z_blt_repr, z_blt_str, z_blt_int, z_blt_divmod, z_d_abs, z_d_tupl, z_d_tupt, z_d_lstl, z_d_lstt, z_d_sum, z_d_all, z_d_any, z_d_minl, z_d_maxl, z_d_min, z_d_max, z_d_sorted, z_d_divmod, z_d_int, z_d_repr, z_d_str, z_d_strt, z_bin_i, z_bin_ll, z_bin_tt, z_bin_rep, z_add, z_sub, z_mul, z_fdiv, z_mod, z_eq, z_ne, z_lt, z_le, z_gt, z_ge, z_inl, z_int, z_ninl, z_nint, z_isi_int_none, z_isi_int_bool, z_isi_int_int, z_isi_int_str, z_isi_int_list, z_isi_int_tuple, z_isi_bool_none, z_isi_bool_bool, z_isi_bool_int, z_isi_bool_str, z_isi_bool_list, z_isi_bool_tuple, z_isi_str_none, z_isi_str_bool, z_isi_str_int, z_isi_str_str, z_isi_str_list, z_isi_str_tuple, z_isi_list_none, z_isi_list_bool, z_isi_list_int, z_isi_list_str, z_isi_list_list, z_isi_list_tuple, z_isi_tuple_none, z_isi_tuple_bool, z_isi_tuple_int, z_isi_tuple_str, z_isi_tuple_list, z_isi_tuple_tuple, z_out_rt, z_out_nx, z_eqi, z_eqb, z_rng1, z_rng2, z_si_l, z_si_t, z_bind_nm, z_bind_tt, z_bind_tl, z_binds_n, z_binds_c, z_sl_l, z_sl_t, z_at0, z_at1, z_at2, z_at3, z_ixN0, z_intsn, z_intsc, z_boolsn, z_boolsc, y_e_isx, y_e_dct, y_e_lrg, y_e_mth, y_e_orv, y_callD, y_s_expC, y_s_retC, y_s_asgC, y_s_raise, y_s_tryE, y_s_forO, z_nox_dat, z_nox_own, z_nox_ref, z_nox_scr, z_nox_exc, z_nox_n, z_read_exo, z_arg_exo, z_hold_exo, z_exEnv, y_e_ixP, y_s_retP, z_sl_s, z_bin_ss, z_d_ints, z_ins, z_nins, y_i_sgn]) _ (fun d hd' => ?_) hl3
    obtain ⟨t, ht, rfl⟩ := List.mem_map.mp hd'
    exact ⟨[some (.dat (mat M)), some (.dat (vec p)), some (.dat (.int (det M))), some (.dat (.list ((tops M p).map PyData.int))), some (.dat (.int t))], by simp only [↓reduceIte, Bool.not_true, Bool.not_false, decide_true, decide_false, wipeE, Bool.false_eq_true, y_e_c, y_e_v, y_e_g, y_e_never, y_e_bin, y_e_neg, y_e_tst, y_e_ite, y_e_tup, y_e_lst, y_e_box, y_e_ix, y_e_sl, y_e_rev, y_e_call, y_e_blt, y_e_isi, y_e_lc, y_es_nil, y_es_cons, y_o_no, y_o_yes, y_t_val, y_t_cmp, y_t_chn, y_t_isnt, y_t_isnf, z_nnr_dat, z_nnr_own, z_nnr_brw, z_nn_none, z_nn_bool, z_nn_int, z_nn_str, z_nn_list, z_nn_tuple, y_t_isb, y_t_and, y_t_or, y_t_not, y_h_last, y_h_link, y_al_one, y_al_cons, y_an_one, y_an_cons, y_c_no, y_c_yes, y_i_seq, y_i_rng, y_i_zip, y_i_enum, y_s_never, y_s_pass, y_s_asg, y_s_par, y_s_par3, y_s_setO, y_s_unp, y_s_setB, y_s_exp, y_s_app, y_s_ext, y_s_iff, y_s_whl, y_s_forr, y_s_ret, y_s_retv, y_s_frz, y_ss_nil, y_ss_cons, argsOf, views, caps, Option.map_some, Option.map_none, Option.bind_some, Option.bind_none, List.getElem?_cons_zero, List.getElem?_cons_succ, List.set_cons_zero, List.set_cons_succ, List.length_cons, List.length_nil, z_read_dat, z_read_ref, z_read_scr, z_read_own, z_view_own, z_view_brw, z_view_dat, z_cap_dat, z_cap_own, z_hold_dat, z_hold_ref, z_hold_scr, z_hold_own, z_arg_dat, z_arg_ref, z_arg_scr, z_arg_own, z_look_t, z_look_f, z_len_ref, z_len_scr, z_len_l, z_len_t, z_len_o, z_len_b, z_ix_ref, z_ix_scr, z_ix_l, z_ix_t, z_ix_o, z_ix_b, z_blt_len, z_blt_abs, z_blt_tup, z_blt_lst, z_blt_sum, z_blt_all, z_blt_any, z_blt_min, z_blt_max, z_blt_sorted, z_blt_repr, z_blt_str, z_blt_int, z_blt_divmod, z_d_abs, z_d_tupl, z_d_tupt, z_d_lstl, z_d_lstt, z_d_sum, z_d_all, z_d_any, z_d_minl, z_d_maxl, z_d_min, z_d_max, z_d_sorted, z_d_divmod, z_d_int, z_d_repr, z_d_str, z_d_strt, z_bin_i, z_bin_ll, z_bin_tt, z_bin_rep, z_add, z_sub, z_mul, z_fdiv, z_mod, z_eq, z_ne, z_lt, z_le, z_gt, z_ge, z_inl, z_int, z_ninl, z_nint, z_isi_int_none, z_isi_int_bool, z_isi_int_int, z_isi_int_str, z_isi_int_list, z_isi_int_tuple, z_isi_bool_none, z_isi_bool_bool, z_isi_bool_int, z_isi_bool_str, z_isi_bool_list, z_isi_bool_tuple, z_isi_str_none, z_isi_str_bool, z_isi_str_int, z_isi_str_str, z_isi_str_list, z_isi_str_tuple, z_isi_list_none, z_isi_list_bool, z_isi_list_int, z_isi_list_str, z_isi_list_list, z_isi_list_tuple, z_isi_tuple_none, z_isi_tuple_bool, z_isi_tuple_int, z_isi_tuple_str, z_isi_tuple_list, z_isi_tuple_tuple, z_out_rt, z_out_nx, z_eqi, z_eqb, z_rng1, z_rng2, z_si_l, z_si_t, z_bind_nm, z_bind_tt, z_bind_tl, z_binds_n, z_binds_c, z_sl_l, z_sl_t, z_at0, z_at1, z_at2, z_at3, z_ixN0, z_intsn, z_intsc, z_boolsn, z_boolsc, y_e_isx, y_e_dct, y_e_lrg, y_e_mth, y_e_orv, y_callD, y_s_expC, y_s_retC, y_s_asgC, y_s_raise, y_s_tryE, y_s_forO, z_nox_dat, z_nox_own, z_nox_ref, z_nox_scr, z_nox_exc, z_nox_n, z_read_exo, z_arg_exo, z_hold_exo, z_exEnv, y_e_ixP, y_s_retP, z_sl_s, z_bin_ss, z_d_ints, z_ins, z_nins, y_i_sgn], .inr ⟨by simp only [↓reduceIte, Bool.not_true, Bool.not_false, decide_true, decide_false, wipeE, Bool.false_eq_true, y_e_c, y_e_v, y_e_g, y_e_never, y_e_bin, y_e_neg, y_e_tst, y_e_ite, y_e_tup, y_e_lst, y_e_box, y_e_ix, y_e_sl, y_e_rev, y_e_call, y_e_blt, y_e_isi, y_e_lc, y_es_nil, y_es_cons, y_o_no, y_o_yes, y_t_val, y_t_cmp, y_t_chn, y_t_isnt, y_t_isnf, z_nnr_dat, z_nnr_own, z_nnr_brw, z_nn_none, z_nn_bool, z_nn_int, z_nn_str, z_nn_list, z_nn_tuple, y_t_isb, y_t_and, y_t_or, y_t_not, y_h_last, y_h_link, y_al_one, y_al_cons, y_an_one, y_an_cons, y_c_no, y_c_yes, y_i_seq, y_i_rng, y_i_zip, y_i_enum, y_s_never, y_s_pass, y_s_asg, y_s_par, y_s_par3, y_s_setO, y_s_unp, y_s_setB, y_s_exp, y_s_app, y_s_ext, y_s_iff, y_s_whl, y_s_forr, y_s_ret, y_s_retv, y_s_frz, y_ss_nil, y_ss_cons, argsOf, views, caps, Option.map_some, Option.map_none, Option.bind_some, Option.bind_none, List.getElem?_cons_zero, List.getElem?_cons_succ, List.set_cons_zero, List.set_cons_succ, List.length_cons, List.length_nil, z_read_dat, z_read_ref, z_read_scr, z_read_own, z_view_own, z_view_brw, z_view_dat, z_cap_dat, z_cap_own, z_hold_dat, z_hold_ref, z_hold_scr, z_hold_own, z_arg_dat, z_arg_ref, z_arg_scr, z_arg_own, z_look_t, z_look_f, z_len_ref, z_len_scr, z_len_l, z_len_t, z_len_o, z_len_b, z_ix_ref, z_ix_scr, z_ix_l, z_ix_t, z_ix_o, z_ix_b, z_blt_len, z_blt_abs, z_blt_tup, z_blt_lst, z_blt_sum, z_blt_all, z_blt_any, z_blt_min, z_blt_max, z_blt_sorted, z_blt_repr, z_blt_str, z_blt_int, z_blt_divmod, z_d_abs, z_d_tupl, z_d_tupt, z_d_lstl, z_d_lstt, z_d_sum, z_d_all, z_d_any, z_d_minl, z_d_maxl, z_d_min, z_d_max, z_d_sorted, z_d_divmod, z_d_int, z_d_repr, z_d_str, z_d_strt, z_bin_i, z_bin_ll, z_bin_tt, z_bin_rep, z_add, z_sub, z_mul, z_fdiv, z_mod, z_eq, z_ne, z_lt, z_le, z_gt, z_ge, z_inl, z_int, z_ninl, z_nint, z_isi_int_none, z_isi_int_bool, z_isi_int_int, z_isi_int_str, z_isi_int_list, z_isi_int_tuple, z_isi_bool_none, z_isi_bool_bool, z_isi_bool_int, z_isi_bool_str, z_isi_bool_list, z_isi_bool_tuple, z_isi_str_none, z_isi_str_bool, z_isi_str_int, z_isi_str_str, z_isi_str_list, z_isi_str_tuple, z_isi_list_none, z_isi_list_bool, z_isi_list_int, z_isi_list_str, z_isi_list_list, z_isi_list_tuple, z_isi_tuple_none, z_isi_tuple_bool, z_isi_tuple_int, z_isi_tuple_str, z_isi_tuple_list, z_isi_tuple_tuple, z_out_rt, z_out_nx, z_eqi, z_eqb, z_rng1, z_rng2, z_si_l, z_si_t, z_bind_nm, z_bind_tt, z_bind_tl, z_binds_n, z_binds_c, z_sl_l, z_sl_t, z_at0, z_at1, z_at2, z_at3, z_ixN0, z_intsn, z_intsc, z_boolsn, z_boolsc, y_e_isx, y_e_dct, y_e_lrg, y_e_mth, y_e_orv, y_callD, y_s_expC, y_s_retC, y_s_asgC, y_s_raise, y_s_tryE, y_s_forO, z_nox_dat, z_nox_own, z_nox_ref, z_nox_scr, z_nox_exc, z_nox_n, z_read_exo, z_arg_exo, z_hold_exo, z_exEnv, y_e_ixP, y_s_retP, z_sl_s, z_bin_ss, z_d_ints, z_ins, z_nins, y_i_sgn], .dat (.bool (!decide (t.fmod (det M) = 0))), .bool (!decide (t.fmod (det M) = 0)), by simp only [↓reduceIte, Bool.not_true, Bool.not_false, decide_true, decide_false, wipeE, Bool.false_eq_true, y_e_c, y_e_v, y_e_g, y_e_never, y_e_bin, y_e_neg, y_e_tst, y_e_ite, y_e_tup, y_e_lst, y_e_box, y_e_ix, y_e_sl, y_e_rev, y_e_call, y_e_blt, y_e_isi, y_e_lc, y_es_nil, y_es_cons, y_o_no, y_o_yes, y_t_val, y_t_cmp, y_t_chn, y_t_isnt, y_t_isnf, z_nnr_dat, z_nnr_own, z_nnr_brw, z_nn_none, z_nn_bool, z_nn_int, z_nn_str, z_nn_list, z_nn_tuple, y_t_isb, y_t_and, y_t_or, y_t_not, y_h_last, y_h_link, y_al_one, y_al_cons, y_an_one, y_an_cons, y_c_no, y_c_yes, y_i_seq, y_i_rng, y_i_zip, y_i_enum, y_s_never, y_s_pass, y_s_asg, y_s_par, y_s_par3, y_s_setO, y_s_unp, y_s_setB, y_s_exp, y_s_app, y_s_ext, y_s_iff, y_s_whl, y_s_forr, y_s_ret, y_s_retv, y_s_frz, y_ss_nil, y_ss_cons, argsOf, views, caps, Option.map_some, Option.map_none, Option.bind_some, Option.bind_none, List.getElem?_cons_zero, List.getElem?_cons_succ, List.set_cons_zero, List.set_cons_succ, List.length_cons, List.length_nil, z_read_dat, z_read_ref, z_read_scr, z_read_own, z_view_own, z_view_brw, z_view_dat, z_cap_dat, z_cap_own, z_hold_dat, z_hold_ref, z_hold_scr, z_hold_own, z_arg_dat, z_arg_ref, z_arg_scr, z_arg_own, z_look_t, z_look_f, z_len_ref, z_len_scr, z_len_l, z_len_t, z_len_o, z_len_b, z_ix_ref, z_ix_scr, z_ix_l, z_ix_t, z_ix_o, z_ix_b, z_blt_len, z_blt_abs, z_blt_tup, z_blt_lst, z_blt_sum, z_blt_all, z_blt_any, z_blt_min, z_blt_max, z_blt_sorted, z_blt_repr, z_blt_str, z_blt_int, z_blt_divmod, z_d_abs, z_d_tupl, z_d_tupt, z_d_lstl, z_d_lstt, z_d_sum, z_d_all, z_d_any, z_d_minl, z_d_maxl, z_d_min, z_d_max, z_d_sorted, z_d_divmod, z_d_int, z_d_repr, z_d_str, z_d_strt, z_bin_i, z_bin_ll, z_bin_tt, z_bin_rep, z_add, z_sub, z_mul, z_fdiv, z_mod, z_eq, z_ne, z_lt, z_le, z_gt, z_ge, z_inl, z_int, z_ninl, z_nint, z_isi_int_none, z_isi_int_bool, z_isi_int_int, z_isi_int_str, z_isi_int_list, z_isi_int_tuple, z_isi_bool_none, z_isi_bool_bool, z_isi_bool_int, z_isi_bool_str, z_isi_bool_list, z_isi_bool_tuple, z_isi_str_none, z_isi_str_bool, z_isi_str_int, z_isi_str_str, z_isi_str_list, z_isi_str_tuple, z_isi_list_none, z_isi_list_bool, z_isi_list_int, z_isi_list_str, z_isi_list_list, z_isi_list_tuple, z_isi_tuple_none, z_isi_tuple_bool, z_isi_tuple_int, z_isi_tuple_str, z_isi_tuple_list, z_isi_tuple_tuple, z_out_rt, z_out_nx, z_eqi, z_eqb, z_rng1, z_rng2, z_si_l, z_si_t, z_bind_nm, z_bind_tt, z_bind_tl, z_binds_n, z_binds_c, z_sl_l, z_sl_t, z_at0, z_at1, z_at2, z_at3, z_ixN0, z_intsn, z_intsc, z_boolsn, z_boolsc, y_e_isx, y_e_dct, y_e_lrg, y_e_mth, y_e_orv, y_callD, y_s_expC, y_s_retC, y_s_asgC, y_s_raise, y_s_tryE, y_s_forO, z_nox_dat, z_nox_own, z_nox_ref, z_nox_scr, z_nox_exc, z_nox_n, z_read_exo, z_arg_exo, z_hold_exo, z_exEnv, y_e_ixP, y_s_retP, z_sl_s, z_bin_ss, z_d_ints, z_ins, z_nins, y_i_sgn, z_modf hd], rfl, rfl⟩⟩
  have q2 : ∀ x4 : Option R, Ex.den (callF tb (k + 4)) q_numbers_for_2 [some (.dat (mat M)), some (.dat (vec p)), some (.dat (.int (det M))), some (.dat (.list ((tops M p).map PyData.int))), x4] st = some (.own ((tops M p).map fun t => .int (t.fdiv (det M))), st) := fun x4 => by
    rw [← ints_map (fun t => PyData.int (t.fdiv (det M))) (tops M p) (fun d => match d with | .int t => some (.int (t.fdiv (det M))) | _ => none) (fun t _ => rfl)]
    refine den_lc (by simp only [↓reduceIte, Bool.not_true, Bool.not_false, decide_true, decide_false, wipeE, Bool.false_eq_true, y_e_c, y_e_v, y_e_g, y_e_never, y_e_bin, y_e_neg, y_e_tst, y_e_ite, y_e_tup, y_e_lst, y_e_box, y_e_ix, y_e_sl, y_e_rev, y_e_call, y_e_blt, y_e_isi, y_e_lc, y_es_nil, y_es_cons, y_o_no, y_o_yes, y_t_val, y_t_cmp, y_t_chn, y_t_isnt, y_t_isnf, z_nnr_dat, z_nnr_own, z_nnr_brw, z_nn_none, z_nn_bool, z_nn_int, z_nn_str, z_nn_list, z_nn_tuple, y_t_isb, y_t_and, y_t_or, y_t_not, y_h_last, y_h_link, y_al_one, y_al_cons, y_an_one, y_an_cons, y_c_no, y_c_yes, y_i_seq, y_i_rng, y_i_zip, y_i_enum, y_s_never, y_s_pass, y_s_asg, y_s_par, y_s_par3, y_s_setO, y_s_unp, y_s_setB, y_s_exp, y_s_app, y_s_ext, y_s_iff, y_s_whl, y_s_forr, y_s_ret, y_s_retv, y_s_frz, y_ss_nil, y_ss_cons, argsOf, views, caps, Option.map_some, Option.map_none, Option.bind_some, Option.bind_none, List.getElem?_cons_zero, List.getElem?_cons_succ, List.set_cons_zero, List.set_cons_succ, List.length_cons, List.length_nil, z_read_dat, z_read_ref, z_read_scr, z_read_own, z_view_own, z_view_brw, z_view_dat, z_cap_dat, z_cap_own, z_hold_dat, z_hold_ref, z_hold_scr, z_hold_own, z_arg_dat, z_arg_ref, z_arg_scr, z_arg_own, z_look_t, z_look_f, z_len_ref, z_len_scr, z_len_l, z_len_t, z_len_o, z_len_b, z_ix_ref, z_ix_scr, z_ix_l, z_ix_t, z_ix_o, z_ix_b, z_blt_len, z_blt_abs, z_blt_tup, z_blt_lst, z_blt_sum, z_blt_all, z_blt_any, z_blt_min, z_blt_max, z_blt_sorted, z_blt_repr, z_blt_str, z_blt_int, z_blt_divmod, z_d_abs, z_d_tupl, z_d_tupt, z_d_lstl, z_d_lstt, z_d_sum, z_d_all, z_d_any, z_d_minl, z_d_maxl, z_d_min, z_d_max, z_d_sorted, z_d_divmod, z_d_int, z_d_repr, z_d_str, z_d_strt, z_bin_i, z_bin_ll, z_bin_tt, z_bin_rep, z_add, z_sub, z_mul, z_fdiv, z_mod, z_eq, z_ne, z_lt, z_le, z_gt, z_ge, z_inl, z_int, z_ninl, z_nint, z_isi_int_none, z_isi_int_bool, z_isi_int_int, z_isi_int_str, z_isi_int_list, z_isi_int_tuple, z_isi_bool_none, z_isi_bool_bool, z_isi_bool_int, z_isi_bool_str, z_isi_bool_list, z_isi_bool_tuple, z_isi_str_none, z_isi_str_bool, z_isi_str_int, z_isi_str_str, z_isi_str_list, z_isi_str_tuple, z_isi_list_none, z_isi_list_bool, z_isi_list_int, z_isi_list_str, z_isi_list_list, z_isi_list_tuple, z_isi_tuple_none, z_isi_tuple_bool, z_isi_tuple_int, z_isi_tuple_str, z_isi_tuple_list, z_isi_tuple_tuple, z_out_rt, z_out_nx, z_eqi, z_eqb, z_rng1, z_rng2, z_si_l, z_si_t, z_bind_nm, z_bind_tt, z_bind_tl, z_binds_n, z_binds_c, z_sl_l, z_sl_t, z_at0, z_at1, z_at2, z_at3, z_ixN0, z_intsn, z_intsc, z_boolsn, z_boolsc, y_e_isx, y_e_dct, y_e_lrg, y_e_mth, y_e_orv, y_callD, y_s_expC, y_s_retC, y_s_asgC, y_s_raise, y_s_tryE, y_s_forO, z_nox_dat, z_nox_own, z_nox_ref, z_nox_scr, z_nox_exc, z_nox_n, z_read_exo, z_arg_exo, z_hold_exo, z_exEnv, y_e_ixP, y_s_retP, z_sl_s, z_bin_ss, z_d_ints, z_ins, z_nins, y_i_sgn]) _ (fun d hd' => ?_) hl3
    obtain ⟨t, ht, rfl⟩ := List.mem_map.mp hd'
    exact ⟨[some (.dat (mat M)), some (.dat (vec p)), some (.dat (.int (det M))), some (.dat (.list ((tops M p).map PyData.int))), some (.dat (.int t))], by simp only [↓reduceIte, Bool.not_true, Bool.not_false, decide_true, decide_false, wipeE, Bool.false_eq_true, y_e_c, y_e_v, y_e_g, y_e_never, y_e_bin, y_e_neg, y_e_tst, y_e_ite, y_e_tup, y_e_lst, y_e_box, y_e_ix, y_e_sl, y_e_rev, y_e_call, y_e_blt, y_e_isi, y_e_lc, y_es_nil, y_es_cons, y_o_no, y_o_yes, y_t_val, y_t_cmp, y_t_chn, y_t_isnt, y_t_isnf, z_nnr_dat, z_nnr_own, z_nnr_brw, z_nn_none, z_nn_bool, z_nn_int, z_nn_str, z_nn_list, z_nn_tuple, y_t_isb, y_t_and, y_t_or, y_t_not, y_h_last, y_h_link, y_al_one, y_al_cons, y_an_one, y_an_cons, y_c_no, y_c_yes, y_i_seq, y_i_rng, y_i_zip, y_i_enum, y_s_never, y_s_pass, y_s_asg, y_s_par, y_s_par3, y_s_setO, y_s_unp, y_s_setB, y_s_exp, y_s_app, y_s_ext, y_s_iff, y_s_whl, y_s_forr, y_s_ret, y_s_retv, y_s_frz, y_ss_nil, y_ss_cons, argsOf, views, caps, Option.map_some, Option.map_none, Option.bind_some, Option.bind_none, List.getElem?_cons_zero, List.getElem?_cons_succ, List.set_cons_zero, List.set_cons_succ, List.length_cons, List.length_nil, z_read_dat, z_read_ref, z_read_scr, z_read_own, z_view_own, z_view_brw, z_view_dat, z_cap_dat, z_cap_own, z_hold_dat, z_hold_ref, z_hold_scr, z_hold_own, z_arg_dat, z_arg_ref, z_arg_scr, z_arg_own, z_look_t, z_look_f, z_len_ref, z_len_scr, z_len_l, z_len_t, z_len_o, z_len_b, z_ix_ref, z_ix_scr, z_ix_l, z_ix_t, z_ix_o, z_ix_b, z_blt_len, z_blt_abs, z_blt_tup, z_blt_lst, z_blt_sum, z_blt_all, z_blt_any, z_blt_min, z_blt_max, z_blt_sorted, z_blt_repr, z_blt_str, z_blt_int, z_blt_divmod, z_d_abs, z_d_tupl, z_d_tupt, z_d_lstl, z_d_lstt, z_d_sum, z_d_all, z_d_any, z_d_minl, z_d_maxl, z_d_min, z_d_max, z_d_sorted, z_d_divmod, z_d_int, z_d_repr, z_d_str, z_d_strt, z_bin_i, z_bin_ll, z_bin_tt, z_bin_rep, z_add, z_sub, z_mul, z_fdiv, z_mod, z_eq, z_ne, z_lt, z_le, z_gt, z_ge, z_inl, z_int, z_ninl, z_nint, z_isi_int_none, z_isi_int_bool, z_isi_int_int, z_isi_int_str, z_isi_int_list, z_isi_int_tuple, z_isi_bool_none, z_isi_bool_bool, z_isi_bool_int, z_isi_bool_str, z_isi_bool_list, z_isi_bool_tuple, z_isi_str_none, z_isi_str_bool, z_isi_str_int, z_isi_str_str, z_isi_str_list, z_isi_str_tuple, z_isi_list_none, z_isi_list_bool, z_isi_list_int, z_isi_list_str, z_isi_list_list, z_isi_list_tuple, z_isi_tuple_none, z_isi_tuple_bool, z_isi_tuple_int, z_isi_tuple_str, z_isi_tuple_list, z_isi_tuple_tuple, z_out_rt, z_out_nx, z_eqi, z_eqb, z_rng1, z_rng2, z_si_l, z_si_t, z_bind_nm, z_bind_tt, z_bind_tl, z_binds_n, z_binds_c, z_sl_l, z_sl_t, z_at0, z_at1, z_at2, z_at3, z_ixN0, z_intsn, z_intsc, z_boolsn, z_boolsc, y_e_isx, y_e_dct, y_e_lrg, y_e_mth, y_e_orv, y_callD, y_s_expC, y_s_retC, y_s_asgC, y_s_raise, y_s_tryE, y_s_forO, z_nox_dat, z_nox_own, z_nox_ref, z_nox_scr, z_nox_exc, z_nox_n, z_read_exo, z_arg_exo, z_hold_exo, z_exEnv, y_e_ixP, y_s_retP, z_sl_s, z_bin_ss, z_d_ints, z_ins, z_nins, y_i_sgn], .inr ⟨by simp only [↓reduceIte, Bool.not_true, Bool.not_false, decide_true, decide_false, wipeE, Bool.false_eq_true, y_e_c, y_e_v, y_e_g, y_e_never, y_e_bin, y_e_neg, y_e_tst, y_e_ite, y_e_tup, y_e_lst, y_e_box, y_e_ix, y_e_sl, y_e_rev, y_e_call, y_e_blt, y_e_isi, y_e_lc, y_es_nil, y_es_cons, y_o_no, y_o_yes, y_t_val, y_t_cmp, y_t_chn, y_t_isnt, y_t_isnf, z_nnr_dat, z_nnr_own, z_nnr_brw, z_nn_none, z_nn_bool, z_nn_int, z_nn_str, z_nn_list, z_nn_tuple, y_t_isb, y_t_and, y_t_or, y_t_not, y_h_last, y_h_link, y_al_one, y_al_cons, y_an_one, y_an_cons, y_c_no, y_c_yes, y_i_seq, y_i_rng, y_i_zip, y_i_enum, y_s_never, y_s_pass, y_s_asg, y_s_par, y_s_par3, y_s_setO, y_s_unp, y_s_setB, y_s_exp, y_s_app, y_s_ext, y_s_iff, y_s_whl, y_s_forr, y_s_ret, y_s_retv, y_s_frz, y_ss_nil, y_ss_cons, argsOf, views, caps, Option.map_some, Option.map_none, Option.bind_some, Option.bind_none, List.getElem?_cons_zero, List.getElem?_cons_succ, List.set_cons_zero, List.set_cons_succ, List.length_cons, List.length_nil, z_read_dat, z_read_ref, z_read_scr, z_read_own, z_view_own, z_view_brw, z_view_dat, z_cap_dat, z_cap_own, z_hold_dat, z_hold_ref, z_hold_scr, z_hold_own, z_arg_dat, z_arg_ref, z_arg_scr, z_arg_own, z_look_t, z_look_f, z_len_ref, z_len_scr, z_len_l, z_len_t, z_len_o, z_len_b, z_ix_ref, z_ix_scr, z_ix_l, z_ix_t, z_ix_o, z_ix_b, z_blt_len, z_blt_abs, z_blt_tup, z_blt_lst, z_blt_sum, z_blt_all, z_blt_any, z_blt_min, z_blt_max, z_blt_sorted, z_blt_repr, z_blt_str, z_blt_int, z_blt_divmod, z_d_abs, z_d_tupl, z_d_tupt, z_d_lstl, z_d_lstt, z_d_sum, z_d_all, z_d_any, z_d_minl, z_d_maxl, z_d_min, z_d_max, z_d_sorted, z_d_divmod, z_d_int, z_d_repr, z_d_str, z_d_strt, z_bin_i, z_bin_ll, z_bin_tt, z_bin_rep, z_add, z_sub, z_mul, z_fdiv, z_mod, z_eq, z_ne, z_lt, z_le, z_gt, z_ge, z_inl, z_int, z_ninl, z_nint, z_isi_int_none, z_isi_int_bool, z_isi_int_int, z_isi_int_str, z_isi_int_list, z_isi_int_tuple, z_isi_bool_none, z_isi_bool_bool, z_isi_bool_int, z_isi_bool_str, z_isi_bool_list, z_isi_bool_tuple, z_isi_str_none, z_isi_str_bool, z_isi_str_int, z_isi_str_str, z_isi_str_list, z_isi_str_tuple, z_isi_list_none, z_isi_list_bool, z_isi_list_int, z_isi_list_str, z_isi_list_list, z_isi_list_tuple, z_isi_tuple_none, z_isi_tuple_bool, z_isi_tuple_int, z_isi_tuple_str, z_isi_tuple_list, z_isi_tuple_tuple, z_out_rt, z_out_nx, z_eqi, z_eqb, z_rng1, z_rng2, z_si_l, z_si_t, z_bind_nm, z_bind_tt, z_bind_tl, z_binds_n, z_binds_c, z_sl_l, z_sl_t, z_at0, z_at1, z_at2, z_at3, z_ixN0, z_intsn, z_intsc, z_boolsn, z_boolsc, y_e_isx, y_e_dct, y_e_lrg, y_e_mth, y_e_orv, y_callD, y_s_expC, y_s_retC, y_s_asgC, y_s_raise, y_s_tryE, y_s_forO, z_nox_dat, z_nox_own, z_nox_ref, z_nox_scr, z_nox_exc, z_nox_n, z_read_exo, z_arg_exo, z_hold_exo, z_exEnv, y_e_ixP, y_s_retP, z_sl_s, z_bin_ss, z_d_ints, z_ins, z_nins, y_i_sgn], .dat (.int (t.fdiv (det M))), .int (t.fdiv (det M)), by simp only [↓reduceIte, Bool.not_true, Bool.not_false, decide_true, decide_false, wipeE, Bool.false_eq_true, y_e_c, y_e_v, y_e_g, y_e_never, y_e_bin, y_e_neg, y_e_tst, y_e_ite, y_e_tup, y_e_lst, y_e_box, y_e_ix, y_e_sl, y_e_rev, y_e_call, y_e_blt, y_e_isi, y_e_lc, y_es_nil, y_es_cons, y_o_no, y_o_yes, y_t_val, y_t_cmp, y_t_chn, y_t_isnt, y_t_isnf, z_nnr_dat, z_nnr_own, z_nnr_brw, z_nn_none, z_nn_bool, z_nn_int, z_nn_str, z_nn_list, z_nn_tuple, y_t_isb, y_t_and, y_t_or, y_t_not, y_h_last, y_h_link, y_al_one, y_al_cons, y_an_one, y_an_cons, y_c_no, y_c_yes, y_i_seq, y_i_rng, y_i_zip, y_i_enum, y_s_never, y_s_pass, y_s_asg, y_s_par, y_s_par3, y_s_setO, y_s_unp, y_s_setB, y_s_exp, y_s_app, y_s_ext, y_s_iff, y_s_whl, y_s_forr, y_s_ret, y_s_retv, y_s_frz, y_ss_nil, y_ss_cons, argsOf, views, caps, Option.map_some, Option.map_none, Option.bind_some, Option.bind_none, List.getElem?_cons_zero, List.getElem?_cons_succ, List.set_cons_zero, List.set_cons_succ, List.length_cons, List.length_nil, z_read_dat, z_read_ref, z_read_scr, z_read_own, z_view_own, z_view_brw, z_view_dat, z_cap_dat, z_cap_own, z_hold_dat, z_hold_ref, z_hold_scr, z_hold_own, z_arg_dat, z_arg_ref, z_arg_scr, z_arg_own, z_look_t, z_look_f, z_len_ref, z_len_scr, z_len_l, z_len_t, z_len_o, z_len_b, z_ix_ref, z_ix_scr, z_ix_l, z_ix_t, z_ix_o, z_ix_b, z_blt_len, z_blt_abs, z_blt_tup, z_blt_lst, z_blt_sum, z_blt_all, z_blt_any, z_blt_min, z_blt_max, z_blt_sorted, z_blt_repr, z_blt_str, z_blt_int, z_blt_divmod, z_d_abs, z_d_tupl, z_d_tupt, z_d_lstl, z_d_lstt, z_d_sum, z_d_all, z_d_any, z_d_minl, z_d_maxl, z_d_min, z_d_max, z_d_sorted, z_d_divmod, z_d_int, z_d_repr, z_d_str, z_d_strt, z_bin_i, z_bin_ll, z_bin_tt, z_bin_rep, z_add, z_sub, z_mul, z_fdiv, z_mod, z_eq, z_ne, z_lt, z_le, z_gt, z_ge, z_inl, z_int, z_ninl, z_nint, z_isi_int_none, z_isi_int_bool, z_isi_int_int, z_isi_int_str, z_isi_int_list, z_isi_int_tuple, z_isi_bool_none, z_isi_bool_bool, z_isi_bool_int, z_isi_bool_str, z_isi_bool_list, z_isi_bool_tuple, z_isi_str_none, z_isi_str_bool, z_isi_str_int, z_isi_str_str, z_isi_str_list, z_isi_str_tuple, z_isi_list_none, z_isi_list_bool, z_isi_list_int, z_isi_list_str, z_isi_list_list, z_isi_list_tuple, z_isi_tuple_none, z_isi_tuple_bool, z_isi_tuple_int, z_isi_tuple_str, z_isi_tuple_list, z_isi_tuple_tuple, z_out_rt, z_out_nx, z_eqi, z_eqb, z_rng1, z_rng2, z_si_l, z_si_t, z_bind_nm, z_bind_tt, z_bind_tl, z_binds_n, z_binds_c, z_sl_l, z_sl_t, z_at0, z_at1, z_at2, z_at3, z_ixN0, z_intsn, z_intsc, z_boolsn, z_boolsc, y_e_isx, y_e_dct, y_e_lrg, y_e_mth, y_e_orv, y_callD, y_s_expC, y_s_retC, y_s_asgC, y_s_raise, y_s_tryE, y_s_forO, z_nox_dat, z_nox_own, z_nox_ref, z_nox_scr, z_nox_exc, z_nox_n, z_read_exo, z_arg_exo, z_hold_exo, z_exEnv, y_e_ixP, y_s_retP, z_sl_s, z_bin_ss, z_d_ints, z_ins, z_nins, y_i_sgn, z_fdivf dv], rfl, rfl⟩⟩
  unfold nums
  by_cases hc : ∀ t ∈ tops M p, t.fmod (det M) = 0
  · rw [if_pos hc]
    have hA := any_iff (l := tops M p) (D := det M)
    rw [decide_eq_true hc] at hA
    simp (decide := true) only [b_numbers_for, ↓reduceIte, Bool.not_true, Bool.not_false, decide_true, decide_false, wipeE, Bool.false_eq_true, y_e_c, y_e_v, y_e_g, y_e_never, y_e_bin, y_e_neg, y_e_tst, y_e_ite, y_e_tup, y_e_lst, y_e_box, y_e_ix, y_e_sl, y_e_rev, y_e_call, y_e_blt, y_e_isi, y_e_lc, y_es_nil, y_es_cons, y_o_no, y_o_yes, y_t_val, y_t_cmp, y_t_chn, y_t_isnt, y_t_isnf, z_nnr_dat, z_nnr_own, z_nnr_brw, z_nn_none, z_nn_bool, z_nn_int, z_nn_str, z_nn_list, z_nn_tuple, y_t_isb, y_t_and, y_t_or, y_t_not, y_h_last, y_h_link, y_al_one, y_al_cons, y_an_one, y_an_cons, y_c_no, y_c_yes, y_i_seq, y_i_rng, y_i_zip, y_i_enum, y_s_never, y_s_pass, y_s_asg, y_s_par, y_s_par3, y_s_setO, y_s_unp, y_s_setB, y_s_exp, y_s_app, y_s_ext, y_s_iff, y_s_whl, y_s_forr, y_s_ret, y_s_retv, y_s_frz, y_ss_nil, y_ss_cons, argsOf, views, caps, Option.map_some, Option.map_none, Option.bind_some, Option.bind_none, List.getElem?_cons_zero, List.getElem?_cons_succ, List.set_cons_zero, List.set_cons_succ, List.length_cons, List.length_nil, z_read_dat, z_read_ref, z_read_scr, z_read_own, z_view_own, z_view_brw, z_view_dat, z_cap_dat, z_cap_own, z_hold_dat, z_hold_ref, z_hold_scr, z_hold_own, z_arg_dat, z_arg_ref, z_arg_scr, z_arg_own, z_look_t, z_look_f, z_len_ref, z_len_scr, z_len_l, z_len_t, z_len_o, z_len_b, z_ix_ref, z_ix_scr, z_ix_l, z_ix_t, z_ix_o, z_ix_b, z_blt_len, z_blt_abs, z_blt_tup, z_blt_lst, z_blt_sum, z_blt_all, z_blt_any, z_blt_min, z_blt_max, z_blt_sorted, z_blt_repr, z_blt_str, z_blt_int, z_blt_divmod, z_d_abs, z_d_tupl, z_d_tupt, z_d_lstl, z_d_lstt, z_d_sum, z_d_all, z_d_any, z_d_minl, z_d_maxl, z_d_min, z_d_max, z_d_sorted, z_d_divmod, z_d_int, z_d_repr, z_d_str, z_d_strt, z_bin_i, z_bin_ll, z_bin_tt, z_bin_rep, z_add, z_sub, z_mul, z_fdiv, z_mod, z_eq, z_ne, z_lt, z_le, z_gt, z_ge, z_inl, z_int, z_ninl, z_nint, z_isi_int_none, z_isi_int_bool, z_isi_int_int, z_isi_int_str, z_isi_int_list, z_isi_int_tuple, z_isi_bool_none, z_isi_bool_bool, z_isi_bool_int, z_isi_bool_str, z_isi_bool_list, z_isi_bool_tuple, z_isi_str_none, z_isi_str_bool, z_isi_str_int, z_isi_str_str, z_isi_str_list, z_isi_str_tuple, z_isi_list_none, z_isi_list_bool, z_isi_list_int, z_isi_list_str, z_isi_list_list, z_isi_list_tuple, z_isi_tuple_none, z_isi_tuple_bool, z_isi_tuple_int, z_isi_tuple_str, z_isi_tuple_list, z_isi_tuple_tuple, z_out_rt, z_out_nx, z_eqi, z_eqb, z_rng1, z_rng2, z_si_l, z_si_t, z_bind_nm, z_bind_tt, z_bind_tl, z_binds_n, z_binds_c, z_sl_l, z_sl_t, z_at0, z_at1, z_at2, z_at3, z_ixN0, z_intsn, z_intsc, z_boolsn, z_boolsc, y_e_isx, y_e_dct, y_e_lrg, y_e_mth, y_e_orv, y_callD, y_s_expC, y_s_retC, y_s_asgC, y_s_raise, y_s_tryE, y_s_forO, z_nox_dat, z_nox_own, z_nox_ref, z_nox_scr, z_nox_exc, z_nox_n, z_read_exo, z_arg_exo, z_hold_exo, z_exEnv, y_e_ixP, y_s_retP, z_sl_s, z_bin_ss, z_d_ints, z_ins, z_nins, y_i_sgn, e0, e1, q1, q2, bools_ints, hA, optD_map]
  · rw [if_neg hc]
    have hA := any_iff (l := tops M p) (D := det M)
    rw [decide_eq_false hc] at hA
    simp (decide := true) only [b_numbers_for, ↓reduceIte, Bool.not_true, Bool.not_false, decide_true, decide_false, wipeE, Bool.false_eq_true, y_e_c, y_e_v, y_e_g, y_e_never, y_e_bin, y_e_neg, y_e_tst, y_e_ite, y_e_tup, y_e_lst, y_e_box, y_e_ix, y_e_sl, y_e_rev, y_e_call, y_e_blt, y_e_isi, y_e_lc, y_es_nil, y_es_cons, y_o_no, y_o_yes, y_t_val, y_t_cmp, y_t_chn, y_t_isnt, y_t_isnf, z_nnr_dat, z_nnr_own, z_nnr_brw, z_nn_none, z_nn_bool, z_nn_int, z_nn_str, z_nn_list, z_nn_tuple, y_t_isb, y_t_and, y_t_or, y_t_not, y_h_last, y_h_link, y_al_one, y_al_cons, y_an_one, y_an_cons, y_c_no, y_c_yes, y_i_seq, y_i_rng, y_i_zip, y_i_enum, y_s_never, y_s_pass, y_s_asg, y_s_par, y_s_par3, y_s_setO, y_s_unp, y_s_setB, y_s_exp, y_s_app, y_s_ext, y_s_iff, y_s_whl, y_s_forr, y_s_ret, y_s_retv, y_s_frz, y_ss_nil, y_ss_cons, argsOf, views, caps, Option.map_some, Option.map_none, Option.bind_some, Option.bind_none, List.getElem?_cons_zero, List.getElem?_cons_succ, List.set_cons_zero, List.set_cons_succ, List.length_cons, List.length_nil, z_read_dat, z_read_ref, z_read_scr, z_read_own, z_view_own, z_view_brw, z_view_dat, z_cap_dat, z_cap_own, z_hold_dat, z_hold_ref, z_hold_scr, z_hold_own, z_arg_dat, z_arg_ref, z_arg_scr, z_arg_own, z_look_t, z_look_f, z_len_ref, z_len_scr, z_len_l, z_len_t, z_len_o, z_len_b, z_ix_ref, z_ix_scr, z_ix_l, z_ix_t, z_ix_o, z_ix_b, z_blt_len, z_blt_abs, z_blt_tup, z_blt_lst, z_blt_sum, z_blt_all, z_blt_any, z_blt_min, z_blt_max, z_blt_sorted, z_blt_repr, z_blt_str, z_blt_int, z_blt_divmod, z_d_abs, z_d_tupl, z_d_tupt, z_d_lstl, z_d_lstt, z_d_sum, z_d_all, z_d_any, z_d_minl, z_d_maxl, z_d_min, z_d_max, z_d_sorted, z_d_divmod, z_d_int, z_d_repr, z_d_str, z_d_strt, z_bin_i, z_bin_ll, z_bin_tt, z_bin_rep, z_add, z_sub, z_mul, z_fdiv, z_mod, z_eq, z_ne, z_lt, z_le, z_gt, z_ge, z_inl, z_int, z_ninl, z_nint, z_isi_int_none, z_isi_int_bool, z_isi_int_int, z_isi_int_str, z_isi_int_list, z_isi_int_tuple, z_isi_bool_none, z_isi_bool_bool, z_isi_bool_int, z_isi_bool_str, z_isi_bool_list, z_isi_bool_tuple, z_isi_str_none, z_isi_str_bool, z_isi_str_int, z_isi_str_str, z_isi_str_list, z_isi_str_tuple, z_isi_list_none, z_isi_list_bool, z_isi_list_int, z_isi_list_str, z_isi_list_list, z_isi_list_tuple, z_isi_tuple_none, z_isi_tuple_bool, z_isi_tuple_int, z_isi_tuple_str, z_isi_tuple_list, z_isi_tuple_tuple, z_out_rt, z_out_nx, z_eqi, z_eqb, z_rng1, z_rng2, z_si_l, z_si_t, z_bind_nm, z_bind_tt, z_bind_tl, z_binds_n, z_binds_c, z_sl_l, z_sl_t, z_at0, z_at1, z_at2, z_at3, z_ixN0, z_intsn, z_intsc, z_boolsn, z_boolsc, y_e_isx, y_e_dct, y_e_lrg, y_e_mth, y_e_orv, y_callD, y_s_expC, y_s_retC, y_s_asgC, y_s_raise, y_s_tryE, y_s_forO, z_nox_dat, z_nox_own, z_nox_ref, z_nox_scr, z_nox_exc, z_nox_n, z_read_exo, z_arg_exo, z_hold_exo, z_exEnv, y_e_ixP, y_s_retP, z_sl_s, z_bin_ss, z_d_ints, z_ins, z_nins, y_i_sgn, e0, e1, q1, q2, bools_ints, hA, optD]

/-! sums of rows, no law -/
def comb : List (List Int) → List Int → List Int
  | [[a, b], [c, d]], [m, n] => [m * a + n * c, m * b + n * d]
  | [[a, b, c], [d, e, f], [g, h, i]], [m, n, o] => [m * a + n * d + o * g, m * b + n * e + o * h, m * c + n * f + o * i]
  | _, _ => []
theorem comb_pt {A B : Nat} {M : List (List Int)} {p : List Int} (h : Sq A M) (hp : Pt B M.length p) : Pt (A + B + 2) M.length (comb M p) := by
  rcases h with ⟨a, b, c, d, rfl, h1, h2, h3, h4⟩ | ⟨a, b, c, d, e, f, g, h, i, rfl, h1, h2, h3, h4, h5, h6, h7, h8, h9⟩
  · rcases hp with ⟨_, m, n, rfl, p1, p2⟩ | ⟨e, _⟩
    · exact .inl ⟨rfl, _, _, rfl, (bd_add (bd_mul p1 h1) (bd_mul p2 h3)).mono (by omega), (bd_add (bd_mul p1 h2) (bd_mul p2 h4)).mono (by omega)⟩
    · cases e
  · rcases hp with ⟨e, _⟩ | ⟨_, m, n, o, rfl, p1, p2, p3⟩
    · cases e
    · exact .inr ⟨rfl, _, _, _, rfl, (bd_add (bd_add (bd_mul p1 h1) (bd_mul p2 h4)) (bd_mul p3 h7)).mono (by omega), (bd_add (bd_add (bd_mul p1 h2) (bd_mul p2 h5)) (bd_mul p3 h8)).mono (by omega), (bd_add (bd_add (bd_mul p1 h3) (bd_mul p2 h6)) (bd_mul p3 h9)).mono (by omega)⟩
theorem nums_of_tops {M : List (List Int)} {p n : List Int} (hd : det M ≠ 0) (h : tops M p = n.map (· * det M)) : nums M p = some n := by
  unfold nums
  rw [h, if_pos]
  · rw [List.map_map]
    congr 1
    conv => rhs; rw [← List.map_id n]
    refine List.map_congr_left fun x _ => ?_
    exact Int.mul_fdiv_cancel x hd
  · intro t ht
    obtain ⟨x, _, rfl⟩ := List.mem_map.mp ht
    exact Int.mul_fmod_left x (det M)
theorem nums_comb {A B : Nat} {M : List (List Int)} {p : List Int} (h : Sq A M) (hp : Pt B M.length p) (hd : det M ≠ 0) : nums M (comb M p) = some p := by
  refine nums_of_tops hd ?_
  rcases h with ⟨a, b, c, d, rfl, h1, h2, h3, h4⟩ | ⟨a, b, c, d, e, f, g, h, i, rfl, h1, h2, h3, h4, h5, h6, h7, h8, h9⟩
  · rcases hp with ⟨_, m, n, rfl, p1, p2⟩ | ⟨e, _⟩
    · show [(m * a + n * c) * d - (m * b + n * d) * c, a * (m * b + n * d) - b * (m * a + n * c)] = [m * (a * d - b * c), n * (a * d - b * c)]
      congr 1
      · grind
      · congr 1
        grind
    · cases e
  · rcases hp with ⟨e, _⟩ | ⟨_, m, n, o, rfl, p1, p2, p3⟩
    · cases e
    · show [det3 (m * a + n * d + o * g) (m * b + n * e + o * h) (m * c + n * f + o * i) d e f g h i, det3 a b c (m * a + n * d + o * g) (m * b + n * e + o * h) (m * c + n * f + o * i) g h i, det3 a b c d e f (m * a + n * d + o * g) (m * b + n * e + o * h) (m * c + n * f + o * i)] = [m * det3 a b c d e f g h i, n * det3 a b c d e f g h i, o * det3 a b c d e f g h i]
      unfold det3
      congr 1
      · grind
      · congr 1
        · grind
        · congr 1
          grind
theorem ltz' {n : Nat} (h : n ≤ 1000) : n < sizeLine := Nat.lt_of_le_of_lt h (by decide)
theorem g_sum_of (k : Nat) (M : List (List Int)) (p : List Int) (st : Bx) (h : Sq 1000 M) (hp : Pt 1000 M.length p) : callF tb (k + 1) "sum_of" [.dat (mat M), .dat (vec p)] st = some (.dat (vec (comb M p)), st) := by
  have f0 : fitsL 0 = true := by decide
  have r2 : rngOk 2 = true := by decide
  have r3 : rngOk 3 = true := by decide
  have l0 : 0 < sizeLine := by decide
  have l1 : 1 < sizeLine := by decide
  have l2 : 2 < sizeLine := by decide
  rcases h with ⟨a, b, c, d, rfl, h1, h2, h3, h4⟩ | ⟨a, b, c, d, e, f, g, h, i, rfl, h1, h2, h3, h4, h5, h6, h7, h8, h9⟩
  · rcases hp with ⟨_, m, n, rfl, p1, p2⟩ | ⟨e, _⟩
    · rw [c_sum_of]
      have m1 : mulOk a m = true := by exact Sy.mulOk_bd (by repeat' (first | assumption | apply Sy.bd_mul | apply Sy.bd_add | apply Sy.bd_sub | apply Sy.bd_neg | apply Sy.bd_abs | (exact Sy.bd_s (by decide) (by decide)) | (exact Sy.bd_s (by omega) (by omega)))) (by repeat' (first | assumption | apply Sy.bd_mul | apply Sy.bd_add | apply Sy.bd_sub | apply Sy.bd_neg | apply Sy.bd_abs | (exact Sy.bd_s (by decide) (by decide)) | (exact Sy.bd_s (by omega) (by omega)))) (by decide)
      have m2 : mulOk b m = true := by exact Sy.mulOk_bd (by repeat' (first | assumption | apply Sy.bd_mul | apply Sy.bd_add | apply Sy.bd_sub | apply Sy.bd_neg | apply Sy.bd_abs | (exact Sy.bd_s (by decide) (by decide)) | (exact Sy.bd_s (by omega) (by omega)))) (by repeat' (first | assumption | apply Sy.bd_mul | apply Sy.bd_add | apply Sy.bd_sub | apply Sy.bd_neg | apply Sy.bd_abs | (exact Sy.bd_s (by decide) (by decide)) | (exact Sy.bd_s (by omega) (by omega)))) (by decide)
      have m3 : mulOk c n = true := by exact Sy.mulOk_bd (by repeat' (first | assumption | apply Sy.bd_mul | apply Sy.bd_add | apply Sy.bd_sub | apply Sy.bd_neg | apply Sy.bd_abs | (exact Sy.bd_s (by decide) (by decide)) | (exact Sy.bd_s (by omega) (by omega)))) (by repeat' (first | assumption | apply Sy.bd_mul | apply Sy.bd_add | apply Sy.bd_sub | apply Sy.bd_neg | apply Sy.bd_abs | (exact Sy.bd_s (by decide) (by decide)) | (exact Sy.bd_s (by omega) (by omega)))) (by decide)
      have m4 : mulOk d n = true := by exact Sy.mulOk_bd (by repeat' (first | assumption | apply Sy.bd_mul | apply Sy.bd_add | apply Sy.bd_sub | apply Sy.bd_neg | apply Sy.bd_abs | (exact Sy.bd_s (by decide) (by decide)) | (exact Sy.bd_s (by omega) (by omega)))) (by repeat' (first | assumption | apply Sy.bd_mul | apply Sy.bd_add | apply Sy.bd_sub | apply Sy.bd_neg | apply Sy.bd_abs | (exact Sy.bd_s (by decide) (by decide)) | (exact Sy.bd_s (by omega) (by omega)))) (by decide)
      simp (decide := true) only [mat, vec, comb, List.map_cons, List.map_nil, b_sum_of, l_sum_of_1, lb_sum_of_1, q_sum_of_1, ↓reduceIte, Bool.not_true, Bool.not_false, decide_true, decide_false, wipeE, Bool.false_eq_true, y_e_c, y_e_v, y_e_g, y_e_never, y_e_bin, y_e_neg, y_e_tst, y_e_ite, y_e_tup, y_e_lst, y_e_box, y_e_ix, y_e_sl, y_e_rev, y_e_call, y_e_blt, y_e_isi, y_e_lc, y_es_nil, y_es_cons, y_o_no, y_o_yes, y_t_val, y_t_cmp, y_t_chn, y_t_isnt, y_t_isnf, z_nnr_dat, z_nnr_own, z_nnr_brw, z_nn_none, z_nn_bool, z_nn_int, z_nn_str, z_nn_list, z_nn_tuple, y_t_isb, y_t_and, y_t_or, y_t_not, y_h_last, y_h_link, y_al_one, y_al_cons, y_an_one, y_an_cons, y_c_no, y_c_yes, y_i_seq, y_i_rng, y_i_zip, y_i_enum, y_s_never, y_s_pass, y_s_asg, y_s_par, y_s_par3, y_s_setO, y_s_unp, y_s_setB, y_s_exp, y_s_app, y_s_ext, y_s_iff, y_s_whl, y_s_forr, y_s_ret, y_s_retv, y_s_frz, y_ss_nil, y_ss_cons, argsOf, views, caps, Option.map_some, Option.map_none, Option.bind_some, Option.bind_none, List.getElem?_cons_zero, List.getElem?_cons_succ, List.set_cons_zero, List.set_cons_succ, List.length_cons, List.length_nil, z_read_dat, z_read_ref, z_read_scr, z_read_own, z_view_own, z_view_brw, z_view_dat, z_cap_dat, z_cap_own, z_hold_dat, z_hold_ref, z_hold_scr, z_hold_own, z_arg_dat, z_arg_ref, z_arg_scr, z_arg_own, z_look_t, z_look_f, z_len_ref, z_len_scr, z_len_l, z_len_t, z_len_o, z_len_b, z_ix_ref, z_ix_scr, z_ix_l, z_ix_t, z_ix_o, z_ix_b, z_blt_len, z_blt_abs, z_blt_tup, z_blt_lst, z_blt_sum, z_blt_all, z_blt_any, z_blt_min, z_blt_max, z_blt_sorted, z_blt_repr, z_blt_str, z_blt_int, z_blt_divmod, z_d_abs, z_d_tupl, z_d_tupt, z_d_lstl, z_d_lstt, z_d_sum, z_d_all, z_d_any, z_d_minl, z_d_maxl, z_d_min, z_d_max, z_d_sorted, z_d_divmod, z_d_int, z_d_repr, z_d_str, z_d_strt, z_bin_i, z_bin_ll, z_bin_tt, z_bin_rep, z_add, z_sub, z_mul, z_fdiv, z_mod, z_eq, z_ne, z_lt, z_le, z_gt, z_ge, z_inl, z_int, z_ninl, z_nint, z_isi_int_none, z_isi_int_bool, z_isi_int_int, z_isi_int_str, z_isi_int_list, z_isi_int_tuple, z_isi_bool_none, z_isi_bool_bool, z_isi_bool_int, z_isi_bool_str, z_isi_bool_list, z_isi_bool_tuple, z_isi_str_none, z_isi_str_bool, z_isi_str_int, z_isi_str_str, z_isi_str_list, z_isi_str_tuple, z_isi_list_none, z_isi_list_bool, z_isi_list_int, z_isi_list_str, z_isi_list_list, z_isi_list_tuple, z_isi_tuple_none, z_isi_tuple_bool, z_isi_tuple_int, z_isi_tuple_str, z_isi_tuple_list, z_isi_tuple_tuple, z_out_rt, z_out_nx, z_eqi, z_eqb, z_rng1, z_rng2, z_si_l, z_si_t, z_bind_nm, z_bind_tt, z_bind_tl, z_binds_n, z_binds_c, z_sl_l, z_sl_t, z_at0, z_at1, z_at2, z_at3, z_ixN0, z_intsn, z_intsc, z_boolsn, z_boolsc, y_e_isx, y_e_dct, y_e_lrg, y_e_mth, y_e_orv, y_callD, y_s_expC, y_s_retC, y_s_asgC, y_s_raise, y_s_tryE, y_s_forO, z_nox_dat, z_nox_own, z_nox_ref, z_nox_scr, z_nox_exc, z_nox_n, z_read_exo, z_arg_exo, z_hold_exo, z_exEnv, y_e_ixP, y_s_retP, z_sl_s, z_bin_ss, z_d_ints, z_ins, z_nins, y_i_sgn, z_eqs, z_fgn, z_fgc, z_lcn, z_lcc, rng_2, rng_3, z_en2, z_en3, z_zn, z_zn2, z_zc, cut2_a0, cut2_a1, cut2_b1, cut2_b2, cut3_a0, cut3_a1, cut3_a2, cut3_b1, cut3_b2, cut3_b3, List.nil_append, List.cons_append, Int.reduceAdd, Int.reduceSub, Int.reduceMul, Int.reduceMod, Int.reduceNeg, Int.reduceToNat, Nat.reduceAdd, Int.cast_ofNat_Int, Int.natCast_add, f0, r2, m1, m2, m3, m4, l0, l1, List.sum_cons, List.sum_nil, Int.add_zero, Int.mul_comm m, Int.mul_comm n]
    · cases e
  · rcases hp with ⟨e, _⟩ | ⟨_, m, n, o, rfl, p1, p2, p3⟩
    · cases e
    · rw [c_sum_of]
      have m1 : mulOk a m = true := by exact Sy.mulOk_bd (by repeat' (first | assumption | apply Sy.bd_mul | apply Sy.bd_add | apply Sy.bd_sub | apply Sy.bd_neg | apply Sy.bd_abs | (exact Sy.bd_s (by decide) (by decide)) | (exact Sy.bd_s (by omega) (by omega)))) (by repeat' (first | assumption | apply Sy.bd_mul | apply Sy.bd_add | apply Sy.bd_sub | apply Sy.bd_neg | apply Sy.bd_abs | (exact Sy.bd_s (by decide) (by decide)) | (exact Sy.bd_s (by omega) (by omega)))) (by decide)
      have m2 : mulOk b m = true := by exact Sy.mulOk_bd (by repeat' (first | assumption | apply Sy.bd_mul | apply Sy.bd_add | apply Sy.bd_sub | apply Sy.bd_neg | apply Sy.bd_abs | (exact Sy.bd_s (by decide) (by decide)) | (exact Sy.bd_s (by omega) (by omega)))) (by repeat' (first | assumption | apply Sy.bd_mul | apply Sy.bd_add | apply Sy.bd_sub | apply Sy.bd_neg | apply Sy.bd_abs | (exact Sy.bd_s (by decide) (by decide)) | (exact Sy.bd_s (by omega) (by omega)))) (by decide)
      have m3 : mulOk c m = true := by exact Sy.mulOk_bd (by repeat' (first | assumption | apply Sy.bd_mul | apply Sy.bd_add | apply Sy.bd_sub | apply Sy.bd_neg | apply Sy.bd_abs | (exact Sy.bd_s (by decide) (by decide)) | (exact Sy.bd_s (by omega) (by omega)))) (by repeat' (first | assumption | apply Sy.bd_mul | apply Sy.bd_add | apply Sy.bd_sub | apply Sy.bd_neg | apply Sy.bd_abs | (exact Sy.bd_s (by decide) (by decide)) | (exact Sy.bd_s (by omega) (by omega)))) (by decide)
      have m4 : mulOk d n = true := by exact Sy.mulOk_bd (by repeat' (first | assumption | apply Sy.bd_mul | apply Sy.bd_add | apply Sy.bd_sub | apply Sy.bd_neg | apply Sy.bd_abs | (exact Sy.bd_s (by decide) (by decide)) | (exact Sy.bd_s (by omega) (by omega)))) (by repeat' (first | assumption | apply Sy.bd_mul | apply Sy.bd_add | apply Sy.bd_sub | apply Sy.bd_neg | apply Sy.bd_abs | (exact Sy.bd_s (by decide) (by decide)) | (exact Sy.bd_s (by omega) (by omega)))) (by decide)
      have m5 : mulOk e n = true := by exact Sy.mulOk_bd (by repeat' (first | assumption | apply Sy.bd_mul | apply Sy.bd_add | apply Sy.bd_sub | apply Sy.bd_neg | apply Sy.bd_abs | (exact Sy.bd_s (by decide) (by decide)) | (exact Sy.bd_s (by omega) (by omega)))) (by repeat' (first | assumption | apply Sy.bd_mul | apply Sy.bd_add | apply Sy.bd_sub | apply Sy.bd_neg | apply Sy.bd_abs | (exact Sy.bd_s (by decide) (by decide)) | (exact Sy.bd_s (by omega) (by omega)))) (by decide)
      have m6 : mulOk f n = true := by exact Sy.mulOk_bd (by repeat' (first | assumption | apply Sy.bd_mul | apply Sy.bd_add | apply Sy.bd_sub | apply Sy.bd_neg | apply Sy.bd_abs | (exact Sy.bd_s (by decide) (by decide)) | (exact Sy.bd_s (by omega) (by omega)))) (by repeat' (first | assumption | apply Sy.bd_mul | apply Sy.bd_add | apply Sy.bd_sub | apply Sy.bd_neg | apply Sy.bd_abs | (exact Sy.bd_s (by decide) (by decide)) | (exact Sy.bd_s (by omega) (by omega)))) (by decide)
      have m7 : mulOk g o = true := by exact Sy.mulOk_bd (by repeat' (first | assumption | apply Sy.bd_mul | apply Sy.bd_add | apply Sy.bd_sub | apply Sy.bd_neg | apply Sy.bd_abs | (exact Sy.bd_s (by decide) (by decide)) | (exact Sy.bd_s (by omega) (by omega)))) (by repeat' (first | assumption | apply Sy.bd_mul | apply Sy.bd_add | apply Sy.bd_sub | apply Sy.bd_neg | apply Sy.bd_abs | (exact Sy.bd_s (by decide) (by decide)) | (exact Sy.bd_s (by omega) (by omega)))) (by decide)
      have m8 : mulOk h o = true := by exact Sy.mulOk_bd (by repeat' (first | assumption | apply Sy.bd_mul | apply Sy.bd_add | apply Sy.bd_sub | apply Sy.bd_neg | apply Sy.bd_abs | (exact Sy.bd_s (by decide) (by decide)) | (exact Sy.bd_s (by omega) (by omega)))) (by repeat' (first | assumption | apply Sy.bd_mul | apply Sy.bd_add | apply Sy.bd_sub | apply Sy.bd_neg | apply Sy.bd_abs | (exact Sy.bd_s (by decide) (by decide)) | (exact Sy.bd_s (by omega) (by omega)))) (by decide)
      have m9 : mulOk i o = true := by exact Sy.mulOk_bd (by repeat' (first | assumption | apply Sy.bd_mul | apply Sy.bd_add | apply Sy.bd_sub | apply Sy.bd_neg | apply Sy.bd_abs | (exact Sy.bd_s (by decide) (by decide)) | (exact Sy.bd_s (by omega) (by omega)))) (by repeat' (first | assumption | apply Sy.bd_mul | apply Sy.bd_add | apply Sy.bd_sub | apply Sy.bd_neg | apply Sy.bd_abs | (exact Sy.bd_s (by decide) (by decide)) | (exact Sy.bd_s (by omega) (by omega)))) (by decide)
      simp (decide := true) only [mat, vec, comb, List.map_cons, List.map_nil, b_sum_of, l_sum_of_1, lb_sum_of_1, q_sum_of_1, ↓reduceIte, Bool.not_true, Bool.not_false, decide_true, decide_false, wipeE, Bool.false_eq_true, y_e_c, y_e_v, y_e_g, y_e_never, y_e_bin, y_e_neg, y_e_tst, y_e_ite, y_e_tup, y_e_lst, y_e_box, y_e_ix, y_e_sl, y_e_rev, y_e_call, y_e_blt, y_e_isi, y_e_lc, y_es_nil, y_es_cons, y_o_no, y_o_yes, y_t_val, y_t_cmp, y_t_chn, y_t_isnt, y_t_isnf, z_nnr_dat, z_nnr_own, z_nnr_brw, z_nn_none, z_nn_bool, z_nn_int, z_nn_str, z_nn_list, z_nn_tuple, y_t_isb, y_t_and, y_t_or, y_t_not, y_h_last, y_h_link, y_al_one, y_al_cons, y_an_one, y_an_cons, y_c_no, y_c_yes, y_i_seq, y_i_rng, y_i_zip, y_i_enum, y_s_never, y_s_pass, y_s_asg, y_s_par, y_s_par3, y_s_setO, y_s_unp, y_s_setB, y_s_exp, y_s_app, y_s_ext, y_s_iff, y_s_whl, y_s_forr, y_s_ret, y_s_retv, y_s_frz, y_ss_nil, y_ss_cons, argsOf, views, caps, Option.map_some, Option.map_none, Option.bind_some, Option.bind_none, List.getElem?_cons_zero, List.getElem?_cons_succ, List.set_cons_zero, List.set_cons_succ, List.length_cons, List.length_nil, z_read_dat, z_read_ref, z_read_scr, z_read_own, z_view_own, z_view_brw, z_view_dat, z_cap_dat, z_cap_own, z_hold_dat, z_hold_ref, z_hold_scr, z_hold_own, z_arg_dat, z_arg_ref, z_arg_scr, z_arg_own, z_look_t, z_look_f, z_len_ref, z_len_scr, z_len_l, z_len_t, z_len_o, z_len_b, z_ix_ref, z_ix_scr, z_ix_l, z_ix_t, z_ix_o, z_ix_b, z_blt_len, z_blt_abs, z_blt_tup, z_blt_lst, z_blt_sum, z_blt_all, z_blt_any, z_blt_min, z_blt_max, z_blt_sorted, z_blt_repr, z_blt_str, z_blt_int, z_blt_divmod, z_d_abs, z_d_tupl, z_d_tupt, z_d_lstl, z_d_lstt, z_d_sum, z_d_all, z_d_any, z_d_minl, z_d_maxl, z_d_min, z_d_max, z_d_sorted, z_d_divmod, z_d_int, z_d_repr, z_d_str, z_d_strt, z_bin_i, z_bin_ll, z_bin_tt, z_bin_rep, z_add, z_sub, z_mul, z_fdiv, z_mod, z_eq, z_ne, z_lt, z_le, z_gt, z_ge, z_inl, z_int, z_ninl, z_nint, z_isi_int_none, z_isi_int_bool, z_isi_int_int, z_isi_int_str, z_isi_int_list, z_isi_int_tuple, z_isi_bool_none, z_isi_bool_bool, z_isi_bool_int, z_isi_bool_str, z_isi_bool_list, z_isi_bool_tuple, z_isi_str_none, z_isi_str_bool, z_isi_str_int, z_isi_str_str, z_isi_str_list, z_isi_str_tuple, z_isi_list_none, z_isi_list_bool, z_isi_list_int, z_isi_list_str, z_isi_list_list, z_isi_list_tuple, z_isi_tuple_none, z_isi_tuple_bool, z_isi_tuple_int, z_isi_tuple_str, z_isi_tuple_list, z_isi_tuple_tuple, z_out_rt, z_out_nx, z_eqi, z_eqb, z_rng1, z_rng2, z_si_l, z_si_t, z_bind_nm, z_bind_tt, z_bind_tl, z_binds_n, z_binds_c, z_sl_l, z_sl_t, z_at0, z_at1, z_at2, z_at3, z_ixN0, z_intsn, z_intsc, z_boolsn, z_boolsc, y_e_isx, y_e_dct, y_e_lrg, y_e_mth, y_e_orv, y_callD, y_s_expC, y_s_retC, y_s_asgC, y_s_raise, y_s_tryE, y_s_forO, z_nox_dat, z_nox_own, z_nox_ref, z_nox_scr, z_nox_exc, z_nox_n, z_read_exo, z_arg_exo, z_hold_exo, z_exEnv, y_e_ixP, y_s_retP, z_sl_s, z_bin_ss, z_d_ints, z_ins, z_nins, y_i_sgn, z_eqs, z_fgn, z_fgc, z_lcn, z_lcc, rng_2, rng_3, z_en2, z_en3, z_zn, z_zn2, z_zc, cut2_a0, cut2_a1, cut2_b1, cut2_b2, cut3_a0, cut3_a1, cut3_a2, cut3_b1, cut3_b2, cut3_b3, List.nil_append, List.cons_append, Int.reduceAdd, Int.reduceSub, Int.reduceMul, Int.reduceMod, Int.reduceNeg, Int.reduceToNat, Nat.reduceAdd, Int.cast_ofNat_Int, Int.natCast_add, f0, r3, m1, m2, m3, m4, m5, m6, m7, m8, m9, l0, l1, l2, List.sum_cons, List.sum_nil, Int.add_zero, Int.mul_comm m, Int.mul_comm n, Int.mul_comm o, Int.add_assoc]
theorem vec_whole (k : Nat) (p : List Int) (w : Nat) (st : Bx) (hp : Pt 1000 w p) : callF tb (k + 2) "are_whole" [.dat (vec p), .dat (.int (w : Int))] st = some (.dat (.bool true), st) := by
  rcases hp with ⟨rfl, a, b, rfl, _⟩ | ⟨rfl, a, b, c, rfl, _⟩
  · exact s_are_whole k [.int a, .int b] 2 st (by simp)
  · exact s_are_whole k [.int a, .int b, .int c] 3 st (by simp)
theorem g_reached (k : Nat) (M : List (List Int)) (p : List Int) (st : Bx) (h : Sq 1000 M) (hp : Pt 1000 M.length p) (hd : det M ≠ 0) : callF tb (k + 6) "reached" [.dat (mat M), .dat (vec p)] st = some (.dat (vec (comb M p)), st) := by
  rw [c_reached]
  have e1 := g_need_steps k M st h hd
  have e2 := g_sum_of (k + 4) M p st h hp
  have e3 := vec_whole (k + 3) p M.length st hp
  have el : lenR (.dat (mat M)) st = some (.dat (.int (M.length : Int))) := by unfold mat; rw [z_len_t, List.length_map]
  simp (decide := true) only [b_reached, ↓reduceIte, Bool.not_true, Bool.not_false, decide_true, decide_false, wipeE, Bool.false_eq_true, y_e_c, y_e_v, y_e_g, y_e_never, y_e_bin, y_e_neg, y_e_tst, y_e_ite, y_e_tup, y_e_lst, y_e_box, y_e_ix, y_e_sl, y_e_rev, y_e_call, y_e_blt, y_e_isi, y_e_lc, y_es_nil, y_es_cons, y_o_no, y_o_yes, y_t_val, y_t_cmp, y_t_chn, y_t_isnt, y_t_isnf, z_nnr_dat, z_nnr_own, z_nnr_brw, z_nn_none, z_nn_bool, z_nn_int, z_nn_str, z_nn_list, z_nn_tuple, y_t_isb, y_t_and, y_t_or, y_t_not, y_h_last, y_h_link, y_al_one, y_al_cons, y_an_one, y_an_cons, y_c_no, y_c_yes, y_i_seq, y_i_rng, y_i_zip, y_i_enum, y_s_never, y_s_pass, y_s_asg, y_s_par, y_s_par3, y_s_setO, y_s_unp, y_s_setB, y_s_exp, y_s_app, y_s_ext, y_s_iff, y_s_whl, y_s_forr, y_s_ret, y_s_retv, y_s_frz, y_ss_nil, y_ss_cons, argsOf, views, caps, Option.map_some, Option.map_none, Option.bind_some, Option.bind_none, List.getElem?_cons_zero, List.getElem?_cons_succ, List.set_cons_zero, List.set_cons_succ, List.length_cons, List.length_nil, z_read_dat, z_read_ref, z_read_scr, z_read_own, z_view_own, z_view_brw, z_view_dat, z_cap_dat, z_cap_own, z_hold_dat, z_hold_ref, z_hold_scr, z_hold_own, z_arg_dat, z_arg_ref, z_arg_scr, z_arg_own, z_look_t, z_look_f, z_len_ref, z_len_scr, z_len_l, z_len_t, z_len_o, z_len_b, z_ix_ref, z_ix_scr, z_ix_l, z_ix_t, z_ix_o, z_ix_b, z_blt_len, z_blt_abs, z_blt_tup, z_blt_lst, z_blt_sum, z_blt_all, z_blt_any, z_blt_min, z_blt_max, z_blt_sorted, z_blt_repr, z_blt_str, z_blt_int, z_blt_divmod, z_d_abs, z_d_tupl, z_d_tupt, z_d_lstl, z_d_lstt, z_d_sum, z_d_all, z_d_any, z_d_minl, z_d_maxl, z_d_min, z_d_max, z_d_sorted, z_d_divmod, z_d_int, z_d_repr, z_d_str, z_d_strt, z_bin_i, z_bin_ll, z_bin_tt, z_bin_rep, z_add, z_sub, z_mul, z_fdiv, z_mod, z_eq, z_ne, z_lt, z_le, z_gt, z_ge, z_inl, z_int, z_ninl, z_nint, z_isi_int_none, z_isi_int_bool, z_isi_int_int, z_isi_int_str, z_isi_int_list, z_isi_int_tuple, z_isi_bool_none, z_isi_bool_bool, z_isi_bool_int, z_isi_bool_str, z_isi_bool_list, z_isi_bool_tuple, z_isi_str_none, z_isi_str_bool, z_isi_str_int, z_isi_str_str, z_isi_str_list, z_isi_str_tuple, z_isi_list_none, z_isi_list_bool, z_isi_list_int, z_isi_list_str, z_isi_list_list, z_isi_list_tuple, z_isi_tuple_none, z_isi_tuple_bool, z_isi_tuple_int, z_isi_tuple_str, z_isi_tuple_list, z_isi_tuple_tuple, z_out_rt, z_out_nx, z_eqi, z_eqb, z_rng1, z_rng2, z_si_l, z_si_t, z_bind_nm, z_bind_tt, z_bind_tl, z_binds_n, z_binds_c, z_sl_l, z_sl_t, z_at0, z_at1, z_at2, z_at3, z_ixN0, z_intsn, z_intsc, z_boolsn, z_boolsc, y_e_isx, y_e_dct, y_e_lrg, y_e_mth, y_e_orv, y_callD, y_s_expC, y_s_retC, y_s_asgC, y_s_raise, y_s_tryE, y_s_forO, z_nox_dat, z_nox_own, z_nox_ref, z_nox_scr, z_nox_exc, z_nox_n, z_read_exo, z_arg_exo, z_hold_exo, z_exEnv, y_e_ixP, y_s_retP, z_sl_s, z_bin_ss, z_d_ints, z_ins, z_nins, y_i_sgn, e1, e2, e3, el]
theorem g_numbers_of (k : Nat) (M : List (List Int)) (p : List Int) (st : Bx) (h : Sq 1000 M) (hp : Pt 1000 M.length p) (hd : det M ≠ 0) :
    callF tb (k + 6) "numbers_of" [.dat (mat M), .dat (vec p)] st = some (.dat (optD (nums M p)), st) := by
  rw [c_numbers_of]
  have e1 := g_need_steps k M st h hd
  have e2 := g_numbers_for k M p st h hp hd
  have e3 := vec_whole (k + 2) p M.length st hp
  have e4 : callF tb (k + 5) "need_point" [.dat (vec p), .dat (.int (M.length : Int))] st = some (.dat .none, st) := by
    rw [c_need_point]
    simp (decide := true) only [b_need_point, ↓reduceIte, Bool.not_true, Bool.not_false, decide_true, decide_false, wipeE, Bool.false_eq_true, y_e_c, y_e_v, y_e_g, y_e_never, y_e_bin, y_e_neg, y_e_tst, y_e_ite, y_e_tup, y_e_lst, y_e_box, y_e_ix, y_e_sl, y_e_rev, y_e_call, y_e_blt, y_e_isi, y_e_lc, y_es_nil, y_es_cons, y_o_no, y_o_yes, y_t_val, y_t_cmp, y_t_chn, y_t_isnt, y_t_isnf, z_nnr_dat, z_nnr_own, z_nnr_brw, z_nn_none, z_nn_bool, z_nn_int, z_nn_str, z_nn_list, z_nn_tuple, y_t_isb, y_t_and, y_t_or, y_t_not, y_h_last, y_h_link, y_al_one, y_al_cons, y_an_one, y_an_cons, y_c_no, y_c_yes, y_i_seq, y_i_rng, y_i_zip, y_i_enum, y_s_never, y_s_pass, y_s_asg, y_s_par, y_s_par3, y_s_setO, y_s_unp, y_s_setB, y_s_exp, y_s_app, y_s_ext, y_s_iff, y_s_whl, y_s_forr, y_s_ret, y_s_retv, y_s_frz, y_ss_nil, y_ss_cons, argsOf, views, caps, Option.map_some, Option.map_none, Option.bind_some, Option.bind_none, List.getElem?_cons_zero, List.getElem?_cons_succ, List.set_cons_zero, List.set_cons_succ, List.length_cons, List.length_nil, z_read_dat, z_read_ref, z_read_scr, z_read_own, z_view_own, z_view_brw, z_view_dat, z_cap_dat, z_cap_own, z_hold_dat, z_hold_ref, z_hold_scr, z_hold_own, z_arg_dat, z_arg_ref, z_arg_scr, z_arg_own, z_look_t, z_look_f, z_len_ref, z_len_scr, z_len_l, z_len_t, z_len_o, z_len_b, z_ix_ref, z_ix_scr, z_ix_l, z_ix_t, z_ix_o, z_ix_b, z_blt_len, z_blt_abs, z_blt_tup, z_blt_lst, z_blt_sum, z_blt_all, z_blt_any, z_blt_min, z_blt_max, z_blt_sorted, z_blt_repr, z_blt_str, z_blt_int, z_blt_divmod, z_d_abs, z_d_tupl, z_d_tupt, z_d_lstl, z_d_lstt, z_d_sum, z_d_all, z_d_any, z_d_minl, z_d_maxl, z_d_min, z_d_max, z_d_sorted, z_d_divmod, z_d_int, z_d_repr, z_d_str, z_d_strt, z_bin_i, z_bin_ll, z_bin_tt, z_bin_rep, z_add, z_sub, z_mul, z_fdiv, z_mod, z_eq, z_ne, z_lt, z_le, z_gt, z_ge, z_inl, z_int, z_ninl, z_nint, z_isi_int_none, z_isi_int_bool, z_isi_int_int, z_isi_int_str, z_isi_int_list, z_isi_int_tuple, z_isi_bool_none, z_isi_bool_bool, z_isi_bool_int, z_isi_bool_str, z_isi_bool_list, z_isi_bool_tuple, z_isi_str_none, z_isi_str_bool, z_isi_str_int, z_isi_str_str, z_isi_str_list, z_isi_str_tuple, z_isi_list_none, z_isi_list_bool, z_isi_list_int, z_isi_list_str, z_isi_list_list, z_isi_list_tuple, z_isi_tuple_none, z_isi_tuple_bool, z_isi_tuple_int, z_isi_tuple_str, z_isi_tuple_list, z_isi_tuple_tuple, z_out_rt, z_out_nx, z_eqi, z_eqb, z_rng1, z_rng2, z_si_l, z_si_t, z_bind_nm, z_bind_tt, z_bind_tl, z_binds_n, z_binds_c, z_sl_l, z_sl_t, z_at0, z_at1, z_at2, z_at3, z_ixN0, z_intsn, z_intsc, z_boolsn, z_boolsc, y_e_isx, y_e_dct, y_e_lrg, y_e_mth, y_e_orv, y_callD, y_s_expC, y_s_retC, y_s_asgC, y_s_raise, y_s_tryE, y_s_forO, z_nox_dat, z_nox_own, z_nox_ref, z_nox_scr, z_nox_exc, z_nox_n, z_read_exo, z_arg_exo, z_hold_exo, z_exEnv, y_e_ixP, y_s_retP, z_sl_s, z_bin_ss, z_d_ints, z_ins, z_nins, y_i_sgn, e3]
  have el : lenR (.dat (mat M)) st = some (.dat (.int (M.length : Int))) := by unfold mat; rw [z_len_t, List.length_map]
  simp (decide := true) only [b_numbers_of, ↓reduceIte, Bool.not_true, Bool.not_false, decide_true, decide_false, wipeE, Bool.false_eq_true, y_e_c, y_e_v, y_e_g, y_e_never, y_e_bin, y_e_neg, y_e_tst, y_e_ite, y_e_tup, y_e_lst, y_e_box, y_e_ix, y_e_sl, y_e_rev, y_e_call, y_e_blt, y_e_isi, y_e_lc, y_es_nil, y_es_cons, y_o_no, y_o_yes, y_t_val, y_t_cmp, y_t_chn, y_t_isnt, y_t_isnf, z_nnr_dat, z_nnr_own, z_nnr_brw, z_nn_none, z_nn_bool, z_nn_int, z_nn_str, z_nn_list, z_nn_tuple, y_t_isb, y_t_and, y_t_or, y_t_not, y_h_last, y_h_link, y_al_one, y_al_cons, y_an_one, y_an_cons, y_c_no, y_c_yes, y_i_seq, y_i_rng, y_i_zip, y_i_enum, y_s_never, y_s_pass, y_s_asg, y_s_par, y_s_par3, y_s_setO, y_s_unp, y_s_setB, y_s_exp, y_s_app, y_s_ext, y_s_iff, y_s_whl, y_s_forr, y_s_ret, y_s_retv, y_s_frz, y_ss_nil, y_ss_cons, argsOf, views, caps, Option.map_some, Option.map_none, Option.bind_some, Option.bind_none, List.getElem?_cons_zero, List.getElem?_cons_succ, List.set_cons_zero, List.set_cons_succ, List.length_cons, List.length_nil, z_read_dat, z_read_ref, z_read_scr, z_read_own, z_view_own, z_view_brw, z_view_dat, z_cap_dat, z_cap_own, z_hold_dat, z_hold_ref, z_hold_scr, z_hold_own, z_arg_dat, z_arg_ref, z_arg_scr, z_arg_own, z_look_t, z_look_f, z_len_ref, z_len_scr, z_len_l, z_len_t, z_len_o, z_len_b, z_ix_ref, z_ix_scr, z_ix_l, z_ix_t, z_ix_o, z_ix_b, z_blt_len, z_blt_abs, z_blt_tup, z_blt_lst, z_blt_sum, z_blt_all, z_blt_any, z_blt_min, z_blt_max, z_blt_sorted, z_blt_repr, z_blt_str, z_blt_int, z_blt_divmod, z_d_abs, z_d_tupl, z_d_tupt, z_d_lstl, z_d_lstt, z_d_sum, z_d_all, z_d_any, z_d_minl, z_d_maxl, z_d_min, z_d_max, z_d_sorted, z_d_divmod, z_d_int, z_d_repr, z_d_str, z_d_strt, z_bin_i, z_bin_ll, z_bin_tt, z_bin_rep, z_add, z_sub, z_mul, z_fdiv, z_mod, z_eq, z_ne, z_lt, z_le, z_gt, z_ge, z_inl, z_int, z_ninl, z_nint, z_isi_int_none, z_isi_int_bool, z_isi_int_int, z_isi_int_str, z_isi_int_list, z_isi_int_tuple, z_isi_bool_none, z_isi_bool_bool, z_isi_bool_int, z_isi_bool_str, z_isi_bool_list, z_isi_bool_tuple, z_isi_str_none, z_isi_str_bool, z_isi_str_int, z_isi_str_str, z_isi_str_list, z_isi_str_tuple, z_isi_list_none, z_isi_list_bool, z_isi_list_int, z_isi_list_str, z_isi_list_list, z_isi_list_tuple, z_isi_tuple_none, z_isi_tuple_bool, z_isi_tuple_int, z_isi_tuple_str, z_isi_tuple_list, z_isi_tuple_tuple, z_out_rt, z_out_nx, z_eqi, z_eqb, z_rng1, z_rng2, z_si_l, z_si_t, z_bind_nm, z_bind_tt, z_bind_tl, z_binds_n, z_binds_c, z_sl_l, z_sl_t, z_at0, z_at1, z_at2, z_at3, z_ixN0, z_intsn, z_intsc, z_boolsn, z_boolsc, y_e_isx, y_e_dct, y_e_lrg, y_e_mth, y_e_orv, y_callD, y_s_expC, y_s_retC, y_s_asgC, y_s_raise, y_s_tryE, y_s_forO, z_nox_dat, z_nox_own, z_nox_ref, z_nox_scr, z_nox_exc, z_nox_n, z_read_exo, z_arg_exo, z_hold_exo, z_exEnv, y_e_ixP, y_s_retP, z_sl_s, z_bin_ss, z_d_ints, z_ins, z_nins, y_i_sgn, e1, e2, e4, el]
theorem g_room (k : Nat) (M : List (List Int)) (st : Bx) (h : Sq 1000 M) (hd : det M ≠ 0) : callF tb (k + 6) "room" [.dat (mat M)] st = some (.dat (.int ((det M).natAbs : Int)), st) := by
  rw [c_room]
  have e1 := g_need_steps k M st h hd
  have e2 := g_det (k + 2) M st h
  simp (decide := true) only [b_room, ↓reduceIte, Bool.not_true, Bool.not_false, decide_true, decide_false, wipeE, Bool.false_eq_true, y_e_c, y_e_v, y_e_g, y_e_never, y_e_bin, y_e_neg, y_e_tst, y_e_ite, y_e_tup, y_e_lst, y_e_box, y_e_ix, y_e_sl, y_e_rev, y_e_call, y_e_blt, y_e_isi, y_e_lc, y_es_nil, y_es_cons, y_o_no, y_o_yes, y_t_val, y_t_cmp, y_t_chn, y_t_isnt, y_t_isnf, z_nnr_dat, z_nnr_own, z_nnr_brw, z_nn_none, z_nn_bool, z_nn_int, z_nn_str, z_nn_list, z_nn_tuple, y_t_isb, y_t_and, y_t_or, y_t_not, y_h_last, y_h_link, y_al_one, y_al_cons, y_an_one, y_an_cons, y_c_no, y_c_yes, y_i_seq, y_i_rng, y_i_zip, y_i_enum, y_s_never, y_s_pass, y_s_asg, y_s_par, y_s_par3, y_s_setO, y_s_unp, y_s_setB, y_s_exp, y_s_app, y_s_ext, y_s_iff, y_s_whl, y_s_forr, y_s_ret, y_s_retv, y_s_frz, y_ss_nil, y_ss_cons, argsOf, views, caps, Option.map_some, Option.map_none, Option.bind_some, Option.bind_none, List.getElem?_cons_zero, List.getElem?_cons_succ, List.set_cons_zero, List.set_cons_succ, List.length_cons, List.length_nil, z_read_dat, z_read_ref, z_read_scr, z_read_own, z_view_own, z_view_brw, z_view_dat, z_cap_dat, z_cap_own, z_hold_dat, z_hold_ref, z_hold_scr, z_hold_own, z_arg_dat, z_arg_ref, z_arg_scr, z_arg_own, z_look_t, z_look_f, z_len_ref, z_len_scr, z_len_l, z_len_t, z_len_o, z_len_b, z_ix_ref, z_ix_scr, z_ix_l, z_ix_t, z_ix_o, z_ix_b, z_blt_len, z_blt_abs, z_blt_tup, z_blt_lst, z_blt_sum, z_blt_all, z_blt_any, z_blt_min, z_blt_max, z_blt_sorted, z_blt_repr, z_blt_str, z_blt_int, z_blt_divmod, z_d_abs, z_d_tupl, z_d_tupt, z_d_lstl, z_d_lstt, z_d_sum, z_d_all, z_d_any, z_d_minl, z_d_maxl, z_d_min, z_d_max, z_d_sorted, z_d_divmod, z_d_int, z_d_repr, z_d_str, z_d_strt, z_bin_i, z_bin_ll, z_bin_tt, z_bin_rep, z_add, z_sub, z_mul, z_fdiv, z_mod, z_eq, z_ne, z_lt, z_le, z_gt, z_ge, z_inl, z_int, z_ninl, z_nint, z_isi_int_none, z_isi_int_bool, z_isi_int_int, z_isi_int_str, z_isi_int_list, z_isi_int_tuple, z_isi_bool_none, z_isi_bool_bool, z_isi_bool_int, z_isi_bool_str, z_isi_bool_list, z_isi_bool_tuple, z_isi_str_none, z_isi_str_bool, z_isi_str_int, z_isi_str_str, z_isi_str_list, z_isi_str_tuple, z_isi_list_none, z_isi_list_bool, z_isi_list_int, z_isi_list_str, z_isi_list_list, z_isi_list_tuple, z_isi_tuple_none, z_isi_tuple_bool, z_isi_tuple_int, z_isi_tuple_str, z_isi_tuple_list, z_isi_tuple_tuple, z_out_rt, z_out_nx, z_eqi, z_eqb, z_rng1, z_rng2, z_si_l, z_si_t, z_bind_nm, z_bind_tt, z_bind_tl, z_binds_n, z_binds_c, z_sl_l, z_sl_t, z_at0, z_at1, z_at2, z_at3, z_ixN0, z_intsn, z_intsc, z_boolsn, z_boolsc, y_e_isx, y_e_dct, y_e_lrg, y_e_mth, y_e_orv, y_callD, y_s_expC, y_s_retC, y_s_asgC, y_s_raise, y_s_tryE, y_s_forO, z_nox_dat, z_nox_own, z_nox_ref, z_nox_scr, z_nox_exc, z_nox_n, z_read_exo, z_arg_exo, z_hold_exo, z_exEnv, y_e_ixP, y_s_retP, z_sl_s, z_bin_ss, z_d_ints, z_ins, z_nins, y_i_sgn, e1, e2]
theorem g_steps (k n : Nat) (x s : Int) (st : Bx) (h : st[n]? = some [.int x]) (hs : 0 ≤ s) (hs2 : s < 2 ^ 118) :
    ∃ M y, Sq 120 M ∧ det M ≠ 0 ∧ callF tb (k + 5) "_law_drawn_steps" [.ref n, .dat (.int s)] st = some (.dat (mat M), st.set n [.int y]) := by
  rw [c__law_drawn_steps]
  have t := s_take (k + 3) n 2 x st h (by decide) (by decide)
  have b60 : ∀ {x : Int}, -(s + 2) ≤ x → x ≤ s + 2 → Bd 120 x := fun h1 h2 => bd_b (by omega) (by omega)
  by_cases h0 : x % 2 = 0
  · obtain ⟨a, b, c, d, y, ⟨a1, a2⟩, ⟨b1, b2⟩, ⟨c1, c2⟩, ⟨d1, d2⟩, hn, e⟩ := s_pair k n (x / 2) s _ (get_set h (z := [.int (x / 2)])) hs hs2
    rw [List.set_set] at e
    refine ⟨[[a, b], [c, d]], y, .inl ⟨a, b, c, d, rfl, b60 a1 a2, b60 b1 b2, b60 c1 c2, b60 d1 d2⟩, hn, ?_⟩
    simp (decide := true) only [b__law_drawn_steps, ↓reduceIte, Bool.not_true, Bool.not_false, decide_true, decide_false, wipeE, Bool.false_eq_true, y_e_c, y_e_v, y_e_g, y_e_never, y_e_bin, y_e_neg, y_e_tst, y_e_ite, y_e_tup, y_e_lst, y_e_box, y_e_ix, y_e_sl, y_e_rev, y_e_call, y_e_blt, y_e_isi, y_e_lc, y_es_nil, y_es_cons, y_o_no, y_o_yes, y_t_val, y_t_cmp, y_t_chn, y_t_isnt, y_t_isnf, z_nnr_dat, z_nnr_own, z_nnr_brw, z_nn_none, z_nn_bool, z_nn_int, z_nn_str, z_nn_list, z_nn_tuple, y_t_isb, y_t_and, y_t_or, y_t_not, y_h_last, y_h_link, y_al_one, y_al_cons, y_an_one, y_an_cons, y_c_no, y_c_yes, y_i_seq, y_i_rng, y_i_zip, y_i_enum, y_s_never, y_s_pass, y_s_asg, y_s_par, y_s_par3, y_s_setO, y_s_unp, y_s_setB, y_s_exp, y_s_app, y_s_ext, y_s_iff, y_s_whl, y_s_forr, y_s_ret, y_s_retv, y_s_frz, y_ss_nil, y_ss_cons, argsOf, views, caps, Option.map_some, Option.map_none, Option.bind_some, Option.bind_none, List.getElem?_cons_zero, List.getElem?_cons_succ, List.set_cons_zero, List.set_cons_succ, List.length_cons, List.length_nil, z_read_dat, z_read_ref, z_read_scr, z_read_own, z_view_own, z_view_brw, z_view_dat, z_cap_dat, z_cap_own, z_hold_dat, z_hold_ref, z_hold_scr, z_hold_own, z_arg_dat, z_arg_ref, z_arg_scr, z_arg_own, z_look_t, z_look_f, z_len_ref, z_len_scr, z_len_l, z_len_t, z_len_o, z_len_b, z_ix_ref, z_ix_scr, z_ix_l, z_ix_t, z_ix_o, z_ix_b, z_blt_len, z_blt_abs, z_blt_tup, z_blt_lst, z_blt_sum, z_blt_all, z_blt_any, z_blt_min, z_blt_max, z_blt_sorted, z_blt_repr, z_blt_str, z_blt_int, z_blt_divmod, z_d_abs, z_d_tupl, z_d_tupt, z_d_lstl, z_d_lstt, z_d_sum, z_d_all, z_d_any, z_d_minl, z_d_maxl, z_d_min, z_d_max, z_d_sorted, z_d_divmod, z_d_int, z_d_repr, z_d_str, z_d_strt, z_bin_i, z_bin_ll, z_bin_tt, z_bin_rep, z_add, z_sub, z_mul, z_fdiv, z_mod, z_eq, z_ne, z_lt, z_le, z_gt, z_ge, z_inl, z_int, z_ninl, z_nint, z_isi_int_none, z_isi_int_bool, z_isi_int_int, z_isi_int_str, z_isi_int_list, z_isi_int_tuple, z_isi_bool_none, z_isi_bool_bool, z_isi_bool_int, z_isi_bool_str, z_isi_bool_list, z_isi_bool_tuple, z_isi_str_none, z_isi_str_bool, z_isi_str_int, z_isi_str_str, z_isi_str_list, z_isi_str_tuple, z_isi_list_none, z_isi_list_bool, z_isi_list_int, z_isi_list_str, z_isi_list_list, z_isi_list_tuple, z_isi_tuple_none, z_isi_tuple_bool, z_isi_tuple_int, z_isi_tuple_str, z_isi_tuple_list, z_isi_tuple_tuple, z_out_rt, z_out_nx, z_eqi, z_eqb, z_rng1, z_rng2, z_si_l, z_si_t, z_bind_nm, z_bind_tt, z_bind_tl, z_binds_n, z_binds_c, z_sl_l, z_sl_t, z_at0, z_at1, z_at2, z_at3, z_ixN0, z_intsn, z_intsc, z_boolsn, z_boolsc, y_e_isx, y_e_dct, y_e_lrg, y_e_mth, y_e_orv, y_callD, y_s_expC, y_s_retC, y_s_asgC, y_s_raise, y_s_tryE, y_s_forO, z_nox_dat, z_nox_own, z_nox_ref, z_nox_scr, z_nox_exc, z_nox_n, z_read_exo, z_arg_exo, z_hold_exo, z_exEnv, y_e_ixP, y_s_retP, z_sl_s, z_bin_ss, z_d_ints, z_ins, z_nins, y_i_sgn, t, h0, e]
    rfl
  · obtain ⟨a, b, c, d, e', f, g, h', i, y, ⟨a1, a2⟩, ⟨b1, b2⟩, ⟨c1, c2⟩, ⟨d1, d2⟩, ⟨e1, e2⟩, ⟨f1, f2⟩, ⟨g1, g2⟩, ⟨h1, h2⟩, ⟨i1, i2⟩, hn, e⟩ := s_three k n (x / 2) s _ (get_set h (z := [.int (x / 2)])) hs hs2
    rw [List.set_set] at e
    refine ⟨[[a, b, c], [d, e', f], [g, h', i]], y, .inr ⟨a, b, c, d, e', f, g, h', i, rfl, b60 a1 a2, b60 b1 b2, b60 c1 c2, b60 d1 d2, b60 e1 e2, b60 f1 f2, b60 g1 g2, b60 h1 h2, b60 i1 i2⟩, hn, ?_⟩
    simp (decide := true) only [b__law_drawn_steps, ↓reduceIte, Bool.not_true, Bool.not_false, decide_true, decide_false, wipeE, Bool.false_eq_true, y_e_c, y_e_v, y_e_g, y_e_never, y_e_bin, y_e_neg, y_e_tst, y_e_ite, y_e_tup, y_e_lst, y_e_box, y_e_ix, y_e_sl, y_e_rev, y_e_call, y_e_blt, y_e_isi, y_e_lc, y_es_nil, y_es_cons, y_o_no, y_o_yes, y_t_val, y_t_cmp, y_t_chn, y_t_isnt, y_t_isnf, z_nnr_dat, z_nnr_own, z_nnr_brw, z_nn_none, z_nn_bool, z_nn_int, z_nn_str, z_nn_list, z_nn_tuple, y_t_isb, y_t_and, y_t_or, y_t_not, y_h_last, y_h_link, y_al_one, y_al_cons, y_an_one, y_an_cons, y_c_no, y_c_yes, y_i_seq, y_i_rng, y_i_zip, y_i_enum, y_s_never, y_s_pass, y_s_asg, y_s_par, y_s_par3, y_s_setO, y_s_unp, y_s_setB, y_s_exp, y_s_app, y_s_ext, y_s_iff, y_s_whl, y_s_forr, y_s_ret, y_s_retv, y_s_frz, y_ss_nil, y_ss_cons, argsOf, views, caps, Option.map_some, Option.map_none, Option.bind_some, Option.bind_none, List.getElem?_cons_zero, List.getElem?_cons_succ, List.set_cons_zero, List.set_cons_succ, List.length_cons, List.length_nil, z_read_dat, z_read_ref, z_read_scr, z_read_own, z_view_own, z_view_brw, z_view_dat, z_cap_dat, z_cap_own, z_hold_dat, z_hold_ref, z_hold_scr, z_hold_own, z_arg_dat, z_arg_ref, z_arg_scr, z_arg_own, z_look_t, z_look_f, z_len_ref, z_len_scr, z_len_l, z_len_t, z_len_o, z_len_b, z_ix_ref, z_ix_scr, z_ix_l, z_ix_t, z_ix_o, z_ix_b, z_blt_len, z_blt_abs, z_blt_tup, z_blt_lst, z_blt_sum, z_blt_all, z_blt_any, z_blt_min, z_blt_max, z_blt_sorted, z_blt_repr, z_blt_str, z_blt_int, z_blt_divmod, z_d_abs, z_d_tupl, z_d_tupt, z_d_lstl, z_d_lstt, z_d_sum, z_d_all, z_d_any, z_d_minl, z_d_maxl, z_d_min, z_d_max, z_d_sorted, z_d_divmod, z_d_int, z_d_repr, z_d_str, z_d_strt, z_bin_i, z_bin_ll, z_bin_tt, z_bin_rep, z_add, z_sub, z_mul, z_fdiv, z_mod, z_eq, z_ne, z_lt, z_le, z_gt, z_ge, z_inl, z_int, z_ninl, z_nint, z_isi_int_none, z_isi_int_bool, z_isi_int_int, z_isi_int_str, z_isi_int_list, z_isi_int_tuple, z_isi_bool_none, z_isi_bool_bool, z_isi_bool_int, z_isi_bool_str, z_isi_bool_list, z_isi_bool_tuple, z_isi_str_none, z_isi_str_bool, z_isi_str_int, z_isi_str_str, z_isi_str_list, z_isi_str_tuple, z_isi_list_none, z_isi_list_bool, z_isi_list_int, z_isi_list_str, z_isi_list_list, z_isi_list_tuple, z_isi_tuple_none, z_isi_tuple_bool, z_isi_tuple_int, z_isi_tuple_str, z_isi_tuple_list, z_isi_tuple_tuple, z_out_rt, z_out_nx, z_eqi, z_eqb, z_rng1, z_rng2, z_si_l, z_si_t, z_bind_nm, z_bind_tt, z_bind_tl, z_binds_n, z_binds_c, z_sl_l, z_sl_t, z_at0, z_at1, z_at2, z_at3, z_ixN0, z_intsn, z_intsc, z_boolsn, z_boolsc, y_e_isx, y_e_dct, y_e_lrg, y_e_mth, y_e_orv, y_callD, y_s_expC, y_s_retC, y_s_asgC, y_s_raise, y_s_tryE, y_s_forO, z_nox_dat, z_nox_own, z_nox_ref, z_nox_scr, z_nox_exc, z_nox_n, z_read_exo, z_arg_exo, z_hold_exo, z_exEnv, y_e_ixP, y_s_retP, z_sl_s, z_bin_ss, z_d_ints, z_ins, z_nins, y_i_sgn, t, h0, e]
    rfl
theorem g_point (k n w : Nat) (x s : Int) (st : Bx) (h : st[n]? = some [.int x]) (hs : 0 ≤ s) (hs2 : s < 2 ^ 118) (hw : w = 2 ∨ w = 3) :
    ∃ p y, Pt 120 w p ∧ callF tb (k + 3) "_law_drawn_point" [.ref n, .dat (.int (w : Int)), .dat (.int s)] st = some (.dat (vec p), st.set n [.int y]) := by
  rcases hw with rfl | rfl
  · obtain ⟨u, v, y, u1, u2, v1, v2, e⟩ := s_point2 k n x s st h hs hs2
    exact ⟨[u, v], y, .inl ⟨rfl, u, v, rfl, bd_b (by omega) (by omega), bd_b (by omega) (by omega)⟩, e⟩
  · obtain ⟨u, v, w, y, u1, u2, v1, v2, w1, w2, e⟩ := s_point3 k n x s st h hs hs2
    exact ⟨[u, v, w], y, .inr ⟨rfl, u, v, w, rfl, bd_b (by omega) (by omega), bd_b (by omega) (by omega), bd_b (by omega) (by omega)⟩, e⟩
theorem vec_shw {w : Nat} {p : List Int} (h : Pt 1900 w p) : Shw 6000 1 (vec p) := by
  rcases h with ⟨_, a, b, rfl, h1, h2⟩ | ⟨_, a, b, c, rfl, h1, h2, h3⟩
  · exact (shw_t2 (shw_int h1 (by decide)) (shw_int h2 (by decide))).mono (by decide) (by decide)
  · exact (shw_t3 (shw_int h1 (by decide)) (shw_int h2 (by decide)) (shw_int h3 (by decide))).mono (by decide) (by decide)
theorem vec_repr {w : Nat} {p : List Int} (h : Pt 1900 w p) : reprOk (vec p) = true := reprOk_of (vec_shw h) (by decide) (by decide)
theorem pt_of_len {B w : Nat} {p : List Int} (hw : w = 2 ∨ w = 3) (hl : p.length = w) (h : ∀ x ∈ p, Bd B x) : Pt B w p := by
  rcases hw with rfl | rfl
  · match p, hl, h with
    | [a, b], _, h => exact .inl ⟨rfl, a, b, rfl, h a (by simp), h b (by simp)⟩
  · match p, hl, h with
    | [a, b, c], _, h => exact .inr ⟨rfl, a, b, c, rfl, h a (by simp), h b (by simp), h c (by simp)⟩
theorem nums_repr {M : List (List Int)} {p : List Int} (h : Sq 600 M) (hp : Pt 600 M.length p) : reprOk (optD (nums M p)) = true := by
  unfold nums
  split
  · refine vec_repr (w := M.length) (pt_of_len h.len (by rw [List.length_map, tops_len]) fun x hx => ?_)
    obtain ⟨t, ht, rfl⟩ := List.mem_map.mp hx
    exact (bd_fdiv _ (tops_bd h hp (by decide) t ht)).mono (by decide)
  · exact reprOk_of shw_none (by decide) (by decide)

/-! grids alike, no law -/
theorem lenM (M : List (List Int)) (st : Bx) : lenR (.dat (mat M)) st = some (.dat (.int (M.length : Int))) := by unfold mat; rw [z_len_t, List.length_map]
def win (S O : List (List Int)) : Bool := O.all fun r => (nums S r).isSome
theorem nn_opt (o : Option (List Int)) : isNn (optD o) = !o.isSome := by cases o <;> rfl
theorem bools_rows (f : List Int → Bool) : ∀ l : List (List Int), boolsOf (l.map fun t => PyData.bool (f t)) = some (l.map f)
  | [] => rfl
  | t :: l => by rw [List.map_cons, z_boolsc, bools_rows f l]; rfl
theorem vecs_map {β : Type} (g : List Int → β) (l : List (List Int)) (F : PyData → Option β) (h : ∀ t ∈ l, F (vec t) = some (g t)) : (l.map vec).filterMap F = l.map g := by
  rw [List.filterMap_map, ← fmap_some]
  exact fmap_congr _ fun t ht => h t ht
def unvec : PyData → List Int
  | .tuple ds => ds.filterMap fun d => match d with | .int i => some i | _ => none
  | _ => []
theorem unvec_vec (r : List Int) : unvec (vec r) = r := by
  show (r.map PyData.int).filterMap _ = r
  rw [List.filterMap_map]
  induction r with
  | nil => rfl
  | cons a r ih => rw [List.filterMap_cons]; simp only [Function.comp_apply]; rw [ih]
theorem g_is_within (k : Nat) (S O : List (List Int)) (st : Bx) (h : Sq 1000 S) (ho : Sq 1000 O) (hl : S.length = O.length) (hd : det S ≠ 0) :
    callF tb (k + 6) "is_within" [.dat (mat S), .dat (mat O)] st = some (.dat (.bool (win S O)), st) := by
  rw [c_is_within]
  have hq : Ex.den (callF tb (k + 5)) q_is_within_1 [some (.dat (mat S)), some (.dat (mat O)), none] st = some (.own (O.map fun r => .bool (nums S r).isSome), st) := by
    rw [← vecs_map (fun r => PyData.bool (nums S r).isSome) O (fun d => some (.bool (nums S (unvec d)).isSome)) (fun r _ => by rw [unvec_vec])]
    refine den_lc (by simp only [mat, ↓reduceIte, Bool.not_true, Bool.not_false, decide_true, decide_false, wipeE, Bool.false_eq_true, y_e_c, y_e_v, y_e_g, y_e_never, y_e_bin, y_e_neg, y_e_tst, y_e_ite, y_e_tup, y_e_lst, y_e_box, y_e_ix, y_e_sl, y_e_rev, y_e_call, y_e_blt, y_e_isi, y_e_lc, y_es_nil, y_es_cons, y_o_no, y_o_yes, y_t_val, y_t_cmp, y_t_chn, y_t_isnt, y_t_isnf, z_nnr_dat, z_nnr_own, z_nnr_brw, z_nn_none, z_nn_bool, z_nn_int, z_nn_str, z_nn_list, z_nn_tuple, y_t_isb, y_t_and, y_t_or, y_t_not, y_h_last, y_h_link, y_al_one, y_al_cons, y_an_one, y_an_cons, y_c_no, y_c_yes, y_i_seq, y_i_rng, y_i_zip, y_i_enum, y_s_never, y_s_pass, y_s_asg, y_s_par, y_s_par3, y_s_setO, y_s_unp, y_s_setB, y_s_exp, y_s_app, y_s_ext, y_s_iff, y_s_whl, y_s_forr, y_s_ret, y_s_retv, y_s_frz, y_ss_nil, y_ss_cons, argsOf, views, caps, Option.map_some, Option.map_none, Option.bind_some, Option.bind_none, List.getElem?_cons_zero, List.getElem?_cons_succ, List.set_cons_zero, List.set_cons_succ, List.length_cons, List.length_nil, z_read_dat, z_read_ref, z_read_scr, z_read_own, z_view_own, z_view_brw, z_view_dat, z_cap_dat, z_cap_own, z_hold_dat, z_hold_ref, z_hold_scr, z_hold_own, z_arg_dat, z_arg_ref, z_arg_scr, z_arg_own, z_look_t, z_look_f, z_len_ref, z_len_scr, z_len_l, z_len_t, z_len_o, z_len_b, z_ix_ref, z_ix_scr, z_ix_l, z_ix_t, z_ix_o, z_ix_b, z_blt_len, z_blt_abs, z_blt_tup, z_blt_lst, z_blt_sum, z_blt_all, z_blt_any, z_blt_min, z_blt_max, z_blt_sorted, z_blt_repr, z_blt_str, z_blt_int, z_blt_divmod, z_d_abs, z_d_tupl, z_d_tupt, z_d_lstl, z_d_lstt, z_d_sum, z_d_all, z_d_any, z_d_minl, z_d_maxl, z_d_min, z_d_max, z_d_sorted, z_d_divmod, z_d_int, z_d_repr, z_d_str, z_d_strt, z_bin_i, z_bin_ll, z_bin_tt, z_bin_rep, z_add, z_sub, z_mul, z_fdiv, z_mod, z_eq, z_ne, z_lt, z_le, z_gt, z_ge, z_inl, z_int, z_ninl, z_nint, z_isi_int_none, z_isi_int_bool, z_isi_int_int, z_isi_int_str, z_isi_int_list, z_isi_int_tuple, z_isi_bool_none, z_isi_bool_bool, z_isi_bool_int, z_isi_bool_str, z_isi_bool_list, z_isi_bool_tuple, z_isi_str_none, z_isi_str_bool, z_isi_str_int, z_isi_str_str, z_isi_str_list, z_isi_str_tuple, z_isi_list_none, z_isi_list_bool, z_isi_list_int, z_isi_list_str, z_isi_list_list, z_isi_list_tuple, z_isi_tuple_none, z_isi_tuple_bool, z_isi_tuple_int, z_isi_tuple_str, z_isi_tuple_list, z_isi_tuple_tuple, z_out_rt, z_out_nx, z_eqi, z_eqb, z_rng1, z_rng2, z_si_l, z_si_t, z_bind_nm, z_bind_tt, z_bind_tl, z_binds_n, z_binds_c, z_sl_l, z_sl_t, z_at0, z_at1, z_at2, z_at3, z_ixN0, z_intsn, z_intsc, z_boolsn, z_boolsc, y_e_isx, y_e_dct, y_e_lrg, y_e_mth, y_e_orv, y_callD, y_s_expC, y_s_retC, y_s_asgC, y_s_raise, y_s_tryE, y_s_forO, z_nox_dat, z_nox_own, z_nox_ref, z_nox_scr, z_nox_exc, z_nox_n, z_read_exo, z_arg_exo, z_hold_exo, z_exEnv, y_e_ixP, y_s_retP, z_sl_s, z_bin_ss, z_d_ints, z_ins, z_nins, y_i_sgn]) _ (fun d hd' => ?_) (by rw [List.length_map]; have := ho.len; omega)
    obtain ⟨r, hr, rfl⟩ := List.mem_map.mp hd'
    have e := g_numbers_for k S r st h (by rw [hl]; exact ho.row hr) hd
    exact ⟨[some (.dat (mat S)), some (.dat (mat O)), some (.dat (vec r))], by simp only [↓reduceIte, Bool.not_true, Bool.not_false, decide_true, decide_false, wipeE, Bool.false_eq_true, y_e_c, y_e_v, y_e_g, y_e_never, y_e_bin, y_e_neg, y_e_tst, y_e_ite, y_e_tup, y_e_lst, y_e_box, y_e_ix, y_e_sl, y_e_rev, y_e_call, y_e_blt, y_e_isi, y_e_lc, y_es_nil, y_es_cons, y_o_no, y_o_yes, y_t_val, y_t_cmp, y_t_chn, y_t_isnt, y_t_isnf, z_nnr_dat, z_nnr_own, z_nnr_brw, z_nn_none, z_nn_bool, z_nn_int, z_nn_str, z_nn_list, z_nn_tuple, y_t_isb, y_t_and, y_t_or, y_t_not, y_h_last, y_h_link, y_al_one, y_al_cons, y_an_one, y_an_cons, y_c_no, y_c_yes, y_i_seq, y_i_rng, y_i_zip, y_i_enum, y_s_never, y_s_pass, y_s_asg, y_s_par, y_s_par3, y_s_setO, y_s_unp, y_s_setB, y_s_exp, y_s_app, y_s_ext, y_s_iff, y_s_whl, y_s_forr, y_s_ret, y_s_retv, y_s_frz, y_ss_nil, y_ss_cons, argsOf, views, caps, Option.map_some, Option.map_none, Option.bind_some, Option.bind_none, List.getElem?_cons_zero, List.getElem?_cons_succ, List.set_cons_zero, List.set_cons_succ, List.length_cons, List.length_nil, z_read_dat, z_read_ref, z_read_scr, z_read_own, z_view_own, z_view_brw, z_view_dat, z_cap_dat, z_cap_own, z_hold_dat, z_hold_ref, z_hold_scr, z_hold_own, z_arg_dat, z_arg_ref, z_arg_scr, z_arg_own, z_look_t, z_look_f, z_len_ref, z_len_scr, z_len_l, z_len_t, z_len_o, z_len_b, z_ix_ref, z_ix_scr, z_ix_l, z_ix_t, z_ix_o, z_ix_b, z_blt_len, z_blt_abs, z_blt_tup, z_blt_lst, z_blt_sum, z_blt_all, z_blt_any, z_blt_min, z_blt_max, z_blt_sorted, z_blt_repr, z_blt_str, z_blt_int, z_blt_divmod, z_d_abs, z_d_tupl, z_d_tupt, z_d_lstl, z_d_lstt, z_d_sum, z_d_all, z_d_any, z_d_minl, z_d_maxl, z_d_min, z_d_max, z_d_sorted, z_d_divmod, z_d_int, z_d_repr, z_d_str, z_d_strt, z_bin_i, z_bin_ll, z_bin_tt, z_bin_rep, z_add, z_sub, z_mul, z_fdiv, z_mod, z_eq, z_ne, z_lt, z_le, z_gt, z_ge, z_inl, z_int, z_ninl, z_nint, z_isi_int_none, z_isi_int_bool, z_isi_int_int, z_isi_int_str, z_isi_int_list, z_isi_int_tuple, z_isi_bool_none, z_isi_bool_bool, z_isi_bool_int, z_isi_bool_str, z_isi_bool_list, z_isi_bool_tuple, z_isi_str_none, z_isi_str_bool, z_isi_str_int, z_isi_str_str, z_isi_str_list, z_isi_str_tuple, z_isi_list_none, z_isi_list_bool, z_isi_list_int, z_isi_list_str, z_isi_list_list, z_isi_list_tuple, z_isi_tuple_none, z_isi_tuple_bool, z_isi_tuple_int, z_isi_tuple_str, z_isi_tuple_list, z_isi_tuple_tuple, z_out_rt, z_out_nx, z_eqi, z_eqb, z_rng1, z_rng2, z_si_l, z_si_t, z_bind_nm, z_bind_tt, z_bind_tl, z_binds_n, z_binds_c, z_sl_l, z_sl_t, z_at0, z_at1, z_at2, z_at3, z_ixN0, z_intsn, z_intsc, z_boolsn, z_boolsc, y_e_isx, y_e_dct, y_e_lrg, y_e_mth, y_e_orv, y_callD, y_s_expC, y_s_retC, y_s_asgC, y_s_raise, y_s_tryE, y_s_forO, z_nox_dat, z_nox_own, z_nox_ref, z_nox_scr, z_nox_exc, z_nox_n, z_read_exo, z_arg_exo, z_hold_exo, z_exEnv, y_e_ixP, y_s_retP, z_sl_s, z_bin_ss, z_d_ints, z_ins, z_nins, y_i_sgn], .inr ⟨by simp only [↓reduceIte, Bool.not_true, Bool.not_false, decide_true, decide_false, wipeE, Bool.false_eq_true, y_e_c, y_e_v, y_e_g, y_e_never, y_e_bin, y_e_neg, y_e_tst, y_e_ite, y_e_tup, y_e_lst, y_e_box, y_e_ix, y_e_sl, y_e_rev, y_e_call, y_e_blt, y_e_isi, y_e_lc, y_es_nil, y_es_cons, y_o_no, y_o_yes, y_t_val, y_t_cmp, y_t_chn, y_t_isnt, y_t_isnf, z_nnr_dat, z_nnr_own, z_nnr_brw, z_nn_none, z_nn_bool, z_nn_int, z_nn_str, z_nn_list, z_nn_tuple, y_t_isb, y_t_and, y_t_or, y_t_not, y_h_last, y_h_link, y_al_one, y_al_cons, y_an_one, y_an_cons, y_c_no, y_c_yes, y_i_seq, y_i_rng, y_i_zip, y_i_enum, y_s_never, y_s_pass, y_s_asg, y_s_par, y_s_par3, y_s_setO, y_s_unp, y_s_setB, y_s_exp, y_s_app, y_s_ext, y_s_iff, y_s_whl, y_s_forr, y_s_ret, y_s_retv, y_s_frz, y_ss_nil, y_ss_cons, argsOf, views, caps, Option.map_some, Option.map_none, Option.bind_some, Option.bind_none, List.getElem?_cons_zero, List.getElem?_cons_succ, List.set_cons_zero, List.set_cons_succ, List.length_cons, List.length_nil, z_read_dat, z_read_ref, z_read_scr, z_read_own, z_view_own, z_view_brw, z_view_dat, z_cap_dat, z_cap_own, z_hold_dat, z_hold_ref, z_hold_scr, z_hold_own, z_arg_dat, z_arg_ref, z_arg_scr, z_arg_own, z_look_t, z_look_f, z_len_ref, z_len_scr, z_len_l, z_len_t, z_len_o, z_len_b, z_ix_ref, z_ix_scr, z_ix_l, z_ix_t, z_ix_o, z_ix_b, z_blt_len, z_blt_abs, z_blt_tup, z_blt_lst, z_blt_sum, z_blt_all, z_blt_any, z_blt_min, z_blt_max, z_blt_sorted, z_blt_repr, z_blt_str, z_blt_int, z_blt_divmod, z_d_abs, z_d_tupl, z_d_tupt, z_d_lstl, z_d_lstt, z_d_sum, z_d_all, z_d_any, z_d_minl, z_d_maxl, z_d_min, z_d_max, z_d_sorted, z_d_divmod, z_d_int, z_d_repr, z_d_str, z_d_strt, z_bin_i, z_bin_ll, z_bin_tt, z_bin_rep, z_add, z_sub, z_mul, z_fdiv, z_mod, z_eq, z_ne, z_lt, z_le, z_gt, z_ge, z_inl, z_int, z_ninl, z_nint, z_isi_int_none, z_isi_int_bool, z_isi_int_int, z_isi_int_str, z_isi_int_list, z_isi_int_tuple, z_isi_bool_none, z_isi_bool_bool, z_isi_bool_int, z_isi_bool_str, z_isi_bool_list, z_isi_bool_tuple, z_isi_str_none, z_isi_str_bool, z_isi_str_int, z_isi_str_str, z_isi_str_list, z_isi_str_tuple, z_isi_list_none, z_isi_list_bool, z_isi_list_int, z_isi_list_str, z_isi_list_list, z_isi_list_tuple, z_isi_tuple_none, z_isi_tuple_bool, z_isi_tuple_int, z_isi_tuple_str, z_isi_tuple_list, z_isi_tuple_tuple, z_out_rt, z_out_nx, z_eqi, z_eqb, z_rng1, z_rng2, z_si_l, z_si_t, z_bind_nm, z_bind_tt, z_bind_tl, z_binds_n, z_binds_c, z_sl_l, z_sl_t, z_at0, z_at1, z_at2, z_at3, z_ixN0, z_intsn, z_intsc, z_boolsn, z_boolsc, y_e_isx, y_e_dct, y_e_lrg, y_e_mth, y_e_orv, y_callD, y_s_expC, y_s_retC, y_s_asgC, y_s_raise, y_s_tryE, y_s_forO, z_nox_dat, z_nox_own, z_nox_ref, z_nox_scr, z_nox_exc, z_nox_n, z_read_exo, z_arg_exo, z_hold_exo, z_exEnv, y_e_ixP, y_s_retP, z_sl_s, z_bin_ss, z_d_ints, z_ins, z_nins, y_i_sgn], .dat (.bool (nums S r).isSome), .bool (nums S r).isSome, by simp only [↓reduceIte, Bool.not_true, Bool.not_false, decide_true, decide_false, wipeE, Bool.false_eq_true, y_e_c, y_e_v, y_e_g, y_e_never, y_e_bin, y_e_neg, y_e_tst, y_e_ite, y_e_tup, y_e_lst, y_e_box, y_e_ix, y_e_sl, y_e_rev, y_e_call, y_e_blt, y_e_isi, y_e_lc, y_es_nil, y_es_cons, y_o_no, y_o_yes, y_t_val, y_t_cmp, y_t_chn, y_t_isnt, y_t_isnf, z_nnr_dat, z_nnr_own, z_nnr_brw, z_nn_none, z_nn_bool, z_nn_int, z_nn_str, z_nn_list, z_nn_tuple, y_t_isb, y_t_and, y_t_or, y_t_not, y_h_last, y_h_link, y_al_one, y_al_cons, y_an_one, y_an_cons, y_c_no, y_c_yes, y_i_seq, y_i_rng, y_i_zip, y_i_enum, y_s_never, y_s_pass, y_s_asg, y_s_par, y_s_par3, y_s_setO, y_s_unp, y_s_setB, y_s_exp, y_s_app, y_s_ext, y_s_iff, y_s_whl, y_s_forr, y_s_ret, y_s_retv, y_s_frz, y_ss_nil, y_ss_cons, argsOf, views, caps, Option.map_some, Option.map_none, Option.bind_some, Option.bind_none, List.getElem?_cons_zero, List.getElem?_cons_succ, List.set_cons_zero, List.set_cons_succ, List.length_cons, List.length_nil, z_read_dat, z_read_ref, z_read_scr, z_read_own, z_view_own, z_view_brw, z_view_dat, z_cap_dat, z_cap_own, z_hold_dat, z_hold_ref, z_hold_scr, z_hold_own, z_arg_dat, z_arg_ref, z_arg_scr, z_arg_own, z_look_t, z_look_f, z_len_ref, z_len_scr, z_len_l, z_len_t, z_len_o, z_len_b, z_ix_ref, z_ix_scr, z_ix_l, z_ix_t, z_ix_o, z_ix_b, z_blt_len, z_blt_abs, z_blt_tup, z_blt_lst, z_blt_sum, z_blt_all, z_blt_any, z_blt_min, z_blt_max, z_blt_sorted, z_blt_repr, z_blt_str, z_blt_int, z_blt_divmod, z_d_abs, z_d_tupl, z_d_tupt, z_d_lstl, z_d_lstt, z_d_sum, z_d_all, z_d_any, z_d_minl, z_d_maxl, z_d_min, z_d_max, z_d_sorted, z_d_divmod, z_d_int, z_d_repr, z_d_str, z_d_strt, z_bin_i, z_bin_ll, z_bin_tt, z_bin_rep, z_add, z_sub, z_mul, z_fdiv, z_mod, z_eq, z_ne, z_lt, z_le, z_gt, z_ge, z_inl, z_int, z_ninl, z_nint, z_isi_int_none, z_isi_int_bool, z_isi_int_int, z_isi_int_str, z_isi_int_list, z_isi_int_tuple, z_isi_bool_none, z_isi_bool_bool, z_isi_bool_int, z_isi_bool_str, z_isi_bool_list, z_isi_bool_tuple, z_isi_str_none, z_isi_str_bool, z_isi_str_int, z_isi_str_str, z_isi_str_list, z_isi_str_tuple, z_isi_list_none, z_isi_list_bool, z_isi_list_int, z_isi_list_str, z_isi_list_list, z_isi_list_tuple, z_isi_tuple_none, z_isi_tuple_bool, z_isi_tuple_int, z_isi_tuple_str, z_isi_tuple_list, z_isi_tuple_tuple, z_out_rt, z_out_nx, z_eqi, z_eqb, z_rng1, z_rng2, z_si_l, z_si_t, z_bind_nm, z_bind_tt, z_bind_tl, z_binds_n, z_binds_c, z_sl_l, z_sl_t, z_at0, z_at1, z_at2, z_at3, z_ixN0, z_intsn, z_intsc, z_boolsn, z_boolsc, y_e_isx, y_e_dct, y_e_lrg, y_e_mth, y_e_orv, y_callD, y_s_expC, y_s_retC, y_s_asgC, y_s_raise, y_s_tryE, y_s_forO, z_nox_dat, z_nox_own, z_nox_ref, z_nox_scr, z_nox_exc, z_nox_n, z_read_exo, z_arg_exo, z_hold_exo, z_exEnv, y_e_ixP, y_s_retP, z_sl_s, z_bin_ss, z_d_ints, z_ins, z_nins, y_i_sgn, e, nn_opt, Bool.not_not], rfl, by rw [unvec_vec]⟩⟩
  simp (decide := true) only [b_is_within, ↓reduceIte, Bool.not_true, Bool.not_false, decide_true, decide_false, wipeE, Bool.false_eq_true, y_e_c, y_e_v, y_e_g, y_e_never, y_e_bin, y_e_neg, y_e_tst, y_e_ite, y_e_tup, y_e_lst, y_e_box, y_e_ix, y_e_sl, y_e_rev, y_e_call, y_e_blt, y_e_isi, y_e_lc, y_es_nil, y_es_cons, y_o_no, y_o_yes, y_t_val, y_t_cmp, y_t_chn, y_t_isnt, y_t_isnf, z_nnr_dat, z_nnr_own, z_nnr_brw, z_nn_none, z_nn_bool, z_nn_int, z_nn_str, z_nn_list, z_nn_tuple, y_t_isb, y_t_and, y_t_or, y_t_not, y_h_last, y_h_link, y_al_one, y_al_cons, y_an_one, y_an_cons, y_c_no, y_c_yes, y_i_seq, y_i_rng, y_i_zip, y_i_enum, y_s_never, y_s_pass, y_s_asg, y_s_par, y_s_par3, y_s_setO, y_s_unp, y_s_setB, y_s_exp, y_s_app, y_s_ext, y_s_iff, y_s_whl, y_s_forr, y_s_ret, y_s_retv, y_s_frz, y_ss_nil, y_ss_cons, argsOf, views, caps, Option.map_some, Option.map_none, Option.bind_some, Option.bind_none, List.getElem?_cons_zero, List.getElem?_cons_succ, List.set_cons_zero, List.set_cons_succ, List.length_cons, List.length_nil, z_read_dat, z_read_ref, z_read_scr, z_read_own, z_view_own, z_view_brw, z_view_dat, z_cap_dat, z_cap_own, z_hold_dat, z_hold_ref, z_hold_scr, z_hold_own, z_arg_dat, z_arg_ref, z_arg_scr, z_arg_own, z_look_t, z_look_f, z_len_ref, z_len_scr, z_len_l, z_len_t, z_len_o, z_len_b, z_ix_ref, z_ix_scr, z_ix_l, z_ix_t, z_ix_o, z_ix_b, z_blt_len, z_blt_abs, z_blt_tup, z_blt_lst, z_blt_sum, z_blt_all, z_blt_any, z_blt_min, z_blt_max, z_blt_sorted, z_blt_repr, z_blt_str, z_blt_int, z_blt_divmod, z_d_abs, z_d_tupl, z_d_tupt, z_d_lstl, z_d_lstt, z_d_sum, z_d_all, z_d_any, z_d_minl, z_d_maxl, z_d_min, z_d_max, z_d_sorted, z_d_divmod, z_d_int, z_d_repr, z_d_str, z_d_strt, z_bin_i, z_bin_ll, z_bin_tt, z_bin_rep, z_add, z_sub, z_mul, z_fdiv, z_mod, z_eq, z_ne, z_lt, z_le, z_gt, z_ge, z_inl, z_int, z_ninl, z_nint, z_isi_int_none, z_isi_int_bool, z_isi_int_int, z_isi_int_str, z_isi_int_list, z_isi_int_tuple, z_isi_bool_none, z_isi_bool_bool, z_isi_bool_int, z_isi_bool_str, z_isi_bool_list, z_isi_bool_tuple, z_isi_str_none, z_isi_str_bool, z_isi_str_int, z_isi_str_str, z_isi_str_list, z_isi_str_tuple, z_isi_list_none, z_isi_list_bool, z_isi_list_int, z_isi_list_str, z_isi_list_list, z_isi_list_tuple, z_isi_tuple_none, z_isi_tuple_bool, z_isi_tuple_int, z_isi_tuple_str, z_isi_tuple_list, z_isi_tuple_tuple, z_out_rt, z_out_nx, z_eqi, z_eqb, z_rng1, z_rng2, z_si_l, z_si_t, z_bind_nm, z_bind_tt, z_bind_tl, z_binds_n, z_binds_c, z_sl_l, z_sl_t, z_at0, z_at1, z_at2, z_at3, z_ixN0, z_intsn, z_intsc, z_boolsn, z_boolsc, y_e_isx, y_e_dct, y_e_lrg, y_e_mth, y_e_orv, y_callD, y_s_expC, y_s_retC, y_s_asgC, y_s_raise, y_s_tryE, y_s_forO, z_nox_dat, z_nox_own, z_nox_ref, z_nox_scr, z_nox_exc, z_nox_n, z_read_exo, z_arg_exo, z_hold_exo, z_exEnv, y_e_ixP, y_s_retP, z_sl_s, z_bin_ss, z_d_ints, z_ins, z_nins, y_i_sgn, hq, bools_rows, win, List.all_map, Function.id_comp]
theorem g_is_same (k : Nat) (S O : List (List Int)) (st : Bx) (h : Sq 1000 S) (ho : Sq 1000 O) (hd : det S ≠ 0) (hd2 : det O ≠ 0) :
    callF tb (k + 7) "is_same" [.dat (mat S), .dat (mat O)] st = some (.dat (.bool (decide (S.length = O.length) && (win S O && win O S))), st) := by
  rw [c_is_same]
  have e1 := g_need_steps (k + 1) S st h hd
  have e2 := g_need_steps (k + 1) O st ho hd2
  by_cases hl : S.length = O.length
  · have w1 := g_is_within k S O st h ho hl hd
    have w2 := g_is_within k O S st ho h hl.symm hd2
    cases hw : win S O <;> cases hw2 : win O S <;> rw [hw] at w1 <;> rw [hw2] at w2 <;>
      simp (decide := true) only [b_is_same, ↓reduceIte, Bool.not_true, Bool.not_false, decide_true, decide_false, wipeE, Bool.false_eq_true, y_e_c, y_e_v, y_e_g, y_e_never, y_e_bin, y_e_neg, y_e_tst, y_e_ite, y_e_tup, y_e_lst, y_e_box, y_e_ix, y_e_sl, y_e_rev, y_e_call, y_e_blt, y_e_isi, y_e_lc, y_es_nil, y_es_cons, y_o_no, y_o_yes, y_t_val, y_t_cmp, y_t_chn, y_t_isnt, y_t_isnf, z_nnr_dat, z_nnr_own, z_nnr_brw, z_nn_none, z_nn_bool, z_nn_int, z_nn_str, z_nn_list, z_nn_tuple, y_t_isb, y_t_and, y_t_or, y_t_not, y_h_last, y_h_link, y_al_one, y_al_cons, y_an_one, y_an_cons, y_c_no, y_c_yes, y_i_seq, y_i_rng, y_i_zip, y_i_enum, y_s_never, y_s_pass, y_s_asg, y_s_par, y_s_par3, y_s_setO, y_s_unp, y_s_setB, y_s_exp, y_s_app, y_s_ext, y_s_iff, y_s_whl, y_s_forr, y_s_ret, y_s_retv, y_s_frz, y_ss_nil, y_ss_cons, argsOf, views, caps, Option.map_some, Option.map_none, Option.bind_some, Option.bind_none, List.getElem?_cons_zero, List.getElem?_cons_succ, List.set_cons_zero, List.set_cons_succ, List.length_cons, List.length_nil, z_read_dat, z_read_ref, z_read_scr, z_read_own, z_view_own, z_view_brw, z_view_dat, z_cap_dat, z_cap_own, z_hold_dat, z_hold_ref, z_hold_scr, z_hold_own, z_arg_dat, z_arg_ref, z_arg_scr, z_arg_own, z_look_t, z_look_f, z_len_ref, z_len_scr, z_len_l, z_len_t, z_len_o, z_len_b, z_ix_ref, z_ix_scr, z_ix_l, z_ix_t, z_ix_o, z_ix_b, z_blt_len, z_blt_abs, z_blt_tup, z_blt_lst, z_blt_sum, z_blt_all, z_blt_any, z_blt_min, z_blt_max, z_blt_sorted, z_blt_repr, z_blt_str, z_blt_int, z_blt_divmod, z_d_abs, z_d_tupl, z_d_tupt, z_d_lstl, z_d_lstt, z_d_sum, z_d_all, z_d_any, z_d_minl, z_d_maxl, z_d_min, z_d_max, z_d_sorted, z_d_divmod, z_d_int, z_d_repr, z_d_str, z_d_strt, z_bin_i, z_bin_ll, z_bin_tt, z_bin_rep, z_add, z_sub, z_mul, z_fdiv, z_mod, z_eq, z_ne, z_lt, z_le, z_gt, z_ge, z_inl, z_int, z_ninl, z_nint, z_isi_int_none, z_isi_int_bool, z_isi_int_int, z_isi_int_str, z_isi_int_list, z_isi_int_tuple, z_isi_bool_none, z_isi_bool_bool, z_isi_bool_int, z_isi_bool_str, z_isi_bool_list, z_isi_bool_tuple, z_isi_str_none, z_isi_str_bool, z_isi_str_int, z_isi_str_str, z_isi_str_list, z_isi_str_tuple, z_isi_list_none, z_isi_list_bool, z_isi_list_int, z_isi_list_str, z_isi_list_list, z_isi_list_tuple, z_isi_tuple_none, z_isi_tuple_bool, z_isi_tuple_int, z_isi_tuple_str, z_isi_tuple_list, z_isi_tuple_tuple, z_out_rt, z_out_nx, z_eqi, z_eqb, z_rng1, z_rng2, z_si_l, z_si_t, z_bind_nm, z_bind_tt, z_bind_tl, z_binds_n, z_binds_c, z_sl_l, z_sl_t, z_at0, z_at1, z_at2, z_at3, z_ixN0, z_intsn, z_intsc, z_boolsn, z_boolsc, y_e_isx, y_e_dct, y_e_lrg, y_e_mth, y_e_orv, y_callD, y_s_expC, y_s_retC, y_s_asgC, y_s_raise, y_s_tryE, y_s_forO, z_nox_dat, z_nox_own, z_nox_ref, z_nox_scr, z_nox_exc, z_nox_n, z_read_exo, z_arg_exo, z_hold_exo, z_exEnv, y_e_ixP, y_s_retP, z_sl_s, z_bin_ss, z_d_ints, z_ins, z_nins, y_i_sgn, lenM, e1, e2, hl, w1, w2, Bool.and_true, Bool.and_false, Bool.true_and, Bool.false_and]
  · have hl' : ¬ ((S.length : Int) = (O.length : Int)) := by omega
    simp (decide := true) only [b_is_same, ↓reduceIte, Bool.not_true, Bool.not_false, decide_true, decide_false, wipeE, Bool.false_eq_true, y_e_c, y_e_v, y_e_g, y_e_never, y_e_bin, y_e_neg, y_e_tst, y_e_ite, y_e_tup, y_e_lst, y_e_box, y_e_ix, y_e_sl, y_e_rev, y_e_call, y_e_blt, y_e_isi, y_e_lc, y_es_nil, y_es_cons, y_o_no, y_o_yes, y_t_val, y_t_cmp, y_t_chn, y_t_isnt, y_t_isnf, z_nnr_dat, z_nnr_own, z_nnr_brw, z_nn_none, z_nn_bool, z_nn_int, z_nn_str, z_nn_list, z_nn_tuple, y_t_isb, y_t_and, y_t_or, y_t_not, y_h_last, y_h_link, y_al_one, y_al_cons, y_an_one, y_an_cons, y_c_no, y_c_yes, y_i_seq, y_i_rng, y_i_zip, y_i_enum, y_s_never, y_s_pass, y_s_asg, y_s_par, y_s_par3, y_s_setO, y_s_unp, y_s_setB, y_s_exp, y_s_app, y_s_ext, y_s_iff, y_s_whl, y_s_forr, y_s_ret, y_s_retv, y_s_frz, y_ss_nil, y_ss_cons, argsOf, views, caps, Option.map_some, Option.map_none, Option.bind_some, Option.bind_none, List.getElem?_cons_zero, List.getElem?_cons_succ, List.set_cons_zero, List.set_cons_succ, List.length_cons, List.length_nil, z_read_dat, z_read_ref, z_read_scr, z_read_own, z_view_own, z_view_brw, z_view_dat, z_cap_dat, z_cap_own, z_hold_dat, z_hold_ref, z_hold_scr, z_hold_own, z_arg_dat, z_arg_ref, z_arg_scr, z_arg_own, z_look_t, z_look_f, z_len_ref, z_len_scr, z_len_l, z_len_t, z_len_o, z_len_b, z_ix_ref, z_ix_scr, z_ix_l, z_ix_t, z_ix_o, z_ix_b, z_blt_len, z_blt_abs, z_blt_tup, z_blt_lst, z_blt_sum, z_blt_all, z_blt_any, z_blt_min, z_blt_max, z_blt_sorted, z_blt_repr, z_blt_str, z_blt_int, z_blt_divmod, z_d_abs, z_d_tupl, z_d_tupt, z_d_lstl, z_d_lstt, z_d_sum, z_d_all, z_d_any, z_d_minl, z_d_maxl, z_d_min, z_d_max, z_d_sorted, z_d_divmod, z_d_int, z_d_repr, z_d_str, z_d_strt, z_bin_i, z_bin_ll, z_bin_tt, z_bin_rep, z_add, z_sub, z_mul, z_fdiv, z_mod, z_eq, z_ne, z_lt, z_le, z_gt, z_ge, z_inl, z_int, z_ninl, z_nint, z_isi_int_none, z_isi_int_bool, z_isi_int_int, z_isi_int_str, z_isi_int_list, z_isi_int_tuple, z_isi_bool_none, z_isi_bool_bool, z_isi_bool_int, z_isi_bool_str, z_isi_bool_list, z_isi_bool_tuple, z_isi_str_none, z_isi_str_bool, z_isi_str_int, z_isi_str_str, z_isi_str_list, z_isi_str_tuple, z_isi_list_none, z_isi_list_bool, z_isi_list_int, z_isi_list_str, z_isi_list_list, z_isi_list_tuple, z_isi_tuple_none, z_isi_tuple_bool, z_isi_tuple_int, z_isi_tuple_str, z_isi_tuple_list, z_isi_tuple_tuple, z_out_rt, z_out_nx, z_eqi, z_eqb, z_rng1, z_rng2, z_si_l, z_si_t, z_bind_nm, z_bind_tt, z_bind_tl, z_binds_n, z_binds_c, z_sl_l, z_sl_t, z_at0, z_at1, z_at2, z_at3, z_ixN0, z_intsn, z_intsc, z_boolsn, z_boolsc, y_e_isx, y_e_dct, y_e_lrg, y_e_mth, y_e_orv, y_callD, y_s_expC, y_s_retC, y_s_asgC, y_s_raise, y_s_tryE, y_s_forO, z_nox_dat, z_nox_own, z_nox_ref, z_nox_scr, z_nox_exc, z_nox_n, z_read_exo, z_arg_exo, z_hold_exo, z_exEnv, y_e_ixP, y_s_retP, z_sl_s, z_bin_ss, z_d_ints, z_ins, z_nins, y_i_sgn, lenM, e1, e2, hl, hl', Bool.and_true, Bool.and_false, Bool.true_and, Bool.false_and]
theorem all_take_succ {α : Type} (f : α → Bool) (l : List α) (j : Nat) (d : α) (h : l[j]? = some d) : (l.take (j + 1)).all f = ((l.take j).all f && f d) := by
  rw [List.take_add_one, h, List.all_append]
  simp

/-! numbers and steps, written and read -/
def numT (i : Int) : Str := Str.ofString (toString i)
theorem tl_numT (i : Int) : TL.tl (numT i) = if i < 0 then 45 :: TL.numL i.natAbs else TL.numL i.natAbs := by
  unfold numT
  by_cases h : i < 0
  · rw [if_pos h]
    obtain ⟨n, hn⟩ : ∃ n : Nat, i = -(n : Int) := ⟨i.natAbs, by omega⟩
    have hn0 : n ≠ 0 := by omega
    subst hn
    show (Str.ofString (toString (-(n : Int)))).cps.toList = _
    rw [PyProof.Rows.signs_ofString, Int.toString_eq_repr, Int.repr_eq_if, if_neg (by omega), String.toList_append, List.map_append, Nat.toList_repr]
    show 45 :: (Nat.toDigits 10 (- -(n : Int)).toNat).map Char.toNat = 45 :: TL.numL (-(n : Int)).natAbs
    have e : (- -(n : Int)).toNat = (-(n : Int)).natAbs := by omega
    rw [e]
    rfl
  · rw [if_neg h]
    obtain ⟨n, rfl⟩ := Int.eq_ofNat_of_zero_le (show 0 ≤ i by omega)
    exact TL.tl_num n
theorem numT_len {i : Int} (h : Bd 600 i) : (numT i).length ≤ 601 := by
  unfold Bd at h
  have e := int_text_length_le10 (a := i) (k := 600) (by decide) (Nat.lt_of_lt_of_le h (Nat.pow_le_pow_left (by decide) _))
  unfold numT
  rw [ofString_length]
  exact e
theorem numL_len600 {i : Int} (h : Bd 600 i) : (TL.numL i.natAbs).length ≤ 601 := by
  have h1 := numT_len h
  have h2 := TL.len_tl (numT i)
  rw [tl_numT] at h2
  split at h2
  · rw [List.length_cons] at h2
    omega
  · omega
theorem numT_int {i : Int} (h : Bd 600 i) : intText? (numT i) = some i := by
  have hl := numT_len h
  have e := tl_numT i
  by_cases hi : i < 0
  · rw [if_pos hi] at e
    have := PySem.intText_neg (x := numT i) (cs := TL.numL i.natAbs) e (TL.numL_digits _) (TL.numL_ne _) (by omega)
    rw [this, TL.numL_val]
    congr 1
    omega
  · rw [if_neg hi] at e
    have hd : PySem.NumText.AllDigits (numT i).cps.toList := by
      show PySem.NumText.AllDigits (TL.tl (numT i))
      rw [e]
      exact TL.numL_digits _
    have := PySem.intText_digits (x := numT i) hd (by show TL.tl (numT i) ≠ []; rw [e]; exact TL.numL_ne _) (by omega)
    rw [this]
    show some ((PySem.NumText.digitsVal (TL.tl (numT i)) : Nat) : Int) = _
    rw [e, TL.numL_val]
    congr 1
    omega
theorem numT_free {i : Int} {s : Nat} (h : s ≠ 45 ∧ (s < 48 ∨ 57 < s)) : s ∉ TL.tl (numT i) := by
  rw [tl_numT]
  split
  · intro hm
    rcases List.mem_cons.mp hm with e | hm
    · exact h.1 e
    · exact TL.numL_free h.2 hm
  · exact TL.numL_free h.2
def figT : Str := Str.ofString "0123456789"
theorem fig_mem {c : Nat} (h : 48 ≤ c ∧ c ≤ 57) : c ∈ figT.cps.toList := by
  have : c = 48 ∨ c = 49 ∨ c = 50 ∨ c = 51 ∨ c = 52 ∨ c = 53 ∨ c = 54 ∨ c = 55 ∨ c = 56 ∨ c = 57 := by omega
  rcases this with rfl | rfl | rfl | rfl | rfl | rfl | rfl | rfl | rfl | rfl <;> decide +kernel
/-- the figures of a number's text -/
def figs (i : Int) : Str := ⟨(TL.numL i.natAbs).toArray⟩
theorem tl_figs (i : Int) : TL.tl (figs i) = TL.numL i.natAbs := rfl
theorem sIx_one (n : Nat) (h : 1 ≤ n) (d : Nat) : HT.sIx n d (some 1) = 1 := by
  unfold HT.sIx
  simp
  omega
theorem cut_first {i : Int} : cutS (numT i) none (some 1) = (if i < 0 then ⟨#[45]⟩ else ⟨((TL.numL i.natAbs).take 1).toArray⟩) := by
  have hl : 1 ≤ (numT i).length := by
    rw [TL.len_tl, tl_numT]
    have := List.length_pos_iff.mpr (TL.numL_ne i.natAbs)
    split
    · rw [List.length_cons]; omega
    · omega
  unfold cutS
  rw [sIx_one _ hl]
  show (⟨(((TL.tl (numT i)).drop 0).take (1 - 0)).toArray⟩ : Str) = _
  rw [tl_numT, List.drop_zero]
  split <;> rfl
theorem cut_tail {i : Int} (h : i < 0) : cutS (numT i) (some 1) none = figs i := by
  have hl : 1 ≤ (numT i).length := by
    rw [TL.len_tl, tl_numT, if_pos h, List.length_cons]; omega
  unfold cutS
  rw [sIx_one _ hl]
  have e : HT.sIx (numT i).length (numT i).length none = (numT i).length := rfl
  rw [e]
  show (⟨(((TL.tl (numT i)).drop 1).take ((numT i).length - 1)).toArray⟩ : Str) = _
  rw [TL.len_tl, tl_numT, if_pos h, List.length_cons, List.drop_succ_cons, List.drop_zero, Nat.add_sub_cancel, List.take_length]
  rfl
theorem signs_bools (z : Str) (h : ∀ c ∈ TL.tl z, 48 ≤ c ∧ c ≤ 57) (F : PyData → Option PyData) (hF : ∀ c : Nat, 48 ≤ c ∧ c ≤ 57 → F (.str ⟨#[c]⟩) = some (.bool true)) : (signs z).filterMap F = (TL.tl z).map fun _ => PyData.bool true := by
  unfold signs
  show ((TL.tl z).map fun c => PyData.str ⟨#[c]⟩).filterMap F = _
  generalize TL.tl z = l at h
  induction l with
  | nil => rfl
  | cons c l ih =>
    rw [List.map_cons, List.filterMap_cons, hF c (h c List.mem_cons_self), List.map_cons]
    rw [ih fun d hd => h d (List.mem_cons_of_mem _ hd)]
theorem bools_all {α : Type} (l : List α) : boolsOf (l.map fun _ => PyData.bool true) = some (l.map fun _ => true) := by
  induction l with
  | nil => rfl
  | cons a l ih => rw [List.map_cons, boolsOf, ih]; rfl
theorem s_number_in (k : Nat) (i : Int) (st : Bx) (h : Bd 600 i) : callF tb (k + 1) "number_in" [.dat (.str (numT i))] st = some (.dat (.int i), st) := by
  have hl := numT_len h
  have fl : fitsL (numT i).length = true := fitsL_s (by omega)
  have ei := numT_int h
  have hl6 : (numT i).length ≤ 640 := by omega
  have lg : i.natAbs.log2 < 1920 := log2_lt_of (k := 1920) (by decide) (by have h' := h.mono (show 600 ≤ 1920 by decide); unfold Bd at h'; exact h')
  have es : bltD .str [.int i] = some (.dat (.str (numT i))) := if_pos lg
  have eI : bltD .int [.str (numT i)] = some (.dat (.int i)) := z_d_ints ei hl6
  have eq1 : eqD (.str (numT i)) (.str (numT i)) = some true := by rw [z_eqs, decide_eq_true rfl]
  have efs : TL.tl (figs i) = TL.numL i.natAbs := rfl
  have figne : ¬ figs i = Str.ofString "" := fun e => by
    have := congrArg TL.tl e
    rw [efs] at this
    exact TL.numL_ne _ (this.trans (by decide +kernel))
  have hq : ∀ x2 : Option R, Ex.den (callF tb k) q_number_in_1 [some (.dat (.str (numT i))), some (.dat (.str (figs i))), x2] st = some (.own ((TL.numL i.natAbs).map fun _ => PyData.bool true), st) := fun x2 => by
    have := den_lc (cf := callF tb k) (el := .tst (.cmp .inn (.v 2) (.g "FIGURES" (.str (Str.ofString "0123456789"))))) (tg := .nm 2) (it := .sgn (.v 1)) (cd := .no) (ow := [2])
      (env := [some (.dat (.str (numT i))), some (.dat (.str (figs i))), x2]) (st := st) (st1 := st) (items := signs (figs i)) (by simp (decide := true) only [↓reduceIte, Bool.not_true, Bool.not_false, decide_true, decide_false, wipeE, Bool.false_eq_true, y_e_c, y_e_v, y_e_g, y_e_never, y_e_bin, y_e_neg, y_e_tst, y_e_ite, y_e_tup, y_e_lst, y_e_box, y_e_ix, y_e_sl, y_e_rev, y_e_call, y_e_blt, y_e_isi, y_e_lc, y_es_nil, y_es_cons, y_o_no, y_o_yes, y_t_val, y_t_cmp, y_t_chn, y_t_isnt, y_t_isnf, z_nnr_dat, z_nnr_own, z_nnr_brw, z_nn_none, z_nn_bool, z_nn_int, z_nn_str, z_nn_list, z_nn_tuple, y_t_isb, y_t_and, y_t_or, y_t_not, y_h_last, y_h_link, y_al_one, y_al_cons, y_an_one, y_an_cons, y_c_no, y_c_yes, y_i_seq, y_i_rng, y_i_zip, y_i_enum, y_s_never, y_s_pass, y_s_asg, y_s_par, y_s_par3, y_s_setO, y_s_unp, y_s_setB, y_s_exp, y_s_app, y_s_ext, y_s_iff, y_s_whl, y_s_forr, y_s_ret, y_s_retv, y_s_frz, y_ss_nil, y_ss_cons, argsOf, views, caps, Option.map_some, Option.map_none, Option.bind_some, Option.bind_none, List.getElem?_cons_zero, List.getElem?_cons_succ, List.set_cons_zero, List.set_cons_succ, List.length_cons, List.length_nil, z_read_dat, z_read_ref, z_read_scr, z_read_own, z_view_own, z_view_brw, z_view_dat, z_cap_dat, z_cap_own, z_hold_dat, z_hold_ref, z_hold_scr, z_hold_own, z_arg_dat, z_arg_ref, z_arg_scr, z_arg_own, z_look_t, z_look_f, z_len_ref, z_len_scr, z_len_l, z_len_t, z_len_o, z_len_b, z_ix_ref, z_ix_scr, z_ix_l, z_ix_t, z_ix_o, z_ix_b, z_blt_len, z_blt_abs, z_blt_tup, z_blt_lst, z_blt_sum, z_blt_all, z_blt_any, z_blt_min, z_blt_max, z_blt_sorted, z_blt_repr, z_blt_str, z_blt_int, z_blt_divmod, z_d_abs, z_d_tupl, z_d_tupt, z_d_lstl, z_d_lstt, z_d_sum, z_d_all, z_d_any, z_d_minl, z_d_maxl, z_d_min, z_d_max, z_d_sorted, z_d_divmod, z_d_int, z_d_repr, z_d_str, z_d_strt, z_bin_i, z_bin_ll, z_bin_tt, z_bin_rep, z_add, z_sub, z_mul, z_fdiv, z_mod, z_eq, z_ne, z_lt, z_le, z_gt, z_ge, z_inl, z_int, z_ninl, z_nint, z_isi_int_none, z_isi_int_bool, z_isi_int_int, z_isi_int_str, z_isi_int_list, z_isi_int_tuple, z_isi_bool_none, z_isi_bool_bool, z_isi_bool_int, z_isi_bool_str, z_isi_bool_list, z_isi_bool_tuple, z_isi_str_none, z_isi_str_bool, z_isi_str_int, z_isi_str_str, z_isi_str_list, z_isi_str_tuple, z_isi_list_none, z_isi_list_bool, z_isi_list_int, z_isi_list_str, z_isi_list_list, z_isi_list_tuple, z_isi_tuple_none, z_isi_tuple_bool, z_isi_tuple_int, z_isi_tuple_str, z_isi_tuple_list, z_isi_tuple_tuple, z_out_rt, z_out_nx, z_eqi, z_eqb, z_rng1, z_rng2, z_si_l, z_si_t, z_bind_nm, z_bind_tt, z_bind_tl, z_binds_n, z_binds_c, z_sl_l, z_sl_t, z_at0, z_at1, z_at2, z_at3, z_ixN0, z_intsn, z_intsc, z_boolsn, z_boolsc, y_e_isx, y_e_dct, y_e_lrg, y_e_mth, y_e_orv, y_callD, y_s_expC, y_s_retC, y_s_asgC, y_s_raise, y_s_tryE, y_s_forO, z_nox_dat, z_nox_own, z_nox_ref, z_nox_scr, z_nox_exc, z_nox_n, z_read_exo, z_arg_exo, z_hold_exo, z_exEnv, y_e_ixP, y_s_retP, z_sl_s, z_bin_ss, z_d_ints, z_ins, z_nins, y_i_sgn, y_i_sgn]) (fun _ => some (.bool true)) (fun d hd => by
        unfold signs at hd
        obtain ⟨c, hc, rfl⟩ := List.mem_map.mp hd
        have hcd : 48 ≤ c ∧ c ≤ 57 := TL.numL_digits _ c hc
        have em : cmpD .inn (.str ⟨#[c]⟩) (.str figT) = some true := (z_ins c figT).trans (by rw [decide_eq_true (fig_mem hcd)])
        have em : cmpD .inn (.str ⟨#[c]⟩) (.str (Str.ofString "0123456789")) = some true := em
        exact ⟨[some (.dat (.str (numT i))), some (.dat (.str (figs i))), some (.dat (.str ⟨#[c]⟩))], by simp only [↓reduceIte, Bool.not_true, Bool.not_false, decide_true, decide_false, wipeE, Bool.false_eq_true, y_e_c, y_e_v, y_e_g, y_e_never, y_e_bin, y_e_neg, y_e_tst, y_e_ite, y_e_tup, y_e_lst, y_e_box, y_e_ix, y_e_sl, y_e_rev, y_e_call, y_e_blt, y_e_isi, y_e_lc, y_es_nil, y_es_cons, y_o_no, y_o_yes, y_t_val, y_t_cmp, y_t_chn, y_t_isnt, y_t_isnf, z_nnr_dat, z_nnr_own, z_nnr_brw, z_nn_none, z_nn_bool, z_nn_int, z_nn_str, z_nn_list, z_nn_tuple, y_t_isb, y_t_and, y_t_or, y_t_not, y_h_last, y_h_link, y_al_one, y_al_cons, y_an_one, y_an_cons, y_c_no, y_c_yes, y_i_seq, y_i_rng, y_i_zip, y_i_enum, y_s_never, y_s_pass, y_s_asg, y_s_par, y_s_par3, y_s_setO, y_s_unp, y_s_setB, y_s_exp, y_s_app, y_s_ext, y_s_iff, y_s_whl, y_s_forr, y_s_ret, y_s_retv, y_s_frz, y_ss_nil, y_ss_cons, argsOf, views, caps, Option.map_some, Option.map_none, Option.bind_some, Option.bind_none, List.getElem?_cons_zero, List.getElem?_cons_succ, List.set_cons_zero, List.set_cons_succ, List.length_cons, List.length_nil, z_read_dat, z_read_ref, z_read_scr, z_read_own, z_view_own, z_view_brw, z_view_dat, z_cap_dat, z_cap_own, z_hold_dat, z_hold_ref, z_hold_scr, z_hold_own, z_arg_dat, z_arg_ref, z_arg_scr, z_arg_own, z_look_t, z_look_f, z_len_ref, z_len_scr, z_len_l, z_len_t, z_len_o, z_len_b, z_ix_ref, z_ix_scr, z_ix_l, z_ix_t, z_ix_o, z_ix_b, z_blt_len, z_blt_abs, z_blt_tup, z_blt_lst, z_blt_sum, z_blt_all, z_blt_any, z_blt_min, z_blt_max, z_blt_sorted, z_blt_repr, z_blt_str, z_blt_int, z_blt_divmod, z_d_abs, z_d_tupl, z_d_tupt, z_d_lstl, z_d_lstt, z_d_sum, z_d_all, z_d_any, z_d_minl, z_d_maxl, z_d_min, z_d_max, z_d_sorted, z_d_divmod, z_d_int, z_d_repr, z_d_str, z_d_strt, z_bin_i, z_bin_ll, z_bin_tt, z_bin_rep, z_add, z_sub, z_mul, z_fdiv, z_mod, z_eq, z_ne, z_lt, z_le, z_gt, z_ge, z_inl, z_int, z_ninl, z_nint, z_isi_int_none, z_isi_int_bool, z_isi_int_int, z_isi_int_str, z_isi_int_list, z_isi_int_tuple, z_isi_bool_none, z_isi_bool_bool, z_isi_bool_int, z_isi_bool_str, z_isi_bool_list, z_isi_bool_tuple, z_isi_str_none, z_isi_str_bool, z_isi_str_int, z_isi_str_str, z_isi_str_list, z_isi_str_tuple, z_isi_list_none, z_isi_list_bool, z_isi_list_int, z_isi_list_str, z_isi_list_list, z_isi_list_tuple, z_isi_tuple_none, z_isi_tuple_bool, z_isi_tuple_int, z_isi_tuple_str, z_isi_tuple_list, z_isi_tuple_tuple, z_out_rt, z_out_nx, z_eqi, z_eqb, z_rng1, z_rng2, z_si_l, z_si_t, z_bind_nm, z_bind_tt, z_bind_tl, z_binds_n, z_binds_c, z_sl_l, z_sl_t, z_at0, z_at1, z_at2, z_at3, z_ixN0, z_intsn, z_intsc, z_boolsn, z_boolsc, y_e_isx, y_e_dct, y_e_lrg, y_e_mth, y_e_orv, y_callD, y_s_expC, y_s_retC, y_s_asgC, y_s_raise, y_s_tryE, y_s_forO, z_nox_dat, z_nox_own, z_nox_ref, z_nox_scr, z_nox_exc, z_nox_n, z_read_exo, z_arg_exo, z_hold_exo, z_exEnv, y_e_ixP, y_s_retP, z_sl_s, z_bin_ss, z_d_ints, z_ins, z_nins, y_i_sgn], .inr ⟨by simp only [↓reduceIte, Bool.not_true, Bool.not_false, decide_true, decide_false, wipeE, Bool.false_eq_true, y_e_c, y_e_v, y_e_g, y_e_never, y_e_bin, y_e_neg, y_e_tst, y_e_ite, y_e_tup, y_e_lst, y_e_box, y_e_ix, y_e_sl, y_e_rev, y_e_call, y_e_blt, y_e_isi, y_e_lc, y_es_nil, y_es_cons, y_o_no, y_o_yes, y_t_val, y_t_cmp, y_t_chn, y_t_isnt, y_t_isnf, z_nnr_dat, z_nnr_own, z_nnr_brw, z_nn_none, z_nn_bool, z_nn_int, z_nn_str, z_nn_list, z_nn_tuple, y_t_isb, y_t_and, y_t_or, y_t_not, y_h_last, y_h_link, y_al_one, y_al_cons, y_an_one, y_an_cons, y_c_no, y_c_yes, y_i_seq, y_i_rng, y_i_zip, y_i_enum, y_s_never, y_s_pass, y_s_asg, y_s_par, y_s_par3, y_s_setO, y_s_unp, y_s_setB, y_s_exp, y_s_app, y_s_ext, y_s_iff, y_s_whl, y_s_forr, y_s_ret, y_s_retv, y_s_frz, y_ss_nil, y_ss_cons, argsOf, views, caps, Option.map_some, Option.map_none, Option.bind_some, Option.bind_none, List.getElem?_cons_zero, List.getElem?_cons_succ, List.set_cons_zero, List.set_cons_succ, List.length_cons, List.length_nil, z_read_dat, z_read_ref, z_read_scr, z_read_own, z_view_own, z_view_brw, z_view_dat, z_cap_dat, z_cap_own, z_hold_dat, z_hold_ref, z_hold_scr, z_hold_own, z_arg_dat, z_arg_ref, z_arg_scr, z_arg_own, z_look_t, z_look_f, z_len_ref, z_len_scr, z_len_l, z_len_t, z_len_o, z_len_b, z_ix_ref, z_ix_scr, z_ix_l, z_ix_t, z_ix_o, z_ix_b, z_blt_len, z_blt_abs, z_blt_tup, z_blt_lst, z_blt_sum, z_blt_all, z_blt_any, z_blt_min, z_blt_max, z_blt_sorted, z_blt_repr, z_blt_str, z_blt_int, z_blt_divmod, z_d_abs, z_d_tupl, z_d_tupt, z_d_lstl, z_d_lstt, z_d_sum, z_d_all, z_d_any, z_d_minl, z_d_maxl, z_d_min, z_d_max, z_d_sorted, z_d_divmod, z_d_int, z_d_repr, z_d_str, z_d_strt, z_bin_i, z_bin_ll, z_bin_tt, z_bin_rep, z_add, z_sub, z_mul, z_fdiv, z_mod, z_eq, z_ne, z_lt, z_le, z_gt, z_ge, z_inl, z_int, z_ninl, z_nint, z_isi_int_none, z_isi_int_bool, z_isi_int_int, z_isi_int_str, z_isi_int_list, z_isi_int_tuple, z_isi_bool_none, z_isi_bool_bool, z_isi_bool_int, z_isi_bool_str, z_isi_bool_list, z_isi_bool_tuple, z_isi_str_none, z_isi_str_bool, z_isi_str_int, z_isi_str_str, z_isi_str_list, z_isi_str_tuple, z_isi_list_none, z_isi_list_bool, z_isi_list_int, z_isi_list_str, z_isi_list_list, z_isi_list_tuple, z_isi_tuple_none, z_isi_tuple_bool, z_isi_tuple_int, z_isi_tuple_str, z_isi_tuple_list, z_isi_tuple_tuple, z_out_rt, z_out_nx, z_eqi, z_eqb, z_rng1, z_rng2, z_si_l, z_si_t, z_bind_nm, z_bind_tt, z_bind_tl, z_binds_n, z_binds_c, z_sl_l, z_sl_t, z_at0, z_at1, z_at2, z_at3, z_ixN0, z_intsn, z_intsc, z_boolsn, z_boolsc, y_e_isx, y_e_dct, y_e_lrg, y_e_mth, y_e_orv, y_callD, y_s_expC, y_s_retC, y_s_asgC, y_s_raise, y_s_tryE, y_s_forO, z_nox_dat, z_nox_own, z_nox_ref, z_nox_scr, z_nox_exc, z_nox_n, z_read_exo, z_arg_exo, z_hold_exo, z_exEnv, y_e_ixP, y_s_retP, z_sl_s, z_bin_ss, z_d_ints, z_ins, z_nins, y_i_sgn], .dat (.bool true), .bool true, by simp only [↓reduceIte, Bool.not_true, Bool.not_false, decide_true, decide_false, wipeE, Bool.false_eq_true, y_e_c, y_e_v, y_e_g, y_e_never, y_e_bin, y_e_neg, y_e_tst, y_e_ite, y_e_tup, y_e_lst, y_e_box, y_e_ix, y_e_sl, y_e_rev, y_e_call, y_e_blt, y_e_isi, y_e_lc, y_es_nil, y_es_cons, y_o_no, y_o_yes, y_t_val, y_t_cmp, y_t_chn, y_t_isnt, y_t_isnf, z_nnr_dat, z_nnr_own, z_nnr_brw, z_nn_none, z_nn_bool, z_nn_int, z_nn_str, z_nn_list, z_nn_tuple, y_t_isb, y_t_and, y_t_or, y_t_not, y_h_last, y_h_link, y_al_one, y_al_cons, y_an_one, y_an_cons, y_c_no, y_c_yes, y_i_seq, y_i_rng, y_i_zip, y_i_enum, y_s_never, y_s_pass, y_s_asg, y_s_par, y_s_par3, y_s_setO, y_s_unp, y_s_setB, y_s_exp, y_s_app, y_s_ext, y_s_iff, y_s_whl, y_s_forr, y_s_ret, y_s_retv, y_s_frz, y_ss_nil, y_ss_cons, argsOf, views, caps, Option.map_some, Option.map_none, Option.bind_some, Option.bind_none, List.getElem?_cons_zero, List.getElem?_cons_succ, List.set_cons_zero, List.set_cons_succ, List.length_cons, List.length_nil, z_read_dat, z_read_ref, z_read_scr, z_read_own, z_view_own, z_view_brw, z_view_dat, z_cap_dat, z_cap_own, z_hold_dat, z_hold_ref, z_hold_scr, z_hold_own, z_arg_dat, z_arg_ref, z_arg_scr, z_arg_own, z_look_t, z_look_f, z_len_ref, z_len_scr, z_len_l, z_len_t, z_len_o, z_len_b, z_ix_ref, z_ix_scr, z_ix_l, z_ix_t, z_ix_o, z_ix_b, z_blt_len, z_blt_abs, z_blt_tup, z_blt_lst, z_blt_sum, z_blt_all, z_blt_any, z_blt_min, z_blt_max, z_blt_sorted, z_blt_repr, z_blt_str, z_blt_int, z_blt_divmod, z_d_abs, z_d_tupl, z_d_tupt, z_d_lstl, z_d_lstt, z_d_sum, z_d_all, z_d_any, z_d_minl, z_d_maxl, z_d_min, z_d_max, z_d_sorted, z_d_divmod, z_d_int, z_d_repr, z_d_str, z_d_strt, z_bin_i, z_bin_ll, z_bin_tt, z_bin_rep, z_add, z_sub, z_mul, z_fdiv, z_mod, z_eq, z_ne, z_lt, z_le, z_gt, z_ge, z_inl, z_int, z_ninl, z_nint, z_isi_int_none, z_isi_int_bool, z_isi_int_int, z_isi_int_str, z_isi_int_list, z_isi_int_tuple, z_isi_bool_none, z_isi_bool_bool, z_isi_bool_int, z_isi_bool_str, z_isi_bool_list, z_isi_bool_tuple, z_isi_str_none, z_isi_str_bool, z_isi_str_int, z_isi_str_str, z_isi_str_list, z_isi_str_tuple, z_isi_list_none, z_isi_list_bool, z_isi_list_int, z_isi_list_str, z_isi_list_list, z_isi_list_tuple, z_isi_tuple_none, z_isi_tuple_bool, z_isi_tuple_int, z_isi_tuple_str, z_isi_tuple_list, z_isi_tuple_tuple, z_out_rt, z_out_nx, z_eqi, z_eqb, z_rng1, z_rng2, z_si_l, z_si_t, z_bind_nm, z_bind_tt, z_bind_tl, z_binds_n, z_binds_c, z_sl_l, z_sl_t, z_at0, z_at1, z_at2, z_at3, z_ixN0, z_intsn, z_intsc, z_boolsn, z_boolsc, y_e_isx, y_e_dct, y_e_lrg, y_e_mth, y_e_orv, y_callD, y_s_expC, y_s_retC, y_s_asgC, y_s_raise, y_s_tryE, y_s_forO, z_nox_dat, z_nox_own, z_nox_ref, z_nox_scr, z_nox_exc, z_nox_n, z_read_exo, z_arg_exo, z_hold_exo, z_exEnv, y_e_ixP, y_s_retP, z_sl_s, z_bin_ss, z_d_ints, z_ins, z_nins, y_i_sgn, em], rfl, rfl⟩⟩) (by
          unfold signs
          rw [List.length_map]
          show (TL.tl (figs i)).length ≤ _
          rw [efs]
          exact Nat.le_trans (numL_len600 h) (by decide))
    have e2 := signs_bools (figs i) (fun c hc => TL.numL_digits _ c hc) (fun _ => some (.bool true)) (fun _ _ => rfl)
    rw [efs] at e2
    rw [e2] at this
    exact this
  have eb := bools_all (TL.numL i.natAbs)
  have ea : ((TL.numL i.natAbs).map fun _ => true).all id = true := by
    rw [List.all_eq_true]
    intro b hb
    obtain ⟨_, -, rfl⟩ := List.mem_map.mp hb
    rfl
  rw [c_number_in]
  by_cases hi : i < 0
  · have c1 := cut_first (i := i)
    rw [if_pos hi] at c1
    have c2 := cut_tail hi
    have d1 : ((⟨#[45]⟩ : Str) = Str.ofString "-") = True := eq_true (by decide +kernel)
    have hq' := hq none
    simp (decide := true) only [b_number_in, ↓reduceIte, Bool.not_true, Bool.not_false, decide_true, decide_false, wipeE, Bool.false_eq_true, y_e_c, y_e_v, y_e_g, y_e_never, y_e_bin, y_e_neg, y_e_tst, y_e_ite, y_e_tup, y_e_lst, y_e_box, y_e_ix, y_e_sl, y_e_rev, y_e_call, y_e_blt, y_e_isi, y_e_lc, y_es_nil, y_es_cons, y_o_no, y_o_yes, y_t_val, y_t_cmp, y_t_chn, y_t_isnt, y_t_isnf, z_nnr_dat, z_nnr_own, z_nnr_brw, z_nn_none, z_nn_bool, z_nn_int, z_nn_str, z_nn_list, z_nn_tuple, y_t_isb, y_t_and, y_t_or, y_t_not, y_h_last, y_h_link, y_al_one, y_al_cons, y_an_one, y_an_cons, y_c_no, y_c_yes, y_i_seq, y_i_rng, y_i_zip, y_i_enum, y_s_never, y_s_pass, y_s_asg, y_s_par, y_s_par3, y_s_setO, y_s_unp, y_s_setB, y_s_exp, y_s_app, y_s_ext, y_s_iff, y_s_whl, y_s_forr, y_s_ret, y_s_retv, y_s_frz, y_ss_nil, y_ss_cons, argsOf, views, caps, Option.map_some, Option.map_none, Option.bind_some, Option.bind_none, List.getElem?_cons_zero, List.getElem?_cons_succ, List.set_cons_zero, List.set_cons_succ, List.length_cons, List.length_nil, z_read_dat, z_read_ref, z_read_scr, z_read_own, z_view_own, z_view_brw, z_view_dat, z_cap_dat, z_cap_own, z_hold_dat, z_hold_ref, z_hold_scr, z_hold_own, z_arg_dat, z_arg_ref, z_arg_scr, z_arg_own, z_look_t, z_look_f, z_len_ref, z_len_scr, z_len_l, z_len_t, z_len_o, z_len_b, z_ix_ref, z_ix_scr, z_ix_l, z_ix_t, z_ix_o, z_ix_b, z_blt_len, z_blt_abs, z_blt_tup, z_blt_lst, z_blt_sum, z_blt_all, z_blt_any, z_blt_min, z_blt_max, z_blt_sorted, z_blt_repr, z_blt_str, z_blt_int, z_blt_divmod, z_d_abs, z_d_tupl, z_d_tupt, z_d_lstl, z_d_lstt, z_d_sum, z_d_all, z_d_any, z_d_minl, z_d_maxl, z_d_min, z_d_max, z_d_sorted, z_d_divmod, z_d_int, z_d_repr, z_d_str, z_d_strt, z_bin_i, z_bin_ll, z_bin_tt, z_bin_rep, z_add, z_sub, z_mul, z_fdiv, z_mod, z_eq, z_ne, z_lt, z_le, z_gt, z_ge, z_inl, z_int, z_ninl, z_nint, z_isi_int_none, z_isi_int_bool, z_isi_int_int, z_isi_int_str, z_isi_int_list, z_isi_int_tuple, z_isi_bool_none, z_isi_bool_bool, z_isi_bool_int, z_isi_bool_str, z_isi_bool_list, z_isi_bool_tuple, z_isi_str_none, z_isi_str_bool, z_isi_str_int, z_isi_str_str, z_isi_str_list, z_isi_str_tuple, z_isi_list_none, z_isi_list_bool, z_isi_list_int, z_isi_list_str, z_isi_list_list, z_isi_list_tuple, z_isi_tuple_none, z_isi_tuple_bool, z_isi_tuple_int, z_isi_tuple_str, z_isi_tuple_list, z_isi_tuple_tuple, z_out_rt, z_out_nx, z_eqi, z_eqb, z_rng1, z_rng2, z_si_l, z_si_t, z_bind_nm, z_bind_tt, z_bind_tl, z_binds_n, z_binds_c, z_sl_l, z_sl_t, z_at0, z_at1, z_at2, z_at3, z_ixN0, z_intsn, z_intsc, z_boolsn, z_boolsc, y_e_isx, y_e_dct, y_e_lrg, y_e_mth, y_e_orv, y_callD, y_s_expC, y_s_retC, y_s_asgC, y_s_raise, y_s_tryE, y_s_forO, z_nox_dat, z_nox_own, z_nox_ref, z_nox_scr, z_nox_exc, z_nox_n, z_read_exo, z_arg_exo, z_hold_exo, z_exEnv, y_e_ixP, y_s_retP, z_sl_s, z_bin_ss, z_d_ints, z_ins, z_nins, y_i_sgn, fl, c1, c2, d1, z_eqs, figne, hq', eb, ea, eI, es, eq1]
  · have c1 := cut_first (i := i)
    rw [if_neg hi] at c1
    have ef : numT i = figs i := TL.ext_tl (by rw [tl_numT, if_neg hi, efs])
    have d1 : ¬ ((⟨((TL.numL i.natAbs).take 1).toArray⟩ : Str) = Str.ofString "-") := fun e => by
      have e2 : (TL.numL i.natAbs).take 1 = [45] := (congrArg TL.tl e).trans (by decide +kernel)
      have hm : 45 ∈ TL.numL i.natAbs := List.mem_of_mem_take (i := 1) (by rw [e2]; exact List.mem_singleton.mpr rfl)
      have := TL.numL_digits _ 45 hm
      omega
    have hq' := hq none
    have fne : ¬ numT i = Str.ofString "" := by rw [ef]; exact figne
    rw [← ef] at hq'
    simp (decide := true) only [b_number_in, ↓reduceIte, Bool.not_true, Bool.not_false, decide_true, decide_false, wipeE, Bool.false_eq_true, y_e_c, y_e_v, y_e_g, y_e_never, y_e_bin, y_e_neg, y_e_tst, y_e_ite, y_e_tup, y_e_lst, y_e_box, y_e_ix, y_e_sl, y_e_rev, y_e_call, y_e_blt, y_e_isi, y_e_lc, y_es_nil, y_es_cons, y_o_no, y_o_yes, y_t_val, y_t_cmp, y_t_chn, y_t_isnt, y_t_isnf, z_nnr_dat, z_nnr_own, z_nnr_brw, z_nn_none, z_nn_bool, z_nn_int, z_nn_str, z_nn_list, z_nn_tuple, y_t_isb, y_t_and, y_t_or, y_t_not, y_h_last, y_h_link, y_al_one, y_al_cons, y_an_one, y_an_cons, y_c_no, y_c_yes, y_i_seq, y_i_rng, y_i_zip, y_i_enum, y_s_never, y_s_pass, y_s_asg, y_s_par, y_s_par3, y_s_setO, y_s_unp, y_s_setB, y_s_exp, y_s_app, y_s_ext, y_s_iff, y_s_whl, y_s_forr, y_s_ret, y_s_retv, y_s_frz, y_ss_nil, y_ss_cons, argsOf, views, caps, Option.map_some, Option.map_none, Option.bind_some, Option.bind_none, List.getElem?_cons_zero, List.getElem?_cons_succ, List.set_cons_zero, List.set_cons_succ, List.length_cons, List.length_nil, z_read_dat, z_read_ref, z_read_scr, z_read_own, z_view_own, z_view_brw, z_view_dat, z_cap_dat, z_cap_own, z_hold_dat, z_hold_ref, z_hold_scr, z_hold_own, z_arg_dat, z_arg_ref, z_arg_scr, z_arg_own, z_look_t, z_look_f, z_len_ref, z_len_scr, z_len_l, z_len_t, z_len_o, z_len_b, z_ix_ref, z_ix_scr, z_ix_l, z_ix_t, z_ix_o, z_ix_b, z_blt_len, z_blt_abs, z_blt_tup, z_blt_lst, z_blt_sum, z_blt_all, z_blt_any, z_blt_min, z_blt_max, z_blt_sorted, z_blt_repr, z_blt_str, z_blt_int, z_blt_divmod, z_d_abs, z_d_tupl, z_d_tupt, z_d_lstl, z_d_lstt, z_d_sum, z_d_all, z_d_any, z_d_minl, z_d_maxl, z_d_min, z_d_max, z_d_sorted, z_d_divmod, z_d_int, z_d_repr, z_d_str, z_d_strt, z_bin_i, z_bin_ll, z_bin_tt, z_bin_rep, z_add, z_sub, z_mul, z_fdiv, z_mod, z_eq, z_ne, z_lt, z_le, z_gt, z_ge, z_inl, z_int, z_ninl, z_nint, z_isi_int_none, z_isi_int_bool, z_isi_int_int, z_isi_int_str, z_isi_int_list, z_isi_int_tuple, z_isi_bool_none, z_isi_bool_bool, z_isi_bool_int, z_isi_bool_str, z_isi_bool_list, z_isi_bool_tuple, z_isi_str_none, z_isi_str_bool, z_isi_str_int, z_isi_str_str, z_isi_str_list, z_isi_str_tuple, z_isi_list_none, z_isi_list_bool, z_isi_list_int, z_isi_list_str, z_isi_list_list, z_isi_list_tuple, z_isi_tuple_none, z_isi_tuple_bool, z_isi_tuple_int, z_isi_tuple_str, z_isi_tuple_list, z_isi_tuple_tuple, z_out_rt, z_out_nx, z_eqi, z_eqb, z_rng1, z_rng2, z_si_l, z_si_t, z_bind_nm, z_bind_tt, z_bind_tl, z_binds_n, z_binds_c, z_sl_l, z_sl_t, z_at0, z_at1, z_at2, z_at3, z_ixN0, z_intsn, z_intsc, z_boolsn, z_boolsc, y_e_isx, y_e_dct, y_e_lrg, y_e_mth, y_e_orv, y_callD, y_s_expC, y_s_retC, y_s_asgC, y_s_raise, y_s_tryE, y_s_forO, z_nox_dat, z_nox_own, z_nox_ref, z_nox_scr, z_nox_exc, z_nox_n, z_read_exo, z_arg_exo, z_hold_exo, z_exEnv, y_e_ixP, y_s_retP, z_sl_s, z_bin_ss, z_d_ints, z_ins, z_nins, y_i_sgn, fl, c1, d1, z_eqs, fne, hq', eb, ea, eI, es, eq1]

/-! steps written and read -/
def rowT (r : List Int) : Str := Txt.join (Str.ofString ",") (r.map numT)
def matT (M : List (List Int)) : Str := Txt.join (Str.ofString " ") (M.map rowT)
theorem fm_some {α β : Type} {f : α → Option β} {a : α} {as : List α} {b : β} (h : f a = some b) : (a :: as).filterMap f = b :: as.filterMap f := by rw [List.filterMap_cons, h]
theorem strs_map : ∀ ys : List Str, strsOf (ys.map .str) = some ys
  | [] => rfl
  | y :: ys => by rw [List.map_cons, strsOf, strs_map ys]; rfl
theorem join_len (y : Str) (B : Nat) : ∀ ts : List Str, (∀ t ∈ ts, t.length ≤ B) → (Str.join y ts).length ≤ ts.length * (B + y.length)
  | [], _ => Nat.zero_le _
  | [t], h => by
    have := h t (by simp)
    show t.length ≤ 1 * (B + y.length)
    omega
  | t :: u :: r, h => by
    have h1 := h t (by simp)
    have ih := join_len y B (u :: r) fun v hv => h v (List.mem_cons_of_mem _ hv)
    show (t ++ y ++ Str.join y (u :: r)).length ≤ (r.length + 1 + 1) * (B + y.length)
    rw [strLen_append, strLen_append, Nat.add_mul (r.length + 1)]
    have e : (u :: r).length = r.length + 1 := rfl
    rw [e] at ih
    omega
theorem sum_le {B : Nat} : ∀ ts : List Str, (∀ t ∈ ts, t.length ≤ B) → (ts.map (·.length)).sum ≤ ts.length * B
  | [], _ => Nat.zero_le _
  | t :: r, h => by
    have h1 := h t (by simp)
    have ih := sum_le r fun v hv => h v (List.mem_cons_of_mem _ hv)
    rw [List.map_cons, List.sum_cons, List.length_cons, Nat.add_mul]
    omega
theorem mth_join {x : Str} {ys : List Str} {B : Nat} (hx : x.length ≤ 10) (hl : ys.length ≤ 3) (hB : B ≤ 100000) (h : ∀ y ∈ ys, y.length ≤ B) : mthD .join (.str x) (.list (ys.map .str)) = some (.dat (.str (Txt.join x ys))) := by
  show (strsOf (ys.map .str)).bind _ = _
  rw [strs_map, Option.bind_some]
  refine if_pos ?_
  have h1 := sum_le ys h
  have h2 : ys.length * B ≤ 3 * 100000 := Nat.mul_le_mul hl hB
  have h3 : ys.length * x.length ≤ 3 * 10 := Nat.mul_le_mul hl hx
  omega
theorem mth_split {x y : Str} (hy : (y.length == 0) = false) (hx : x.length ≤ 100000) : mthD .split (.str x) (.str y) = some (.own ((Txt.split x y).map .str)) := if_pos ⟨hy, Nat.le_trans (show x.length + 2 ≤ 100002 by omega) (by decide)⟩
theorem rowT_len {r : List Int} (hl : r.length ≤ 3) (h : ∀ i ∈ r, Bd 600 i) : (rowT r).length ≤ 3000 := by
  unfold rowT
  rw [TL.join_eq]
  have := join_len (Str.ofString ",") 601 (r.map numT) fun t ht => by
    obtain ⟨i, hi, rfl⟩ := List.mem_map.mp ht
    exact numT_len (h i hi)
  rw [List.length_map] at this
  have h1 : (Str.ofString ",").length = 1 := by decide +kernel
  rw [h1] at this
  have : r.length * (601 + 1) ≤ 3 * 602 := Nat.mul_le_mul_right _ hl
  omega
theorem matT_len {M : List (List Int)} (hl : M.length ≤ 3) (h : ∀ r ∈ M, r.length ≤ 3 ∧ ∀ i ∈ r, Bd 600 i) : (matT M).length ≤ 10000 := by
  unfold matT
  rw [TL.join_eq]
  have := join_len (Str.ofString " ") 3000 (M.map rowT) fun t ht => by
    obtain ⟨r, hr, rfl⟩ := List.mem_map.mp ht
    exact rowT_len (h r hr).1 (h r hr).2
  rw [List.length_map] at this
  have h1 : (Str.ofString " ").length = 1 := by decide +kernel
  rw [h1] at this
  have : M.length * (3000 + 1) ≤ 3 * 3001 := Nat.mul_le_mul_right _ hl
  omega
theorem split_row {r : List Int} (hne : r ≠ []) : Txt.split (rowT r) (Str.ofString ",") = r.map numT :=
  TL.split_join (s := 44) (S := []) (by decide +kernel) (by decide +kernel) (fun e => hne (List.map_eq_nil_iff.mp e)) fun p hp => by
    obtain ⟨i, -, rfl⟩ := List.mem_map.mp hp
    exact numT_free ⟨by decide, by decide⟩
theorem split_mat {M : List (List Int)} (hne : M ≠ []) : Txt.split (matT M) (Str.ofString " ") = M.map rowT :=
  TL.split_join (s := 32) (S := []) (by decide +kernel) (by decide +kernel) (fun e => hne (List.map_eq_nil_iff.mp e)) fun p hp => by
    obtain ⟨r, -, rfl⟩ := List.mem_map.mp hp
    unfold rowT
    rw [TL.join_eq]
    intro hm
    have hm : 32 ∈ (Str.join (Str.ofString ",") (r.map numT)).cps.toList := hm
    rw [PyProof.Rows.mem_join] at hm
    rcases hm with ⟨t, ht, hc⟩ | ⟨-, hc⟩
    · obtain ⟨i, -, rfl⟩ := List.mem_map.mp ht
      exact numT_free (i := i) ⟨by decide, by decide⟩ hc
    · exact absurd hc (by decide +kernel)
theorem Pt.all {B w : Nat} {r : List Int} (h : Pt B w r) : r.length = w ∧ r.length ≤ 3 ∧ r ≠ [] ∧ ∀ i ∈ r, Bd B i := by
  rcases h with ⟨rfl, a, b, rfl, h1, h2⟩ | ⟨rfl, a, b, c, rfl, h1, h2, h3⟩
  · refine ⟨rfl, (show 2 ≤ 3 by decide), by simp, fun i hi => ?_⟩
    simp only [List.mem_cons, List.not_mem_nil, or_false] at hi
    rcases hi with rfl | rfl <;> assumption
  · refine ⟨rfl, (show 3 ≤ 3 by decide), by simp, fun i hi => ?_⟩
    simp only [List.mem_cons, List.not_mem_nil, or_false] at hi
    rcases hi with rfl | rfl | rfl <;> assumption
theorem s_rowq (k : Nat) (r : List Int) (hl : r.length ≤ 3) (h : ∀ i ∈ r, Bd 600 i) (x0 x2 : Option R) (st : Bx) : Ex.den (callF tb k) q_show_1 [x0, some (.dat (vec r)), x2] st = some (.own ((r.map numT).map .str), st) := by
  have := den_lc (cf := callF tb k) (el := .blt .str (.cons (.v 2) .nil)) (tg := .nm 2) (it := .seq (.v 1)) (cd := .no) (ow := [2])
    (env := [x0, some (.dat (vec r)), x2]) (st := st) (st1 := st) (items := r.map .int) (by simp (decide := true) only [vec, ↓reduceIte, Bool.not_true, Bool.not_false, decide_true, decide_false, wipeE, Bool.false_eq_true, y_e_c, y_e_v, y_e_g, y_e_never, y_e_bin, y_e_neg, y_e_tst, y_e_ite, y_e_tup, y_e_lst, y_e_box, y_e_ix, y_e_sl, y_e_rev, y_e_call, y_e_blt, y_e_isi, y_e_lc, y_es_nil, y_es_cons, y_o_no, y_o_yes, y_t_val, y_t_cmp, y_t_chn, y_t_isnt, y_t_isnf, z_nnr_dat, z_nnr_own, z_nnr_brw, z_nn_none, z_nn_bool, z_nn_int, z_nn_str, z_nn_list, z_nn_tuple, y_t_isb, y_t_and, y_t_or, y_t_not, y_h_last, y_h_link, y_al_one, y_al_cons, y_an_one, y_an_cons, y_c_no, y_c_yes, y_i_seq, y_i_rng, y_i_zip, y_i_enum, y_s_never, y_s_pass, y_s_asg, y_s_par, y_s_par3, y_s_setO, y_s_unp, y_s_setB, y_s_exp, y_s_app, y_s_ext, y_s_iff, y_s_whl, y_s_forr, y_s_ret, y_s_retv, y_s_frz, y_ss_nil, y_ss_cons, argsOf, views, caps, Option.map_some, Option.map_none, Option.bind_some, Option.bind_none, List.getElem?_cons_zero, List.getElem?_cons_succ, List.set_cons_zero, List.set_cons_succ, List.length_cons, List.length_nil, z_read_dat, z_read_ref, z_read_scr, z_read_own, z_view_own, z_view_brw, z_view_dat, z_cap_dat, z_cap_own, z_hold_dat, z_hold_ref, z_hold_scr, z_hold_own, z_arg_dat, z_arg_ref, z_arg_scr, z_arg_own, z_look_t, z_look_f, z_len_ref, z_len_scr, z_len_l, z_len_t, z_len_o, z_len_b, z_ix_ref, z_ix_scr, z_ix_l, z_ix_t, z_ix_o, z_ix_b, z_blt_len, z_blt_abs, z_blt_tup, z_blt_lst, z_blt_sum, z_blt_all, z_blt_any, z_blt_min, z_blt_max, z_blt_sorted, z_blt_repr, z_blt_str, z_blt_int, z_blt_divmod, z_d_abs, z_d_tupl, z_d_tupt, z_d_lstl, z_d_lstt, z_d_sum, z_d_all, z_d_any, z_d_minl, z_d_maxl, z_d_min, z_d_max, z_d_sorted, z_d_divmod, z_d_int, z_d_repr, z_d_str, z_d_strt, z_bin_i, z_bin_ll, z_bin_tt, z_bin_rep, z_add, z_sub, z_mul, z_fdiv, z_mod, z_eq, z_ne, z_lt, z_le, z_gt, z_ge, z_inl, z_int, z_ninl, z_nint, z_isi_int_none, z_isi_int_bool, z_isi_int_int, z_isi_int_str, z_isi_int_list, z_isi_int_tuple, z_isi_bool_none, z_isi_bool_bool, z_isi_bool_int, z_isi_bool_str, z_isi_bool_list, z_isi_bool_tuple, z_isi_str_none, z_isi_str_bool, z_isi_str_int, z_isi_str_str, z_isi_str_list, z_isi_str_tuple, z_isi_list_none, z_isi_list_bool, z_isi_list_int, z_isi_list_str, z_isi_list_list, z_isi_list_tuple, z_isi_tuple_none, z_isi_tuple_bool, z_isi_tuple_int, z_isi_tuple_str, z_isi_tuple_list, z_isi_tuple_tuple, z_out_rt, z_out_nx, z_eqi, z_eqb, z_rng1, z_rng2, z_si_l, z_si_t, z_bind_nm, z_bind_tt, z_bind_tl, z_binds_n, z_binds_c, z_sl_l, z_sl_t, z_at0, z_at1, z_at2, z_at3, z_ixN0, z_intsn, z_intsc, z_boolsn, z_boolsc, y_e_isx, y_e_dct, y_e_lrg, y_e_mth, y_e_orv, y_callD, y_s_expC, y_s_retC, y_s_asgC, y_s_raise, y_s_tryE, y_s_forO, z_nox_dat, z_nox_own, z_nox_ref, z_nox_scr, z_nox_exc, z_nox_n, z_read_exo, z_arg_exo, z_hold_exo, z_exEnv, y_e_ixP, y_s_retP, z_sl_s, z_bin_ss, z_d_ints, z_ins, z_nins, y_i_sgn]) (fun d => match d with | .int i => some (.str (numT i)) | _ => none) (fun d hd => by
      obtain ⟨i, hi, rfl⟩ := List.mem_map.mp hd
      have lg : i.natAbs.log2 < 1920 := log2_lt_of (k := 1920) (by decide) (by have h' := (h i hi).mono (show 600 ≤ 1920 by decide); unfold Bd at h'; exact h')
      have es : bltD .str [.int i] = some (.dat (.str (numT i))) := if_pos lg
      exact ⟨[x0, some (.dat (vec r)), some (.dat (.int i))], by simp only [↓reduceIte, Bool.not_true, Bool.not_false, decide_true, decide_false, wipeE, Bool.false_eq_true, y_e_c, y_e_v, y_e_g, y_e_never, y_e_bin, y_e_neg, y_e_tst, y_e_ite, y_e_tup, y_e_lst, y_e_box, y_e_ix, y_e_sl, y_e_rev, y_e_call, y_e_blt, y_e_isi, y_e_lc, y_es_nil, y_es_cons, y_o_no, y_o_yes, y_t_val, y_t_cmp, y_t_chn, y_t_isnt, y_t_isnf, z_nnr_dat, z_nnr_own, z_nnr_brw, z_nn_none, z_nn_bool, z_nn_int, z_nn_str, z_nn_list, z_nn_tuple, y_t_isb, y_t_and, y_t_or, y_t_not, y_h_last, y_h_link, y_al_one, y_al_cons, y_an_one, y_an_cons, y_c_no, y_c_yes, y_i_seq, y_i_rng, y_i_zip, y_i_enum, y_s_never, y_s_pass, y_s_asg, y_s_par, y_s_par3, y_s_setO, y_s_unp, y_s_setB, y_s_exp, y_s_app, y_s_ext, y_s_iff, y_s_whl, y_s_forr, y_s_ret, y_s_retv, y_s_frz, y_ss_nil, y_ss_cons, argsOf, views, caps, Option.map_some, Option.map_none, Option.bind_some, Option.bind_none, List.getElem?_cons_zero, List.getElem?_cons_succ, List.set_cons_zero, List.set_cons_succ, List.length_cons, List.length_nil, z_read_dat, z_read_ref, z_read_scr, z_read_own, z_view_own, z_view_brw, z_view_dat, z_cap_dat, z_cap_own, z_hold_dat, z_hold_ref, z_hold_scr, z_hold_own, z_arg_dat, z_arg_ref, z_arg_scr, z_arg_own, z_look_t, z_look_f, z_len_ref, z_len_scr, z_len_l, z_len_t, z_len_o, z_len_b, z_ix_ref, z_ix_scr, z_ix_l, z_ix_t, z_ix_o, z_ix_b, z_blt_len, z_blt_abs, z_blt_tup, z_blt_lst, z_blt_sum, z_blt_all, z_blt_any, z_blt_min, z_blt_max, z_blt_sorted, z_blt_repr, z_blt_str, z_blt_int, z_blt_divmod, z_d_abs, z_d_tupl, z_d_tupt, z_d_lstl, z_d_lstt, z_d_sum, z_d_all, z_d_any, z_d_minl, z_d_maxl, z_d_min, z_d_max, z_d_sorted, z_d_divmod, z_d_int, z_d_repr, z_d_str, z_d_strt, z_bin_i, z_bin_ll, z_bin_tt, z_bin_rep, z_add, z_sub, z_mul, z_fdiv, z_mod, z_eq, z_ne, z_lt, z_le, z_gt, z_ge, z_inl, z_int, z_ninl, z_nint, z_isi_int_none, z_isi_int_bool, z_isi_int_int, z_isi_int_str, z_isi_int_list, z_isi_int_tuple, z_isi_bool_none, z_isi_bool_bool, z_isi_bool_int, z_isi_bool_str, z_isi_bool_list, z_isi_bool_tuple, z_isi_str_none, z_isi_str_bool, z_isi_str_int, z_isi_str_str, z_isi_str_list, z_isi_str_tuple, z_isi_list_none, z_isi_list_bool, z_isi_list_int, z_isi_list_str, z_isi_list_list, z_isi_list_tuple, z_isi_tuple_none, z_isi_tuple_bool, z_isi_tuple_int, z_isi_tuple_str, z_isi_tuple_list, z_isi_tuple_tuple, z_out_rt, z_out_nx, z_eqi, z_eqb, z_rng1, z_rng2, z_si_l, z_si_t, z_bind_nm, z_bind_tt, z_bind_tl, z_binds_n, z_binds_c, z_sl_l, z_sl_t, z_at0, z_at1, z_at2, z_at3, z_ixN0, z_intsn, z_intsc, z_boolsn, z_boolsc, y_e_isx, y_e_dct, y_e_lrg, y_e_mth, y_e_orv, y_callD, y_s_expC, y_s_retC, y_s_asgC, y_s_raise, y_s_tryE, y_s_forO, z_nox_dat, z_nox_own, z_nox_ref, z_nox_scr, z_nox_exc, z_nox_n, z_read_exo, z_arg_exo, z_hold_exo, z_exEnv, y_e_ixP, y_s_retP, z_sl_s, z_bin_ss, z_d_ints, z_ins, z_nins, y_i_sgn], .inr ⟨by simp only [↓reduceIte, Bool.not_true, Bool.not_false, decide_true, decide_false, wipeE, Bool.false_eq_true, y_e_c, y_e_v, y_e_g, y_e_never, y_e_bin, y_e_neg, y_e_tst, y_e_ite, y_e_tup, y_e_lst, y_e_box, y_e_ix, y_e_sl, y_e_rev, y_e_call, y_e_blt, y_e_isi, y_e_lc, y_es_nil, y_es_cons, y_o_no, y_o_yes, y_t_val, y_t_cmp, y_t_chn, y_t_isnt, y_t_isnf, z_nnr_dat, z_nnr_own, z_nnr_brw, z_nn_none, z_nn_bool, z_nn_int, z_nn_str, z_nn_list, z_nn_tuple, y_t_isb, y_t_and, y_t_or, y_t_not, y_h_last, y_h_link, y_al_one, y_al_cons, y_an_one, y_an_cons, y_c_no, y_c_yes, y_i_seq, y_i_rng, y_i_zip, y_i_enum, y_s_never, y_s_pass, y_s_asg, y_s_par, y_s_par3, y_s_setO, y_s_unp, y_s_setB, y_s_exp, y_s_app, y_s_ext, y_s_iff, y_s_whl, y_s_forr, y_s_ret, y_s_retv, y_s_frz, y_ss_nil, y_ss_cons, argsOf, views, caps, Option.map_some, Option.map_none, Option.bind_some, Option.bind_none, List.getElem?_cons_zero, List.getElem?_cons_succ, List.set_cons_zero, List.set_cons_succ, List.length_cons, List.length_nil, z_read_dat, z_read_ref, z_read_scr, z_read_own, z_view_own, z_view_brw, z_view_dat, z_cap_dat, z_cap_own, z_hold_dat, z_hold_ref, z_hold_scr, z_hold_own, z_arg_dat, z_arg_ref, z_arg_scr, z_arg_own, z_look_t, z_look_f, z_len_ref, z_len_scr, z_len_l, z_len_t, z_len_o, z_len_b, z_ix_ref, z_ix_scr, z_ix_l, z_ix_t, z_ix_o, z_ix_b, z_blt_len, z_blt_abs, z_blt_tup, z_blt_lst, z_blt_sum, z_blt_all, z_blt_any, z_blt_min, z_blt_max, z_blt_sorted, z_blt_repr, z_blt_str, z_blt_int, z_blt_divmod, z_d_abs, z_d_tupl, z_d_tupt, z_d_lstl, z_d_lstt, z_d_sum, z_d_all, z_d_any, z_d_minl, z_d_maxl, z_d_min, z_d_max, z_d_sorted, z_d_divmod, z_d_int, z_d_repr, z_d_str, z_d_strt, z_bin_i, z_bin_ll, z_bin_tt, z_bin_rep, z_add, z_sub, z_mul, z_fdiv, z_mod, z_eq, z_ne, z_lt, z_le, z_gt, z_ge, z_inl, z_int, z_ninl, z_nint, z_isi_int_none, z_isi_int_bool, z_isi_int_int, z_isi_int_str, z_isi_int_list, z_isi_int_tuple, z_isi_bool_none, z_isi_bool_bool, z_isi_bool_int, z_isi_bool_str, z_isi_bool_list, z_isi_bool_tuple, z_isi_str_none, z_isi_str_bool, z_isi_str_int, z_isi_str_str, z_isi_str_list, z_isi_str_tuple, z_isi_list_none, z_isi_list_bool, z_isi_list_int, z_isi_list_str, z_isi_list_list, z_isi_list_tuple, z_isi_tuple_none, z_isi_tuple_bool, z_isi_tuple_int, z_isi_tuple_str, z_isi_tuple_list, z_isi_tuple_tuple, z_out_rt, z_out_nx, z_eqi, z_eqb, z_rng1, z_rng2, z_si_l, z_si_t, z_bind_nm, z_bind_tt, z_bind_tl, z_binds_n, z_binds_c, z_sl_l, z_sl_t, z_at0, z_at1, z_at2, z_at3, z_ixN0, z_intsn, z_intsc, z_boolsn, z_boolsc, y_e_isx, y_e_dct, y_e_lrg, y_e_mth, y_e_orv, y_callD, y_s_expC, y_s_retC, y_s_asgC, y_s_raise, y_s_tryE, y_s_forO, z_nox_dat, z_nox_own, z_nox_ref, z_nox_scr, z_nox_exc, z_nox_n, z_read_exo, z_arg_exo, z_hold_exo, z_exEnv, y_e_ixP, y_s_retP, z_sl_s, z_bin_ss, z_d_ints, z_ins, z_nins, y_i_sgn], .dat (.str (numT i)), .str (numT i), by simp only [↓reduceIte, Bool.not_true, Bool.not_false, decide_true, decide_false, wipeE, Bool.false_eq_true, y_e_c, y_e_v, y_e_g, y_e_never, y_e_bin, y_e_neg, y_e_tst, y_e_ite, y_e_tup, y_e_lst, y_e_box, y_e_ix, y_e_sl, y_e_rev, y_e_call, y_e_blt, y_e_isi, y_e_lc, y_es_nil, y_es_cons, y_o_no, y_o_yes, y_t_val, y_t_cmp, y_t_chn, y_t_isnt, y_t_isnf, z_nnr_dat, z_nnr_own, z_nnr_brw, z_nn_none, z_nn_bool, z_nn_int, z_nn_str, z_nn_list, z_nn_tuple, y_t_isb, y_t_and, y_t_or, y_t_not, y_h_last, y_h_link, y_al_one, y_al_cons, y_an_one, y_an_cons, y_c_no, y_c_yes, y_i_seq, y_i_rng, y_i_zip, y_i_enum, y_s_never, y_s_pass, y_s_asg, y_s_par, y_s_par3, y_s_setO, y_s_unp, y_s_setB, y_s_exp, y_s_app, y_s_ext, y_s_iff, y_s_whl, y_s_forr, y_s_ret, y_s_retv, y_s_frz, y_ss_nil, y_ss_cons, argsOf, views, caps, Option.map_some, Option.map_none, Option.bind_some, Option.bind_none, List.getElem?_cons_zero, List.getElem?_cons_succ, List.set_cons_zero, List.set_cons_succ, List.length_cons, List.length_nil, z_read_dat, z_read_ref, z_read_scr, z_read_own, z_view_own, z_view_brw, z_view_dat, z_cap_dat, z_cap_own, z_hold_dat, z_hold_ref, z_hold_scr, z_hold_own, z_arg_dat, z_arg_ref, z_arg_scr, z_arg_own, z_look_t, z_look_f, z_len_ref, z_len_scr, z_len_l, z_len_t, z_len_o, z_len_b, z_ix_ref, z_ix_scr, z_ix_l, z_ix_t, z_ix_o, z_ix_b, z_blt_len, z_blt_abs, z_blt_tup, z_blt_lst, z_blt_sum, z_blt_all, z_blt_any, z_blt_min, z_blt_max, z_blt_sorted, z_blt_repr, z_blt_str, z_blt_int, z_blt_divmod, z_d_abs, z_d_tupl, z_d_tupt, z_d_lstl, z_d_lstt, z_d_sum, z_d_all, z_d_any, z_d_minl, z_d_maxl, z_d_min, z_d_max, z_d_sorted, z_d_divmod, z_d_int, z_d_repr, z_d_str, z_d_strt, z_bin_i, z_bin_ll, z_bin_tt, z_bin_rep, z_add, z_sub, z_mul, z_fdiv, z_mod, z_eq, z_ne, z_lt, z_le, z_gt, z_ge, z_inl, z_int, z_ninl, z_nint, z_isi_int_none, z_isi_int_bool, z_isi_int_int, z_isi_int_str, z_isi_int_list, z_isi_int_tuple, z_isi_bool_none, z_isi_bool_bool, z_isi_bool_int, z_isi_bool_str, z_isi_bool_list, z_isi_bool_tuple, z_isi_str_none, z_isi_str_bool, z_isi_str_int, z_isi_str_str, z_isi_str_list, z_isi_str_tuple, z_isi_list_none, z_isi_list_bool, z_isi_list_int, z_isi_list_str, z_isi_list_list, z_isi_list_tuple, z_isi_tuple_none, z_isi_tuple_bool, z_isi_tuple_int, z_isi_tuple_str, z_isi_tuple_list, z_isi_tuple_tuple, z_out_rt, z_out_nx, z_eqi, z_eqb, z_rng1, z_rng2, z_si_l, z_si_t, z_bind_nm, z_bind_tt, z_bind_tl, z_binds_n, z_binds_c, z_sl_l, z_sl_t, z_at0, z_at1, z_at2, z_at3, z_ixN0, z_intsn, z_intsc, z_boolsn, z_boolsc, y_e_isx, y_e_dct, y_e_lrg, y_e_mth, y_e_orv, y_callD, y_s_expC, y_s_retC, y_s_asgC, y_s_raise, y_s_tryE, y_s_forO, z_nox_dat, z_nox_own, z_nox_ref, z_nox_scr, z_nox_exc, z_nox_n, z_read_exo, z_arg_exo, z_hold_exo, z_exEnv, y_e_ixP, y_s_retP, z_sl_s, z_bin_ss, z_d_ints, z_ins, z_nins, y_i_sgn, es], rfl, rfl⟩⟩) (by rw [List.length_map]; exact Nat.le_trans hl (by decide))
  rw [List.filterMap_map] at this
  have e : r.filterMap ((fun d => match d with | .int i => some (.str (numT i)) | _ => (none : Option PyData)) ∘ PyData.int) = (r.map numT).map .str := by
    rw [List.map_map]
    exact List.filterMap_eq_map'.symm ▸ rfl
  rw [e] at this
  exact this
theorem Sq.rows {B : Nat} {M : List (List Int)} (h : Sq B M) : M.length ≤ 3 ∧ M ≠ [] ∧ ∀ r ∈ M, r.length ≤ 3 ∧ r ≠ [] ∧ ∀ i ∈ r, Bd B i := by
  refine ⟨by rcases h.len with e | e <;> omega, fun e => ?_, fun r hr => ?_⟩
  · rw [e] at h
    rcases h.len with e | e <;> cases e
  · obtain ⟨-, h1, h2, h3⟩ := (h.row hr).all
    exact ⟨h1, h2, h3⟩
theorem g_show (k : Nat) (M : List (List Int)) (st : Bx) (h : Sq 600 M) (hd : det M ≠ 0) : callF tb (k + 6) "show" [.dat (mat M)] st = some (.dat (.str (matT M)), st) := by
  obtain ⟨hl, hne, hr⟩ := h.rows
  have e1 := g_need_steps k M st (h.mono (by decide)) hd
  have hq : Ex.den (callF tb (k + 5)) q_show_2 [some (.dat (mat M)), none, none] st = some (.own ((M.map rowT).map .str), st) := by
    have := den_lc (cf := callF tb (k + 5)) (el := .mth .join (.c (.str (Str.ofString ","))) q_show_1) (tg := .nm 1) (it := .seq (.v 0)) (cd := .no) (ow := [1])
      (env := [some (.dat (mat M)), none, none]) (st := st) (st1 := st) (items := M.map vec) (by simp (decide := true) only [mat, ↓reduceIte, Bool.not_true, Bool.not_false, decide_true, decide_false, wipeE, Bool.false_eq_true, y_e_c, y_e_v, y_e_g, y_e_never, y_e_bin, y_e_neg, y_e_tst, y_e_ite, y_e_tup, y_e_lst, y_e_box, y_e_ix, y_e_sl, y_e_rev, y_e_call, y_e_blt, y_e_isi, y_e_lc, y_es_nil, y_es_cons, y_o_no, y_o_yes, y_t_val, y_t_cmp, y_t_chn, y_t_isnt, y_t_isnf, z_nnr_dat, z_nnr_own, z_nnr_brw, z_nn_none, z_nn_bool, z_nn_int, z_nn_str, z_nn_list, z_nn_tuple, y_t_isb, y_t_and, y_t_or, y_t_not, y_h_last, y_h_link, y_al_one, y_al_cons, y_an_one, y_an_cons, y_c_no, y_c_yes, y_i_seq, y_i_rng, y_i_zip, y_i_enum, y_s_never, y_s_pass, y_s_asg, y_s_par, y_s_par3, y_s_setO, y_s_unp, y_s_setB, y_s_exp, y_s_app, y_s_ext, y_s_iff, y_s_whl, y_s_forr, y_s_ret, y_s_retv, y_s_frz, y_ss_nil, y_ss_cons, argsOf, views, caps, Option.map_some, Option.map_none, Option.bind_some, Option.bind_none, List.getElem?_cons_zero, List.getElem?_cons_succ, List.set_cons_zero, List.set_cons_succ, List.length_cons, List.length_nil, z_read_dat, z_read_ref, z_read_scr, z_read_own, z_view_own, z_view_brw, z_view_dat, z_cap_dat, z_cap_own, z_hold_dat, z_hold_ref, z_hold_scr, z_hold_own, z_arg_dat, z_arg_ref, z_arg_scr, z_arg_own, z_look_t, z_look_f, z_len_ref, z_len_scr, z_len_l, z_len_t, z_len_o, z_len_b, z_ix_ref, z_ix_scr, z_ix_l, z_ix_t, z_ix_o, z_ix_b, z_blt_len, z_blt_abs, z_blt_tup, z_blt_lst, z_blt_sum, z_blt_all, z_blt_any, z_blt_min, z_blt_max, z_blt_sorted, z_blt_repr, z_blt_str, z_blt_int, z_blt_divmod, z_d_abs, z_d_tupl, z_d_tupt, z_d_lstl, z_d_lstt, z_d_sum, z_d_all, z_d_any, z_d_minl, z_d_maxl, z_d_min, z_d_max, z_d_sorted, z_d_divmod, z_d_int, z_d_repr, z_d_str, z_d_strt, z_bin_i, z_bin_ll, z_bin_tt, z_bin_rep, z_add, z_sub, z_mul, z_fdiv, z_mod, z_eq, z_ne, z_lt, z_le, z_gt, z_ge, z_inl, z_int, z_ninl, z_nint, z_isi_int_none, z_isi_int_bool, z_isi_int_int, z_isi_int_str, z_isi_int_list, z_isi_int_tuple, z_isi_bool_none, z_isi_bool_bool, z_isi_bool_int, z_isi_bool_str, z_isi_bool_list, z_isi_bool_tuple, z_isi_str_none, z_isi_str_bool, z_isi_str_int, z_isi_str_str, z_isi_str_list, z_isi_str_tuple, z_isi_list_none, z_isi_list_bool, z_isi_list_int, z_isi_list_str, z_isi_list_list, z_isi_list_tuple, z_isi_tuple_none, z_isi_tuple_bool, z_isi_tuple_int, z_isi_tuple_str, z_isi_tuple_list, z_isi_tuple_tuple, z_out_rt, z_out_nx, z_eqi, z_eqb, z_rng1, z_rng2, z_si_l, z_si_t, z_bind_nm, z_bind_tt, z_bind_tl, z_binds_n, z_binds_c, z_sl_l, z_sl_t, z_at0, z_at1, z_at2, z_at3, z_ixN0, z_intsn, z_intsc, z_boolsn, z_boolsc, y_e_isx, y_e_dct, y_e_lrg, y_e_mth, y_e_orv, y_callD, y_s_expC, y_s_retC, y_s_asgC, y_s_raise, y_s_tryE, y_s_forO, z_nox_dat, z_nox_own, z_nox_ref, z_nox_scr, z_nox_exc, z_nox_n, z_read_exo, z_arg_exo, z_hold_exo, z_exEnv, y_e_ixP, y_s_retP, z_sl_s, z_bin_ss, z_d_ints, z_ins, z_nins, y_i_sgn]) (fun d => some (.str (rowT (unvec d)))) (fun d hd => by
        obtain ⟨r, hm, rfl⟩ := List.mem_map.mp hd
        have e2 := s_rowq (k + 5) r (hr r hm).1 (hr r hm).2.2 (some (.dat (mat M))) none st
        have e3 := mth_join (x := Str.ofString ",") (ys := r.map numT) (B := 601) (by decide +kernel) (by rw [List.length_map]; exact (hr r hm).1) (by decide) (fun y hy => by
          obtain ⟨i, hi, rfl⟩ := List.mem_map.mp hy
          exact numT_len ((hr r hm).2.2 i hi))
        have e3' : mthD .join (.str (Str.ofString ",")) (.list ((r.map numT).map .str)) = some (.dat (.str (rowT r))) := e3
        exact ⟨[some (.dat (mat M)), some (.dat (vec r)), none], by simp only [↓reduceIte, Bool.not_true, Bool.not_false, decide_true, decide_false, wipeE, Bool.false_eq_true, y_e_c, y_e_v, y_e_g, y_e_never, y_e_bin, y_e_neg, y_e_tst, y_e_ite, y_e_tup, y_e_lst, y_e_box, y_e_ix, y_e_sl, y_e_rev, y_e_call, y_e_blt, y_e_isi, y_e_lc, y_es_nil, y_es_cons, y_o_no, y_o_yes, y_t_val, y_t_cmp, y_t_chn, y_t_isnt, y_t_isnf, z_nnr_dat, z_nnr_own, z_nnr_brw, z_nn_none, z_nn_bool, z_nn_int, z_nn_str, z_nn_list, z_nn_tuple, y_t_isb, y_t_and, y_t_or, y_t_not, y_h_last, y_h_link, y_al_one, y_al_cons, y_an_one, y_an_cons, y_c_no, y_c_yes, y_i_seq, y_i_rng, y_i_zip, y_i_enum, y_s_never, y_s_pass, y_s_asg, y_s_par, y_s_par3, y_s_setO, y_s_unp, y_s_setB, y_s_exp, y_s_app, y_s_ext, y_s_iff, y_s_whl, y_s_forr, y_s_ret, y_s_retv, y_s_frz, y_ss_nil, y_ss_cons, argsOf, views, caps, Option.map_some, Option.map_none, Option.bind_some, Option.bind_none, List.getElem?_cons_zero, List.getElem?_cons_succ, List.set_cons_zero, List.set_cons_succ, List.length_cons, List.length_nil, z_read_dat, z_read_ref, z_read_scr, z_read_own, z_view_own, z_view_brw, z_view_dat, z_cap_dat, z_cap_own, z_hold_dat, z_hold_ref, z_hold_scr, z_hold_own, z_arg_dat, z_arg_ref, z_arg_scr, z_arg_own, z_look_t, z_look_f, z_len_ref, z_len_scr, z_len_l, z_len_t, z_len_o, z_len_b, z_ix_ref, z_ix_scr, z_ix_l, z_ix_t, z_ix_o, z_ix_b, z_blt_len, z_blt_abs, z_blt_tup, z_blt_lst, z_blt_sum, z_blt_all, z_blt_any, z_blt_min, z_blt_max, z_blt_sorted, z_blt_repr, z_blt_str, z_blt_int, z_blt_divmod, z_d_abs, z_d_tupl, z_d_tupt, z_d_lstl, z_d_lstt, z_d_sum, z_d_all, z_d_any, z_d_minl, z_d_maxl, z_d_min, z_d_max, z_d_sorted, z_d_divmod, z_d_int, z_d_repr, z_d_str, z_d_strt, z_bin_i, z_bin_ll, z_bin_tt, z_bin_rep, z_add, z_sub, z_mul, z_fdiv, z_mod, z_eq, z_ne, z_lt, z_le, z_gt, z_ge, z_inl, z_int, z_ninl, z_nint, z_isi_int_none, z_isi_int_bool, z_isi_int_int, z_isi_int_str, z_isi_int_list, z_isi_int_tuple, z_isi_bool_none, z_isi_bool_bool, z_isi_bool_int, z_isi_bool_str, z_isi_bool_list, z_isi_bool_tuple, z_isi_str_none, z_isi_str_bool, z_isi_str_int, z_isi_str_str, z_isi_str_list, z_isi_str_tuple, z_isi_list_none, z_isi_list_bool, z_isi_list_int, z_isi_list_str, z_isi_list_list, z_isi_list_tuple, z_isi_tuple_none, z_isi_tuple_bool, z_isi_tuple_int, z_isi_tuple_str, z_isi_tuple_list, z_isi_tuple_tuple, z_out_rt, z_out_nx, z_eqi, z_eqb, z_rng1, z_rng2, z_si_l, z_si_t, z_bind_nm, z_bind_tt, z_bind_tl, z_binds_n, z_binds_c, z_sl_l, z_sl_t, z_at0, z_at1, z_at2, z_at3, z_ixN0, z_intsn, z_intsc, z_boolsn, z_boolsc, y_e_isx, y_e_dct, y_e_lrg, y_e_mth, y_e_orv, y_callD, y_s_expC, y_s_retC, y_s_asgC, y_s_raise, y_s_tryE, y_s_forO, z_nox_dat, z_nox_own, z_nox_ref, z_nox_scr, z_nox_exc, z_nox_n, z_read_exo, z_arg_exo, z_hold_exo, z_exEnv, y_e_ixP, y_s_retP, z_sl_s, z_bin_ss, z_d_ints, z_ins, z_nins, y_i_sgn], .inr ⟨by simp only [↓reduceIte, Bool.not_true, Bool.not_false, decide_true, decide_false, wipeE, Bool.false_eq_true, y_e_c, y_e_v, y_e_g, y_e_never, y_e_bin, y_e_neg, y_e_tst, y_e_ite, y_e_tup, y_e_lst, y_e_box, y_e_ix, y_e_sl, y_e_rev, y_e_call, y_e_blt, y_e_isi, y_e_lc, y_es_nil, y_es_cons, y_o_no, y_o_yes, y_t_val, y_t_cmp, y_t_chn, y_t_isnt, y_t_isnf, z_nnr_dat, z_nnr_own, z_nnr_brw, z_nn_none, z_nn_bool, z_nn_int, z_nn_str, z_nn_list, z_nn_tuple, y_t_isb, y_t_and, y_t_or, y_t_not, y_h_last, y_h_link, y_al_one, y_al_cons, y_an_one, y_an_cons, y_c_no, y_c_yes, y_i_seq, y_i_rng, y_i_zip, y_i_enum, y_s_never, y_s_pass, y_s_asg, y_s_par, y_s_par3, y_s_setO, y_s_unp, y_s_setB, y_s_exp, y_s_app, y_s_ext, y_s_iff, y_s_whl, y_s_forr, y_s_ret, y_s_retv, y_s_frz, y_ss_nil, y_ss_cons, argsOf, views, caps, Option.map_some, Option.map_none, Option.bind_some, Option.bind_none, List.getElem?_cons_zero, List.getElem?_cons_succ, List.set_cons_zero, List.set_cons_succ, List.length_cons, List.length_nil, z_read_dat, z_read_ref, z_read_scr, z_read_own, z_view_own, z_view_brw, z_view_dat, z_cap_dat, z_cap_own, z_hold_dat, z_hold_ref, z_hold_scr, z_hold_own, z_arg_dat, z_arg_ref, z_arg_scr, z_arg_own, z_look_t, z_look_f, z_len_ref, z_len_scr, z_len_l, z_len_t, z_len_o, z_len_b, z_ix_ref, z_ix_scr, z_ix_l, z_ix_t, z_ix_o, z_ix_b, z_blt_len, z_blt_abs, z_blt_tup, z_blt_lst, z_blt_sum, z_blt_all, z_blt_any, z_blt_min, z_blt_max, z_blt_sorted, z_blt_repr, z_blt_str, z_blt_int, z_blt_divmod, z_d_abs, z_d_tupl, z_d_tupt, z_d_lstl, z_d_lstt, z_d_sum, z_d_all, z_d_any, z_d_minl, z_d_maxl, z_d_min, z_d_max, z_d_sorted, z_d_divmod, z_d_int, z_d_repr, z_d_str, z_d_strt, z_bin_i, z_bin_ll, z_bin_tt, z_bin_rep, z_add, z_sub, z_mul, z_fdiv, z_mod, z_eq, z_ne, z_lt, z_le, z_gt, z_ge, z_inl, z_int, z_ninl, z_nint, z_isi_int_none, z_isi_int_bool, z_isi_int_int, z_isi_int_str, z_isi_int_list, z_isi_int_tuple, z_isi_bool_none, z_isi_bool_bool, z_isi_bool_int, z_isi_bool_str, z_isi_bool_list, z_isi_bool_tuple, z_isi_str_none, z_isi_str_bool, z_isi_str_int, z_isi_str_str, z_isi_str_list, z_isi_str_tuple, z_isi_list_none, z_isi_list_bool, z_isi_list_int, z_isi_list_str, z_isi_list_list, z_isi_list_tuple, z_isi_tuple_none, z_isi_tuple_bool, z_isi_tuple_int, z_isi_tuple_str, z_isi_tuple_list, z_isi_tuple_tuple, z_out_rt, z_out_nx, z_eqi, z_eqb, z_rng1, z_rng2, z_si_l, z_si_t, z_bind_nm, z_bind_tt, z_bind_tl, z_binds_n, z_binds_c, z_sl_l, z_sl_t, z_at0, z_at1, z_at2, z_at3, z_ixN0, z_intsn, z_intsc, z_boolsn, z_boolsc, y_e_isx, y_e_dct, y_e_lrg, y_e_mth, y_e_orv, y_callD, y_s_expC, y_s_retC, y_s_asgC, y_s_raise, y_s_tryE, y_s_forO, z_nox_dat, z_nox_own, z_nox_ref, z_nox_scr, z_nox_exc, z_nox_n, z_read_exo, z_arg_exo, z_hold_exo, z_exEnv, y_e_ixP, y_s_retP, z_sl_s, z_bin_ss, z_d_ints, z_ins, z_nins, y_i_sgn], .dat (.str (rowT r)), .str (rowT r), by simp (decide := true) only [↓reduceIte, Bool.not_true, Bool.not_false, decide_true, decide_false, wipeE, Bool.false_eq_true, y_e_c, y_e_v, y_e_g, y_e_never, y_e_bin, y_e_neg, y_e_tst, y_e_ite, y_e_tup, y_e_lst, y_e_box, y_e_ix, y_e_sl, y_e_rev, y_e_call, y_e_blt, y_e_isi, y_e_lc, y_es_nil, y_es_cons, y_o_no, y_o_yes, y_t_val, y_t_cmp, y_t_chn, y_t_isnt, y_t_isnf, z_nnr_dat, z_nnr_own, z_nnr_brw, z_nn_none, z_nn_bool, z_nn_int, z_nn_str, z_nn_list, z_nn_tuple, y_t_isb, y_t_and, y_t_or, y_t_not, y_h_last, y_h_link, y_al_one, y_al_cons, y_an_one, y_an_cons, y_c_no, y_c_yes, y_i_seq, y_i_rng, y_i_zip, y_i_enum, y_s_never, y_s_pass, y_s_asg, y_s_par, y_s_par3, y_s_setO, y_s_unp, y_s_setB, y_s_exp, y_s_app, y_s_ext, y_s_iff, y_s_whl, y_s_forr, y_s_ret, y_s_retv, y_s_frz, y_ss_nil, y_ss_cons, argsOf, views, caps, Option.map_some, Option.map_none, Option.bind_some, Option.bind_none, List.getElem?_cons_zero, List.getElem?_cons_succ, List.set_cons_zero, List.set_cons_succ, List.length_cons, List.length_nil, z_read_dat, z_read_ref, z_read_scr, z_read_own, z_view_own, z_view_brw, z_view_dat, z_cap_dat, z_cap_own, z_hold_dat, z_hold_ref, z_hold_scr, z_hold_own, z_arg_dat, z_arg_ref, z_arg_scr, z_arg_own, z_look_t, z_look_f, z_len_ref, z_len_scr, z_len_l, z_len_t, z_len_o, z_len_b, z_ix_ref, z_ix_scr, z_ix_l, z_ix_t, z_ix_o, z_ix_b, z_blt_len, z_blt_abs, z_blt_tup, z_blt_lst, z_blt_sum, z_blt_all, z_blt_any, z_blt_min, z_blt_max, z_blt_sorted, z_blt_repr, z_blt_str, z_blt_int, z_blt_divmod, z_d_abs, z_d_tupl, z_d_tupt, z_d_lstl, z_d_lstt, z_d_sum, z_d_all, z_d_any, z_d_minl, z_d_maxl, z_d_min, z_d_max, z_d_sorted, z_d_divmod, z_d_int, z_d_repr, z_d_str, z_d_strt, z_bin_i, z_bin_ll, z_bin_tt, z_bin_rep, z_add, z_sub, z_mul, z_fdiv, z_mod, z_eq, z_ne, z_lt, z_le, z_gt, z_ge, z_inl, z_int, z_ninl, z_nint, z_isi_int_none, z_isi_int_bool, z_isi_int_int, z_isi_int_str, z_isi_int_list, z_isi_int_tuple, z_isi_bool_none, z_isi_bool_bool, z_isi_bool_int, z_isi_bool_str, z_isi_bool_list, z_isi_bool_tuple, z_isi_str_none, z_isi_str_bool, z_isi_str_int, z_isi_str_str, z_isi_str_list, z_isi_str_tuple, z_isi_list_none, z_isi_list_bool, z_isi_list_int, z_isi_list_str, z_isi_list_list, z_isi_list_tuple, z_isi_tuple_none, z_isi_tuple_bool, z_isi_tuple_int, z_isi_tuple_str, z_isi_tuple_list, z_isi_tuple_tuple, z_out_rt, z_out_nx, z_eqi, z_eqb, z_rng1, z_rng2, z_si_l, z_si_t, z_bind_nm, z_bind_tt, z_bind_tl, z_binds_n, z_binds_c, z_sl_l, z_sl_t, z_at0, z_at1, z_at2, z_at3, z_ixN0, z_intsn, z_intsc, z_boolsn, z_boolsc, y_e_isx, y_e_dct, y_e_lrg, y_e_mth, y_e_orv, y_callD, y_s_expC, y_s_retC, y_s_asgC, y_s_raise, y_s_tryE, y_s_forO, z_nox_dat, z_nox_own, z_nox_ref, z_nox_scr, z_nox_exc, z_nox_n, z_read_exo, z_arg_exo, z_hold_exo, z_exEnv, y_e_ixP, y_s_retP, z_sl_s, z_bin_ss, z_d_ints, z_ins, z_nins, y_i_sgn, e2, e3'], rfl, by rw [unvec_vec]⟩⟩) (by rw [List.length_map]; exact Nat.le_trans hl (by decide))
    rw [List.filterMap_map] at this
    have e : M.filterMap ((fun d => some (PyData.str (rowT (unvec d)))) ∘ vec) = (M.map rowT).map .str := by
      rw [List.map_map]
      have : ((fun d => some (PyData.str (rowT (unvec d)))) ∘ vec) = some ∘ (PyData.str ∘ rowT) := by
        funext r
        show some (PyData.str (rowT (unvec (vec r)))) = _
        rw [unvec_vec]
        rfl
      rw [this, List.filterMap_eq_map]
    rw [e] at this
    exact this
  have e4 := mth_join (x := Str.ofString " ") (ys := M.map rowT) (B := 3000) (by decide +kernel) (by rw [List.length_map]; exact hl) (by decide) (fun y hy => by
    obtain ⟨r, hm, rfl⟩ := List.mem_map.mp hy
    exact rowT_len (hr r hm).1 (hr r hm).2.2)
  have e4' : mthD .join (.str (Str.ofString " ")) (.list ((M.map rowT).map .str)) = some (.dat (.str (matT M))) := e4
  rw [c_show]
  simp (decide := true) only [b_show, ↓reduceIte, Bool.not_true, Bool.not_false, decide_true, decide_false, wipeE, Bool.false_eq_true, y_e_c, y_e_v, y_e_g, y_e_never, y_e_bin, y_e_neg, y_e_tst, y_e_ite, y_e_tup, y_e_lst, y_e_box, y_e_ix, y_e_sl, y_e_rev, y_e_call, y_e_blt, y_e_isi, y_e_lc, y_es_nil, y_es_cons, y_o_no, y_o_yes, y_t_val, y_t_cmp, y_t_chn, y_t_isnt, y_t_isnf, z_nnr_dat, z_nnr_own, z_nnr_brw, z_nn_none, z_nn_bool, z_nn_int, z_nn_str, z_nn_list, z_nn_tuple, y_t_isb, y_t_and, y_t_or, y_t_not, y_h_last, y_h_link, y_al_one, y_al_cons, y_an_one, y_an_cons, y_c_no, y_c_yes, y_i_seq, y_i_rng, y_i_zip, y_i_enum, y_s_never, y_s_pass, y_s_asg, y_s_par, y_s_par3, y_s_setO, y_s_unp, y_s_setB, y_s_exp, y_s_app, y_s_ext, y_s_iff, y_s_whl, y_s_forr, y_s_ret, y_s_retv, y_s_frz, y_ss_nil, y_ss_cons, argsOf, views, caps, Option.map_some, Option.map_none, Option.bind_some, Option.bind_none, List.getElem?_cons_zero, List.getElem?_cons_succ, List.set_cons_zero, List.set_cons_succ, List.length_cons, List.length_nil, z_read_dat, z_read_ref, z_read_scr, z_read_own, z_view_own, z_view_brw, z_view_dat, z_cap_dat, z_cap_own, z_hold_dat, z_hold_ref, z_hold_scr, z_hold_own, z_arg_dat, z_arg_ref, z_arg_scr, z_arg_own, z_look_t, z_look_f, z_len_ref, z_len_scr, z_len_l, z_len_t, z_len_o, z_len_b, z_ix_ref, z_ix_scr, z_ix_l, z_ix_t, z_ix_o, z_ix_b, z_blt_len, z_blt_abs, z_blt_tup, z_blt_lst, z_blt_sum, z_blt_all, z_blt_any, z_blt_min, z_blt_max, z_blt_sorted, z_blt_repr, z_blt_str, z_blt_int, z_blt_divmod, z_d_abs, z_d_tupl, z_d_tupt, z_d_lstl, z_d_lstt, z_d_sum, z_d_all, z_d_any, z_d_minl, z_d_maxl, z_d_min, z_d_max, z_d_sorted, z_d_divmod, z_d_int, z_d_repr, z_d_str, z_d_strt, z_bin_i, z_bin_ll, z_bin_tt, z_bin_rep, z_add, z_sub, z_mul, z_fdiv, z_mod, z_eq, z_ne, z_lt, z_le, z_gt, z_ge, z_inl, z_int, z_ninl, z_nint, z_isi_int_none, z_isi_int_bool, z_isi_int_int, z_isi_int_str, z_isi_int_list, z_isi_int_tuple, z_isi_bool_none, z_isi_bool_bool, z_isi_bool_int, z_isi_bool_str, z_isi_bool_list, z_isi_bool_tuple, z_isi_str_none, z_isi_str_bool, z_isi_str_int, z_isi_str_str, z_isi_str_list, z_isi_str_tuple, z_isi_list_none, z_isi_list_bool, z_isi_list_int, z_isi_list_str, z_isi_list_list, z_isi_list_tuple, z_isi_tuple_none, z_isi_tuple_bool, z_isi_tuple_int, z_isi_tuple_str, z_isi_tuple_list, z_isi_tuple_tuple, z_out_rt, z_out_nx, z_eqi, z_eqb, z_rng1, z_rng2, z_si_l, z_si_t, z_bind_nm, z_bind_tt, z_bind_tl, z_binds_n, z_binds_c, z_sl_l, z_sl_t, z_at0, z_at1, z_at2, z_at3, z_ixN0, z_intsn, z_intsc, z_boolsn, z_boolsc, y_e_isx, y_e_dct, y_e_lrg, y_e_mth, y_e_orv, y_callD, y_s_expC, y_s_retC, y_s_asgC, y_s_raise, y_s_tryE, y_s_forO, z_nox_dat, z_nox_own, z_nox_ref, z_nox_scr, z_nox_exc, z_nox_n, z_read_exo, z_arg_exo, z_hold_exo, z_exEnv, y_e_ixP, y_s_retP, z_sl_s, z_bin_ss, z_d_ints, z_ins, z_nins, y_i_sgn, e1, hq, e4']
theorem s_rdq (k : Nat) (r : List Int) (hl : r.length ≤ 3) (hne : r ≠ []) (h : ∀ i ∈ r, Bd 600 i) (x0 x1 x3 : Option R) (st : Bx) : Ex.den (callF tb (k + 1)) q_read_1 [x0, x1, some (.dat (.str (rowT r))), x3] st = some (.own (r.map .int), st) := by
  have es := mth_split (x := rowT r) (y := Str.ofString ",") (by decide +kernel) (Nat.le_trans (rowT_len hl h) (by decide))
  rw [split_row hne] at es
  have := den_lc (cf := callF tb (k + 1)) (el := .call "number_in" (.cons (.v 3) .nil)) (tg := .nm 3) (it := .seq (.mth .split (.v 2) (.c (.str (Str.ofString ","))))) (cd := .no) (ow := [3])
    (env := [x0, x1, some (.dat (.str (rowT r))), x3]) (st := st) (st1 := st) (items := (r.map numT).map .str) (by simp (decide := true) only [↓reduceIte, Bool.not_true, Bool.not_false, decide_true, decide_false, wipeE, Bool.false_eq_true, y_e_c, y_e_v, y_e_g, y_e_never, y_e_bin, y_e_neg, y_e_tst, y_e_ite, y_e_tup, y_e_lst, y_e_box, y_e_ix, y_e_sl, y_e_rev, y_e_call, y_e_blt, y_e_isi, y_e_lc, y_es_nil, y_es_cons, y_o_no, y_o_yes, y_t_val, y_t_cmp, y_t_chn, y_t_isnt, y_t_isnf, z_nnr_dat, z_nnr_own, z_nnr_brw, z_nn_none, z_nn_bool, z_nn_int, z_nn_str, z_nn_list, z_nn_tuple, y_t_isb, y_t_and, y_t_or, y_t_not, y_h_last, y_h_link, y_al_one, y_al_cons, y_an_one, y_an_cons, y_c_no, y_c_yes, y_i_seq, y_i_rng, y_i_zip, y_i_enum, y_s_never, y_s_pass, y_s_asg, y_s_par, y_s_par3, y_s_setO, y_s_unp, y_s_setB, y_s_exp, y_s_app, y_s_ext, y_s_iff, y_s_whl, y_s_forr, y_s_ret, y_s_retv, y_s_frz, y_ss_nil, y_ss_cons, argsOf, views, caps, Option.map_some, Option.map_none, Option.bind_some, Option.bind_none, List.getElem?_cons_zero, List.getElem?_cons_succ, List.set_cons_zero, List.set_cons_succ, List.length_cons, List.length_nil, z_read_dat, z_read_ref, z_read_scr, z_read_own, z_view_own, z_view_brw, z_view_dat, z_cap_dat, z_cap_own, z_hold_dat, z_hold_ref, z_hold_scr, z_hold_own, z_arg_dat, z_arg_ref, z_arg_scr, z_arg_own, z_look_t, z_look_f, z_len_ref, z_len_scr, z_len_l, z_len_t, z_len_o, z_len_b, z_ix_ref, z_ix_scr, z_ix_l, z_ix_t, z_ix_o, z_ix_b, z_blt_len, z_blt_abs, z_blt_tup, z_blt_lst, z_blt_sum, z_blt_all, z_blt_any, z_blt_min, z_blt_max, z_blt_sorted, z_blt_repr, z_blt_str, z_blt_int, z_blt_divmod, z_d_abs, z_d_tupl, z_d_tupt, z_d_lstl, z_d_lstt, z_d_sum, z_d_all, z_d_any, z_d_minl, z_d_maxl, z_d_min, z_d_max, z_d_sorted, z_d_divmod, z_d_int, z_d_repr, z_d_str, z_d_strt, z_bin_i, z_bin_ll, z_bin_tt, z_bin_rep, z_add, z_sub, z_mul, z_fdiv, z_mod, z_eq, z_ne, z_lt, z_le, z_gt, z_ge, z_inl, z_int, z_ninl, z_nint, z_isi_int_none, z_isi_int_bool, z_isi_int_int, z_isi_int_str, z_isi_int_list, z_isi_int_tuple, z_isi_bool_none, z_isi_bool_bool, z_isi_bool_int, z_isi_bool_str, z_isi_bool_list, z_isi_bool_tuple, z_isi_str_none, z_isi_str_bool, z_isi_str_int, z_isi_str_str, z_isi_str_list, z_isi_str_tuple, z_isi_list_none, z_isi_list_bool, z_isi_list_int, z_isi_list_str, z_isi_list_list, z_isi_list_tuple, z_isi_tuple_none, z_isi_tuple_bool, z_isi_tuple_int, z_isi_tuple_str, z_isi_tuple_list, z_isi_tuple_tuple, z_out_rt, z_out_nx, z_eqi, z_eqb, z_rng1, z_rng2, z_si_l, z_si_t, z_bind_nm, z_bind_tt, z_bind_tl, z_binds_n, z_binds_c, z_sl_l, z_sl_t, z_at0, z_at1, z_at2, z_at3, z_ixN0, z_intsn, z_intsc, z_boolsn, z_boolsc, y_e_isx, y_e_dct, y_e_lrg, y_e_mth, y_e_orv, y_callD, y_s_expC, y_s_retC, y_s_asgC, y_s_raise, y_s_tryE, y_s_forO, z_nox_dat, z_nox_own, z_nox_ref, z_nox_scr, z_nox_exc, z_nox_n, z_read_exo, z_arg_exo, z_hold_exo, z_exEnv, y_e_ixP, y_s_retP, z_sl_s, z_bin_ss, z_d_ints, z_ins, z_nins, y_i_sgn, es]) (fun d => match d with | .str x => (intText? x).map .int | _ => none) (fun d hd => by
      rw [List.map_map] at hd
      obtain ⟨i, hi, rfl⟩ := List.mem_map.mp hd
      have e2 := s_number_in k i st (h i hi)
      have e3 := numT_int (h i hi)
      refine ⟨[x0, x1, some (.dat (.str (rowT r))), some (.dat (.str (numT i)))], by simp only [Function.comp_apply, ↓reduceIte, Bool.not_true, Bool.not_false, decide_true, decide_false, wipeE, Bool.false_eq_true, y_e_c, y_e_v, y_e_g, y_e_never, y_e_bin, y_e_neg, y_e_tst, y_e_ite, y_e_tup, y_e_lst, y_e_box, y_e_ix, y_e_sl, y_e_rev, y_e_call, y_e_blt, y_e_isi, y_e_lc, y_es_nil, y_es_cons, y_o_no, y_o_yes, y_t_val, y_t_cmp, y_t_chn, y_t_isnt, y_t_isnf, z_nnr_dat, z_nnr_own, z_nnr_brw, z_nn_none, z_nn_bool, z_nn_int, z_nn_str, z_nn_list, z_nn_tuple, y_t_isb, y_t_and, y_t_or, y_t_not, y_h_last, y_h_link, y_al_one, y_al_cons, y_an_one, y_an_cons, y_c_no, y_c_yes, y_i_seq, y_i_rng, y_i_zip, y_i_enum, y_s_never, y_s_pass, y_s_asg, y_s_par, y_s_par3, y_s_setO, y_s_unp, y_s_setB, y_s_exp, y_s_app, y_s_ext, y_s_iff, y_s_whl, y_s_forr, y_s_ret, y_s_retv, y_s_frz, y_ss_nil, y_ss_cons, argsOf, views, caps, Option.map_some, Option.map_none, Option.bind_some, Option.bind_none, List.getElem?_cons_zero, List.getElem?_cons_succ, List.set_cons_zero, List.set_cons_succ, List.length_cons, List.length_nil, z_read_dat, z_read_ref, z_read_scr, z_read_own, z_view_own, z_view_brw, z_view_dat, z_cap_dat, z_cap_own, z_hold_dat, z_hold_ref, z_hold_scr, z_hold_own, z_arg_dat, z_arg_ref, z_arg_scr, z_arg_own, z_look_t, z_look_f, z_len_ref, z_len_scr, z_len_l, z_len_t, z_len_o, z_len_b, z_ix_ref, z_ix_scr, z_ix_l, z_ix_t, z_ix_o, z_ix_b, z_blt_len, z_blt_abs, z_blt_tup, z_blt_lst, z_blt_sum, z_blt_all, z_blt_any, z_blt_min, z_blt_max, z_blt_sorted, z_blt_repr, z_blt_str, z_blt_int, z_blt_divmod, z_d_abs, z_d_tupl, z_d_tupt, z_d_lstl, z_d_lstt, z_d_sum, z_d_all, z_d_any, z_d_minl, z_d_maxl, z_d_min, z_d_max, z_d_sorted, z_d_divmod, z_d_int, z_d_repr, z_d_str, z_d_strt, z_bin_i, z_bin_ll, z_bin_tt, z_bin_rep, z_add, z_sub, z_mul, z_fdiv, z_mod, z_eq, z_ne, z_lt, z_le, z_gt, z_ge, z_inl, z_int, z_ninl, z_nint, z_isi_int_none, z_isi_int_bool, z_isi_int_int, z_isi_int_str, z_isi_int_list, z_isi_int_tuple, z_isi_bool_none, z_isi_bool_bool, z_isi_bool_int, z_isi_bool_str, z_isi_bool_list, z_isi_bool_tuple, z_isi_str_none, z_isi_str_bool, z_isi_str_int, z_isi_str_str, z_isi_str_list, z_isi_str_tuple, z_isi_list_none, z_isi_list_bool, z_isi_list_int, z_isi_list_str, z_isi_list_list, z_isi_list_tuple, z_isi_tuple_none, z_isi_tuple_bool, z_isi_tuple_int, z_isi_tuple_str, z_isi_tuple_list, z_isi_tuple_tuple, z_out_rt, z_out_nx, z_eqi, z_eqb, z_rng1, z_rng2, z_si_l, z_si_t, z_bind_nm, z_bind_tt, z_bind_tl, z_binds_n, z_binds_c, z_sl_l, z_sl_t, z_at0, z_at1, z_at2, z_at3, z_ixN0, z_intsn, z_intsc, z_boolsn, z_boolsc, y_e_isx, y_e_dct, y_e_lrg, y_e_mth, y_e_orv, y_callD, y_s_expC, y_s_retC, y_s_asgC, y_s_raise, y_s_tryE, y_s_forO, z_nox_dat, z_nox_own, z_nox_ref, z_nox_scr, z_nox_exc, z_nox_n, z_read_exo, z_arg_exo, z_hold_exo, z_exEnv, y_e_ixP, y_s_retP, z_sl_s, z_bin_ss, z_d_ints, z_ins, z_nins, y_i_sgn], .inr ⟨by simp only [↓reduceIte, Bool.not_true, Bool.not_false, decide_true, decide_false, wipeE, Bool.false_eq_true, y_e_c, y_e_v, y_e_g, y_e_never, y_e_bin, y_e_neg, y_e_tst, y_e_ite, y_e_tup, y_e_lst, y_e_box, y_e_ix, y_e_sl, y_e_rev, y_e_call, y_e_blt, y_e_isi, y_e_lc, y_es_nil, y_es_cons, y_o_no, y_o_yes, y_t_val, y_t_cmp, y_t_chn, y_t_isnt, y_t_isnf, z_nnr_dat, z_nnr_own, z_nnr_brw, z_nn_none, z_nn_bool, z_nn_int, z_nn_str, z_nn_list, z_nn_tuple, y_t_isb, y_t_and, y_t_or, y_t_not, y_h_last, y_h_link, y_al_one, y_al_cons, y_an_one, y_an_cons, y_c_no, y_c_yes, y_i_seq, y_i_rng, y_i_zip, y_i_enum, y_s_never, y_s_pass, y_s_asg, y_s_par, y_s_par3, y_s_setO, y_s_unp, y_s_setB, y_s_exp, y_s_app, y_s_ext, y_s_iff, y_s_whl, y_s_forr, y_s_ret, y_s_retv, y_s_frz, y_ss_nil, y_ss_cons, argsOf, views, caps, Option.map_some, Option.map_none, Option.bind_some, Option.bind_none, List.getElem?_cons_zero, List.getElem?_cons_succ, List.set_cons_zero, List.set_cons_succ, List.length_cons, List.length_nil, z_read_dat, z_read_ref, z_read_scr, z_read_own, z_view_own, z_view_brw, z_view_dat, z_cap_dat, z_cap_own, z_hold_dat, z_hold_ref, z_hold_scr, z_hold_own, z_arg_dat, z_arg_ref, z_arg_scr, z_arg_own, z_look_t, z_look_f, z_len_ref, z_len_scr, z_len_l, z_len_t, z_len_o, z_len_b, z_ix_ref, z_ix_scr, z_ix_l, z_ix_t, z_ix_o, z_ix_b, z_blt_len, z_blt_abs, z_blt_tup, z_blt_lst, z_blt_sum, z_blt_all, z_blt_any, z_blt_min, z_blt_max, z_blt_sorted, z_blt_repr, z_blt_str, z_blt_int, z_blt_divmod, z_d_abs, z_d_tupl, z_d_tupt, z_d_lstl, z_d_lstt, z_d_sum, z_d_all, z_d_any, z_d_minl, z_d_maxl, z_d_min, z_d_max, z_d_sorted, z_d_divmod, z_d_int, z_d_repr, z_d_str, z_d_strt, z_bin_i, z_bin_ll, z_bin_tt, z_bin_rep, z_add, z_sub, z_mul, z_fdiv, z_mod, z_eq, z_ne, z_lt, z_le, z_gt, z_ge, z_inl, z_int, z_ninl, z_nint, z_isi_int_none, z_isi_int_bool, z_isi_int_int, z_isi_int_str, z_isi_int_list, z_isi_int_tuple, z_isi_bool_none, z_isi_bool_bool, z_isi_bool_int, z_isi_bool_str, z_isi_bool_list, z_isi_bool_tuple, z_isi_str_none, z_isi_str_bool, z_isi_str_int, z_isi_str_str, z_isi_str_list, z_isi_str_tuple, z_isi_list_none, z_isi_list_bool, z_isi_list_int, z_isi_list_str, z_isi_list_list, z_isi_list_tuple, z_isi_tuple_none, z_isi_tuple_bool, z_isi_tuple_int, z_isi_tuple_str, z_isi_tuple_list, z_isi_tuple_tuple, z_out_rt, z_out_nx, z_eqi, z_eqb, z_rng1, z_rng2, z_si_l, z_si_t, z_bind_nm, z_bind_tt, z_bind_tl, z_binds_n, z_binds_c, z_sl_l, z_sl_t, z_at0, z_at1, z_at2, z_at3, z_ixN0, z_intsn, z_intsc, z_boolsn, z_boolsc, y_e_isx, y_e_dct, y_e_lrg, y_e_mth, y_e_orv, y_callD, y_s_expC, y_s_retC, y_s_asgC, y_s_raise, y_s_tryE, y_s_forO, z_nox_dat, z_nox_own, z_nox_ref, z_nox_scr, z_nox_exc, z_nox_n, z_read_exo, z_arg_exo, z_hold_exo, z_exEnv, y_e_ixP, y_s_retP, z_sl_s, z_bin_ss, z_d_ints, z_ins, z_nins, y_i_sgn], .dat (.int i), .int i, by simp only [↓reduceIte, Bool.not_true, Bool.not_false, decide_true, decide_false, wipeE, Bool.false_eq_true, y_e_c, y_e_v, y_e_g, y_e_never, y_e_bin, y_e_neg, y_e_tst, y_e_ite, y_e_tup, y_e_lst, y_e_box, y_e_ix, y_e_sl, y_e_rev, y_e_call, y_e_blt, y_e_isi, y_e_lc, y_es_nil, y_es_cons, y_o_no, y_o_yes, y_t_val, y_t_cmp, y_t_chn, y_t_isnt, y_t_isnf, z_nnr_dat, z_nnr_own, z_nnr_brw, z_nn_none, z_nn_bool, z_nn_int, z_nn_str, z_nn_list, z_nn_tuple, y_t_isb, y_t_and, y_t_or, y_t_not, y_h_last, y_h_link, y_al_one, y_al_cons, y_an_one, y_an_cons, y_c_no, y_c_yes, y_i_seq, y_i_rng, y_i_zip, y_i_enum, y_s_never, y_s_pass, y_s_asg, y_s_par, y_s_par3, y_s_setO, y_s_unp, y_s_setB, y_s_exp, y_s_app, y_s_ext, y_s_iff, y_s_whl, y_s_forr, y_s_ret, y_s_retv, y_s_frz, y_ss_nil, y_ss_cons, argsOf, views, caps, Option.map_some, Option.map_none, Option.bind_some, Option.bind_none, List.getElem?_cons_zero, List.getElem?_cons_succ, List.set_cons_zero, List.set_cons_succ, List.length_cons, List.length_nil, z_read_dat, z_read_ref, z_read_scr, z_read_own, z_view_own, z_view_brw, z_view_dat, z_cap_dat, z_cap_own, z_hold_dat, z_hold_ref, z_hold_scr, z_hold_own, z_arg_dat, z_arg_ref, z_arg_scr, z_arg_own, z_look_t, z_look_f, z_len_ref, z_len_scr, z_len_l, z_len_t, z_len_o, z_len_b, z_ix_ref, z_ix_scr, z_ix_l, z_ix_t, z_ix_o, z_ix_b, z_blt_len, z_blt_abs, z_blt_tup, z_blt_lst, z_blt_sum, z_blt_all, z_blt_any, z_blt_min, z_blt_max, z_blt_sorted, z_blt_repr, z_blt_str, z_blt_int, z_blt_divmod, z_d_abs, z_d_tupl, z_d_tupt, z_d_lstl, z_d_lstt, z_d_sum, z_d_all, z_d_any, z_d_minl, z_d_maxl, z_d_min, z_d_max, z_d_sorted, z_d_divmod, z_d_int, z_d_repr, z_d_str, z_d_strt, z_bin_i, z_bin_ll, z_bin_tt, z_bin_rep, z_add, z_sub, z_mul, z_fdiv, z_mod, z_eq, z_ne, z_lt, z_le, z_gt, z_ge, z_inl, z_int, z_ninl, z_nint, z_isi_int_none, z_isi_int_bool, z_isi_int_int, z_isi_int_str, z_isi_int_list, z_isi_int_tuple, z_isi_bool_none, z_isi_bool_bool, z_isi_bool_int, z_isi_bool_str, z_isi_bool_list, z_isi_bool_tuple, z_isi_str_none, z_isi_str_bool, z_isi_str_int, z_isi_str_str, z_isi_str_list, z_isi_str_tuple, z_isi_list_none, z_isi_list_bool, z_isi_list_int, z_isi_list_str, z_isi_list_list, z_isi_list_tuple, z_isi_tuple_none, z_isi_tuple_bool, z_isi_tuple_int, z_isi_tuple_str, z_isi_tuple_list, z_isi_tuple_tuple, z_out_rt, z_out_nx, z_eqi, z_eqb, z_rng1, z_rng2, z_si_l, z_si_t, z_bind_nm, z_bind_tt, z_bind_tl, z_binds_n, z_binds_c, z_sl_l, z_sl_t, z_at0, z_at1, z_at2, z_at3, z_ixN0, z_intsn, z_intsc, z_boolsn, z_boolsc, y_e_isx, y_e_dct, y_e_lrg, y_e_mth, y_e_orv, y_callD, y_s_expC, y_s_retC, y_s_asgC, y_s_raise, y_s_tryE, y_s_forO, z_nox_dat, z_nox_own, z_nox_ref, z_nox_scr, z_nox_exc, z_nox_n, z_read_exo, z_arg_exo, z_hold_exo, z_exEnv, y_e_ixP, y_s_retP, z_sl_s, z_bin_ss, z_d_ints, z_ins, z_nins, y_i_sgn, e2], rfl, ?_⟩⟩
      show (intText? (numT i)).map PyData.int = _
      rw [e3]
      rfl) (by rw [List.length_map, List.length_map]; exact Nat.le_trans hl (by decide))
  rw [List.map_map, List.filterMap_map] at this
  have e : r.filterMap ((fun d => match d with | .str x => (intText? x).map PyData.int | _ => none) ∘ (PyData.str ∘ numT)) = r.map .int := by
    clear this es hl hne
    induction r with
    | nil => rfl
    | cons i r ih =>
      have e3 := numT_int (h i List.mem_cons_self)
      rw [fm_some (b := .int i) (by show (intText? (numT i)).map PyData.int = _; rw [e3]; rfl), ih fun j hj => h j (List.mem_cons_of_mem _ hj)]
      rfl
  rw [e] at this
  exact this
def rdF : PyData → Option PyData
  | .str x => some (.tuple ((Txt.split x (Str.ofString ",")).filterMap fun w => (intText? w).map .int))
  | _ => none
theorem rd_row {r : List Int} (hne : r ≠ []) (h : ∀ i ∈ r, Bd 600 i) : some (PyData.tuple ((Txt.split (rowT r) (Str.ofString ",")).filterMap fun w => (intText? w).map PyData.int)) = some (vec r) := by
  rw [split_row hne]
  congr 1
  unfold vec
  congr 1
  clear hne
  induction r with
  | nil => rfl
  | cons i r ih =>
    have e3 := numT_int (h i List.mem_cons_self)
    rw [List.map_cons, List.filterMap_cons, e3]
    show PyData.int i :: _ = _
    rw [ih fun j hj => h j (List.mem_cons_of_mem _ hj)]
    rfl
theorem g_read (k : Nat) (M : List (List Int)) (st : Bx) (h : Sq 600 M) (hd : det M ≠ 0) : callF tb (k + 6) "read" [.dat (.str (matT M))] st = some (.dat (mat M), st) := by
  obtain ⟨hl, hne, hr⟩ := h.rows
  have e1 := g_is_steps (k + 1) M st (h.mono (by decide))
  rw [decide_eq_true hd] at e1
  have es := mth_split (x := matT M) (y := Str.ofString " ") (by decide +kernel) (Nat.le_trans (matT_len hl fun r hm => ⟨(hr r hm).1, (hr r hm).2.2⟩) (by decide))
  rw [split_mat hne] at es
  have hq : Ex.den (callF tb (k + 5)) q_read_2 [some (.dat (.str (matT M))), some (.dat .none), none, none] st = some (.own (M.map vec), st) := by
    have := den_lc (cf := callF tb (k + 5)) (el := .blt .tup (.cons q_read_1 .nil)) (tg := .nm 2) (it := .seq (.mth .split (.v 0) (.c (.str (Str.ofString " "))))) (cd := .no) (ow := [2])
      (env := [some (.dat (.str (matT M))), some (.dat .none), none, none]) (st := st) (st1 := st) (items := (M.map rowT).map .str) (by simp (decide := true) only [↓reduceIte, Bool.not_true, Bool.not_false, decide_true, decide_false, wipeE, Bool.false_eq_true, y_e_c, y_e_v, y_e_g, y_e_never, y_e_bin, y_e_neg, y_e_tst, y_e_ite, y_e_tup, y_e_lst, y_e_box, y_e_ix, y_e_sl, y_e_rev, y_e_call, y_e_blt, y_e_isi, y_e_lc, y_es_nil, y_es_cons, y_o_no, y_o_yes, y_t_val, y_t_cmp, y_t_chn, y_t_isnt, y_t_isnf, z_nnr_dat, z_nnr_own, z_nnr_brw, z_nn_none, z_nn_bool, z_nn_int, z_nn_str, z_nn_list, z_nn_tuple, y_t_isb, y_t_and, y_t_or, y_t_not, y_h_last, y_h_link, y_al_one, y_al_cons, y_an_one, y_an_cons, y_c_no, y_c_yes, y_i_seq, y_i_rng, y_i_zip, y_i_enum, y_s_never, y_s_pass, y_s_asg, y_s_par, y_s_par3, y_s_setO, y_s_unp, y_s_setB, y_s_exp, y_s_app, y_s_ext, y_s_iff, y_s_whl, y_s_forr, y_s_ret, y_s_retv, y_s_frz, y_ss_nil, y_ss_cons, argsOf, views, caps, Option.map_some, Option.map_none, Option.bind_some, Option.bind_none, List.getElem?_cons_zero, List.getElem?_cons_succ, List.set_cons_zero, List.set_cons_succ, List.length_cons, List.length_nil, z_read_dat, z_read_ref, z_read_scr, z_read_own, z_view_own, z_view_brw, z_view_dat, z_cap_dat, z_cap_own, z_hold_dat, z_hold_ref, z_hold_scr, z_hold_own, z_arg_dat, z_arg_ref, z_arg_scr, z_arg_own, z_look_t, z_look_f, z_len_ref, z_len_scr, z_len_l, z_len_t, z_len_o, z_len_b, z_ix_ref, z_ix_scr, z_ix_l, z_ix_t, z_ix_o, z_ix_b, z_blt_len, z_blt_abs, z_blt_tup, z_blt_lst, z_blt_sum, z_blt_all, z_blt_any, z_blt_min, z_blt_max, z_blt_sorted, z_blt_repr, z_blt_str, z_blt_int, z_blt_divmod, z_d_abs, z_d_tupl, z_d_tupt, z_d_lstl, z_d_lstt, z_d_sum, z_d_all, z_d_any, z_d_minl, z_d_maxl, z_d_min, z_d_max, z_d_sorted, z_d_divmod, z_d_int, z_d_repr, z_d_str, z_d_strt, z_bin_i, z_bin_ll, z_bin_tt, z_bin_rep, z_add, z_sub, z_mul, z_fdiv, z_mod, z_eq, z_ne, z_lt, z_le, z_gt, z_ge, z_inl, z_int, z_ninl, z_nint, z_isi_int_none, z_isi_int_bool, z_isi_int_int, z_isi_int_str, z_isi_int_list, z_isi_int_tuple, z_isi_bool_none, z_isi_bool_bool, z_isi_bool_int, z_isi_bool_str, z_isi_bool_list, z_isi_bool_tuple, z_isi_str_none, z_isi_str_bool, z_isi_str_int, z_isi_str_str, z_isi_str_list, z_isi_str_tuple, z_isi_list_none, z_isi_list_bool, z_isi_list_int, z_isi_list_str, z_isi_list_list, z_isi_list_tuple, z_isi_tuple_none, z_isi_tuple_bool, z_isi_tuple_int, z_isi_tuple_str, z_isi_tuple_list, z_isi_tuple_tuple, z_out_rt, z_out_nx, z_eqi, z_eqb, z_rng1, z_rng2, z_si_l, z_si_t, z_bind_nm, z_bind_tt, z_bind_tl, z_binds_n, z_binds_c, z_sl_l, z_sl_t, z_at0, z_at1, z_at2, z_at3, z_ixN0, z_intsn, z_intsc, z_boolsn, z_boolsc, y_e_isx, y_e_dct, y_e_lrg, y_e_mth, y_e_orv, y_callD, y_s_expC, y_s_retC, y_s_asgC, y_s_raise, y_s_tryE, y_s_forO, z_nox_dat, z_nox_own, z_nox_ref, z_nox_scr, z_nox_exc, z_nox_n, z_read_exo, z_arg_exo, z_hold_exo, z_exEnv, y_e_ixP, y_s_retP, z_sl_s, z_bin_ss, z_d_ints, z_ins, z_nins, y_i_sgn, es]) rdF (fun d hd => by
        rw [List.map_map] at hd
        obtain ⟨r, hm, rfl⟩ := List.mem_map.mp hd
        have e2 := s_rdq (k + 4) r (hr r hm).1 (hr r hm).2.1 (hr r hm).2.2 (some (.dat (.str (matT M)))) (some (.dat .none)) none st
        refine ⟨[some (.dat (.str (matT M))), some (.dat .none), some (.dat (.str (rowT r))), none], by simp only [Function.comp_apply, ↓reduceIte, Bool.not_true, Bool.not_false, decide_true, decide_false, wipeE, Bool.false_eq_true, y_e_c, y_e_v, y_e_g, y_e_never, y_e_bin, y_e_neg, y_e_tst, y_e_ite, y_e_tup, y_e_lst, y_e_box, y_e_ix, y_e_sl, y_e_rev, y_e_call, y_e_blt, y_e_isi, y_e_lc, y_es_nil, y_es_cons, y_o_no, y_o_yes, y_t_val, y_t_cmp, y_t_chn, y_t_isnt, y_t_isnf, z_nnr_dat, z_nnr_own, z_nnr_brw, z_nn_none, z_nn_bool, z_nn_int, z_nn_str, z_nn_list, z_nn_tuple, y_t_isb, y_t_and, y_t_or, y_t_not, y_h_last, y_h_link, y_al_one, y_al_cons, y_an_one, y_an_cons, y_c_no, y_c_yes, y_i_seq, y_i_rng, y_i_zip, y_i_enum, y_s_never, y_s_pass, y_s_asg, y_s_par, y_s_par3, y_s_setO, y_s_unp, y_s_setB, y_s_exp, y_s_app, y_s_ext, y_s_iff, y_s_whl, y_s_forr, y_s_ret, y_s_retv, y_s_frz, y_ss_nil, y_ss_cons, argsOf, views, caps, Option.map_some, Option.map_none, Option.bind_some, Option.bind_none, List.getElem?_cons_zero, List.getElem?_cons_succ, List.set_cons_zero, List.set_cons_succ, List.length_cons, List.length_nil, z_read_dat, z_read_ref, z_read_scr, z_read_own, z_view_own, z_view_brw, z_view_dat, z_cap_dat, z_cap_own, z_hold_dat, z_hold_ref, z_hold_scr, z_hold_own, z_arg_dat, z_arg_ref, z_arg_scr, z_arg_own, z_look_t, z_look_f, z_len_ref, z_len_scr, z_len_l, z_len_t, z_len_o, z_len_b, z_ix_ref, z_ix_scr, z_ix_l, z_ix_t, z_ix_o, z_ix_b, z_blt_len, z_blt_abs, z_blt_tup, z_blt_lst, z_blt_sum, z_blt_all, z_blt_any, z_blt_min, z_blt_max, z_blt_sorted, z_blt_repr, z_blt_str, z_blt_int, z_blt_divmod, z_d_abs, z_d_tupl, z_d_tupt, z_d_lstl, z_d_lstt, z_d_sum, z_d_all, z_d_any, z_d_minl, z_d_maxl, z_d_min, z_d_max, z_d_sorted, z_d_divmod, z_d_int, z_d_repr, z_d_str, z_d_strt, z_bin_i, z_bin_ll, z_bin_tt, z_bin_rep, z_add, z_sub, z_mul, z_fdiv, z_mod, z_eq, z_ne, z_lt, z_le, z_gt, z_ge, z_inl, z_int, z_ninl, z_nint, z_isi_int_none, z_isi_int_bool, z_isi_int_int, z_isi_int_str, z_isi_int_list, z_isi_int_tuple, z_isi_bool_none, z_isi_bool_bool, z_isi_bool_int, z_isi_bool_str, z_isi_bool_list, z_isi_bool_tuple, z_isi_str_none, z_isi_str_bool, z_isi_str_int, z_isi_str_str, z_isi_str_list, z_isi_str_tuple, z_isi_list_none, z_isi_list_bool, z_isi_list_int, z_isi_list_str, z_isi_list_list, z_isi_list_tuple, z_isi_tuple_none, z_isi_tuple_bool, z_isi_tuple_int, z_isi_tuple_str, z_isi_tuple_list, z_isi_tuple_tuple, z_out_rt, z_out_nx, z_eqi, z_eqb, z_rng1, z_rng2, z_si_l, z_si_t, z_bind_nm, z_bind_tt, z_bind_tl, z_binds_n, z_binds_c, z_sl_l, z_sl_t, z_at0, z_at1, z_at2, z_at3, z_ixN0, z_intsn, z_intsc, z_boolsn, z_boolsc, y_e_isx, y_e_dct, y_e_lrg, y_e_mth, y_e_orv, y_callD, y_s_expC, y_s_retC, y_s_asgC, y_s_raise, y_s_tryE, y_s_forO, z_nox_dat, z_nox_own, z_nox_ref, z_nox_scr, z_nox_exc, z_nox_n, z_read_exo, z_arg_exo, z_hold_exo, z_exEnv, y_e_ixP, y_s_retP, z_sl_s, z_bin_ss, z_d_ints, z_ins, z_nins, y_i_sgn], .inr ⟨by simp only [↓reduceIte, Bool.not_true, Bool.not_false, decide_true, decide_false, wipeE, Bool.false_eq_true, y_e_c, y_e_v, y_e_g, y_e_never, y_e_bin, y_e_neg, y_e_tst, y_e_ite, y_e_tup, y_e_lst, y_e_box, y_e_ix, y_e_sl, y_e_rev, y_e_call, y_e_blt, y_e_isi, y_e_lc, y_es_nil, y_es_cons, y_o_no, y_o_yes, y_t_val, y_t_cmp, y_t_chn, y_t_isnt, y_t_isnf, z_nnr_dat, z_nnr_own, z_nnr_brw, z_nn_none, z_nn_bool, z_nn_int, z_nn_str, z_nn_list, z_nn_tuple, y_t_isb, y_t_and, y_t_or, y_t_not, y_h_last, y_h_link, y_al_one, y_al_cons, y_an_one, y_an_cons, y_c_no, y_c_yes, y_i_seq, y_i_rng, y_i_zip, y_i_enum, y_s_never, y_s_pass, y_s_asg, y_s_par, y_s_par3, y_s_setO, y_s_unp, y_s_setB, y_s_exp, y_s_app, y_s_ext, y_s_iff, y_s_whl, y_s_forr, y_s_ret, y_s_retv, y_s_frz, y_ss_nil, y_ss_cons, argsOf, views, caps, Option.map_some, Option.map_none, Option.bind_some, Option.bind_none, List.getElem?_cons_zero, List.getElem?_cons_succ, List.set_cons_zero, List.set_cons_succ, List.length_cons, List.length_nil, z_read_dat, z_read_ref, z_read_scr, z_read_own, z_view_own, z_view_brw, z_view_dat, z_cap_dat, z_cap_own, z_hold_dat, z_hold_ref, z_hold_scr, z_hold_own, z_arg_dat, z_arg_ref, z_arg_scr, z_arg_own, z_look_t, z_look_f, z_len_ref, z_len_scr, z_len_l, z_len_t, z_len_o, z_len_b, z_ix_ref, z_ix_scr, z_ix_l, z_ix_t, z_ix_o, z_ix_b, z_blt_len, z_blt_abs, z_blt_tup, z_blt_lst, z_blt_sum, z_blt_all, z_blt_any, z_blt_min, z_blt_max, z_blt_sorted, z_blt_repr, z_blt_str, z_blt_int, z_blt_divmod, z_d_abs, z_d_tupl, z_d_tupt, z_d_lstl, z_d_lstt, z_d_sum, z_d_all, z_d_any, z_d_minl, z_d_maxl, z_d_min, z_d_max, z_d_sorted, z_d_divmod, z_d_int, z_d_repr, z_d_str, z_d_strt, z_bin_i, z_bin_ll, z_bin_tt, z_bin_rep, z_add, z_sub, z_mul, z_fdiv, z_mod, z_eq, z_ne, z_lt, z_le, z_gt, z_ge, z_inl, z_int, z_ninl, z_nint, z_isi_int_none, z_isi_int_bool, z_isi_int_int, z_isi_int_str, z_isi_int_list, z_isi_int_tuple, z_isi_bool_none, z_isi_bool_bool, z_isi_bool_int, z_isi_bool_str, z_isi_bool_list, z_isi_bool_tuple, z_isi_str_none, z_isi_str_bool, z_isi_str_int, z_isi_str_str, z_isi_str_list, z_isi_str_tuple, z_isi_list_none, z_isi_list_bool, z_isi_list_int, z_isi_list_str, z_isi_list_list, z_isi_list_tuple, z_isi_tuple_none, z_isi_tuple_bool, z_isi_tuple_int, z_isi_tuple_str, z_isi_tuple_list, z_isi_tuple_tuple, z_out_rt, z_out_nx, z_eqi, z_eqb, z_rng1, z_rng2, z_si_l, z_si_t, z_bind_nm, z_bind_tt, z_bind_tl, z_binds_n, z_binds_c, z_sl_l, z_sl_t, z_at0, z_at1, z_at2, z_at3, z_ixN0, z_intsn, z_intsc, z_boolsn, z_boolsc, y_e_isx, y_e_dct, y_e_lrg, y_e_mth, y_e_orv, y_callD, y_s_expC, y_s_retC, y_s_asgC, y_s_raise, y_s_tryE, y_s_forO, z_nox_dat, z_nox_own, z_nox_ref, z_nox_scr, z_nox_exc, z_nox_n, z_read_exo, z_arg_exo, z_hold_exo, z_exEnv, y_e_ixP, y_s_retP, z_sl_s, z_bin_ss, z_d_ints, z_ins, z_nins, y_i_sgn], .dat (vec r), vec r, by simp (decide := true) only [↓reduceIte, Bool.not_true, Bool.not_false, decide_true, decide_false, wipeE, Bool.false_eq_true, y_e_c, y_e_v, y_e_g, y_e_never, y_e_bin, y_e_neg, y_e_tst, y_e_ite, y_e_tup, y_e_lst, y_e_box, y_e_ix, y_e_sl, y_e_rev, y_e_call, y_e_blt, y_e_isi, y_e_lc, y_es_nil, y_es_cons, y_o_no, y_o_yes, y_t_val, y_t_cmp, y_t_chn, y_t_isnt, y_t_isnf, z_nnr_dat, z_nnr_own, z_nnr_brw, z_nn_none, z_nn_bool, z_nn_int, z_nn_str, z_nn_list, z_nn_tuple, y_t_isb, y_t_and, y_t_or, y_t_not, y_h_last, y_h_link, y_al_one, y_al_cons, y_an_one, y_an_cons, y_c_no, y_c_yes, y_i_seq, y_i_rng, y_i_zip, y_i_enum, y_s_never, y_s_pass, y_s_asg, y_s_par, y_s_par3, y_s_setO, y_s_unp, y_s_setB, y_s_exp, y_s_app, y_s_ext, y_s_iff, y_s_whl, y_s_forr, y_s_ret, y_s_retv, y_s_frz, y_ss_nil, y_ss_cons, argsOf, views, caps, Option.map_some, Option.map_none, Option.bind_some, Option.bind_none, List.getElem?_cons_zero, List.getElem?_cons_succ, List.set_cons_zero, List.set_cons_succ, List.length_cons, List.length_nil, z_read_dat, z_read_ref, z_read_scr, z_read_own, z_view_own, z_view_brw, z_view_dat, z_cap_dat, z_cap_own, z_hold_dat, z_hold_ref, z_hold_scr, z_hold_own, z_arg_dat, z_arg_ref, z_arg_scr, z_arg_own, z_look_t, z_look_f, z_len_ref, z_len_scr, z_len_l, z_len_t, z_len_o, z_len_b, z_ix_ref, z_ix_scr, z_ix_l, z_ix_t, z_ix_o, z_ix_b, z_blt_len, z_blt_abs, z_blt_tup, z_blt_lst, z_blt_sum, z_blt_all, z_blt_any, z_blt_min, z_blt_max, z_blt_sorted, z_blt_repr, z_blt_str, z_blt_int, z_blt_divmod, z_d_abs, z_d_tupl, z_d_tupt, z_d_lstl, z_d_lstt, z_d_sum, z_d_all, z_d_any, z_d_minl, z_d_maxl, z_d_min, z_d_max, z_d_sorted, z_d_divmod, z_d_int, z_d_repr, z_d_str, z_d_strt, z_bin_i, z_bin_ll, z_bin_tt, z_bin_rep, z_add, z_sub, z_mul, z_fdiv, z_mod, z_eq, z_ne, z_lt, z_le, z_gt, z_ge, z_inl, z_int, z_ninl, z_nint, z_isi_int_none, z_isi_int_bool, z_isi_int_int, z_isi_int_str, z_isi_int_list, z_isi_int_tuple, z_isi_bool_none, z_isi_bool_bool, z_isi_bool_int, z_isi_bool_str, z_isi_bool_list, z_isi_bool_tuple, z_isi_str_none, z_isi_str_bool, z_isi_str_int, z_isi_str_str, z_isi_str_list, z_isi_str_tuple, z_isi_list_none, z_isi_list_bool, z_isi_list_int, z_isi_list_str, z_isi_list_list, z_isi_list_tuple, z_isi_tuple_none, z_isi_tuple_bool, z_isi_tuple_int, z_isi_tuple_str, z_isi_tuple_list, z_isi_tuple_tuple, z_out_rt, z_out_nx, z_eqi, z_eqb, z_rng1, z_rng2, z_si_l, z_si_t, z_bind_nm, z_bind_tt, z_bind_tl, z_binds_n, z_binds_c, z_sl_l, z_sl_t, z_at0, z_at1, z_at2, z_at3, z_ixN0, z_intsn, z_intsc, z_boolsn, z_boolsc, y_e_isx, y_e_dct, y_e_lrg, y_e_mth, y_e_orv, y_callD, y_s_expC, y_s_retC, y_s_asgC, y_s_raise, y_s_tryE, y_s_forO, z_nox_dat, z_nox_own, z_nox_ref, z_nox_scr, z_nox_exc, z_nox_n, z_read_exo, z_arg_exo, z_hold_exo, z_exEnv, y_e_ixP, y_s_retP, z_sl_s, z_bin_ss, z_d_ints, z_ins, z_nins, y_i_sgn, e2, vec], rfl, ?_⟩⟩
        exact rd_row (hr r hm).2.1 (hr r hm).2.2) (by rw [List.length_map, List.length_map]; exact Nat.le_trans hl (by decide))
    rw [List.map_map, List.filterMap_map] at this
    have e : M.filterMap (rdF ∘ (PyData.str ∘ rowT)) = M.map vec := by
      clear this es hl hne e1 hd h
      induction M with
      | nil => rfl
      | cons r M ih =>
        have e2 := rd_row (hr r List.mem_cons_self).2.1 (hr r List.mem_cons_self).2.2
        rw [fm_some (f := rdF ∘ (PyData.str ∘ rowT)) (b := vec r) e2, ih fun s hs => hr s (List.mem_cons_of_mem _ hs)]
        rfl
    rw [e] at this
    exact this
  have em : PyData.tuple (M.map vec) = mat M := rfl
  rw [c_read]
  simp (decide := true) only [b_read, ↓reduceIte, Bool.not_true, Bool.not_false, decide_true, decide_false, wipeE, Bool.false_eq_true, y_e_c, y_e_v, y_e_g, y_e_never, y_e_bin, y_e_neg, y_e_tst, y_e_ite, y_e_tup, y_e_lst, y_e_box, y_e_ix, y_e_sl, y_e_rev, y_e_call, y_e_blt, y_e_isi, y_e_lc, y_es_nil, y_es_cons, y_o_no, y_o_yes, y_t_val, y_t_cmp, y_t_chn, y_t_isnt, y_t_isnf, z_nnr_dat, z_nnr_own, z_nnr_brw, z_nn_none, z_nn_bool, z_nn_int, z_nn_str, z_nn_list, z_nn_tuple, y_t_isb, y_t_and, y_t_or, y_t_not, y_h_last, y_h_link, y_al_one, y_al_cons, y_an_one, y_an_cons, y_c_no, y_c_yes, y_i_seq, y_i_rng, y_i_zip, y_i_enum, y_s_never, y_s_pass, y_s_asg, y_s_par, y_s_par3, y_s_setO, y_s_unp, y_s_setB, y_s_exp, y_s_app, y_s_ext, y_s_iff, y_s_whl, y_s_forr, y_s_ret, y_s_retv, y_s_frz, y_ss_nil, y_ss_cons, argsOf, views, caps, Option.map_some, Option.map_none, Option.bind_some, Option.bind_none, List.getElem?_cons_zero, List.getElem?_cons_succ, List.set_cons_zero, List.set_cons_succ, List.length_cons, List.length_nil, z_read_dat, z_read_ref, z_read_scr, z_read_own, z_view_own, z_view_brw, z_view_dat, z_cap_dat, z_cap_own, z_hold_dat, z_hold_ref, z_hold_scr, z_hold_own, z_arg_dat, z_arg_ref, z_arg_scr, z_arg_own, z_look_t, z_look_f, z_len_ref, z_len_scr, z_len_l, z_len_t, z_len_o, z_len_b, z_ix_ref, z_ix_scr, z_ix_l, z_ix_t, z_ix_o, z_ix_b, z_blt_len, z_blt_abs, z_blt_tup, z_blt_lst, z_blt_sum, z_blt_all, z_blt_any, z_blt_min, z_blt_max, z_blt_sorted, z_blt_repr, z_blt_str, z_blt_int, z_blt_divmod, z_d_abs, z_d_tupl, z_d_tupt, z_d_lstl, z_d_lstt, z_d_sum, z_d_all, z_d_any, z_d_minl, z_d_maxl, z_d_min, z_d_max, z_d_sorted, z_d_divmod, z_d_int, z_d_repr, z_d_str, z_d_strt, z_bin_i, z_bin_ll, z_bin_tt, z_bin_rep, z_add, z_sub, z_mul, z_fdiv, z_mod, z_eq, z_ne, z_lt, z_le, z_gt, z_ge, z_inl, z_int, z_ninl, z_nint, z_isi_int_none, z_isi_int_bool, z_isi_int_int, z_isi_int_str, z_isi_int_list, z_isi_int_tuple, z_isi_bool_none, z_isi_bool_bool, z_isi_bool_int, z_isi_bool_str, z_isi_bool_list, z_isi_bool_tuple, z_isi_str_none, z_isi_str_bool, z_isi_str_int, z_isi_str_str, z_isi_str_list, z_isi_str_tuple, z_isi_list_none, z_isi_list_bool, z_isi_list_int, z_isi_list_str, z_isi_list_list, z_isi_list_tuple, z_isi_tuple_none, z_isi_tuple_bool, z_isi_tuple_int, z_isi_tuple_str, z_isi_tuple_list, z_isi_tuple_tuple, z_out_rt, z_out_nx, z_eqi, z_eqb, z_rng1, z_rng2, z_si_l, z_si_t, z_bind_nm, z_bind_tt, z_bind_tl, z_binds_n, z_binds_c, z_sl_l, z_sl_t, z_at0, z_at1, z_at2, z_at3, z_ixN0, z_intsn, z_intsc, z_boolsn, z_boolsc, y_e_isx, y_e_dct, y_e_lrg, y_e_mth, y_e_orv, y_callD, y_s_expC, y_s_retC, y_s_asgC, y_s_raise, y_s_tryE, y_s_forO, z_nox_dat, z_nox_own, z_nox_ref, z_nox_scr, z_nox_exc, z_nox_n, z_read_exo, z_arg_exo, z_hold_exo, z_exEnv, y_e_ixP, y_s_retP, z_sl_s, z_bin_ss, z_d_ints, z_ins, z_nins, y_i_sgn, hq, em, e1]

/-! k06 -/
def addv (p q : List Int) : List Int := List.zipWith (· + ·) p q
def dotv (p q : List Int) : Int := (List.zipWith (· * ·) p q).sum
def dbl (r : List Int) : List Int := r.map fun i => 2 * i
theorem pt_add {A B w : Nat} {p q : List Int} (hp : Pt A w p) (hq : Pt B w q) : Pt (max A B + 1) w (addv p q) := by
  rcases hp with ⟨rfl, a, b, rfl, h1, h2⟩ | ⟨rfl, a, b, c, rfl, h1, h2, h3⟩
  · rcases hq with ⟨-, d, e, rfl, g1, g2⟩ | ⟨e, _⟩
    · exact .inl ⟨rfl, _, _, rfl, bd_add h1 g1, bd_add h2 g2⟩
    · cases e
  · rcases hq with ⟨e, _⟩ | ⟨-, d, e, f, rfl, g1, g2, g3⟩
    · cases e
    · exact .inr ⟨rfl, _, _, _, rfl, bd_add h1 g1, bd_add h2 g2, bd_add h3 g3⟩
theorem comb_add {A B : Nat} {M : List (List Int)} {p q : List Int} (h : Sq A M) (hp : Pt B M.length p) (hq : Pt B M.length q) : comb M (addv p q) = addv (comb M p) (comb M q) := by
  rcases h with ⟨a, b, c, d, rfl, h1, h2, h3, h4⟩ | ⟨a, b, c, d, e, f, g, h, i, rfl, h1, h2, h3, h4, h5, h6, h7, h8, h9⟩
  · rcases hp with ⟨_, m, n, rfl, p1, p2⟩ | ⟨e, _⟩
    · rcases hq with ⟨_, s, t, rfl, q1, q2⟩ | ⟨e, _⟩
      · show [(m + s) * a + (n + t) * c, (m + s) * b + (n + t) * d] = [m * a + n * c + (s * a + t * c), m * b + n * d + (s * b + t * d)]
        congr 1
        · grind
        · congr 1
          grind
      · cases e
    · cases e
  · rcases hp with ⟨e, _⟩ | ⟨_, m, n, o, rfl, p1, p2, p3⟩
    · cases e
    · rcases hq with ⟨e, _⟩ | ⟨_, s, t, u, rfl, q1, q2, q3⟩
      · cases e
      · show [(m + s) * a + (n + t) * d + (o + u) * g, (m + s) * b + (n + t) * e + (o + u) * h, (m + s) * c + (n + t) * f + (o + u) * i] = [m * a + n * d + o * g + (s * a + t * d + u * g), m * b + n * e + o * h + (s * b + t * e + u * h), m * c + n * f + o * i + (s * c + t * f + u * i)]
        congr 1
        · grind
        · congr 1
          · grind
          · congr 1
            grind
theorem dotv_comm {A w : Nat} {p q : List Int} (hp : Pt A w p) (hq : Pt A w q) : dotv p q = dotv q p := by
  rcases hp with ⟨rfl, a, b, rfl, h1, h2⟩ | ⟨rfl, a, b, c, rfl, h1, h2, h3⟩
  · rcases hq with ⟨-, d, e, rfl, g1, g2⟩ | ⟨e, _⟩
    · show a * d + (b * e + 0) = d * a + (e * b + 0)
      grind
    · cases e
  · rcases hq with ⟨e, _⟩ | ⟨-, d, e, f, rfl, g1, g2, g3⟩
    · cases e
    · show a * d + (b * e + (c * f + 0)) = d * a + (e * b + (f * c + 0))
      grind
theorem dotv_add {A w : Nat} {p q r : List Int} (hp : Pt A w p) (hq : Pt A w q) (hr : Pt A w r) : dotv (addv p q) r = dotv p r + dotv q r := by
  rcases hp with ⟨rfl, a, b, rfl, h1, h2⟩ | ⟨rfl, a, b, c, rfl, h1, h2, h3⟩
  · rcases hq with ⟨-, d, e, rfl, g1, g2⟩ | ⟨e, _⟩
    · rcases hr with ⟨-, f, g, rfl, k1, k2⟩ | ⟨e, _⟩
      · show (a + d) * f + ((b + e) * g + 0) = a * f + (b * g + 0) + (d * f + (e * g + 0))
        grind
      · cases e
    · cases e
  · rcases hq with ⟨e, _⟩ | ⟨-, d, e, f, rfl, g1, g2, g3⟩
    · cases e
    · rcases hr with ⟨e, _⟩ | ⟨-, g, h, i, rfl, k1, k2, k3⟩
      · cases e
      · show (a + d) * g + ((b + e) * h + ((c + f) * i + 0)) = a * g + (b * h + (c * i + 0)) + (d * g + (e * h + (f * i + 0)))
        grind
/-! rows of a grid -/
theorem row_some {A : Nat} {M : List (List Int)} (h : Sq A M) (hd : det M ≠ 0) {r : List Int} (hr : r ∈ M) : (nums M r).isSome = true := by
  have key : ∀ p, Pt 1 M.length p → (nums M (comb M p)).isSome = true := fun p hp => by rw [nums_comb h hp hd]; rfl
  have b0 : Bd 1 0 := by unfold Bd; decide
  have b1 : Bd 1 1 := by unfold Bd; decide
  rcases h with ⟨a, b, c, d, rfl, h1, h2, h3, h4⟩ | ⟨a, b, c, d, e, f, g, h, i, rfl, h1, h2, h3, h4, h5, h6, h7, h8, h9⟩
  · simp only [List.mem_cons, List.not_mem_nil, or_false] at hr
    rcases hr with rfl | rfl
    · have := key [1, 0] (.inl ⟨rfl, 1, 0, rfl, b1, b0⟩)
      have e : comb [[a, b], [c, d]] [1, 0] = [a, b] := by show [1 * a + 0 * c, 1 * b + 0 * d] = _; simp
      rwa [e] at this
    · have := key [0, 1] (.inl ⟨rfl, 0, 1, rfl, b0, b1⟩)
      have e : comb [[a, b], [c, d]] [0, 1] = [c, d] := by show [0 * a + 1 * c, 0 * b + 1 * d] = _; simp
      rwa [e] at this
  · simp only [List.mem_cons, List.not_mem_nil, or_false] at hr
    rcases hr with rfl | rfl | rfl
    · have := key [1, 0, 0] (.inr ⟨rfl, 1, 0, 0, rfl, b1, b0, b0⟩)
      have e : comb [[a, b, c], [d, e, f], [g, h, i]] [1, 0, 0] = [a, b, c] := by show [1 * a + 0 * d + 0 * g, 1 * b + 0 * e + 0 * h, 1 * c + 0 * f + 0 * i] = _; simp
      rwa [e] at this
    · have := key [0, 1, 0] (.inr ⟨rfl, 0, 1, 0, rfl, b0, b1, b0⟩)
      have e : comb [[a, b, c], [d, e, f], [g, h, i]] [0, 1, 0] = [d, e, f] := by show [0 * a + 1 * d + 0 * g, 0 * b + 1 * e + 0 * h, 0 * c + 1 * f + 0 * i] = _; simp
      rwa [e] at this
    · have := key [0, 0, 1] (.inr ⟨rfl, 0, 0, 1, rfl, b0, b0, b1⟩)
      have e : comb [[a, b, c], [d, e, f], [g, h, i]] [0, 0, 1] = [g, h, i] := by show [0 * a + 0 * d + 1 * g, 0 * b + 0 * e + 1 * h, 0 * c + 0 * f + 1 * i] = _; simp
      rwa [e] at this
theorem win_rows {A : Nat} {M N : List (List Int)} (h : Sq A M) (hd : det M ≠ 0) (hN : ∀ r ∈ N, r ∈ M) : win M N = true := by
  unfold win
  rw [List.all_eq_true]
  exact fun r hr => row_some h hd (hN r hr)
def rot (M : List (List Int)) : List (List Int) := M.drop 1 ++ M.take 1
theorem rot_mem {M : List (List Int)} (r : List Int) : r ∈ rot M ↔ r ∈ M := by
  unfold rot
  rw [List.mem_append, or_comm, ← List.mem_append, List.take_append_drop]
theorem rot_ok {A : Nat} {M : List (List Int)} (h : Sq A M) : Sq A (rot M) ∧ (rot M).length = M.length ∧ (det (rot M)).natAbs = (det M).natAbs := by
  rcases h with ⟨a, b, c, d, rfl, h1, h2, h3, h4⟩ | ⟨a, b, c, d, e, f, g, h, i, rfl, h1, h2, h3, h4, h5, h6, h7, h8, h9⟩
  · refine ⟨.inl ⟨c, d, a, b, rfl, h3, h4, h1, h2⟩, rfl, ?_⟩
    show (c * b - d * a).natAbs = (a * d - b * c).natAbs
    have e : c * b - d * a = -(a * d - b * c) := by grind
    rw [e, Int.natAbs_neg]
  · refine ⟨.inr ⟨d, e, f, g, h, i, a, b, c, rfl, h4, h5, h6, h7, h8, h9, h1, h2, h3⟩, rfl, ?_⟩
    show (det3 d e f g h i a b c).natAbs = (det3 a b c d e f g h i).natAbs
    have e : det3 d e f g h i a b c = det3 a b c d e f g h i := by unfold det3; grind
    rw [e]
theorem pt_dbl {A w : Nat} {r : List Int} (h : Pt A w r) : Pt (A + 2) w (dbl r) := by
  have b2 : Bd 2 2 := by unfold Bd; decide
  have u : ∀ {z : Int}, Bd A z → Bd (A + 2) (2 * z) := fun h => (bd_mul b2 h).mono (by omega)
  rcases h with ⟨rfl, a, b, rfl, h1, h2⟩ | ⟨rfl, a, b, c, rfl, h1, h2, h3⟩
  · exact .inl ⟨rfl, 2 * a, 2 * b, rfl, u h1, u h2⟩
  · exact .inr ⟨rfl, 2 * a, 2 * b, 2 * c, rfl, u h1, u h2, u h3⟩
theorem det_dbl {A : Nat} {M : List (List Int)} (h : Sq A M) (j : Nat) (r : List Int) (hj : M[j]? = some r) : det (M.set j (dbl r)) = 2 * det M := by
  rcases h with ⟨a, b, c, d, rfl, h1, h2, h3, h4⟩ | ⟨a, b, c, d, e, f, g, h, i, rfl, h1, h2, h3, h4, h5, h6, h7, h8, h9⟩
  · match j, hj with
    | 0, hj =>
      cases hj
      show 2 * a * d - 2 * b * c = 2 * (a * d - b * c)
      grind
    | 1, hj =>
      cases hj
      show a * (2 * d) - b * (2 * c) = 2 * (a * d - b * c)
      grind
    | j + 2, hj => simp at hj
  · match j, hj with
    | 0, hj =>
      cases hj
      show det3 (2 * a) (2 * b) (2 * c) d e f g h i = 2 * det3 a b c d e f g h i
      unfold det3; grind
    | 1, hj =>
      cases hj
      show det3 a b c (2 * d) (2 * e) (2 * f) g h i = 2 * det3 a b c d e f g h i
      unfold det3; grind
    | 2, hj =>
      cases hj
      show det3 a b c d e f (2 * g) (2 * h) (2 * i) = 2 * det3 a b c d e f g h i
      unfold det3; grind
    | j + 3, hj => simp at hj
theorem set_set_self {α : Type} {M : List α} {j : Nat} {r y : α} (hj : M[j]? = some r) : (M.set j y).set j r = M := by
  rw [List.set_set]
  apply List.ext_getElem?
  intro i
  by_cases e : j = i
  · subst e
    rw [List.getElem?_set_self (List.getElem?_eq_some_iff.mp hj).1, hj]
  · rw [List.getElem?_set_ne e]
theorem dbl_out {A : Nat} {M : List (List Int)} (h : Sq A M) (hd : det M ≠ 0) (j : Nat) (r : List Int) (hj : M[j]? = some r) : win (M.set j (dbl r)) M = false := by
  rw [← Bool.not_eq_true]
  intro hw
  unfold win at hw
  rw [List.all_eq_true] at hw
  have hr := hw r (List.mem_of_getElem? hj)
  unfold nums at hr
  split at hr
  · rename_i hall
    have hjl : j < M.length := (List.getElem?_eq_some_iff.mp hj).1
    have ht : det M ∈ tops (M.set j (dbl r)) r := by
      unfold tops
      refine List.mem_map.mpr ⟨j, List.mem_range.mpr (by rw [List.length_set]; exact hjl), ?_⟩
      rw [set_set_self hj]
    have := hall _ ht
    rw [det_dbl h j r hj] at this
    have hdv := Int.dvd_of_fmod_eq_zero this
    obtain ⟨c, hc⟩ := hdv
    have e : det M * (2 * c - 1) = 0 := by grind
    rcases Int.mul_eq_zero.mp e with e | e
    · exact hd e
    · omega
  · cases hr
/-! equality -/
theorem nice_vec {r : List Int} (hl : r.length ≤ 3) : Nice 1 (vec r) := nice_tuple (n := 0) (fun d hd => by
  obtain ⟨i, -, rfl⟩ := List.mem_map.mp hd
  exact nice_int i) (by rw [List.length_map]; omega)
theorem eqv_vec (r : List Int) : PyData.eqv (vec r) (vec r) = true := (eqvAll_ints r r).trans (decide_eq_true rfl)
theorem eq_mat {A : Nat} {M : List (List Int)} (h : Sq A M) : eqD (mat M) (mat M) = some true := by
  obtain ⟨hl, -, hr⟩ := h.rows
  have n2 : Nice 2 (mat M) := nice_tuple (n := 1) (fun d hd => by
    obtain ⟨r, hm, rfl⟩ := List.mem_map.mp hd
    exact nice_vec (hr r hm).1) (by rw [List.length_map]; omega)
  rw [eqD_of n2 n2 (by decide)]
  congr 1
  have : ∀ N : List (List Int), PyData.eqvAll (N.map vec) (N.map vec) = true := fun N => by
    induction N with
    | nil => rfl
    | cons r N ih =>
      show (PyData.eqv (vec r) (vec r) && PyData.eqvAll (N.map vec) (N.map vec)) = true
      rw [eqv_vec, ih]
      rfl
  exact this M
theorem eq_vec {r : List Int} (hl : r.length ≤ 3) : eqD (vec r) (vec r) = some true := by
  rw [eqD_of (nice_vec hl) (nice_vec hl) (by decide), eqv_vec]
/-! products -/
theorem g_is_point (k w : Nat) (r : List Int) (st : Bx) (h : Pt 1000 w r) : callF tb (k + 3) "is_point" [.dat (vec r)] st = some (.dat (.bool true), st) := by
  have e2 := s_are_whole k (r.map .int) 2 st (by rw [List.length_map]; have := h.all.2.1; omega)
  have e3 := s_are_whole k (r.map .int) 3 st (by rw [List.length_map]; have := h.all.2.1; omega)
  rw [c_is_point]
  rcases h with ⟨rfl, a, b, rfl, h1, h2⟩ | ⟨rfl, a, b, c, rfl, h1, h2, h3⟩
  · have e2' : callF tb (k + 2) "are_whole" [.dat (PyData.tuple [PyData.int (a), PyData.int (b)]), .dat (.int 2)] st = some (.dat (.bool true), st) := e2
    simp (decide := true) only [b_is_point, vec, List.map_cons, List.map_nil, ↓reduceIte, Bool.not_true, Bool.not_false, decide_true, decide_false, wipeE, Bool.false_eq_true, y_e_c, y_e_v, y_e_g, y_e_never, y_e_bin, y_e_neg, y_e_tst, y_e_ite, y_e_tup, y_e_lst, y_e_box, y_e_ix, y_e_sl, y_e_rev, y_e_call, y_e_blt, y_e_isi, y_e_lc, y_es_nil, y_es_cons, y_o_no, y_o_yes, y_t_val, y_t_cmp, y_t_chn, y_t_isnt, y_t_isnf, z_nnr_dat, z_nnr_own, z_nnr_brw, z_nn_none, z_nn_bool, z_nn_int, z_nn_str, z_nn_list, z_nn_tuple, y_t_isb, y_t_and, y_t_or, y_t_not, y_h_last, y_h_link, y_al_one, y_al_cons, y_an_one, y_an_cons, y_c_no, y_c_yes, y_i_seq, y_i_rng, y_i_zip, y_i_enum, y_s_never, y_s_pass, y_s_asg, y_s_par, y_s_par3, y_s_setO, y_s_unp, y_s_setB, y_s_exp, y_s_app, y_s_ext, y_s_iff, y_s_whl, y_s_forr, y_s_ret, y_s_retv, y_s_frz, y_ss_nil, y_ss_cons, argsOf, views, caps, Option.map_some, Option.map_none, Option.bind_some, Option.bind_none, List.getElem?_cons_zero, List.getElem?_cons_succ, List.set_cons_zero, List.set_cons_succ, List.length_cons, List.length_nil, z_read_dat, z_read_ref, z_read_scr, z_read_own, z_view_own, z_view_brw, z_view_dat, z_cap_dat, z_cap_own, z_hold_dat, z_hold_ref, z_hold_scr, z_hold_own, z_arg_dat, z_arg_ref, z_arg_scr, z_arg_own, z_look_t, z_look_f, z_len_ref, z_len_scr, z_len_l, z_len_t, z_len_o, z_len_b, z_ix_ref, z_ix_scr, z_ix_l, z_ix_t, z_ix_o, z_ix_b, z_blt_len, z_blt_abs, z_blt_tup, z_blt_lst, z_blt_sum, z_blt_all, z_blt_any, z_blt_min, z_blt_max, z_blt_sorted, z_blt_repr, z_blt_str, z_blt_int, z_blt_divmod, z_d_abs, z_d_tupl, z_d_tupt, z_d_lstl, z_d_lstt, z_d_sum, z_d_all, z_d_any, z_d_minl, z_d_maxl, z_d_min, z_d_max, z_d_sorted, z_d_divmod, z_d_int, z_d_repr, z_d_str, z_d_strt, z_bin_i, z_bin_ll, z_bin_tt, z_bin_rep, z_add, z_sub, z_mul, z_fdiv, z_mod, z_eq, z_ne, z_lt, z_le, z_gt, z_ge, z_inl, z_int, z_ninl, z_nint, z_isi_int_none, z_isi_int_bool, z_isi_int_int, z_isi_int_str, z_isi_int_list, z_isi_int_tuple, z_isi_bool_none, z_isi_bool_bool, z_isi_bool_int, z_isi_bool_str, z_isi_bool_list, z_isi_bool_tuple, z_isi_str_none, z_isi_str_bool, z_isi_str_int, z_isi_str_str, z_isi_str_list, z_isi_str_tuple, z_isi_list_none, z_isi_list_bool, z_isi_list_int, z_isi_list_str, z_isi_list_list, z_isi_list_tuple, z_isi_tuple_none, z_isi_tuple_bool, z_isi_tuple_int, z_isi_tuple_str, z_isi_tuple_list, z_isi_tuple_tuple, z_out_rt, z_out_nx, z_eqi, z_eqb, z_rng1, z_rng2, z_si_l, z_si_t, z_bind_nm, z_bind_tt, z_bind_tl, z_binds_n, z_binds_c, z_sl_l, z_sl_t, z_at0, z_at1, z_at2, z_at3, z_ixN0, z_intsn, z_intsc, z_boolsn, z_boolsc, y_e_isx, y_e_dct, y_e_lrg, y_e_mth, y_e_orv, y_callD, y_s_expC, y_s_retC, y_s_asgC, y_s_raise, y_s_tryE, y_s_forO, z_nox_dat, z_nox_own, z_nox_ref, z_nox_scr, z_nox_exc, z_nox_n, z_read_exo, z_arg_exo, z_hold_exo, z_exEnv, y_e_ixP, y_s_retP, z_sl_s, z_bin_ss, z_d_ints, z_ins, z_nins, y_i_sgn, e2']
  · have e2' : callF tb (k + 2) "are_whole" [.dat (PyData.tuple [PyData.int (a), PyData.int (b), PyData.int (c)]), .dat (.int 2)] st = some (.dat (.bool false), st) := e2
    have e3' : callF tb (k + 2) "are_whole" [.dat (PyData.tuple [PyData.int (a), PyData.int (b), PyData.int (c)]), .dat (.int 3)] st = some (.dat (.bool true), st) := e3
    simp (decide := true) only [b_is_point, vec, List.map_cons, List.map_nil, ↓reduceIte, Bool.not_true, Bool.not_false, decide_true, decide_false, wipeE, Bool.false_eq_true, y_e_c, y_e_v, y_e_g, y_e_never, y_e_bin, y_e_neg, y_e_tst, y_e_ite, y_e_tup, y_e_lst, y_e_box, y_e_ix, y_e_sl, y_e_rev, y_e_call, y_e_blt, y_e_isi, y_e_lc, y_es_nil, y_es_cons, y_o_no, y_o_yes, y_t_val, y_t_cmp, y_t_chn, y_t_isnt, y_t_isnf, z_nnr_dat, z_nnr_own, z_nnr_brw, z_nn_none, z_nn_bool, z_nn_int, z_nn_str, z_nn_list, z_nn_tuple, y_t_isb, y_t_and, y_t_or, y_t_not, y_h_last, y_h_link, y_al_one, y_al_cons, y_an_one, y_an_cons, y_c_no, y_c_yes, y_i_seq, y_i_rng, y_i_zip, y_i_enum, y_s_never, y_s_pass, y_s_asg, y_s_par, y_s_par3, y_s_setO, y_s_unp, y_s_setB, y_s_exp, y_s_app, y_s_ext, y_s_iff, y_s_whl, y_s_forr, y_s_ret, y_s_retv, y_s_frz, y_ss_nil, y_ss_cons, argsOf, views, caps, Option.map_some, Option.map_none, Option.bind_some, Option.bind_none, List.getElem?_cons_zero, List.getElem?_cons_succ, List.set_cons_zero, List.set_cons_succ, List.length_cons, List.length_nil, z_read_dat, z_read_ref, z_read_scr, z_read_own, z_view_own, z_view_brw, z_view_dat, z_cap_dat, z_cap_own, z_hold_dat, z_hold_ref, z_hold_scr, z_hold_own, z_arg_dat, z_arg_ref, z_arg_scr, z_arg_own, z_look_t, z_look_f, z_len_ref, z_len_scr, z_len_l, z_len_t, z_len_o, z_len_b, z_ix_ref, z_ix_scr, z_ix_l, z_ix_t, z_ix_o, z_ix_b, z_blt_len, z_blt_abs, z_blt_tup, z_blt_lst, z_blt_sum, z_blt_all, z_blt_any, z_blt_min, z_blt_max, z_blt_sorted, z_blt_repr, z_blt_str, z_blt_int, z_blt_divmod, z_d_abs, z_d_tupl, z_d_tupt, z_d_lstl, z_d_lstt, z_d_sum, z_d_all, z_d_any, z_d_minl, z_d_maxl, z_d_min, z_d_max, z_d_sorted, z_d_divmod, z_d_int, z_d_repr, z_d_str, z_d_strt, z_bin_i, z_bin_ll, z_bin_tt, z_bin_rep, z_add, z_sub, z_mul, z_fdiv, z_mod, z_eq, z_ne, z_lt, z_le, z_gt, z_ge, z_inl, z_int, z_ninl, z_nint, z_isi_int_none, z_isi_int_bool, z_isi_int_int, z_isi_int_str, z_isi_int_list, z_isi_int_tuple, z_isi_bool_none, z_isi_bool_bool, z_isi_bool_int, z_isi_bool_str, z_isi_bool_list, z_isi_bool_tuple, z_isi_str_none, z_isi_str_bool, z_isi_str_int, z_isi_str_str, z_isi_str_list, z_isi_str_tuple, z_isi_list_none, z_isi_list_bool, z_isi_list_int, z_isi_list_str, z_isi_list_list, z_isi_list_tuple, z_isi_tuple_none, z_isi_tuple_bool, z_isi_tuple_int, z_isi_tuple_str, z_isi_tuple_list, z_isi_tuple_tuple, z_out_rt, z_out_nx, z_eqi, z_eqb, z_rng1, z_rng2, z_si_l, z_si_t, z_bind_nm, z_bind_tt, z_bind_tl, z_binds_n, z_binds_c, z_sl_l, z_sl_t, z_at0, z_at1, z_at2, z_at3, z_ixN0, z_intsn, z_intsc, z_boolsn, z_boolsc, y_e_isx, y_e_dct, y_e_lrg, y_e_mth, y_e_orv, y_callD, y_s_expC, y_s_retC, y_s_asgC, y_s_raise, y_s_tryE, y_s_forO, z_nox_dat, z_nox_own, z_nox_ref, z_nox_scr, z_nox_exc, z_nox_n, z_read_exo, z_arg_exo, z_hold_exo, z_exEnv, y_e_ixP, y_s_retP, z_sl_s, z_bin_ss, z_d_ints, z_ins, z_nins, y_i_sgn, e2', e3']
theorem g_product (k w : Nat) (p q : List Int) (st : Bx) (hp : Pt 1000 w p) (hq : Pt 1000 w q) : callF tb (k + 4) "product" [.dat (vec p), .dat (vec q)] st = some (.dat (.int (dotv p q)), st) := by
  have e1 := g_is_point k w p st hp
  have e2 := g_is_point k w q st hq
  have l0 : 0 < sizeLine := by decide
  have l1 : 1 < sizeLine := by decide
  have l2 : 2 < sizeLine := by decide
  have e3 : callF tb (k + 3) "product_of" [.dat (vec p), .dat (vec q)] st = some (.dat (.int (dotv p q)), st) := by
    rw [c_product_of]
    rcases hp with ⟨rfl, a, b, rfl, h1, h2⟩ | ⟨rfl, a, b, c, rfl, h1, h2, h3⟩
    · rcases hq with ⟨-, d, e, rfl, g1, g2⟩ | ⟨e, _⟩
      · have m1 : mulOk a d = true := by exact Sy.mulOk_bd (by repeat' (first | assumption | apply Sy.bd_mul | apply Sy.bd_add | apply Sy.bd_sub | apply Sy.bd_neg | apply Sy.bd_abs | (exact Sy.bd_s (by decide) (by decide)) | (exact Sy.bd_s (by omega) (by omega)))) (by repeat' (first | assumption | apply Sy.bd_mul | apply Sy.bd_add | apply Sy.bd_sub | apply Sy.bd_neg | apply Sy.bd_abs | (exact Sy.bd_s (by decide) (by decide)) | (exact Sy.bd_s (by omega) (by omega)))) (by decide)
        have m2 : mulOk b e = true := by exact Sy.mulOk_bd (by repeat' (first | assumption | apply Sy.bd_mul | apply Sy.bd_add | apply Sy.bd_sub | apply Sy.bd_neg | apply Sy.bd_abs | (exact Sy.bd_s (by decide) (by decide)) | (exact Sy.bd_s (by omega) (by omega)))) (by repeat' (first | assumption | apply Sy.bd_mul | apply Sy.bd_add | apply Sy.bd_sub | apply Sy.bd_neg | apply Sy.bd_abs | (exact Sy.bd_s (by decide) (by decide)) | (exact Sy.bd_s (by omega) (by omega)))) (by decide)
        have ed : a * d + (b * e + 0) = dotv [a, b] [d, e] := rfl
        simp (decide := true) only [b_product_of, q_product_of_1, vec, List.map_cons, List.map_nil, ↓reduceIte, Bool.not_true, Bool.not_false, decide_true, decide_false, wipeE, Bool.false_eq_true, y_e_c, y_e_v, y_e_g, y_e_never, y_e_bin, y_e_neg, y_e_tst, y_e_ite, y_e_tup, y_e_lst, y_e_box, y_e_ix, y_e_sl, y_e_rev, y_e_call, y_e_blt, y_e_isi, y_e_lc, y_es_nil, y_es_cons, y_o_no, y_o_yes, y_t_val, y_t_cmp, y_t_chn, y_t_isnt, y_t_isnf, z_nnr_dat, z_nnr_own, z_nnr_brw, z_nn_none, z_nn_bool, z_nn_int, z_nn_str, z_nn_list, z_nn_tuple, y_t_isb, y_t_and, y_t_or, y_t_not, y_h_last, y_h_link, y_al_one, y_al_cons, y_an_one, y_an_cons, y_c_no, y_c_yes, y_i_seq, y_i_rng, y_i_zip, y_i_enum, y_s_never, y_s_pass, y_s_asg, y_s_par, y_s_par3, y_s_setO, y_s_unp, y_s_setB, y_s_exp, y_s_app, y_s_ext, y_s_iff, y_s_whl, y_s_forr, y_s_ret, y_s_retv, y_s_frz, y_ss_nil, y_ss_cons, argsOf, views, caps, Option.map_some, Option.map_none, Option.bind_some, Option.bind_none, List.getElem?_cons_zero, List.getElem?_cons_succ, List.set_cons_zero, List.set_cons_succ, List.length_cons, List.length_nil, z_read_dat, z_read_ref, z_read_scr, z_read_own, z_view_own, z_view_brw, z_view_dat, z_cap_dat, z_cap_own, z_hold_dat, z_hold_ref, z_hold_scr, z_hold_own, z_arg_dat, z_arg_ref, z_arg_scr, z_arg_own, z_look_t, z_look_f, z_len_ref, z_len_scr, z_len_l, z_len_t, z_len_o, z_len_b, z_ix_ref, z_ix_scr, z_ix_l, z_ix_t, z_ix_o, z_ix_b, z_blt_len, z_blt_abs, z_blt_tup, z_blt_lst, z_blt_sum, z_blt_all, z_blt_any, z_blt_min, z_blt_max, z_blt_sorted, z_blt_repr, z_blt_str, z_blt_int, z_blt_divmod, z_d_abs, z_d_tupl, z_d_tupt, z_d_lstl, z_d_lstt, z_d_sum, z_d_all, z_d_any, z_d_minl, z_d_maxl, z_d_min, z_d_max, z_d_sorted, z_d_divmod, z_d_int, z_d_repr, z_d_str, z_d_strt, z_bin_i, z_bin_ll, z_bin_tt, z_bin_rep, z_add, z_sub, z_mul, z_fdiv, z_mod, z_eq, z_ne, z_lt, z_le, z_gt, z_ge, z_inl, z_int, z_ninl, z_nint, z_isi_int_none, z_isi_int_bool, z_isi_int_int, z_isi_int_str, z_isi_int_list, z_isi_int_tuple, z_isi_bool_none, z_isi_bool_bool, z_isi_bool_int, z_isi_bool_str, z_isi_bool_list, z_isi_bool_tuple, z_isi_str_none, z_isi_str_bool, z_isi_str_int, z_isi_str_str, z_isi_str_list, z_isi_str_tuple, z_isi_list_none, z_isi_list_bool, z_isi_list_int, z_isi_list_str, z_isi_list_list, z_isi_list_tuple, z_isi_tuple_none, z_isi_tuple_bool, z_isi_tuple_int, z_isi_tuple_str, z_isi_tuple_list, z_isi_tuple_tuple, z_out_rt, z_out_nx, z_eqi, z_eqb, z_rng1, z_rng2, z_si_l, z_si_t, z_bind_nm, z_bind_tt, z_bind_tl, z_binds_n, z_binds_c, z_sl_l, z_sl_t, z_at0, z_at1, z_at2, z_at3, z_ixN0, z_intsn, z_intsc, z_boolsn, z_boolsc, y_e_isx, y_e_dct, y_e_lrg, y_e_mth, y_e_orv, y_callD, y_s_expC, y_s_retC, y_s_asgC, y_s_raise, y_s_tryE, y_s_forO, z_nox_dat, z_nox_own, z_nox_ref, z_nox_scr, z_nox_exc, z_nox_n, z_read_exo, z_arg_exo, z_hold_exo, z_exEnv, y_e_ixP, y_s_retP, z_sl_s, z_bin_ss, z_d_ints, z_ins, z_nins, y_i_sgn, z_eqs, z_fgn, z_fgc, z_lcn, z_lcc, rng_2, rng_3, z_en2, z_en3, z_zn, z_zn2, z_zc, cut2_a0, cut2_a1, cut2_b1, cut2_b2, cut3_a0, cut3_a1, cut3_a2, cut3_b1, cut3_b2, cut3_b3, List.nil_append, List.cons_append, Int.reduceAdd, Int.reduceSub, Int.reduceMul, Int.reduceMod, Int.reduceNeg, Int.reduceToNat, Nat.reduceAdd, Int.cast_ofNat_Int, Int.natCast_add, m1, m2, l0, l1, List.sum_cons, List.sum_nil, ed]
      · cases e
    · rcases hq with ⟨e, _⟩ | ⟨-, d, e, f, rfl, g1, g2, g3⟩
      · cases e
      · have m1 : mulOk a d = true := by exact Sy.mulOk_bd (by repeat' (first | assumption | apply Sy.bd_mul | apply Sy.bd_add | apply Sy.bd_sub | apply Sy.bd_neg | apply Sy.bd_abs | (exact Sy.bd_s (by decide) (by decide)) | (exact Sy.bd_s (by omega) (by omega)))) (by repeat' (first | assumption | apply Sy.bd_mul | apply Sy.bd_add | apply Sy.bd_sub | apply Sy.bd_neg | apply Sy.bd_abs | (exact Sy.bd_s (by decide) (by decide)) | (exact Sy.bd_s (by omega) (by omega)))) (by decide)
        have m2 : mulOk b e = true := by exact Sy.mulOk_bd (by repeat' (first | assumption | apply Sy.bd_mul | apply Sy.bd_add | apply Sy.bd_sub | apply Sy.bd_neg | apply Sy.bd_abs | (exact Sy.bd_s (by decide) (by decide)) | (exact Sy.bd_s (by omega) (by omega)))) (by repeat' (first | assumption | apply Sy.bd_mul | apply Sy.bd_add | apply Sy.bd_sub | apply Sy.bd_neg | apply Sy.bd_abs | (exact Sy.bd_s (by decide) (by decide)) | (exact Sy.bd_s (by omega) (by omega)))) (by decide)
        have m3 : mulOk c f = true := by exact Sy.mulOk_bd (by repeat' (first | assumption | apply Sy.bd_mul | apply Sy.bd_add | apply Sy.bd_sub | apply Sy.bd_neg | apply Sy.bd_abs | (exact Sy.bd_s (by decide) (by decide)) | (exact Sy.bd_s (by omega) (by omega)))) (by repeat' (first | assumption | apply Sy.bd_mul | apply Sy.bd_add | apply Sy.bd_sub | apply Sy.bd_neg | apply Sy.bd_abs | (exact Sy.bd_s (by decide) (by decide)) | (exact Sy.bd_s (by omega) (by omega)))) (by decide)
        have ed : a * d + (b * e + (c * f + 0)) = dotv [a, b, c] [d, e, f] := rfl
        simp (decide := true) only [b_product_of, q_product_of_1, vec, List.map_cons, List.map_nil, ↓reduceIte, Bool.not_true, Bool.not_false, decide_true, decide_false, wipeE, Bool.false_eq_true, y_e_c, y_e_v, y_e_g, y_e_never, y_e_bin, y_e_neg, y_e_tst, y_e_ite, y_e_tup, y_e_lst, y_e_box, y_e_ix, y_e_sl, y_e_rev, y_e_call, y_e_blt, y_e_isi, y_e_lc, y_es_nil, y_es_cons, y_o_no, y_o_yes, y_t_val, y_t_cmp, y_t_chn, y_t_isnt, y_t_isnf, z_nnr_dat, z_nnr_own, z_nnr_brw, z_nn_none, z_nn_bool, z_nn_int, z_nn_str, z_nn_list, z_nn_tuple, y_t_isb, y_t_and, y_t_or, y_t_not, y_h_last, y_h_link, y_al_one, y_al_cons, y_an_one, y_an_cons, y_c_no, y_c_yes, y_i_seq, y_i_rng, y_i_zip, y_i_enum, y_s_never, y_s_pass, y_s_asg, y_s_par, y_s_par3, y_s_setO, y_s_unp, y_s_setB, y_s_exp, y_s_app, y_s_ext, y_s_iff, y_s_whl, y_s_forr, y_s_ret, y_s_retv, y_s_frz, y_ss_nil, y_ss_cons, argsOf, views, caps, Option.map_some, Option.map_none, Option.bind_some, Option.bind_none, List.getElem?_cons_zero, List.getElem?_cons_succ, List.set_cons_zero, List.set_cons_succ, List.length_cons, List.length_nil, z_read_dat, z_read_ref, z_read_scr, z_read_own, z_view_own, z_view_brw, z_view_dat, z_cap_dat, z_cap_own, z_hold_dat, z_hold_ref, z_hold_scr, z_hold_own, z_arg_dat, z_arg_ref, z_arg_scr, z_arg_own, z_look_t, z_look_f, z_len_ref, z_len_scr, z_len_l, z_len_t, z_len_o, z_len_b, z_ix_ref, z_ix_scr, z_ix_l, z_ix_t, z_ix_o, z_ix_b, z_blt_len, z_blt_abs, z_blt_tup, z_blt_lst, z_blt_sum, z_blt_all, z_blt_any, z_blt_min, z_blt_max, z_blt_sorted, z_blt_repr, z_blt_str, z_blt_int, z_blt_divmod, z_d_abs, z_d_tupl, z_d_tupt, z_d_lstl, z_d_lstt, z_d_sum, z_d_all, z_d_any, z_d_minl, z_d_maxl, z_d_min, z_d_max, z_d_sorted, z_d_divmod, z_d_int, z_d_repr, z_d_str, z_d_strt, z_bin_i, z_bin_ll, z_bin_tt, z_bin_rep, z_add, z_sub, z_mul, z_fdiv, z_mod, z_eq, z_ne, z_lt, z_le, z_gt, z_ge, z_inl, z_int, z_ninl, z_nint, z_isi_int_none, z_isi_int_bool, z_isi_int_int, z_isi_int_str, z_isi_int_list, z_isi_int_tuple, z_isi_bool_none, z_isi_bool_bool, z_isi_bool_int, z_isi_bool_str, z_isi_bool_list, z_isi_bool_tuple, z_isi_str_none, z_isi_str_bool, z_isi_str_int, z_isi_str_str, z_isi_str_list, z_isi_str_tuple, z_isi_list_none, z_isi_list_bool, z_isi_list_int, z_isi_list_str, z_isi_list_list, z_isi_list_tuple, z_isi_tuple_none, z_isi_tuple_bool, z_isi_tuple_int, z_isi_tuple_str, z_isi_tuple_list, z_isi_tuple_tuple, z_out_rt, z_out_nx, z_eqi, z_eqb, z_rng1, z_rng2, z_si_l, z_si_t, z_bind_nm, z_bind_tt, z_bind_tl, z_binds_n, z_binds_c, z_sl_l, z_sl_t, z_at0, z_at1, z_at2, z_at3, z_ixN0, z_intsn, z_intsc, z_boolsn, z_boolsc, y_e_isx, y_e_dct, y_e_lrg, y_e_mth, y_e_orv, y_callD, y_s_expC, y_s_retC, y_s_asgC, y_s_raise, y_s_tryE, y_s_forO, z_nox_dat, z_nox_own, z_nox_ref, z_nox_scr, z_nox_exc, z_nox_n, z_read_exo, z_arg_exo, z_hold_exo, z_exEnv, y_e_ixP, y_s_retP, z_sl_s, z_bin_ss, z_d_ints, z_ins, z_nins, y_i_sgn, z_eqs, z_fgn, z_fgc, z_lcn, z_lcc, rng_2, rng_3, z_en2, z_en3, z_zn, z_zn2, z_zc, cut2_a0, cut2_a1, cut2_b1, cut2_b2, cut3_a0, cut3_a1, cut3_a2, cut3_b1, cut3_b2, cut3_b3, List.nil_append, List.cons_append, Int.reduceAdd, Int.reduceSub, Int.reduceMul, Int.reduceMod, Int.reduceNeg, Int.reduceToNat, Nat.reduceAdd, Int.cast_ofNat_Int, Int.natCast_add, m1, m2, m3, l0, l1, l2, List.sum_cons, List.sum_nil, ed]
  have hl : p.length = q.length := by rw [hp.all.1, hq.all.1]
  have n1 : lenR (.dat (vec p)) st = some (.dat (.int (p.length : Int))) := by unfold vec; rw [z_len_t, List.length_map]
  have n2 : lenR (.dat (vec q)) st = some (.dat (.int (p.length : Int))) := by unfold vec; rw [z_len_t, List.length_map, hl]
  rw [c_product]
  simp (decide := true) only [b_product, ↓reduceIte, Bool.not_true, Bool.not_false, decide_true, decide_false, wipeE, Bool.false_eq_true, y_e_c, y_e_v, y_e_g, y_e_never, y_e_bin, y_e_neg, y_e_tst, y_e_ite, y_e_tup, y_e_lst, y_e_box, y_e_ix, y_e_sl, y_e_rev, y_e_call, y_e_blt, y_e_isi, y_e_lc, y_es_nil, y_es_cons, y_o_no, y_o_yes, y_t_val, y_t_cmp, y_t_chn, y_t_isnt, y_t_isnf, z_nnr_dat, z_nnr_own, z_nnr_brw, z_nn_none, z_nn_bool, z_nn_int, z_nn_str, z_nn_list, z_nn_tuple, y_t_isb, y_t_and, y_t_or, y_t_not, y_h_last, y_h_link, y_al_one, y_al_cons, y_an_one, y_an_cons, y_c_no, y_c_yes, y_i_seq, y_i_rng, y_i_zip, y_i_enum, y_s_never, y_s_pass, y_s_asg, y_s_par, y_s_par3, y_s_setO, y_s_unp, y_s_setB, y_s_exp, y_s_app, y_s_ext, y_s_iff, y_s_whl, y_s_forr, y_s_ret, y_s_retv, y_s_frz, y_ss_nil, y_ss_cons, argsOf, views, caps, Option.map_some, Option.map_none, Option.bind_some, Option.bind_none, List.getElem?_cons_zero, List.getElem?_cons_succ, List.set_cons_zero, List.set_cons_succ, List.length_cons, List.length_nil, z_read_dat, z_read_ref, z_read_scr, z_read_own, z_view_own, z_view_brw, z_view_dat, z_cap_dat, z_cap_own, z_hold_dat, z_hold_ref, z_hold_scr, z_hold_own, z_arg_dat, z_arg_ref, z_arg_scr, z_arg_own, z_look_t, z_look_f, z_len_ref, z_len_scr, z_len_l, z_len_t, z_len_o, z_len_b, z_ix_ref, z_ix_scr, z_ix_l, z_ix_t, z_ix_o, z_ix_b, z_blt_len, z_blt_abs, z_blt_tup, z_blt_lst, z_blt_sum, z_blt_all, z_blt_any, z_blt_min, z_blt_max, z_blt_sorted, z_blt_repr, z_blt_str, z_blt_int, z_blt_divmod, z_d_abs, z_d_tupl, z_d_tupt, z_d_lstl, z_d_lstt, z_d_sum, z_d_all, z_d_any, z_d_minl, z_d_maxl, z_d_min, z_d_max, z_d_sorted, z_d_divmod, z_d_int, z_d_repr, z_d_str, z_d_strt, z_bin_i, z_bin_ll, z_bin_tt, z_bin_rep, z_add, z_sub, z_mul, z_fdiv, z_mod, z_eq, z_ne, z_lt, z_le, z_gt, z_ge, z_inl, z_int, z_ninl, z_nint, z_isi_int_none, z_isi_int_bool, z_isi_int_int, z_isi_int_str, z_isi_int_list, z_isi_int_tuple, z_isi_bool_none, z_isi_bool_bool, z_isi_bool_int, z_isi_bool_str, z_isi_bool_list, z_isi_bool_tuple, z_isi_str_none, z_isi_str_bool, z_isi_str_int, z_isi_str_str, z_isi_str_list, z_isi_str_tuple, z_isi_list_none, z_isi_list_bool, z_isi_list_int, z_isi_list_str, z_isi_list_list, z_isi_list_tuple, z_isi_tuple_none, z_isi_tuple_bool, z_isi_tuple_int, z_isi_tuple_str, z_isi_tuple_list, z_isi_tuple_tuple, z_out_rt, z_out_nx, z_eqi, z_eqb, z_rng1, z_rng2, z_si_l, z_si_t, z_bind_nm, z_bind_tt, z_bind_tl, z_binds_n, z_binds_c, z_sl_l, z_sl_t, z_at0, z_at1, z_at2, z_at3, z_ixN0, z_intsn, z_intsc, z_boolsn, z_boolsc, y_e_isx, y_e_dct, y_e_lrg, y_e_mth, y_e_orv, y_callD, y_s_expC, y_s_retC, y_s_asgC, y_s_raise, y_s_tryE, y_s_forO, z_nox_dat, z_nox_own, z_nox_ref, z_nox_scr, z_nox_exc, z_nox_n, z_read_exo, z_arg_exo, z_hold_exo, z_exEnv, y_e_ixP, y_s_retP, z_sl_s, z_bin_ss, z_d_ints, z_ins, z_nins, y_i_sgn, e1, e2, e3, n1, n2]
theorem s_q1 (cf : Cf) (w : Nat) (p q : List Int) (hp : Pt 1000 w p) (hq : Pt 1000 w q) (x0 x1 x2 x3 x4 x5 x6 x7 x8 x11 x12 x13 x14 x15 : Option R) (st : Bx) :
    Ex.den cf q_law_1 [x0, x1, x2, x3, x4, x5, x6, x7, x8, some (.dat (vec p)), some (.dat (vec q)), x11, x12, x13, x14, x15] st = some (.own ((addv p q).map .int), st) := by
  have l0 : 0 < sizeLine := by decide
  have l1 : 1 < sizeLine := by decide
  have l2 : 2 < sizeLine := by decide
  rcases hp with ⟨rfl, a, b, rfl, h1, h2⟩ | ⟨rfl, a, b, c, rfl, h1, h2, h3⟩
  · rcases hq with ⟨-, d, e, rfl, g1, g2⟩ | ⟨e, _⟩
    · have ed : [PyData.int (a + d), .int (b + e)] = (addv [a, b] [d, e]).map .int := rfl
      simp (decide := true) only [q_law_1, vec, List.map_cons, List.map_nil, ↓reduceIte, Bool.not_true, Bool.not_false, decide_true, decide_false, wipeE, Bool.false_eq_true, y_e_c, y_e_v, y_e_g, y_e_never, y_e_bin, y_e_neg, y_e_tst, y_e_ite, y_e_tup, y_e_lst, y_e_box, y_e_ix, y_e_sl, y_e_rev, y_e_call, y_e_blt, y_e_isi, y_e_lc, y_es_nil, y_es_cons, y_o_no, y_o_yes, y_t_val, y_t_cmp, y_t_chn, y_t_isnt, y_t_isnf, z_nnr_dat, z_nnr_own, z_nnr_brw, z_nn_none, z_nn_bool, z_nn_int, z_nn_str, z_nn_list, z_nn_tuple, y_t_isb, y_t_and, y_t_or, y_t_not, y_h_last, y_h_link, y_al_one, y_al_cons, y_an_one, y_an_cons, y_c_no, y_c_yes, y_i_seq, y_i_rng, y_i_zip, y_i_enum, y_s_never, y_s_pass, y_s_asg, y_s_par, y_s_par3, y_s_setO, y_s_unp, y_s_setB, y_s_exp, y_s_app, y_s_ext, y_s_iff, y_s_whl, y_s_forr, y_s_ret, y_s_retv, y_s_frz, y_ss_nil, y_ss_cons, argsOf, views, caps, Option.map_some, Option.map_none, Option.bind_some, Option.bind_none, List.getElem?_cons_zero, List.getElem?_cons_succ, List.set_cons_zero, List.set_cons_succ, List.length_cons, List.length_nil, z_read_dat, z_read_ref, z_read_scr, z_read_own, z_view_own, z_view_brw, z_view_dat, z_cap_dat, z_cap_own, z_hold_dat, z_hold_ref, z_hold_scr, z_hold_own, z_arg_dat, z_arg_ref, z_arg_scr, z_arg_own, z_look_t, z_look_f, z_len_ref, z_len_scr, z_len_l, z_len_t, z_len_o, z_len_b, z_ix_ref, z_ix_scr, z_ix_l, z_ix_t, z_ix_o, z_ix_b, z_blt_len, z_blt_abs, z_blt_tup, z_blt_lst, z_blt_sum, z_blt_all, z_blt_any, z_blt_min, z_blt_max, z_blt_sorted, z_blt_repr, z_blt_str, z_blt_int, z_blt_divmod, z_d_abs, z_d_tupl, z_d_tupt, z_d_lstl, z_d_lstt, z_d_sum, z_d_all, z_d_any, z_d_minl, z_d_maxl, z_d_min, z_d_max, z_d_sorted, z_d_divmod, z_d_int, z_d_repr, z_d_str, z_d_strt, z_bin_i, z_bin_ll, z_bin_tt, z_bin_rep, z_add, z_sub, z_mul, z_fdiv, z_mod, z_eq, z_ne, z_lt, z_le, z_gt, z_ge, z_inl, z_int, z_ninl, z_nint, z_isi_int_none, z_isi_int_bool, z_isi_int_int, z_isi_int_str, z_isi_int_list, z_isi_int_tuple, z_isi_bool_none, z_isi_bool_bool, z_isi_bool_int, z_isi_bool_str, z_isi_bool_list, z_isi_bool_tuple, z_isi_str_none, z_isi_str_bool, z_isi_str_int, z_isi_str_str, z_isi_str_list, z_isi_str_tuple, z_isi_list_none, z_isi_list_bool, z_isi_list_int, z_isi_list_str, z_isi_list_list, z_isi_list_tuple, z_isi_tuple_none, z_isi_tuple_bool, z_isi_tuple_int, z_isi_tuple_str, z_isi_tuple_list, z_isi_tuple_tuple, z_out_rt, z_out_nx, z_eqi, z_eqb, z_rng1, z_rng2, z_si_l, z_si_t, z_bind_nm, z_bind_tt, z_bind_tl, z_binds_n, z_binds_c, z_sl_l, z_sl_t, z_at0, z_at1, z_at2, z_at3, z_ixN0, z_intsn, z_intsc, z_boolsn, z_boolsc, y_e_isx, y_e_dct, y_e_lrg, y_e_mth, y_e_orv, y_callD, y_s_expC, y_s_retC, y_s_asgC, y_s_raise, y_s_tryE, y_s_forO, z_nox_dat, z_nox_own, z_nox_ref, z_nox_scr, z_nox_exc, z_nox_n, z_read_exo, z_arg_exo, z_hold_exo, z_exEnv, y_e_ixP, y_s_retP, z_sl_s, z_bin_ss, z_d_ints, z_ins, z_nins, y_i_sgn, z_eqs, z_fgn, z_fgc, z_lcn, z_lcc, rng_2, rng_3, z_en2, z_en3, z_zn, z_zn2, z_zc, cut2_a0, cut2_a1, cut2_b1, cut2_b2, cut3_a0, cut3_a1, cut3_a2, cut3_b1, cut3_b2, cut3_b3, List.nil_append, List.cons_append, Int.reduceAdd, Int.reduceSub, Int.reduceMul, Int.reduceMod, Int.reduceNeg, Int.reduceToNat, Nat.reduceAdd, Int.cast_ofNat_Int, Int.natCast_add, l0, l1, ← ed]
    · cases e
  · rcases hq with ⟨e, _⟩ | ⟨-, d, e, f, rfl, g1, g2, g3⟩
    · cases e
    · have ed : [PyData.int (a + d), .int (b + e), .int (c + f)] = (addv [a, b, c] [d, e, f]).map .int := rfl
      simp (decide := true) only [q_law_1, vec, List.map_cons, List.map_nil, ↓reduceIte, Bool.not_true, Bool.not_false, decide_true, decide_false, wipeE, Bool.false_eq_true, y_e_c, y_e_v, y_e_g, y_e_never, y_e_bin, y_e_neg, y_e_tst, y_e_ite, y_e_tup, y_e_lst, y_e_box, y_e_ix, y_e_sl, y_e_rev, y_e_call, y_e_blt, y_e_isi, y_e_lc, y_es_nil, y_es_cons, y_o_no, y_o_yes, y_t_val, y_t_cmp, y_t_chn, y_t_isnt, y_t_isnf, z_nnr_dat, z_nnr_own, z_nnr_brw, z_nn_none, z_nn_bool, z_nn_int, z_nn_str, z_nn_list, z_nn_tuple, y_t_isb, y_t_and, y_t_or, y_t_not, y_h_last, y_h_link, y_al_one, y_al_cons, y_an_one, y_an_cons, y_c_no, y_c_yes, y_i_seq, y_i_rng, y_i_zip, y_i_enum, y_s_never, y_s_pass, y_s_asg, y_s_par, y_s_par3, y_s_setO, y_s_unp, y_s_setB, y_s_exp, y_s_app, y_s_ext, y_s_iff, y_s_whl, y_s_forr, y_s_ret, y_s_retv, y_s_frz, y_ss_nil, y_ss_cons, argsOf, views, caps, Option.map_some, Option.map_none, Option.bind_some, Option.bind_none, List.getElem?_cons_zero, List.getElem?_cons_succ, List.set_cons_zero, List.set_cons_succ, List.length_cons, List.length_nil, z_read_dat, z_read_ref, z_read_scr, z_read_own, z_view_own, z_view_brw, z_view_dat, z_cap_dat, z_cap_own, z_hold_dat, z_hold_ref, z_hold_scr, z_hold_own, z_arg_dat, z_arg_ref, z_arg_scr, z_arg_own, z_look_t, z_look_f, z_len_ref, z_len_scr, z_len_l, z_len_t, z_len_o, z_len_b, z_ix_ref, z_ix_scr, z_ix_l, z_ix_t, z_ix_o, z_ix_b, z_blt_len, z_blt_abs, z_blt_tup, z_blt_lst, z_blt_sum, z_blt_all, z_blt_any, z_blt_min, z_blt_max, z_blt_sorted, z_blt_repr, z_blt_str, z_blt_int, z_blt_divmod, z_d_abs, z_d_tupl, z_d_tupt, z_d_lstl, z_d_lstt, z_d_sum, z_d_all, z_d_any, z_d_minl, z_d_maxl, z_d_min, z_d_max, z_d_sorted, z_d_divmod, z_d_int, z_d_repr, z_d_str, z_d_strt, z_bin_i, z_bin_ll, z_bin_tt, z_bin_rep, z_add, z_sub, z_mul, z_fdiv, z_mod, z_eq, z_ne, z_lt, z_le, z_gt, z_ge, z_inl, z_int, z_ninl, z_nint, z_isi_int_none, z_isi_int_bool, z_isi_int_int, z_isi_int_str, z_isi_int_list, z_isi_int_tuple, z_isi_bool_none, z_isi_bool_bool, z_isi_bool_int, z_isi_bool_str, z_isi_bool_list, z_isi_bool_tuple, z_isi_str_none, z_isi_str_bool, z_isi_str_int, z_isi_str_str, z_isi_str_list, z_isi_str_tuple, z_isi_list_none, z_isi_list_bool, z_isi_list_int, z_isi_list_str, z_isi_list_list, z_isi_list_tuple, z_isi_tuple_none, z_isi_tuple_bool, z_isi_tuple_int, z_isi_tuple_str, z_isi_tuple_list, z_isi_tuple_tuple, z_out_rt, z_out_nx, z_eqi, z_eqb, z_rng1, z_rng2, z_si_l, z_si_t, z_bind_nm, z_bind_tt, z_bind_tl, z_binds_n, z_binds_c, z_sl_l, z_sl_t, z_at0, z_at1, z_at2, z_at3, z_ixN0, z_intsn, z_intsc, z_boolsn, z_boolsc, y_e_isx, y_e_dct, y_e_lrg, y_e_mth, y_e_orv, y_callD, y_s_expC, y_s_retC, y_s_asgC, y_s_raise, y_s_tryE, y_s_forO, z_nox_dat, z_nox_own, z_nox_ref, z_nox_scr, z_nox_exc, z_nox_n, z_read_exo, z_arg_exo, z_hold_exo, z_exEnv, y_e_ixP, y_s_retP, z_sl_s, z_bin_ss, z_d_ints, z_ins, z_nins, y_i_sgn, z_eqs, z_fgn, z_fgc, z_lcn, z_lcc, rng_2, rng_3, z_en2, z_en3, z_zn, z_zn2, z_zc, cut2_a0, cut2_a1, cut2_b1, cut2_b2, cut3_a0, cut3_a1, cut3_a2, cut3_b1, cut3_b2, cut3_b3, List.nil_append, List.cons_append, Int.reduceAdd, Int.reduceSub, Int.reduceMul, Int.reduceMod, Int.reduceNeg, Int.reduceToNat, Nat.reduceAdd, Int.cast_ofNat_Int, Int.natCast_add, l0, l1, l2, ← ed]
theorem s_q2 (cf : Cf) (w : Nat) (p q : List Int) (hp : Pt 1000 w p) (hq : Pt 1000 w q) (x0 x1 x2 x3 x4 x5 x6 x7 x8 x9 x10 x13 x14 x15 : Option R) (st : Bx) :
    Ex.den cf q_law_2 [x0, x1, x2, x3, x4, x5, x6, x7, x8, x9, x10, some (.dat (vec p)), some (.dat (vec q)), x13, x14, x15] st = some (.own ((addv p q).map .int), st) := by
  have l0 : 0 < sizeLine := by decide
  have l1 : 1 < sizeLine := by decide
  have l2 : 2 < sizeLine := by decide
  rcases hp with ⟨rfl, a, b, rfl, h1, h2⟩ | ⟨rfl, a, b, c, rfl, h1, h2, h3⟩
  · rcases hq with ⟨-, d, e, rfl, g1, g2⟩ | ⟨e, _⟩
    · have ed : [PyData.int (a + d), .int (b + e)] = (addv [a, b] [d, e]).map .int := rfl
      simp (decide := true) only [q_law_2, vec, List.map_cons, List.map_nil, ↓reduceIte, Bool.not_true, Bool.not_false, decide_true, decide_false, wipeE, Bool.false_eq_true, y_e_c, y_e_v, y_e_g, y_e_never, y_e_bin, y_e_neg, y_e_tst, y_e_ite, y_e_tup, y_e_lst, y_e_box, y_e_ix, y_e_sl, y_e_rev, y_e_call, y_e_blt, y_e_isi, y_e_lc, y_es_nil, y_es_cons, y_o_no, y_o_yes, y_t_val, y_t_cmp, y_t_chn, y_t_isnt, y_t_isnf, z_nnr_dat, z_nnr_own, z_nnr_brw, z_nn_none, z_nn_bool, z_nn_int, z_nn_str, z_nn_list, z_nn_tuple, y_t_isb, y_t_and, y_t_or, y_t_not, y_h_last, y_h_link, y_al_one, y_al_cons, y_an_one, y_an_cons, y_c_no, y_c_yes, y_i_seq, y_i_rng, y_i_zip, y_i_enum, y_s_never, y_s_pass, y_s_asg, y_s_par, y_s_par3, y_s_setO, y_s_unp, y_s_setB, y_s_exp, y_s_app, y_s_ext, y_s_iff, y_s_whl, y_s_forr, y_s_ret, y_s_retv, y_s_frz, y_ss_nil, y_ss_cons, argsOf, views, caps, Option.map_some, Option.map_none, Option.bind_some, Option.bind_none, List.getElem?_cons_zero, List.getElem?_cons_succ, List.set_cons_zero, List.set_cons_succ, List.length_cons, List.length_nil, z_read_dat, z_read_ref, z_read_scr, z_read_own, z_view_own, z_view_brw, z_view_dat, z_cap_dat, z_cap_own, z_hold_dat, z_hold_ref, z_hold_scr, z_hold_own, z_arg_dat, z_arg_ref, z_arg_scr, z_arg_own, z_look_t, z_look_f, z_len_ref, z_len_scr, z_len_l, z_len_t, z_len_o, z_len_b, z_ix_ref, z_ix_scr, z_ix_l, z_ix_t, z_ix_o, z_ix_b, z_blt_len, z_blt_abs, z_blt_tup, z_blt_lst, z_blt_sum, z_blt_all, z_blt_any, z_blt_min, z_blt_max, z_blt_sorted, z_blt_repr, z_blt_str, z_blt_int, z_blt_divmod, z_d_abs, z_d_tupl, z_d_tupt, z_d_lstl, z_d_lstt, z_d_sum, z_d_all, z_d_any, z_d_minl, z_d_maxl, z_d_min, z_d_max, z_d_sorted, z_d_divmod, z_d_int, z_d_repr, z_d_str, z_d_strt, z_bin_i, z_bin_ll, z_bin_tt, z_bin_rep, z_add, z_sub, z_mul, z_fdiv, z_mod, z_eq, z_ne, z_lt, z_le, z_gt, z_ge, z_inl, z_int, z_ninl, z_nint, z_isi_int_none, z_isi_int_bool, z_isi_int_int, z_isi_int_str, z_isi_int_list, z_isi_int_tuple, z_isi_bool_none, z_isi_bool_bool, z_isi_bool_int, z_isi_bool_str, z_isi_bool_list, z_isi_bool_tuple, z_isi_str_none, z_isi_str_bool, z_isi_str_int, z_isi_str_str, z_isi_str_list, z_isi_str_tuple, z_isi_list_none, z_isi_list_bool, z_isi_list_int, z_isi_list_str, z_isi_list_list, z_isi_list_tuple, z_isi_tuple_none, z_isi_tuple_bool, z_isi_tuple_int, z_isi_tuple_str, z_isi_tuple_list, z_isi_tuple_tuple, z_out_rt, z_out_nx, z_eqi, z_eqb, z_rng1, z_rng2, z_si_l, z_si_t, z_bind_nm, z_bind_tt, z_bind_tl, z_binds_n, z_binds_c, z_sl_l, z_sl_t, z_at0, z_at1, z_at2, z_at3, z_ixN0, z_intsn, z_intsc, z_boolsn, z_boolsc, y_e_isx, y_e_dct, y_e_lrg, y_e_mth, y_e_orv, y_callD, y_s_expC, y_s_retC, y_s_asgC, y_s_raise, y_s_tryE, y_s_forO, z_nox_dat, z_nox_own, z_nox_ref, z_nox_scr, z_nox_exc, z_nox_n, z_read_exo, z_arg_exo, z_hold_exo, z_exEnv, y_e_ixP, y_s_retP, z_sl_s, z_bin_ss, z_d_ints, z_ins, z_nins, y_i_sgn, z_eqs, z_fgn, z_fgc, z_lcn, z_lcc, rng_2, rng_3, z_en2, z_en3, z_zn, z_zn2, z_zc, cut2_a0, cut2_a1, cut2_b1, cut2_b2, cut3_a0, cut3_a1, cut3_a2, cut3_b1, cut3_b2, cut3_b3, List.nil_append, List.cons_append, Int.reduceAdd, Int.reduceSub, Int.reduceMul, Int.reduceMod, Int.reduceNeg, Int.reduceToNat, Nat.reduceAdd, Int.cast_ofNat_Int, Int.natCast_add, l0, l1, ← ed]
    · cases e
  · rcases hq with ⟨e, _⟩ | ⟨-, d, e, f, rfl, g1, g2, g3⟩
    · cases e
    · have ed : [PyData.int (a + d), .int (b + e), .int (c + f)] = (addv [a, b, c] [d, e, f]).map .int := rfl
      simp (decide := true) only [q_law_2, vec, List.map_cons, List.map_nil, ↓reduceIte, Bool.not_true, Bool.not_false, decide_true, decide_false, wipeE, Bool.false_eq_true, y_e_c, y_e_v, y_e_g, y_e_never, y_e_bin, y_e_neg, y_e_tst, y_e_ite, y_e_tup, y_e_lst, y_e_box, y_e_ix, y_e_sl, y_e_rev, y_e_call, y_e_blt, y_e_isi, y_e_lc, y_es_nil, y_es_cons, y_o_no, y_o_yes, y_t_val, y_t_cmp, y_t_chn, y_t_isnt, y_t_isnf, z_nnr_dat, z_nnr_own, z_nnr_brw, z_nn_none, z_nn_bool, z_nn_int, z_nn_str, z_nn_list, z_nn_tuple, y_t_isb, y_t_and, y_t_or, y_t_not, y_h_last, y_h_link, y_al_one, y_al_cons, y_an_one, y_an_cons, y_c_no, y_c_yes, y_i_seq, y_i_rng, y_i_zip, y_i_enum, y_s_never, y_s_pass, y_s_asg, y_s_par, y_s_par3, y_s_setO, y_s_unp, y_s_setB, y_s_exp, y_s_app, y_s_ext, y_s_iff, y_s_whl, y_s_forr, y_s_ret, y_s_retv, y_s_frz, y_ss_nil, y_ss_cons, argsOf, views, caps, Option.map_some, Option.map_none, Option.bind_some, Option.bind_none, List.getElem?_cons_zero, List.getElem?_cons_succ, List.set_cons_zero, List.set_cons_succ, List.length_cons, List.length_nil, z_read_dat, z_read_ref, z_read_scr, z_read_own, z_view_own, z_view_brw, z_view_dat, z_cap_dat, z_cap_own, z_hold_dat, z_hold_ref, z_hold_scr, z_hold_own, z_arg_dat, z_arg_ref, z_arg_scr, z_arg_own, z_look_t, z_look_f, z_len_ref, z_len_scr, z_len_l, z_len_t, z_len_o, z_len_b, z_ix_ref, z_ix_scr, z_ix_l, z_ix_t, z_ix_o, z_ix_b, z_blt_len, z_blt_abs, z_blt_tup, z_blt_lst, z_blt_sum, z_blt_all, z_blt_any, z_blt_min, z_blt_max, z_blt_sorted, z_blt_repr, z_blt_str, z_blt_int, z_blt_divmod, z_d_abs, z_d_tupl, z_d_tupt, z_d_lstl, z_d_lstt, z_d_sum, z_d_all, z_d_any, z_d_minl, z_d_maxl, z_d_min, z_d_max, z_d_sorted, z_d_divmod, z_d_int, z_d_repr, z_d_str, z_d_strt, z_bin_i, z_bin_ll, z_bin_tt, z_bin_rep, z_add, z_sub, z_mul, z_fdiv, z_mod, z_eq, z_ne, z_lt, z_le, z_gt, z_ge, z_inl, z_int, z_ninl, z_nint, z_isi_int_none, z_isi_int_bool, z_isi_int_int, z_isi_int_str, z_isi_int_list, z_isi_int_tuple, z_isi_bool_none, z_isi_bool_bool, z_isi_bool_int, z_isi_bool_str, z_isi_bool_list, z_isi_bool_tuple, z_isi_str_none, z_isi_str_bool, z_isi_str_int, z_isi_str_str, z_isi_str_list, z_isi_str_tuple, z_isi_list_none, z_isi_list_bool, z_isi_list_int, z_isi_list_str, z_isi_list_list, z_isi_list_tuple, z_isi_tuple_none, z_isi_tuple_bool, z_isi_tuple_int, z_isi_tuple_str, z_isi_tuple_list, z_isi_tuple_tuple, z_out_rt, z_out_nx, z_eqi, z_eqb, z_rng1, z_rng2, z_si_l, z_si_t, z_bind_nm, z_bind_tt, z_bind_tl, z_binds_n, z_binds_c, z_sl_l, z_sl_t, z_at0, z_at1, z_at2, z_at3, z_ixN0, z_intsn, z_intsc, z_boolsn, z_boolsc, y_e_isx, y_e_dct, y_e_lrg, y_e_mth, y_e_orv, y_callD, y_s_expC, y_s_retC, y_s_asgC, y_s_raise, y_s_tryE, y_s_forO, z_nox_dat, z_nox_own, z_nox_ref, z_nox_scr, z_nox_exc, z_nox_n, z_read_exo, z_arg_exo, z_hold_exo, z_exEnv, y_e_ixP, y_s_retP, z_sl_s, z_bin_ss, z_d_ints, z_ins, z_nins, y_i_sgn, z_eqs, z_fgn, z_fgc, z_lcn, z_lcc, rng_2, rng_3, z_en2, z_en3, z_zn, z_zn2, z_zc, cut2_a0, cut2_a1, cut2_b1, cut2_b2, cut3_a0, cut3_a1, cut3_a2, cut3_b1, cut3_b2, cut3_b3, List.nil_append, List.cons_append, Int.reduceAdd, Int.reduceSub, Int.reduceMul, Int.reduceMod, Int.reduceNeg, Int.reduceToNat, Nat.reduceAdd, Int.cast_ofNat_Int, Int.natCast_add, l0, l1, l2, ← ed]
theorem s_q3 (cf : Cf) (w : Nat) (M : PyData) (j : Int) (r : List Int) (hr : Pt 1000 w r) (x0 x1 x2 x4 x5 x7 x8 x9 x10 x11 x12 x13 x14 x15 : Option R) (st : Bx) (hj : ∀ s, ixR (.dat M) j s = some (vec r)) :
    Ex.den cf q_law_3 [x0, x1, x2, some (.dat M), x4, x5, some (.dat (.int j)), x7, x8, x9, x10, x11, x12, x13, x14, x15] st = some (.own ((dbl r).map .int), st) := by
  have l0 : 0 < sizeLine := by decide
  have l1 : 1 < sizeLine := by decide
  have l2 : 2 < sizeLine := by decide
  have b2 : Bd 1000 2 := (bd_s (by decide) (by decide) : Bd 60 2).mono (by decide)
  rcases hr with ⟨rfl, a, b, rfl, h1, h2⟩ | ⟨rfl, a, b, c, rfl, h1, h2, h3⟩
  · have hj' : ∀ s, ixR (.dat M) j s = some (PyData.tuple [PyData.int (a), PyData.int (b)]) := hj
    have m1 : mulOk 2 a = true := mulOk_bd b2 h1 (by decide)
    have m2 : mulOk 2 b = true := mulOk_bd b2 h2 (by decide)
    have ed : [PyData.int (2 * a), .int (2 * b)] = (dbl [a, b]).map .int := rfl
    simp (decide := true) only [q_law_3, ↓reduceIte, Bool.not_true, Bool.not_false, decide_true, decide_false, wipeE, Bool.false_eq_true, y_e_c, y_e_v, y_e_g, y_e_never, y_e_bin, y_e_neg, y_e_tst, y_e_ite, y_e_tup, y_e_lst, y_e_box, y_e_ix, y_e_sl, y_e_rev, y_e_call, y_e_blt, y_e_isi, y_e_lc, y_es_nil, y_es_cons, y_o_no, y_o_yes, y_t_val, y_t_cmp, y_t_chn, y_t_isnt, y_t_isnf, z_nnr_dat, z_nnr_own, z_nnr_brw, z_nn_none, z_nn_bool, z_nn_int, z_nn_str, z_nn_list, z_nn_tuple, y_t_isb, y_t_and, y_t_or, y_t_not, y_h_last, y_h_link, y_al_one, y_al_cons, y_an_one, y_an_cons, y_c_no, y_c_yes, y_i_seq, y_i_rng, y_i_zip, y_i_enum, y_s_never, y_s_pass, y_s_asg, y_s_par, y_s_par3, y_s_setO, y_s_unp, y_s_setB, y_s_exp, y_s_app, y_s_ext, y_s_iff, y_s_whl, y_s_forr, y_s_ret, y_s_retv, y_s_frz, y_ss_nil, y_ss_cons, argsOf, views, caps, Option.map_some, Option.map_none, Option.bind_some, Option.bind_none, List.getElem?_cons_zero, List.getElem?_cons_succ, List.set_cons_zero, List.set_cons_succ, List.length_cons, List.length_nil, z_read_dat, z_read_ref, z_read_scr, z_read_own, z_view_own, z_view_brw, z_view_dat, z_cap_dat, z_cap_own, z_hold_dat, z_hold_ref, z_hold_scr, z_hold_own, z_arg_dat, z_arg_ref, z_arg_scr, z_arg_own, z_look_t, z_look_f, z_len_ref, z_len_scr, z_len_l, z_len_t, z_len_o, z_len_b, z_ix_ref, z_ix_scr, z_ix_l, z_ix_t, z_ix_o, z_ix_b, z_blt_len, z_blt_abs, z_blt_tup, z_blt_lst, z_blt_sum, z_blt_all, z_blt_any, z_blt_min, z_blt_max, z_blt_sorted, z_blt_repr, z_blt_str, z_blt_int, z_blt_divmod, z_d_abs, z_d_tupl, z_d_tupt, z_d_lstl, z_d_lstt, z_d_sum, z_d_all, z_d_any, z_d_minl, z_d_maxl, z_d_min, z_d_max, z_d_sorted, z_d_divmod, z_d_int, z_d_repr, z_d_str, z_d_strt, z_bin_i, z_bin_ll, z_bin_tt, z_bin_rep, z_add, z_sub, z_mul, z_fdiv, z_mod, z_eq, z_ne, z_lt, z_le, z_gt, z_ge, z_inl, z_int, z_ninl, z_nint, z_isi_int_none, z_isi_int_bool, z_isi_int_int, z_isi_int_str, z_isi_int_list, z_isi_int_tuple, z_isi_bool_none, z_isi_bool_bool, z_isi_bool_int, z_isi_bool_str, z_isi_bool_list, z_isi_bool_tuple, z_isi_str_none, z_isi_str_bool, z_isi_str_int, z_isi_str_str, z_isi_str_list, z_isi_str_tuple, z_isi_list_none, z_isi_list_bool, z_isi_list_int, z_isi_list_str, z_isi_list_list, z_isi_list_tuple, z_isi_tuple_none, z_isi_tuple_bool, z_isi_tuple_int, z_isi_tuple_str, z_isi_tuple_list, z_isi_tuple_tuple, z_out_rt, z_out_nx, z_eqi, z_eqb, z_rng1, z_rng2, z_si_l, z_si_t, z_bind_nm, z_bind_tt, z_bind_tl, z_binds_n, z_binds_c, z_sl_l, z_sl_t, z_at0, z_at1, z_at2, z_at3, z_ixN0, z_intsn, z_intsc, z_boolsn, z_boolsc, y_e_isx, y_e_dct, y_e_lrg, y_e_mth, y_e_orv, y_callD, y_s_expC, y_s_retC, y_s_asgC, y_s_raise, y_s_tryE, y_s_forO, z_nox_dat, z_nox_own, z_nox_ref, z_nox_scr, z_nox_exc, z_nox_n, z_read_exo, z_arg_exo, z_hold_exo, z_exEnv, y_e_ixP, y_s_retP, z_sl_s, z_bin_ss, z_d_ints, z_ins, z_nins, y_i_sgn, z_eqs, z_fgn, z_fgc, z_lcn, z_lcc, rng_2, rng_3, z_en2, z_en3, z_zn, z_zn2, z_zc, cut2_a0, cut2_a1, cut2_b1, cut2_b2, cut3_a0, cut3_a1, cut3_a2, cut3_b1, cut3_b2, cut3_b3, List.nil_append, List.cons_append, Int.reduceAdd, Int.reduceSub, Int.reduceMul, Int.reduceMod, Int.reduceNeg, Int.reduceToNat, Nat.reduceAdd, Int.cast_ofNat_Int, Int.natCast_add, hj', m1, m2, l0, l1, ← ed]
  · have hj' : ∀ s, ixR (.dat M) j s = some (PyData.tuple [PyData.int (a), PyData.int (b), PyData.int (c)]) := hj
    have m1 : mulOk 2 a = true := mulOk_bd b2 h1 (by decide)
    have m2 : mulOk 2 b = true := mulOk_bd b2 h2 (by decide)
    have m3 : mulOk 2 c = true := mulOk_bd b2 h3 (by decide)
    have ed : [PyData.int (2 * a), .int (2 * b), .int (2 * c)] = (dbl [a, b, c]).map .int := rfl
    simp (decide := true) only [q_law_3, ↓reduceIte, Bool.not_true, Bool.not_false, decide_true, decide_false, wipeE, Bool.false_eq_true, y_e_c, y_e_v, y_e_g, y_e_never, y_e_bin, y_e_neg, y_e_tst, y_e_ite, y_e_tup, y_e_lst, y_e_box, y_e_ix, y_e_sl, y_e_rev, y_e_call, y_e_blt, y_e_isi, y_e_lc, y_es_nil, y_es_cons, y_o_no, y_o_yes, y_t_val, y_t_cmp, y_t_chn, y_t_isnt, y_t_isnf, z_nnr_dat, z_nnr_own, z_nnr_brw, z_nn_none, z_nn_bool, z_nn_int, z_nn_str, z_nn_list, z_nn_tuple, y_t_isb, y_t_and, y_t_or, y_t_not, y_h_last, y_h_link, y_al_one, y_al_cons, y_an_one, y_an_cons, y_c_no, y_c_yes, y_i_seq, y_i_rng, y_i_zip, y_i_enum, y_s_never, y_s_pass, y_s_asg, y_s_par, y_s_par3, y_s_setO, y_s_unp, y_s_setB, y_s_exp, y_s_app, y_s_ext, y_s_iff, y_s_whl, y_s_forr, y_s_ret, y_s_retv, y_s_frz, y_ss_nil, y_ss_cons, argsOf, views, caps, Option.map_some, Option.map_none, Option.bind_some, Option.bind_none, List.getElem?_cons_zero, List.getElem?_cons_succ, List.set_cons_zero, List.set_cons_succ, List.length_cons, List.length_nil, z_read_dat, z_read_ref, z_read_scr, z_read_own, z_view_own, z_view_brw, z_view_dat, z_cap_dat, z_cap_own, z_hold_dat, z_hold_ref, z_hold_scr, z_hold_own, z_arg_dat, z_arg_ref, z_arg_scr, z_arg_own, z_look_t, z_look_f, z_len_ref, z_len_scr, z_len_l, z_len_t, z_len_o, z_len_b, z_ix_ref, z_ix_scr, z_ix_l, z_ix_t, z_ix_o, z_ix_b, z_blt_len, z_blt_abs, z_blt_tup, z_blt_lst, z_blt_sum, z_blt_all, z_blt_any, z_blt_min, z_blt_max, z_blt_sorted, z_blt_repr, z_blt_str, z_blt_int, z_blt_divmod, z_d_abs, z_d_tupl, z_d_tupt, z_d_lstl, z_d_lstt, z_d_sum, z_d_all, z_d_any, z_d_minl, z_d_maxl, z_d_min, z_d_max, z_d_sorted, z_d_divmod, z_d_int, z_d_repr, z_d_str, z_d_strt, z_bin_i, z_bin_ll, z_bin_tt, z_bin_rep, z_add, z_sub, z_mul, z_fdiv, z_mod, z_eq, z_ne, z_lt, z_le, z_gt, z_ge, z_inl, z_int, z_ninl, z_nint, z_isi_int_none, z_isi_int_bool, z_isi_int_int, z_isi_int_str, z_isi_int_list, z_isi_int_tuple, z_isi_bool_none, z_isi_bool_bool, z_isi_bool_int, z_isi_bool_str, z_isi_bool_list, z_isi_bool_tuple, z_isi_str_none, z_isi_str_bool, z_isi_str_int, z_isi_str_str, z_isi_str_list, z_isi_str_tuple, z_isi_list_none, z_isi_list_bool, z_isi_list_int, z_isi_list_str, z_isi_list_list, z_isi_list_tuple, z_isi_tuple_none, z_isi_tuple_bool, z_isi_tuple_int, z_isi_tuple_str, z_isi_tuple_list, z_isi_tuple_tuple, z_out_rt, z_out_nx, z_eqi, z_eqb, z_rng1, z_rng2, z_si_l, z_si_t, z_bind_nm, z_bind_tt, z_bind_tl, z_binds_n, z_binds_c, z_sl_l, z_sl_t, z_at0, z_at1, z_at2, z_at3, z_ixN0, z_intsn, z_intsc, z_boolsn, z_boolsc, y_e_isx, y_e_dct, y_e_lrg, y_e_mth, y_e_orv, y_callD, y_s_expC, y_s_retC, y_s_asgC, y_s_raise, y_s_tryE, y_s_forO, z_nox_dat, z_nox_own, z_nox_ref, z_nox_scr, z_nox_exc, z_nox_n, z_read_exo, z_arg_exo, z_hold_exo, z_exEnv, y_e_ixP, y_s_retP, z_sl_s, z_bin_ss, z_d_ints, z_ins, z_nins, y_i_sgn, z_eqs, z_fgn, z_fgc, z_lcn, z_lcc, rng_2, rng_3, z_en2, z_en3, z_zn, z_zn2, z_zc, cut2_a0, cut2_a1, cut2_b1, cut2_b2, cut3_a0, cut3_a1, cut3_a2, cut3_b1, cut3_b2, cut3_b3, List.nil_append, List.cons_append, Int.reduceAdd, Int.reduceSub, Int.reduceMul, Int.reduceMod, Int.reduceNeg, Int.reduceToNat, Nat.reduceAdd, Int.cast_ofNat_Int, Int.natCast_add, hj', m1, m2, m3, l0, l1, l2, ← ed]
theorem rot_cut {A : Nat} {M : List (List Int)} (h : Sq A M) : cutD (M.map vec) (some 1) none ++ cutD (M.map vec) none (some 1) = (rot M).map vec := by
  rcases h with ⟨a, b, c, d, rfl, _⟩ | ⟨a, b, c, d, e, f, g, h, i, rfl, _⟩ <;> rfl
theorem s_body (k : Nat) (ns : List Int) (jj : Nat) (xs : En) (st : Bx) (hl : xs.length = 14) :
    ∃ env1 st1, Stms.den (callF tb (k + 7)) lb_law_1 (some (.scr ns) :: some (.dat (.int jj)) :: xs) st = some (.nx env1 st1) ∧ ∃ y1 ys, env1 = some (.scr ns) :: y1 :: ys ∧ ys.length = 14 := by
  match xs, hl with
  | [x2, x3, x4, x5, x6, x7, x8, x9, x10, x11, x12, x13, x14, x15], _ =>
    obtain ⟨m, hm, hbx⟩ := s_box (k + 5) ns jj st
    have hg : ∀ z : Int, (st ++ [[PyData.int z]])[st.length]? = some [PyData.int z] := fun z => by simp
    have hs : ∀ y z : Int, (st ++ [[PyData.int y]]).set st.length [PyData.int z] = st ++ [[PyData.int z]] := fun y z => by
      rw [List.set_append_right _ _ (Nat.le_refl _), Nat.sub_self]; rfl
    have f4 : fitsL 4 = true := by decide
    have f1 : fitsL 1 = true := by decide
    have t1 := s_take (k + 6) st.length 4 m _ (hg m) (by decide) (by decide)
    rw [hs] at t1
    have p6 : binI .pow 10 6 = some 1000000 := by decide
    have p29 : binI .pow 10 29 = some 100000000000000000000000000000 := by decide +kernel
    obtain ⟨s, hs1, es⟩ := atI_ints (l := [2, 9, 1000000, 100000000000000000000000000000]) (i := m % 4) (by omega) (by simp only [List.length_cons, List.length_nil]; omega)
    have hs2 : 0 ≤ s ∧ s ≤ 100000000000000000000000000000 := by
      simp only [List.mem_cons, List.not_mem_nil, or_false] at hs1
      omega
    simp only [List.map_cons, List.map_nil] at es
    obtain ⟨M, y1, hM, hd, e1⟩ := g_steps (k + 2) st.length (m / 4) s _ (hg _) hs2.1 (by omega)
    rw [hs] at e1
    have hw := hM.len
    have M6 := hM.mono (show 120 ≤ 600 by decide)
    have M1 := hM.mono (show 120 ≤ 1000 by decide)
    have el : lenR (.dat (mat M)) (st ++ [[.int y1]]) = some (.dat (.int (M.length : Int))) := lenM M _
    obtain ⟨p, y2, hp, e2⟩ := g_point (k + 4) st.length M.length y1 9 _ (hg y1) (by decide) (by decide) hw
    rw [hs] at e2
    obtain ⟨q, y3, hq, e3⟩ := g_point (k + 4) st.length M.length y2 9 _ (hg y2) (by decide) (by decide) hw
    rw [hs] at e3
    obtain ⟨S, hS⟩ : ∃ S, S = st ++ [[PyData.int y3]] := ⟨_, rfl⟩
    have p1 : Pt 1000 M.length p := hp.mono (by decide)
    have q1 : Pt 1000 M.length q := hq.mono (by decide)
    have cp : Pt 242 M.length (comb M p) := comb_pt hM hp
    have cq : Pt 242 M.length (comb M q) := comb_pt hM hq
    have cp1 := cp.mono (show 242 ≤ 1000 by decide)
    have cq1 := cq.mono (show 242 ≤ 1000 by decide)
    have pq : Pt 121 M.length (addv p q) := pt_add hp hq
    have pq1 := pq.mono (show 121 ≤ 1000 by decide)
    have cpq : Pt 243 M.length (comb M (addv p q)) := comb_pt hM pq
    have cpq1 := cpq.mono (show 243 ≤ 1000 by decide)
    -- read, show, is_steps, is_same
    have a1 := g_show (k + 1) M (st ++ [[.int y1]]) M6 hd
    have a2 := g_read (k + 1) M (st ++ [[.int y1]]) M6 hd
    have a3 := eq_mat hM
    have a4 := g_is_steps (k + 3) M (st ++ [[.int y1]]) M1
    rw [decide_eq_true hd] at a4
    have a5 := g_is_same k M M (st ++ [[.int y1]]) M1 M1 hd hd
    rw [win_rows hM hd (fun _ h => h), decide_eq_true rfl] at a5
    -- reached
    have b1 := g_reached (k + 1) M p S M1 p1 hd
    have b2 := g_reached (k + 1) M q S M1 q1 hd
    have b3 := g_reached (k + 1) M (addv p q) S M1 pq1 hd
    have c1 := g_is_point (k + 4) M.length (comb M p) S cp1
    have c2 := g_numbers_of (k + 1) M (comb M p) S M1 cp1 hd
    rw [nums_comb hM hp hd] at c2
    have c2 : callF tb (k + 7) "numbers_of" [.dat (mat M), .dat (vec (comb M p))] S = some (.dat (vec p), S) := c2
    have c3 := eq_vec (r := p) hp.all.2.1
    have c4 := eq_vec (r := comb M (addv p q)) cpq.all.2.1
    have d1 := g_product (k + 3) M.length (comb M p) (comb M q) S cp1 cq1
    have d2 := g_product (k + 3) M.length (comb M q) (comb M p) S cq1 cp1
    have d3 := g_product (k + 3) M.length (comb M (addv p q)) (comb M p) S cpq1 cp1
    have d4 := g_product (k + 3) M.length (comb M p) (comb M p) S cp1 cp1
    rw [dotv_comm cp1 cq1] at d1
    rw [show dotv (comb M (addv p q)) (comb M p) = dotv (comb M p) (comb M p) + dotv (comb M q) (comb M p) from by rw [comb_add hM hp hq]; exact dotv_add cp1 cq1 cp1] at d3
    -- one step twice
    have t2 := s_take (k + 6) st.length M.length y3 _ (hg y3) (by omega) (by omega)
    rw [hs] at t2
    obtain ⟨j, hj⟩ := Int.eq_ofNat_of_zero_le (Int.emod_nonneg y3 (show (M.length : Int) ≠ 0 by omega))
    have hjl : j < M.length := by have := Int.emod_lt_of_pos y3 (show 0 < (M.length : Int) by omega); omega
    rw [hj] at t2
    obtain ⟨r, hr⟩ : ∃ r, M[j]? = some r := ⟨_, List.getElem?_eq_getElem hjl⟩
    have rp : Pt 120 M.length r := hM.row (List.mem_of_getElem? hr)
    have rd := (pt_dbl rp)
    have hM2 : Sq 122 (M.set j (dbl r)) := (hM.mono (show 120 ≤ 122 by decide)).set rd j
    have M21 := hM2.mono (show 122 ≤ 1000 by decide)
    have dd := det_dbl hM j r hr
    have dd0 : det (M.set j (dbl r)) ≠ 0 := by rw [dd]; omega
    obtain ⟨U, hU⟩ : ∃ U, U = st ++ [[PyData.int (y3 / (M.length : Int))]] := ⟨_, rfl⟩
    have ix : ∀ s : Bx, ixR (.dat (mat M)) (j : Int) s = some (vec r) := fun s => by
      show atI (M.map vec) (j : Int) = _
      exact atI_nat (by rw [List.getElem?_map, hr]; rfl)
    obtain ⟨A, hA⟩ : ∃ A, A = cutD (M.map vec) none (some (j : Int)) := ⟨_, rfl⟩
    obtain ⟨C, hC⟩ : ∃ C, C = cutD (M.map vec) (some ((j : Int) + 1)) none := ⟨_, rfl⟩
    have lA : A.length ≤ 3 := by rw [hA]; have := cutD_len (M.map vec) none (some (j : Int)); rw [List.length_map] at this; omega
    have lC : C.length ≤ 3 := by rw [hC]; have := cutD_len (M.map vec) (some ((j : Int) + 1)) none; rw [List.length_map] at this; omega
    have s1 : slD (mat M) none (some (j : Int)) = some (.dat (.tuple A)) := by rw [hA]; rfl
    have s2 : slD (mat M) (some ((j : Int) + 1)) none = some (.dat (.tuple C)) := by rw [hC]; rfl
    have s3 : binD .add (.tuple A) (.tuple [vec (dbl r)]) = some (.dat (.tuple (A ++ [vec (dbl r)]))) := z_bin_tt (fitsL_s (by show A.length + 1 ≤ _; omega))
    have s4 : binD .add (.tuple (A ++ [vec (dbl r)])) (.tuple C) = some (.dat (mat (M.set j (dbl r)))) := by
      have := mat_cut M j (dbl r) M1 hjl
      rw [← hA, ← hC] at this
      rw [z_bin_tt (fitsL_s (by rw [List.length_append]; show A.length + 1 + C.length ≤ _; omega)), this]
      rfl
    have g1 := g_room (k + 1) (M.set j (dbl r)) U M21 dd0
    have g2 := g_room (k + 1) M U M1 hd
    have g3 : ((det (M.set j (dbl r))).natAbs : Int) = 2 * ((det M).natAbs : Int) := by rw [dd]; omega
    rw [g3] at g1
    have g4 := g_is_same k M (M.set j (dbl r)) U M1 M21 hd dd0
    rw [dbl_out hM hd j r hr, Bool.and_false, Bool.and_false] at g4
    have bD : Bd 400 ((det M).natAbs : Int) := bd_abs ((det_bd hM (by decide)).mono (by decide))
    have g5 : mulOk 2 ((det M).natAbs : Int) = true := mulOk_bd (bd_s (by decide) (by decide) : Bd 60 2) bD (by decide)
    have g6 : ¬ ((det M).natAbs : Int) < 1 := by omega
    -- round
    obtain ⟨r1, r2, r3⟩ := rot_ok hM
    have R1 := r1.mono (show 120 ≤ 1000 by decide)
    have rd0 : det (rot M) ≠ 0 := by omega
    have s5 : slD (mat M) (some 1) none = some (.dat (.tuple (cutD (M.map vec) (some 1) none))) := rfl
    have s6 : slD (mat M) none (some 1) = some (.dat (.tuple (cutD (M.map vec) none (some 1)))) := rfl
    have s7 : binD .add (.tuple (cutD (M.map vec) (some 1) none)) (.tuple (cutD (M.map vec) none (some 1))) = some (.dat (mat (rot M))) := by
      have l1 := cutD_len (M.map vec) (some 1) none
      have l2 := cutD_len (M.map vec) none (some 1)
      rw [List.length_map] at l1 l2
      rw [z_bin_tt (fitsL_s (by omega)), rot_cut hM]
      rfl
    have k1 := g_is_same k M (rot M) U M1 R1 hd rd0
    rw [win_rows hM hd (fun x h => (rot_mem x).mp h), win_rows r1 rd0 (fun x h => (rot_mem x).mpr h), decide_eq_true r2.symm] at k1
    have k2 := g_room (k + 1) (rot M) U R1 rd0
    rw [r3] at k2
    have v1 : ∀ l : List Int, PyData.tuple (l.map .int) = vec l := fun _ => rfl
    have w1 := fun x5 x6 x7 x8 x11 x12 x13 x14 x15 => s_q1 (callF tb (k + 7)) M.length p q p1 q1 (some (.scr ns)) (some (.dat (.int jj))) (some (.ref st.length)) (some (.dat (mat M))) (some (.dat (.int (M.length : Int)))) x5 x6 x7 x8 x11 x12 x13 x14 x15 S
    have w2 := fun x5 x6 x7 x8 x13 x14 x15 => s_q2 (callF tb (k + 7)) M.length (comb M p) (comb M q) cp1 cq1 (some (.scr ns)) (some (.dat (.int jj))) (some (.ref st.length)) (some (.dat (mat M))) (some (.dat (.int (M.length : Int)))) x5 x6 x7 x8 (some (.dat (vec p))) (some (.dat (vec q))) x13 x14 x15 S
    rw [← comb_add hM hp hq] at w2
    have w3 := fun x5 x7 x8 x9 x10 x11 x12 x13 x14 x15 => s_q3 (callF tb (k + 7)) M.length (mat M) (j : Int) r (rp.mono (by decide)) (some (.scr ns)) (some (.dat (.int jj))) (some (.ref st.length)) (some (.dat (.int (M.length : Int)))) x5 x7 x8 x9 x10 x11 x12 x13 x14 x15 U ix
    rw [← hS] at e3 t2
    rw [← hU] at t2
    generalize mat (rot M) = MR at *
    generalize mat (M.set j (dbl r)) = MD at *
    generalize mat M = MM at *
    exact ⟨_, _, by simp (decide := true) only [lb_law_1, ↓reduceIte, Bool.not_true, Bool.not_false, decide_true, decide_false, wipeE, Bool.false_eq_true, y_e_c, y_e_v, y_e_g, y_e_never, y_e_bin, y_e_neg, y_e_tst, y_e_ite, y_e_tup, y_e_lst, y_e_box, y_e_ix, y_e_sl, y_e_rev, y_e_call, y_e_blt, y_e_isi, y_e_lc, y_es_nil, y_es_cons, y_o_no, y_o_yes, y_t_val, y_t_cmp, y_t_chn, y_t_isnt, y_t_isnf, z_nnr_dat, z_nnr_own, z_nnr_brw, z_nn_none, z_nn_bool, z_nn_int, z_nn_str, z_nn_list, z_nn_tuple, y_t_isb, y_t_and, y_t_or, y_t_not, y_h_last, y_h_link, y_al_one, y_al_cons, y_an_one, y_an_cons, y_c_no, y_c_yes, y_i_seq, y_i_rng, y_i_zip, y_i_enum, y_s_never, y_s_pass, y_s_asg, y_s_par, y_s_par3, y_s_setO, y_s_unp, y_s_setB, y_s_exp, y_s_app, y_s_ext, y_s_iff, y_s_whl, y_s_forr, y_s_ret, y_s_retv, y_s_frz, y_ss_nil, y_ss_cons, argsOf, views, caps, Option.map_some, Option.map_none, Option.bind_some, Option.bind_none, List.getElem?_cons_zero, List.getElem?_cons_succ, List.set_cons_zero, List.set_cons_succ, List.length_cons, List.length_nil, z_read_dat, z_read_ref, z_read_scr, z_read_own, z_view_own, z_view_brw, z_view_dat, z_cap_dat, z_cap_own, z_hold_dat, z_hold_ref, z_hold_scr, z_hold_own, z_arg_dat, z_arg_ref, z_arg_scr, z_arg_own, z_look_t, z_look_f, z_len_ref, z_len_scr, z_len_l, z_len_t, z_len_o, z_len_b, z_ix_ref, z_ix_scr, z_ix_l, z_ix_t, z_ix_o, z_ix_b, z_blt_len, z_blt_abs, z_blt_tup, z_blt_lst, z_blt_sum, z_blt_all, z_blt_any, z_blt_min, z_blt_max, z_blt_sorted, z_blt_repr, z_blt_str, z_blt_int, z_blt_divmod, z_d_abs, z_d_tupl, z_d_tupt, z_d_lstl, z_d_lstt, z_d_sum, z_d_all, z_d_any, z_d_minl, z_d_maxl, z_d_min, z_d_max, z_d_sorted, z_d_divmod, z_d_int, z_d_repr, z_d_str, z_d_strt, z_bin_i, z_bin_ll, z_bin_tt, z_bin_rep, z_add, z_sub, z_mul, z_fdiv, z_mod, z_eq, z_ne, z_lt, z_le, z_gt, z_ge, z_inl, z_int, z_ninl, z_nint, z_isi_int_none, z_isi_int_bool, z_isi_int_int, z_isi_int_str, z_isi_int_list, z_isi_int_tuple, z_isi_bool_none, z_isi_bool_bool, z_isi_bool_int, z_isi_bool_str, z_isi_bool_list, z_isi_bool_tuple, z_isi_str_none, z_isi_str_bool, z_isi_str_int, z_isi_str_str, z_isi_str_list, z_isi_str_tuple, z_isi_list_none, z_isi_list_bool, z_isi_list_int, z_isi_list_str, z_isi_list_list, z_isi_list_tuple, z_isi_tuple_none, z_isi_tuple_bool, z_isi_tuple_int, z_isi_tuple_str, z_isi_tuple_list, z_isi_tuple_tuple, z_out_rt, z_out_nx, z_eqi, z_eqb, z_rng1, z_rng2, z_si_l, z_si_t, z_bind_nm, z_bind_tt, z_bind_tl, z_binds_n, z_binds_c, z_sl_l, z_sl_t, z_at0, z_at1, z_at2, z_at3, z_ixN0, z_intsn, z_intsc, z_boolsn, z_boolsc, y_e_isx, y_e_dct, y_e_lrg, y_e_mth, y_e_orv, y_callD, y_s_expC, y_s_retC, y_s_asgC, y_s_raise, y_s_tryE, y_s_forO, z_nox_dat, z_nox_own, z_nox_ref, z_nox_scr, z_nox_exc, z_nox_n, z_read_exo, z_arg_exo, z_hold_exo, z_exEnv, y_e_ixP, y_s_retP, z_sl_s, z_bin_ss, z_d_ints, z_ins, z_nins, y_i_sgn, hbx, f1, f4, p6, p29, t1, es, e1, el, a1, a2, a3, a4, a5, e2, e3, b1, b2, b3, w1, v1, c1, c2, c3, w2, c4, d1, d2, d3, d4, t2, s1, s2, w3, s3, s4, g1, g2, g4, g5, g6, s5, s6, s7, k1, k2, Bool.and_self]; rfl, _, _, rfl, rfl⟩
theorem yes : Yes (callF tb 60 "law") 63 :=
  yes_of (cf := callF tb 59) (b := lb_law_1) (C := 6) 14 (by decide) (by decide) (fun ns => c_law 59 _ _) fun ns k xs st hl => s_body 52 ns k xs st hl

theorem all_has {P : Program} {w : World} {K : PySem.W.Frag} {h : Heap} {mg : Str → Option Value} {fa : Addr} (X : K.In h) (G : h.Ns mainGlobals mg) (hfa : mg (Str.ofString "law") = some (.ref fa))
    (h0 : HasK K "is_whole" (tx 7))
    (h1 : HasK K "are_whole" (tx 8))
    (h2 : HasK K "is_point" (tx 9))
    (h3 : HasK K "determinant" (tx 10))
    (h4 : HasK K "is_steps" (tx 11))
    (h5 : HasK K "need_steps" (tx 12))
    (h6 : HasK K "need_point" (tx 13))
    (h7 : HasK K "product_of" (tx 14))
    (h8 : HasK K "product" (tx 15))
    (h9 : HasK K "room" (tx 16))
    (h10 : HasK K "sum_of" (tx 17))
    (h11 : HasK K "reached" (tx 18))
    (h12 : HasK K "tops_of" (tx 19))
    (h13 : HasK K "numbers_for" (tx 20))
    (h14 : HasK K "numbers_of" (tx 21))
    (h15 : HasK K "is_within" (tx 22))
    (h16 : HasK K "is_same" (tx 23))
    (h17 : HasK K "show" (tx 26))
    (h18 : HasK K "number_in" (tx 27))
    (h19 : HasK K "read" (tx 28))
    (h20 : HasK K "_law_cell" (tx 30))
    (h21 : HasK K "_law_mix" (tx 31))
    (h22 : HasK K "_law_box" (tx 32))
    (h23 : HasK K "_law_take" (tx 33))
    (h24 : HasK K "_law_drawn_number" (tx 34))
    (h25 : HasK K "_law_drawn_point" (tx 35))
    (h26 : HasK K "_law_det" (tx 36))
    (h27 : HasK K "_law_drawn_pair" (tx 37))
    (h28 : HasK K "_law_drawn_three" (tx 38))
    (h29 : HasK K "_law_drawn_steps" (tx 39))
    (h30 : HasK K "law" (tx 40))
    (z0 : PySem.W.nsIn K mainGlobals (Str.ofString "abs") = some none)
    (z1 : PySem.W.nsIn K mainGlobals (Str.ofString "all") = some none)
    (z2 : PySem.W.nsIn K mainGlobals (Str.ofString "any") = some none)
    (z3 : PySem.W.nsIn K mainGlobals (Str.ofString "bool") = some none)
    (z4 : PySem.W.nsIn K mainGlobals (Str.ofString "divmod") = some none)
    (z5 : PySem.W.nsIn K mainGlobals (Str.ofString "enumerate") = some none)
    (z6 : PySem.W.nsIn K mainGlobals (Str.ofString "int") = some none)
    (z7 : PySem.W.nsIn K mainGlobals (Str.ofString "isinstance") = some none)
    (z8 : PySem.W.nsIn K mainGlobals (Str.ofString "len") = some none)
    (z9 : PySem.W.nsIn K mainGlobals (Str.ofString "max") = some none)
    (z10 : PySem.W.nsIn K mainGlobals (Str.ofString "min") = some none)
    (z11 : PySem.W.nsIn K mainGlobals (Str.ofString "range") = some none)
    (z12 : PySem.W.nsIn K mainGlobals (Str.ofString "str") = some none)
    (z13 : PySem.W.nsIn K mainGlobals (Str.ofString "sum") = some none)
    (z14 : PySem.W.nsIn K mainGlobals (Str.ofString "tuple") = some none)
    (z15 : PySem.W.nsIn K mainGlobals (Str.ofString "zip") = some none)
    (c0 : ConK K "FIGURES" (.str (Str.ofString "0123456789")))
    : ∃ fd : FuncData, Binds K fd d_law.ps [] ∧ ∀ base : Heap, K.In base → base.Ns mainGlobals mg → Fk false P w K mg base 60 fa fd d_law.ps (callF tb 60 "law") := by
  refine head_ok (ds := ds) (S := sg) (d := d_law) 60 nd rfl hsd ck ckh (fun d hd => ?_) ⟨fun x hx => ?_, fun p hp => ?_, fun x hx => ?_, fun t ht => ?_⟩ (by simp [ds]) hfa
  · simp only [ds, List.mem_cons, List.not_mem_nil, or_false] at hd
    rcases hd with rfl | rfl | rfl | rfl | rfl | rfl | rfl | rfl | rfl | rfl | rfl | rfl | rfl | rfl | rfl | rfl | rfl | rfl | rfl | rfl | rfl | rfl | rfl | rfl | rfl | rfl | rfl | rfl | rfl | rfl | rfl
    · exact h0.has X G fun _ _ _ _ _ _ us hl => match us, hl with | [_], _ => rfl
    · exact h1.has X G fun _ _ _ _ _ _ us hl => match us, hl with | [_, _], _ => rfl
    · exact h2.has X G fun _ _ _ _ _ _ us hl => match us, hl with | [_], _ => rfl
    · exact h3.has X G fun _ _ _ _ _ _ us hl => match us, hl with | [_], _ => rfl
    · exact h4.has X G fun _ _ _ _ _ _ us hl => match us, hl with | [_], _ => rfl
    · exact h5.has X G fun _ _ _ _ _ _ us hl => match us, hl with | [_], _ => rfl
    · exact h6.has X G fun _ _ _ _ _ _ us hl => match us, hl with | [_, _], _ => rfl
    · exact h7.has X G fun _ _ _ _ _ _ us hl => match us, hl with | [_, _], _ => rfl
    · exact h8.has X G fun _ _ _ _ _ _ us hl => match us, hl with | [_, _], _ => rfl
    · exact h9.has X G fun _ _ _ _ _ _ us hl => match us, hl with | [_], _ => rfl
    · exact h10.has X G fun _ _ _ _ _ _ us hl => match us, hl with | [_, _], _ => rfl
    · exact h11.has X G fun _ _ _ _ _ _ us hl => match us, hl with | [_, _], _ => rfl
    · exact h12.has X G fun _ _ _ _ _ _ us hl => match us, hl with | [_, _], _ => rfl
    · exact h13.has X G fun _ _ _ _ _ _ us hl => match us, hl with | [_, _], _ => rfl
    · exact h14.has X G fun _ _ _ _ _ _ us hl => match us, hl with | [_, _], _ => rfl
    · exact h15.has X G fun _ _ _ _ _ _ us hl => match us, hl with | [_, _], _ => rfl
    · exact h16.has X G fun _ _ _ _ _ _ us hl => match us, hl with | [_, _], _ => rfl
    · exact h17.has X G fun _ _ _ _ _ _ us hl => match us, hl with | [_], _ => rfl
    · exact h18.has X G fun _ _ _ _ _ _ us hl => match us, hl with | [_], _ => rfl
    · exact h19.has X G fun _ _ _ _ _ _ us hl => match us, hl with | [_], _ => rfl
    · exact h20.has X G fun _ _ _ _ _ _ us hl => match us, hl with | [_, _], _ => rfl
    · exact h21.has X G fun _ _ _ _ _ _ us hl => match us, hl with | [_, _], _ => rfl
    · exact h22.has X G fun _ _ _ _ _ _ us hl => match us, hl with | [_, _], _ => rfl
    · exact h23.has X G fun _ _ _ _ _ _ us hl => match us, hl with | [_, _], _ => rfl
    · exact h24.has X G fun _ _ _ _ _ _ us hl => match us, hl with | [_, _], _ => rfl
    · exact h25.has X G fun _ _ _ _ _ _ us hl => match us, hl with | [_, _, _], _ => rfl
    · exact h26.has X G fun _ _ _ _ _ _ us hl => match us, hl with | [_], _ => rfl
    · exact h27.has X G fun _ _ _ _ _ _ us hl => match us, hl with | [_, _], _ => rfl
    · exact h28.has X G fun _ _ _ _ _ _ us hl => match us, hl with | [_, _], _ => rfl
    · exact h29.has X G fun _ _ _ _ _ _ us hl => match us, hl with | [_, _], _ => rfl
    · exact h30.has X G fun _ _ _ _ _ _ us hl => match us, hl with | [_], _ => rfl
  · simp only [sg, List.mem_cons, List.not_mem_nil, or_false] at hx
    rcases hx with rfl | rfl | rfl | rfl | rfl | rfl | rfl | rfl | rfl | rfl | rfl | rfl | rfl | rfl | rfl | rfl
    · exact PySem.W.mg_none_of X G z0
    · exact PySem.W.mg_none_of X G z1
    · exact PySem.W.mg_none_of X G z2
    · exact PySem.W.mg_none_of X G z3
    · exact PySem.W.mg_none_of X G z4
    · exact PySem.W.mg_none_of X G z5
    · exact PySem.W.mg_none_of X G z6
    · exact PySem.W.mg_none_of X G z7
    · exact PySem.W.mg_none_of X G z8
    · exact PySem.W.mg_none_of X G z9
    · exact PySem.W.mg_none_of X G z10
    · exact PySem.W.mg_none_of X G z11
    · exact PySem.W.mg_none_of X G z12
    · exact PySem.W.mg_none_of X G z13
    · exact PySem.W.mg_none_of X G z14
    · exact PySem.W.mg_none_of X G z15
  · simp only [sg, List.mem_cons, List.not_mem_nil, or_false] at hp
    rcases hp with rfl
    · exact c0.con X G
  · exact absurd hx (by simp [sg])
  · exact absurd ht (by simp [sg])
end Lw
open PySem PySem.W PyProof.Rows
set_option maxHeartbeats 0 in
theorem PySem.Challenge.cw_shortsteps_k06_whole_grids_holds : PySem.Challenge.rw_shortsteps_k06_whole_grids.Holds := by
  w_on; o_law; k_head; (case hw => w_witness2)
  k_fill
  refine Sy.top_walk (l := PySem.Challenge.rw_shortsteps_k06_whole_grids) (n := 63) (k := 60) (x := Str.ofString "_law_script") (c := Sy.callF Lw.tb 60 "law") Lw.yes rfl (by decide) rfl ⟨fun _ => rfl, (fun z => nomatch z), ⟨by decide, by decide⟩, rfl⟩ (fun w h Y => PySem.W.kIn_of Y) ?F
  case F =>
    intro w mg fa h KX G hmg
    refine' Lw.all_has KX G hmg ?h0 ?h1 ?h2 ?h3 ?h4 ?h5 ?h6 ?h7 ?h8 ?h9 ?h10 ?h11 ?h12 ?h13 ?h14 ?h15 ?h16 ?h17 ?h18 ?h19 ?h20 ?h21 ?h22 ?h23 ?h24 ?h25 ?h26 ?h27 ?h28 ?h29 ?h30 ?z0 ?z1 ?z2 ?z3 ?z4 ?z5 ?z6 ?z7 ?z8 ?z9 ?z10 ?z11 ?z12 ?z13 ?z14 ?z15 ?c0
    (case h0 => refine' Sy.hasK_mk ?a ?l ?c ?k; (case a => k_is); (case l => k_is); (case c => k_is); (case k => k_is))
    (case h1 => refine' Sy.hasK_mk ?a ?l ?c ?k; (case a => k_is); (case l => k_is); (case c => k_is); (case k => k_is))
    (case h2 => refine' Sy.hasK_mk ?a ?l ?c ?k; (case a => k_is); (case l => k_is); (case c => k_is); (case k => k_is))
    (case h3 => refine' Sy.hasK_mk ?a ?l ?c ?k; (case a => k_is); (case l => k_is); (case c => k_is); (case k => k_is))
    (case h4 => refine' Sy.hasK_mk ?a ?l ?c ?k; (case a => k_is); (case l => k_is); (case c => k_is); (case k => k_is))
    (case h5 => refine' Sy.hasK_mk ?a ?l ?c ?k; (case a => k_is); (case l => k_is); (case c => k_is); (case k => k_is))
    (case h6 => refine' Sy.hasK_mk ?a ?l ?c ?k; (case a => k_is); (case l => k_is); (case c => k_is); (case k => k_is))
    (case h7 => refine' Sy.hasK_mk ?a ?l ?c ?k; (case a => k_is); (case l => k_is); (case c => k_is); (case k => k_is))
    (case h8 => refine' Sy.hasK_mk ?a ?l ?c ?k; (case a => k_is); (case l => k_is); (case c => k_is); (case k => k_is))
    (case h9 => refine' Sy.hasK_mk ?a ?l ?c ?k; (case a => k_is); (case l => k_is); (case c => k_is); (case k => k_is))
    (case h10 => refine' Sy.hasK_mk ?a ?l ?c ?k; (case a => k_is); (case l => k_is); (case c => k_is); (case k => k_is))
    (case h11 => refine' Sy.hasK_mk ?a ?l ?c ?k; (case a => k_is); (case l => k_is); (case c => k_is); (case k => k_is))
    (case h12 => refine' Sy.hasK_mk ?a ?l ?c ?k; (case a => k_is); (case l => k_is); (case c => k_is); (case k => k_is))
    (case h13 => refine' Sy.hasK_mk ?a ?l ?c ?k; (case a => k_is); (case l => k_is); (case c => k_is); (case k => k_is))
    (case h14 => refine' Sy.hasK_mk ?a ?l ?c ?k; (case a => k_is); (case l => k_is); (case c => k_is); (case k => k_is))
    (case h15 => refine' Sy.hasK_mk ?a ?l ?c ?k; (case a => k_is); (case l => k_is); (case c => k_is); (case k => k_is))
    (case h16 => refine' Sy.hasK_mk ?a ?l ?c ?k; (case a => k_is); (case l => k_is); (case c => k_is); (case k => k_is))
    (case h17 => refine' Sy.hasK_mk ?a ?l ?c ?k; (case a => k_is); (case l => k_is); (case c => k_is); (case k => k_is))
    (case h18 => refine' Sy.hasK_mk ?a ?l ?c ?k; (case a => k_is); (case l => k_is); (case c => k_is); (case k => k_is))
    (case h19 => refine' Sy.hasK_mk ?a ?l ?c ?k; (case a => k_is); (case l => k_is); (case c => k_is); (case k => k_is))
    (case h20 => refine' Sy.hasK_mk ?a ?l ?c ?k; (case a => k_is); (case l => k_is); (case c => k_is); (case k => k_is))
    (case h21 => refine' Sy.hasK_mk ?a ?l ?c ?k; (case a => k_is); (case l => k_is); (case c => k_is); (case k => k_is))
    (case h22 => refine' Sy.hasK_mk ?a ?l ?c ?k; (case a => k_is); (case l => k_is); (case c => k_is); (case k => k_is))
    (case h23 => refine' Sy.hasK_mk ?a ?l ?c ?k; (case a => k_is); (case l => k_is); (case c => k_is); (case k => k_is))
    (case h24 => refine' Sy.hasK_mk ?a ?l ?c ?k; (case a => k_is); (case l => k_is); (case c => k_is); (case k => k_is))
    (case h25 => refine' Sy.hasK_mk ?a ?l ?c ?k; (case a => k_is); (case l => k_is); (case c => k_is); (case k => k_is))
    (case h26 => refine' Sy.hasK_mk ?a ?l ?c ?k; (case a => k_is); (case l => k_is); (case c => k_is); (case k => k_is))
    (case h27 => refine' Sy.hasK_mk ?a ?l ?c ?k; (case a => k_is); (case l => k_is); (case c => k_is); (case k => k_is))
    (case h28 => refine' Sy.hasK_mk ?a ?l ?c ?k; (case a => k_is); (case l => k_is); (case c => k_is); (case k => k_is))
    (case h29 => refine' Sy.hasK_mk ?a ?l ?c ?k; (case a => k_is); (case l => k_is); (case c => k_is); (case k => k_is))
    (case h30 => refine' Sy.hasK_mk ?a ?l ?c ?k; (case a => k_is); (case l => k_is); (case c => k_is); (case k => k_is))
    (case z0 => k_is)
    (case z1 => k_is)
    (case z2 => k_is)
    (case z3 => k_is)
    (case z4 => k_is)
    (case z5 => k_is)
    (case z6 => k_is)
    (case z7 => k_is)
    (case z8 => k_is)
    (case z9 => k_is)
    (case z10 => k_is)
    (case z11 => k_is)
    (case z12 => k_is)
    (case z13 => k_is)
    (case z14 => k_is)
    (case z15 => k_is)
    (case c0 => refine' Sy.conK_str ?a; (case a => k_is))
