import PyProof.Rows.All
import HandS.Base
import HandS.Call
import HandS.List
import HandS.Comp
import HandS.Ends
import HandS.Words
import HandS.Wide
import HandS.WideBits
import HandS.TupAny
import HandS.TupMul
import HandS.Style
import KE.KRevSl
import HandS.NoneIn
import HandS.IsInst
import HandS.Deep
import HandS.Iter
import HandS.Zip
import KE.SortData
import PyProof.ReprNest
import PyProof.ReprRoads
import HandS.RaiseMore
import HandS.Walk
import KE.GoesEnum
import PyProof.ReprLen
import PySem.Challenge.RW_shortsteps_k94_whole_points_by_parts
set_option linter.all false
set_option Elab.async false
set_option maxRecDepth 100000
set_option maxHeartbeats 4000000
namespace Sy
open PySem L2

/-! ### values -/
/-- what an expression hands back: data; a box (a list that a callee may change); a list that is nobody else's; a list that a name holds alone; the script -/
inductive R where
  | dat (d : PyData)
  | ref (n : Nat)
  | own (ds : List PyData)
  | brw (ds : List PyData)
  | scr (ns : List Int)

abbrev Bx := List (List PyData)
abbrev En := List (Option R)

/-- to be looked at -/
def R.view : R → Option PyData
  | .dat d => some d
  | .own ds => some (.list ds)
  | .brw ds => some (.list ds)
  | _ => none
/-- to be kept within other data -/
def R.cap : R → Option PyData
  | .dat d => some d
  | .own ds => some (.list ds)
  | _ => none
def R.look (m : Bool) (r : R) : Option PyData := if m then r.view else r.cap
/-- to be held by a name -/
def R.hold : R → Option R
  | .brw _ => none
  | r => some r
/-- as an argument -/
def R.arg : R → Option R
  | .own ds => some (.dat (.list ds))
  | .brw _ => none
  | r => some r
/-- read through a name -/
def R.read : R → R
  | .own ds => .brw ds
  | r => r

inductive Bop where | add | sub | mul | fdiv | mod | pow
  deriving DecidableEq
inductive Cop where | eq | ne | lt | le | gt | ge | inn | nin
  deriving DecidableEq
inductive Blt where | len | abs | tup | lst | sum | all | any | min | max | sorted | repr | str | int | divmod
  deriving DecidableEq
inductive Ty where | int | bool | str | list | tuple
  deriving DecidableEq

/-! ### operations on data -/
def mulOk (i j : Int) : Bool := decide (i.natAbs.log2 + j.natAbs.log2 < 1000000)
def divOk (j : Int) : Bool := decide (j ≠ 0 ∧ j.natAbs.log2 < 9000)
def powOk (i j : Int) : Bool := decide (0 ≤ j ∧ j ≤ 1000000 ∧ i.natAbs < 2 ^ 64)
def fitsL (n : Nat) : Bool := decide (n ≤ sizeLine)
def repOk (n : Nat) (k : Int) : Bool := decide (k < 2 ^ 20 ∧ 0 ≤ k ∧ n * k.toNat ≤ sizeLine)

def repTOk (n : Nat) (k : Int) : Bool := decide (2 ≤ k ∧ k ≤ 1000 ∧ 1 ≤ n ∧ n ≤ 1000)

def binI : Bop → Int → Int → Option Int
  | .add, i, j => some (i + j)
  | .sub, i, j => some (i - j)
  | .mul, i, j => if mulOk i j then some (i * j) else none
  | .fdiv, i, j => if divOk j then some (i.fdiv j) else none
  | .mod, i, j => if j = 0 then none else some (i.fmod j)
  | .pow, i, j => if powOk i j then some (i ^ j.toNat) else none
def binD (o : Bop) : PyData → PyData → Option R
  | .int i, .int j => (binI o i j).map fun k => .dat (.int k)
  | .list xs, .list ys => if o = .add ∧ fitsL (xs.length + ys.length) = true then some (.own (xs ++ ys)) else none
  | .tuple xs, .tuple ys => if o = .add ∧ fitsL (xs.length + ys.length) = true then some (.dat (.tuple (xs ++ ys))) else none
  | .list xs, .int k => if o = .mul ∧ repOk xs.length k = true then some (.own (List.replicate k.toNat xs).flatten) else none
  | .tuple xs, .int k => if o = .mul ∧ repTOk xs.length k = true then some (.dat (.tuple (List.replicate k.toNat xs).flatten)) else none
  | _, _ => none

def intsOf : List PyData → Option (List Int)
  | [] => some []
  | .int i :: r => (intsOf r).map (i :: ·)
  | _ => none
def boolsOf : List PyData → Option (List Bool)
  | [] => some []
  | .bool b :: r => (boolsOf r).map (b :: ·)
  | _ => none

def eqD (d e : PyData) : Option Bool := match d, e with
  | .str x, .str y => some (decide (x = y))
  | d, e => if SeqAt.shaped d && SeqAt.shaped e then some (PyData.eqv d e) else none
def inD (d : PyData) (ds : List PyData) : Option Bool :=
  if SeqAt.shaped d && SeqAt.shaped (.list ds) then some (ds.any fun z => PyData.eqv z d) else none
def cmpD : Cop → PyData → PyData → Option Bool
  | .eq, d, e => eqD d e
  | .ne, d, e => (eqD d e).map not
  | .lt, .int i, .int j => some (decide (i < j))
  | .le, .int i, .int j => some (decide (i ≤ j))
  | .gt, .int i, .int j => some (decide (j < i))
  | .ge, .int i, .int j => some (decide (j ≤ i))
  | .lt, .tuple xs, .tuple ys => match intsOf xs, intsOf ys with
    | some a, some b => some (HT.lexLt a b)
    | _, _ => none
  | .inn, d, .list ds => inD d ds
  | .nin, d, .list ds => (inD d ds).map not
  | .inn, d, .tuple ds => inD d ds
  | .nin, d, .tuple ds => (inD d ds).map not
  | _, _, _ => none

def isiD : Ty → PyData → Bool
  | .int, .int _ => true
  | .int, .bool _ => true
  | .bool, .bool _ => true
  | .str, .str _ => true
  | .list, .list _ => true
  | .tuple, .tuple _ => true
  | _, _ => false

/-- x[i] -/
def ixD : PyData → Int → Option PyData
  | .list ds, i => atI ds i
  | .tuple ds, i => atI ds i
  | _, _ => none
def cutD {α : Type} (xs : List α) (lo hi : Option Int) : List α := (xs.drop (HT.sIx xs.length 0 lo)).take (HT.sIx xs.length xs.length hi - HT.sIx xs.length 0 lo)
def slD : PyData → Option Int → Option Int → Option R
  | .list ds, lo, hi => some (.own (cutD ds lo hi))
  | .tuple ds, lo, hi => some (.dat (.tuple (cutD ds lo hi)))
  | _, _, _ => none

def minL : List Int → Int
  | [] => 0
  | [x] => x
  | x :: r => min x (minL r)
def maxL : List Int → Int
  | [] => 0
  | [x] => x
  | x :: r => max x (maxL r)
def sortOk (ds : List PyData) : Bool :=
  (ds.all fun d => ds.all fun e => PySem.W.alike d e) && ((ds.all fun d => match d with | .tuple (_ :: _) => true | _ => false) || (ds.all fun d => match d with | .none => false | .tuple _ => false | _ => true)) &&
    fitsL ds.length && (ds.all fun d => decide (d.depth ≤ 8))
def sortD (ds : List PyData) : List PyData := ds.mergeSort (PySem.W.dataLe false id)
def reprOk (d : PyData) : Bool := d.showable && decide (d.shown.length ≤ sizeLine) && decide (d.depth ≤ 16)
def bltD : Blt → List PyData → Option R
  | .len, [.list ds] => some (.dat (.int ds.length))
  | .len, [.tuple ds] => some (.dat (.int ds.length))
  | .abs, [.int i] => some (.dat (.int i.natAbs))
  | .tup, [.list ds] => some (.dat (.tuple ds))
  | .tup, [.tuple ds] => some (.dat (.tuple ds))
  | .lst, [.list ds] => some (.own ds)
  | .lst, [.tuple ds] => some (.own ds)
  | .sum, [.list ds] => (intsOf ds).map fun l => .dat (.int l.sum)
  | .all, [.list ds] => (boolsOf ds).map fun l => .dat (.bool (l.all id))
  | .any, [.list ds] => (boolsOf ds).map fun l => .dat (.bool (l.any id))
  | .min, [.list ds] => (intsOf ds).bind fun l => if l = [] then none else some (.dat (.int (minL l)))
  | .max, [.list ds] => (intsOf ds).bind fun l => if l = [] then none else some (.dat (.int (maxL l)))
  | .min, [.int i, .int j] => some (.dat (.int (min i j)))
  | .max, [.int i, .int j] => some (.dat (.int (max i j)))
  | .sorted, [.list ds] => if sortOk ds then some (.own (sortD ds)) else none
  | .divmod, [.int i, .int j] => if 0 < j ∧ divOk j = true then some (.dat (.tuple [.int (i / j), .int (i % j)])) else none
  | .int, [.bool b] => some (.dat (.int (if b then 1 else 0)))
  | .repr, [d] => if reprOk d then some (.dat (.str d.shown)) else none
  | .str, [.int i] => if i.natAbs.log2 < 1920 then some (.dat (.str (toString i))) else none
  | _, _ => none

/-! ### the terms -/
mutual
inductive Tg where
  | nm (i : Nat)
  | tp (ts : Tgs)
inductive Tgs where
  | nil
  | cons (t : Tg) (r : Tgs)
end
mutual
inductive Ex where
  | c (d : PyData)
  | v (i : Nat)
  | g (x : String) (d : PyData)
  | never
  | bin (o : Bop) (a b : Ex)
  | neg (a : Ex)
  | tst (t : Ts)
  | ite (t : Ts) (a b : Ex)
  | tup (es : Exs)
  | lst (es : Exs)
  | box (es : Exs)
  | ix (a b : Ex)
  | sl (a : Ex) (lo hi : Exo)
  | rev (a : Ex)
  | call (f : String) (es : Exs)
  | blt (f : Blt) (es : Exs)
  | isi (a : Ex) (t : Ty)
  | lc (elt : Ex) (tg : Tg) (it : Itx) (cd : Tso) (own : List Nat)
inductive Exs where
  | nil
  | cons (e : Ex) (r : Exs)
inductive Exo where
  | no
  | yes (e : Ex)
inductive Ts where
  | val (e : Ex)
  | cmp (o : Cop) (a b : Ex)
  | chn (a : Ex) (r : Chn)
  | isn (a : Ex) (neg : Bool)
  | isb (a : Ex) (neg : Bool) (b : Bool)
  | and (ts : Tss)
  | or (ts : Tss)
  | not (t : Ts)
/-- op b (op c ..) of a chain -/
inductive Chn where
  | last (o : Cop) (b : Ex)
  | link (o : Cop) (b : Ex) (r : Chn)
inductive Tss where
  | one (t : Ts)
  | cons (t : Ts) (r : Tss)
inductive Tso where
  | no
  | yes (t : Ts)
inductive Itx where
  | seq (e : Ex)
  | rng (es : Exs)
  | zip (a b : Ex)
  | enum (a : Ex)
end
mutual
inductive Stm where
  | never
  | pass
  | asg (i : Nat) (e : Ex)
  | par (i j : Nat) (a b : Ex)
  | par3 (i j l : Nat) (a b c : Ex)
  | setO (i : Nat) (k e : Ex)
  | unp (t : Tg) (e : Ex)
  | setB (o : Ex) (i : Ex) (e : Ex)
  | exp (e : Ex)
  | app (i : Nat) (e : Ex)
  | ext (i : Nat) (e : Ex)
  | iff (t : Ts) (a b : Stms)
  | whl (t : Ts) (b : Stms)
  | forr (tg : Tg) (it : Itx) (b : Stms)
  | ret (e : Ex)
  | retv (i : Nat)
  | frz (i : Nat)
inductive Stms where
  | nil
  | cons (s : Stm) (r : Stms)
end

/-! ### what they compute -/
mutual
def Tg.idx : Tg → List Nat
  | .nm i => [i]
  | .tp ts => ts.idx
def Tgs.idx : Tgs → List Nat
  | .nil => []
  | .cons t r => t.idx ++ r.idx
end
mutual
def Tg.bind : Tg → PyData → En → Option En
  | .nm i, d, env => some (env.set i (some (.dat d)))
  | .tp ts, .tuple ds, env => ts.bind ds env
  | .tp ts, .list ds, env => ts.bind ds env
  | _, _, _ => none
def Tgs.bind : Tgs → List PyData → En → Option En
  | .nil, [], env => some env
  | .cons t r, d :: ds, env => (t.bind d env).bind fun env1 => r.bind ds env1
  | _, _, _ => none
end

abbrev Cf := String → List R → Bx → Option (R × Bx)

def asInt : R → Option Int
  | .dat (.int i) => some i
  | _ => none
def asBool : R → Option Bool
  | .dat (.bool b) => some b
  | _ => none
/-- the items that a loop goes over -/
def seqItems : PyData → Option (List PyData)
  | .list ds => some ds
  | .tuple ds => some ds
  | _ => none
def rngOk (i : Int) : Bool := decide (i.natAbs.log2 < 61)
def rngItems (lo : Int) (n : Nat) : List PyData := (List.range n).map fun (k : Nat) => .int (lo + (k : Int))
def rngD : List Int → Option (List PyData)
  | [j] => if rngOk j then some (rngItems 0 j.toNat) else none
  | [i, j] => if rngOk i && rngOk j then some (rngItems i (j - i).toNat) else none
  | _ => none
def zipD (xs ys : List PyData) : List PyData := (xs.zip ys).map fun p => .tuple [p.1, p.2]
def enumD (xs : List PyData) : List PyData := xs.zipIdx.map fun p => .tuple [.int (p.2 : Int), p.1]

/-- a comprehension's turns -/
def lcGo (step : PyData → Bx → Option (Option PyData × Bx)) : List PyData → List PyData → Bx → Option (List PyData × Bx)
  | [], acc, st => some (acc, st)
  | d :: ds, acc, st => match step d st with
    | some (some y, st1) => if acc.length < sizeLine then lcGo step ds (acc ++ [y]) st1 else none
    | some (none, st1) => lcGo step ds acc st1
    | none => none
def wipeE (env : En) : List Nat → En
  | [] => env
  | i :: r => (wipeE env r).set i none
def argsOf : List R → Option (List R)
  | [] => some []
  | r :: rs => match r.arg, argsOf rs with
    | some a, some as => some (a :: as)
    | _, _ => none
def ixR (r : R) (i : Int) (st : Bx) : Option PyData := match r with
  | .ref n => (st[n]?).bind fun ds => atI ds i
  | .scr ns => (atI ns i).map .int
  | r => r.view.bind fun d => ixD d i
def lenR (r : R) (st : Bx) : Option R := match r with
  | .ref n => (st[n]?).map fun ds => .dat (.int ds.length)
  | .scr ns => some (.dat (.int ns.length))
  | r => r.view.bind fun d => bltD .len [d]
def views : List R → Option (List PyData)
  | [] => some []
  | r :: rs => match r.view, views rs with
    | some d, some ds => some (d :: ds)
    | _, _ => none
def caps : List R → Option (List PyData)
  | [] => some []
  | r :: rs => match r.cap, caps rs with
    | some d, some ds => some (d :: ds)
    | _, _ => none
def bltR (f : Blt) (rs : List R) (st : Bx) : Option R := match f, rs with
  | .len, [r] => lenR r st
  | f, rs => (views rs).bind fun ds => bltD f ds

mutual
def Ex.den (cf : Cf) : Ex → En → Bx → Option (R × Bx)
  | .c d, _, st => some (.dat d, st)
  | .v i, env, st => match env[i]? with
    | some (some r) => some (r.read, st)
    | _ => none
  | .g _ d, _, st => some (.dat d, st)
  | .never, _, _ => none
  | .bin o a b, env, st => match a.den cf env st with
    | some (x, st1) => match b.den cf env st1 with
      | some (y, st2) => match x.view, y.view with
        | some d, some e => (binD o d e).map fun r => (r, st2)
        | _, _ => none
      | none => none
    | none => none
  | .neg a, env, st => match a.den cf env st with
    | some (.dat (.int i), st1) => some (.dat (.int (-i)), st1)
    | _ => none
  | .tst t, env, st => match t.den cf env st with
    | some (b, st1) => some (.dat (.bool b), st1)
    | none => none
  | .ite t a b, env, st => match t.den cf env st with
    | some (true, st1) => a.den cf env st1
    | some (false, st1) => b.den cf env st1
    | none => none
  | .tup es, env, st => match es.den cf env st with
    | some (rs, st1) => match caps rs with
      | some ds => if fitsL ds.length then some (.dat (.tuple ds), st1) else none
      | none => none
    | none => none
  | .lst es, env, st => match es.den cf env st with
    | some (rs, st1) => match caps rs with
      | some ds => if fitsL ds.length then some (.own ds, st1) else none
      | none => none
    | none => none
  | .box es, env, st => match es.den cf env st with
    | some (rs, st1) => match caps rs with
      | some ds => if fitsL ds.length then some (.ref st1.length, st1 ++ [ds]) else none
      | none => none
    | none => none
  | .ix a b, env, st => match a.den cf env st with
    | some (x, st1) => match b.den cf env st1 with
      | some (.dat (.int i), st2) => (ixR x i st2).map fun d => (.dat d, st2)
      | _ => none
    | none => none
  | .sl a lo hi, env, st => match a.den cf env st with
    | some (x, st1) => match lo.den cf env st1 with
      | some (l, st2) => match hi.den cf env st2 with
        | some (h, st3) => match x.view with
          | some d => (slD d l h).map fun r => (r, st3)
          | none => none
        | none => none
      | none => none
    | none => none
  | .rev a, env, st => match a.den cf env st with
    | some (x, st1) => match x.view with
      | some (.list ds) => some (.own ds.reverse, st1)
      | some (.tuple ds) => some (.dat (.tuple ds.reverse), st1)
      | _ => none
    | none => none
  | .call f es, env, st => match es.den cf env st with
    | some (rs, st1) => match argsOf rs with
      | some as => cf f as st1
      | none => none
    | none => none
  | .blt f es, env, st => match es.den cf env st with
    | some (rs, st1) => (bltR f rs st1).map fun r => (r, st1)
    | none => none
  | .isi a t, env, st => match a.den cf env st with
    | some (x, st1) => match x.view with
      | some d => some (.dat (.bool (isiD t d)), st1)
      | none => none
    | none => none
  | .lc elt tg it cd ow, env, st => match it.den cf true env st with
    | some (items, st1) => match lcGo (fun d st => match tg.bind d (wipeE env ow) with
        | some env1 => match cd.den cf env1 st with
          | some (true, st2) => match elt.den cf env1 st2 with
            | some (r, st3) => r.cap.map fun y => (some y, st3)
            | none => none
          | some (false, st2) => some (none, st2)
          | none => none
        | none => none) items [] st1 with
      | some (acc, st2) => some (.own acc, st2)
      | none => none
    | none => none
def Exs.den (cf : Cf) : Exs → En → Bx → Option (List R × Bx)
  | .nil, _, st => some ([], st)
  | .cons e r, env, st => match e.den cf env st with
    | some (x, st1) => match r.den cf env st1 with
      | some (xs, st2) => some (x :: xs, st2)
      | none => none
    | none => none
def Exo.den (cf : Cf) : Exo → En → Bx → Option (Option Int × Bx)
  | .no, _, st => some (none, st)
  | .yes e, env, st => match e.den cf env st with
    | some (.dat (.int i), st1) => some (some i, st1)
    | _ => none
def Ts.den (cf : Cf) : Ts → En → Bx → Option (Bool × Bx)
  | .val e, env, st => match e.den cf env st with
    | some (.dat (.bool b), st1) => some (b, st1)
    | _ => none
  | .cmp o a b, env, st => match a.den cf env st with
    | some (x, st1) => match b.den cf env st1 with
      | some (y, st2) => match x.view, y.view with
        | some d, some e => (cmpD o d e).map fun r => (r, st2)
        | _, _ => none
      | none => none
    | none => none
  | .chn a r, env, st => match a.den cf env st with
    | some (x, st1) => r.den cf x env st1
    | none => none
  | .isn a neg, env, st => match a.den cf env st with
    | some (x, st1) => match x with
      | .dat .none => some (!neg, st1)
      | _ => some (neg, st1)
    | none => none
  | .isb a neg k, env, st => match a.den cf env st with
    | some (.dat (.bool b), st1) => some (if neg then !decide (b = k) else decide (b = k), st1)
    | _ => none
  | .and ts, env, st => ts.all cf env st
  | .or ts, env, st => ts.any cf env st
  | .not t, env, st => match t.den cf env st with
    | some (b, st1) => some (!b, st1)
    | none => none
def Chn.den (cf : Cf) : Chn → R → En → Bx → Option (Bool × Bx)
  | .last o b, x, env, st => match b.den cf env st with
    | some (y, st1) => match x.view, y.view with
      | some d, some e => (cmpD o d e).map fun r => (r, st1)
      | _, _ => none
    | none => none
  | .link o b r, x, env, st => match b.den cf env st with
    | some (y, st1) => match x.view, y.view with
      | some d, some e => match cmpD o d e with
        | some true => r.den cf y env st1
        | some false => some (false, st1)
        | none => none
      | _, _ => none
    | none => none
def Tss.all (cf : Cf) : Tss → En → Bx → Option (Bool × Bx)
  | .one t, env, st => t.den cf env st
  | .cons t r, env, st => match t.den cf env st with
    | some (true, st1) => r.all cf env st1
    | some (false, st1) => some (false, st1)
    | none => none
def Tss.any (cf : Cf) : Tss → En → Bx → Option (Bool × Bx)
  | .one t, env, st => t.den cf env st
  | .cons t r, env, st => match t.den cf env st with
    | some (true, st1) => some (true, st1)
    | some (false, st1) => r.any cf env st1
    | none => none
def Tso.den (cf : Cf) : Tso → En → Bx → Option (Bool × Bx)
  | .no, _, st => some (true, st)
  | .yes t, env, st => t.den cf env st
def Itx.den (cf : Cf) (m : Bool) : Itx → En → Bx → Option (List PyData × Bx)
  | .seq e, env, st => match e.den cf env st with
    | some (x, st1) => ((x.look m).bind seqItems).map fun ds => (ds, st1)
    | none => none
  | .rng es, env, st => match es.den cf env st with
    | some (rs, st1) => (((views rs).bind intsOf).bind rngD).map fun ds => (ds, st1)
    | none => none
  | .zip a b, env, st => match a.den cf env st with
    | some (x, st1) => match b.den cf env st1 with
      | some (y, st2) => match (x.look m).bind seqItems, (y.look m).bind seqItems with
        | some xs, some ys => some (zipD xs ys, st2)
        | _, _ => none
      | none => none
    | none => none
  | .enum a, env, st => match a.den cf env st with
    | some (x, st1) => ((x.look m).bind seqItems).map fun ds => (enumD ds, st1)
    | none => none
end

inductive Out where
  | nx (env : En) (st : Bx)
  | rt (r : R) (st : Bx)

/-- a while loop within so many turns -/
def whlN (c : En → Bx → Option (Bool × Bx)) (b : En → Bx → Option Out) : Nat → En → Bx → Option Out
  | 0, _, _ => none
  | n + 1, env, st => match c env st with
    | some (true, st1) => match b env st1 with
      | some (.nx env2 st2) => whlN c b n env2 st2
      | o => o
    | some (false, st1) => some (.nx env st1)
    | none => none
noncomputable def whlD (c : En → Bx → Option (Bool × Bx)) (b : En → Bx → Option Out) (env : En) (st : Bx) : Option Out :=
  open Classical in if h : ∃ n, (whlN c b n env st).isSome = true then whlN c b h.choose env st else none
def forGo (step : PyData → En → Bx → Option Out) : List PyData → En → Bx → Option Out
  | [], env, st => some (.nx env st)
  | d :: ds, env, st => match step d env st with
    | some (.nx env1 st1) => forGo step ds env1 st1
    | o => o

mutual
noncomputable def Stm.den (cf : Cf) : Stm → En → Bx → Option Out
  | .never, _, _ => none
  | .pass, env, st => some (.nx env st)
  | .asg i e, env, st => match e.den cf env st with
    | some (x, st1) => x.hold.map fun r => .nx (env.set i (some r)) st1
    | none => none
  | .par i j a b, env, st => match a.den cf env st with
    | some (x, st1) => match b.den cf env st1 with
      | some (y, st2) => match x.hold, y.hold with
        | some r, some q => some (.nx ((env.set i (some r)).set j (some q)) st2)
        | _, _ => none
      | none => none
    | none => none
  | .par3 i j l a b c, env, st => match Exs.den cf (.cons a (.cons b (.cons c .nil))) env st with
    | some (rs, st1) => match caps rs with
      | some [d1, d2, d3] => some (.nx (((env.set i (some (.dat d1))).set j (some (.dat d2))).set l (some (.dat d3))) st1)
      | _ => none
    | none => none
  | .setO i k e, env, st => match env[i]? with
    | some (some (.own ds)) => match e.den cf env st with
      | some (x, st1) => match k.den cf env st1 with
        | some (.dat (.int q), st2) => match x.cap, ixN ds.length q with
          | some d, some j => some (.nx (env.set i (some (.own (ds.set j d)))) st2)
          | _, _ => none
        | _ => none
      | none => none
    | _ => none
  | .unp t e, env, st => match e.den cf env st with
    | some (x, st1) => (x.cap.bind fun d => t.bind d env).map fun env1 => .nx env1 st1
    | none => none
  | .setB o i e, env, st => match e.den cf env st with
    | some (x, st1) => match o.den cf env st1 with
      | some (.ref n, st2) => match i.den cf env st2 with
        | some (.dat (.int k), st3) => match x.cap, st3[n]? with
          | some d, some ds => match ixN ds.length k with
            | some j => some (.nx env (st3.set n (ds.set j d)))
            | none => none
          | _, _ => none
        | _ => none
      | _ => none
    | none => none
  | .exp e, env, st => match e.den cf env st with
    | some (_, st1) => some (.nx env st1)
    | none => none
  | .app i e, env, st => match env[i]? with
    | some (some (.own ds)) => match e.den cf env st with
      | some (x, st1) => match x.cap with
        | some d => if ds.length < sizeLine then some (.nx (env.set i (some (.own (ds ++ [d])))) st1) else none
        | none => none
      | none => none
    | _ => none
  | .ext i e, env, st => match env[i]? with
    | some (some (.own ds)) => match e.den cf env st with
      | some (x, st1) => match x.view with
        | some (.list es) => if fitsL (ds.length + es.length) then some (.nx (env.set i (some (.own (ds ++ es)))) st1) else none
        | _ => none
      | none => none
    | _ => none
  | .iff t a b, env, st => match t.den cf env st with
    | some (true, st1) => a.den cf env st1
    | some (false, st1) => b.den cf env st1
    | none => none
  | .whl t b, env, st => whlD (t.den cf) (b.den cf) env st
  | .forr tg it b, env, st => match it.den cf false env st with
    | some (items, st1) => forGo (fun d env st => (tg.bind d env).bind fun env1 => b.den cf env1 st) items env st1
    | none => none
  | .ret e, env, st => match e.den cf env st with
    | some (x, st1) => x.hold.map fun r => .rt r st1
    | none => none
  | .retv i, env, st => match env[i]? with
    | some (some r) => some (.rt r st)
    | _ => none
  | .frz i, env, st => match env[i]? with
    | some (some (.own ds)) => some (.nx (env.set i (some (.dat (.list ds)))) st)
    | _ => some (.nx env st)
noncomputable def Stms.den (cf : Cf) : Stms → En → Bx → Option Out
  | .nil, env, st => some (.nx env st)
  | .cons s r, env, st => match s.den cf env st with
    | some (.nx env1 st1) => r.den cf env1 st1
    | o => o
end

/-- a def: how many parameters, how many names, the body -/
structure Fn where
  np : Nat
  nv : Nat
  body : Stms

noncomputable def callF (tb : String → Option Fn) : Nat → Cf
  | 0 => fun _ _ _ => none
  | k + 1 => fun f args st => match tb f with
    | none => none
    | some fn => if args.length = fn.np then
        match fn.body.den (callF tb k) (args.map some ++ List.replicate (fn.nv - fn.np) none) st with
        | some (.rt r st1) => some (r, st1)
        | some (.nx _ st1) => some (.dat .none, st1)
        | none => none
      else none
end Sy

namespace Sy
open PySem L2

/-! ### what a value stands for -/
mutual
inductive Dv (K : PySem.W.Frag) (H : Hp) : V → PyData → Prop
  | non : Dv K H .non .none
  | bl (b : Bool) : Dv K H (.bl b) (.bool b)
  | int (i : Int) : Dv K H (.int i) (.int i)
  | str (x : Str) : Dv K H (.str x) (.str x)
  | lst {a : Addr} {xs : List V} {ds : List PyData} : H a = some (.lst xs) → DvAll K H xs ds → Dv K H (.ref a) (.list ds)
  | tup {a : Addr} {xs : List V} {ds : List PyData} : SqT K H a xs → DvAll K H xs ds → Dv K H (.ref a) (.tuple ds)
inductive DvAll (K : PySem.W.Frag) (H : Hp) : List V → List PyData → Prop
  | nil : DvAll K H [] []
  | cons {v : V} {vs : List V} {d : PyData} {ds : List PyData} : Dv K H v d → DvAll K H vs ds → DvAll K H (v :: vs) (d :: ds)
end
section
variable {K : PySem.W.Frag} {G H : Hp}
theorem Rd.up (s : ∀ a o, G a = some o → H a = some o) {a : Addr} {u : HO} (h : Rd G a u) : Rd H a u := by
  rcases h with h | ⟨o, h⟩
  · exact .inl (s _ _ h)
  · exact .inr ⟨o, s _ _ h⟩
theorem SqT.up (s : ∀ a o, G a = some o → H a = some o) {a : Addr} {xs : List V} (h : SqT K G a xs) : SqT K H a xs := by
  rcases h with h | h
  · exact .inl (Rd.up s h)
  · exact .inr h
theorem SqL.up (s : ∀ a o, G a = some o → H a = some o) {a : Addr} {xs : List V} (h : SqL K G a xs) : SqL K H a xs := by
  rcases h with h | h
  · exact .inl (Rd.up s h)
  · exact .inr h
mutual
theorem Dv.up (s : ∀ a o, G a = some o → H a = some o) : ∀ (d : PyData) (v : V), Dv K G v d → Dv K H v d
  | .none, _, h => by cases h; exact .non
  | .bool b, _, h => by cases h; exact .bl b
  | .int i, _, h => by cases h; exact .int i
  | .str x, _, h => by cases h; exact .str x
  | .list ds, _, h => by
    cases h with
    | lst h1 h2 => exact .lst (s _ _ h1) (DvAll.up s ds _ h2)
  | .tuple ds, _, h => by
    cases h with
    | tup h1 h2 => exact .tup (SqT.up s h1) (DvAll.up s ds _ h2)
  | .dict _, _, h => by cases h
theorem DvAll.up (s : ∀ a o, G a = some o → H a = some o) : ∀ (ds : List PyData) (vs : List V), DvAll K G vs ds → DvAll K H vs ds
  | [], _, h => by cases h; exact .nil
  | d :: ds, _, h => by
    cases h with
    | cons h1 h2 => exact .cons (Dv.up s d _ h1) (DvAll.up s ds _ h2)
end
mutual
theorem Dv.dp : ∀ (d : PyData) (v : V), Dv K H v d → Dp K H v d
  | .none, _, h => by cases h; exact .non
  | .bool b, _, h => by cases h; exact .bl b
  | .int i, _, h => by cases h; exact .int i
  | .str x, _, h => by cases h; exact .str x
  | .list ds, _, h => by
    cases h with
    | lst h1 h2 => exact .lst (.inl (.inl h1)) (DvAll.dp ds _ h2)
  | .tuple ds, _, h => by
    cases h with
    | tup h1 h2 => exact .tup h1 (DvAll.dp ds _ h2)
  | .dict _, _, h => by cases h
theorem DvAll.dp : ∀ (ds : List PyData) (vs : List V), DvAll K H vs ds → DpAll K H vs ds
  | [], _, h => by cases h; exact .nil
  | d :: ds, _, h => by
    cases h with
    | cons h1 h2 => exact .cons (Dv.dp d _ h1) (DvAll.dp ds _ h2)
end
theorem DvAll.len : ∀ {ds : List PyData} {vs : List V}, DvAll K H vs ds → vs.length = ds.length
  | _, _, .nil => rfl
  | _, _, .cons _ t => by rw [List.length_cons, List.length_cons, DvAll.len t]
theorem DvAll.get : ∀ {ds : List PyData} {vs : List V} {i : Nat} {d : PyData}, DvAll K H vs ds → ds[i]? = some d → ∃ v, vs[i]? = some v ∧ Dv K H v d
  | _, _, _, _, .nil, e => by simp at e
  | _, _, 0, _, .cons h t, e => by simp at e; subst e; exact ⟨_, rfl, h⟩
  | _, _, i + 1, d, .cons h t, e => by
    obtain ⟨v, e1, h1⟩ := DvAll.get (i := i) t (by simpa using e)
    exact ⟨v, by simpa using e1, h1⟩
theorem DvAll.app : ∀ {ds es : List PyData} {vs us : List V}, DvAll K H vs ds → DvAll K H us es → DvAll K H (vs ++ us) (ds ++ es)
  | _, _, _, _, .nil, h => h
  | _, _, _, _, .cons h t, q => .cons h (DvAll.app t q)
theorem DvAll.one {v : V} {d : PyData} (h : Dv K H v d) : DvAll K H [v] [d] := .cons h .nil
theorem DvAll.take : ∀ {ds : List PyData} {vs : List V} (n : Nat), DvAll K H vs ds → DvAll K H (vs.take n) (ds.take n)
  | _, _, 0, _ => .nil
  | _, _, _ + 1, .nil => .nil
  | _, _, n + 1, .cons h t => .cons h (DvAll.take n t)
theorem DvAll.drop : ∀ {ds : List PyData} {vs : List V} (n : Nat), DvAll K H vs ds → DvAll K H (vs.drop n) (ds.drop n)
  | _, _, 0, h => h
  | _, _, _ + 1, .nil => .nil
  | _, _, n + 1, .cons h t => DvAll.drop n t
theorem DvAll.set : ∀ {ds : List PyData} {vs : List V} (n : Nat) {v : V} {d : PyData}, DvAll K H vs ds → Dv K H v d → DvAll K H (vs.set n v) (ds.set n d)
  | _, _, _, _, _, .nil, _ => .nil
  | _, _, 0, _, _, .cons h t, q => .cons q t
  | _, _, n + 1, _, _, .cons h t, q => .cons h (DvAll.set n t q)
theorem DvAll.rep : ∀ {ds : List PyData} {vs : List V} (n : Nat), DvAll K H vs ds → DvAll K H (List.replicate n vs).flatten (List.replicate n ds).flatten
  | _, _, 0, h => .nil
  | _, _, n + 1, h => by
    rw [List.replicate_succ, List.replicate_succ, List.flatten_cons, List.flatten_cons]
    exact h.app (DvAll.rep n h)
theorem DvAll.ints : ∀ {ds : List PyData} {vs : List V} {l : List Int}, DvAll K H vs ds → intsOf ds = some l → vs = l.map V.int
  | [], _, _, .nil, e => by
    cases (show some [] = some _ from e)
    rfl
  | .int i :: r, _, l, .cons h t, e => by
    cases h
    cases q : intsOf r with
    | none => rw [intsOf, q] at e; cases e
    | some m =>
      rw [intsOf, q] at e
      cases e
      rw [DvAll.ints t q]
      rfl
  | .none :: _, _, _, .cons _ _, e => by cases e
  | .bool _ :: _, _, _, .cons _ _, e => by cases e
  | .str _ :: _, _, _, .cons _ _, e => by cases e
  | .list _ :: _, _, _, .cons _ _, e => by cases e
  | .tuple _ :: _, _, _, .cons _ _, e => by cases e
  | .dict _ :: _, _, _, .cons _ _, e => by cases e
theorem DvAll.bools : ∀ {ds : List PyData} {vs : List V} {l : List Bool}, DvAll K H vs ds → boolsOf ds = some l → vs = l.map V.bl
  | [], _, _, .nil, e => by
    cases (show some [] = some _ from e)
    rfl
  | .bool i :: r, _, l, .cons h t, e => by
    cases h
    cases q : boolsOf r with
    | none => rw [boolsOf, q] at e; cases e
    | some m =>
      rw [boolsOf, q] at e
      cases e
      rw [DvAll.bools t q]
      rfl
  | .none :: _, _, _, .cons _ _, e => by cases e
  | .int _ :: _, _, _, .cons _ _, e => by cases e
  | .str _ :: _, _, _, .cons _ _, e => by cases e
  | .list _ :: _, _, _, .cons _ _, e => by cases e
  | .tuple _ :: _, _, _, .cons _ _, e => by cases e
  | .dict _ :: _, _, _, .cons _ _, e => by cases e
end

/-! ### the world: G what lasts, H the heap, ph where the boxes stand -/
structure Wd (K : PySem.W.Frag) (G H : Hp) (ph : List Addr) (st : Bx) : Prop where
  sub : ∀ a o, G a = some o → H a = some o
  nd : ph.Nodup
  len : ph.length = st.length
  box : ∀ (n : Nat) (a : Addr) (ds : List PyData), ph[n]? = some a → st[n]? = some ds → G a = none ∧ ∃ vs, H a = some (.lst vs) ∧ DvAll K G vs ds
/-- from one state to a later one -/
structure Stp (G H : Hp) (ph : List Addr) (G' H' : Hp) (ph' : List Addr) : Prop where
  g : ∀ a o, G a = some o → G' a = some o
  gn : ∀ a o, G' a = some o → G a = some o ∨ H a = none
  fr : ∀ a o, H a = some o → a ∉ ph → H' a = some o
  ph : ∃ ps, ph' = ph ++ ps ∧ ∀ a ∈ ps, H a = none
  dom : ∀ a, H' a = none → H a = none
def Rs (K : PySem.W.Frag) (G H : Hp) (ph : List Addr) : R → V → Prop
  | .dat d, v => Dv K G v d
  | .ref n, v => ∃ a, v = .ref a ∧ ph[n]? = some a
  | .own ds, v => ∃ a vs, v = .ref a ∧ H a = some (.lst vs) ∧ G a = none ∧ a ∉ ph ∧ DvAll K G vs ds
  | .brw ds, v => ∃ a vs, v = .ref a ∧ H a = some (.lst vs) ∧ G a = none ∧ a ∉ ph ∧ DvAll K G vs ds
  | .scr ns, v => ∃ a, v = .ref a ∧ SqL K G a (ns.map V.int)
def RsAll (K : PySem.W.Frag) (G H : Hp) (ph : List Addr) : List R → List V → Prop
  | [], [] => True
  | r :: rs, v :: vs => Rs K G H ph r v ∧ RsAll K G H ph rs vs
  | _, _ => False
/-- what is handed back as one's own is new -/
def FrO (H : Hp) : R → V → Prop
  | .own _, v => ∀ a, v = .ref a → H a = none
  | _, _ => True
/-- no own list of the values stands at a -/
def NoAt (a : Addr) : List R → List V → Prop
  | .own _ :: rs, v :: vs => v ≠ .ref a ∧ NoAt a rs vs
  | _ :: rs, _ :: vs => NoAt a rs vs
  | _, _ => True
def FrL (H : Hp) : List R → List V → Prop
  | r :: rs, v :: vs => FrO H r v ∧ (∀ ds a, r = .own ds → v = .ref a → NoAt a rs vs) ∧ FrL H rs vs
  | _, _ => True
structure Ev (K : PySem.W.Frag) (G H : Hp) (ph : List Addr) (env : En) (st : Bx) (σ : List (Option V)) : Prop where
  w : Wd K G H ph st
  ln : env.length = σ.length
  sl : ∀ (i : Nat) (r : R), env[i]? = some (some r) → ∃ v, σ[i]? = some (some v) ∧ Rs K G H ph r v

section
variable {K : PySem.W.Frag} {G H G1 H1 G2 H2 : Hp} {ph ph1 ph2 : List Addr} {st st1 : Bx} {env : En} {σ : List (Option V)}
theorem Stp.refl : Stp G H ph G H ph := ⟨fun _ _ h => h, fun _ _ h => .inl h, fun _ _ h _ => h, ⟨[], by simp, fun _ h => nomatch h⟩, fun _ h => h⟩
theorem Stp.notin (s : Stp G H ph G1 H1 ph1) {a : Addr} {o : HO} (h : H a = some o) (n : a ∉ ph) : a ∉ ph1 := by
  obtain ⟨ps, e, q⟩ := s.ph
  rw [e]
  intro m
  rcases List.mem_append.mp m with m | m
  · exact n m
  · rw [q a m] at h; cases h
theorem Stp.trans (s : Stp G H ph G1 H1 ph1) (t : Stp G1 H1 ph1 G2 H2 ph2) : Stp G H ph G2 H2 ph2 := by
  refine ⟨fun a o h => t.g a o (s.g a o h), fun a o h => ?_, fun a o h n => t.fr a o (s.fr a o h n) (s.notin h n), ?_, fun a h => s.dom a (t.dom a h)⟩
  · rcases t.gn a o h with h | h
    · exact s.gn a o h
    · exact .inr (s.dom a h)
  · obtain ⟨p1, e1, q1⟩ := s.ph
    obtain ⟨p2, e2, q2⟩ := t.ph
    refine ⟨p1 ++ p2, by rw [e2, e1, List.append_assoc], fun a m => ?_⟩
    rcases List.mem_append.mp m with m | m
    · exact q1 a m
    · exact s.dom a (q2 a m)
theorem Stp.Gnone (s : Stp G H ph G1 H1 ph1) {a : Addr} {o : HO} (h : H a = some o) (n : G a = none) : G1 a = none := by
  cases e : G1 a with
  | none => rfl
  | some u =>
    rcases s.gn a u e with q | q
    · rw [n] at q; cases q
    · rw [h] at q; cases q
theorem Rs.step (s : Stp G H ph G1 H1 ph1) {r : R} {v : V} (h : Rs K G H ph r v) : Rs K G1 H1 ph1 r v := by
  cases r with
  | dat d => exact Dv.up s.g d v h
  | ref n =>
    obtain ⟨a, e, q⟩ := h
    obtain ⟨ps, ep, _⟩ := s.ph
    refine ⟨a, e, ?_⟩
    rw [ep]
    rw [List.getElem?_append_left (List.getElem?_eq_some_iff.mp q).1]
    exact q
  | own ds =>
    obtain ⟨a, vs, e, h1, h2, h3, h4⟩ := h
    exact ⟨a, vs, e, s.fr a _ h1 h3, s.Gnone h1 h2, s.notin h1 h3, DvAll.up s.g ds vs h4⟩
  | brw ds =>
    obtain ⟨a, vs, e, h1, h2, h3, h4⟩ := h
    exact ⟨a, vs, e, s.fr a _ h1 h3, s.Gnone h1 h2, s.notin h1 h3, DvAll.up s.g ds vs h4⟩
  | scr ns =>
    obtain ⟨a, e, q⟩ := h
    exact ⟨a, e, SqL.up s.g q⟩
theorem FrO.before (s : Stp G H ph G1 H1 ph1) {r : R} {v : V} (h : FrO H1 r v) : FrO H r v := by
  cases r with
  | own ds => exact fun a e => s.dom a (h a e)
  | _ => trivial
theorem Ev.step (e : Ev K G H ph env st σ) (s : Stp G H ph G1 H1 ph1) (w : Wd K G1 H1 ph1 st1) : Ev K G1 H1 ph1 env st1 σ :=
  ⟨w, e.ln, fun i r h => let ⟨v, q, z⟩ := e.sl i r h; ⟨v, q, z.step s⟩⟩

/-- a look: the data at the whole heap -/
theorem Rs.view (w : Wd K G H ph st) {r : R} {v : V} {d : PyData} (h : Rs K G H ph r v) (e : r.view = some d) : Dv K H v d := by
  cases r with
  | dat d' => cases e; exact Dv.up w.sub d v h
  | own ds =>
    cases e
    obtain ⟨a, vs, rfl, h1, _, _, h4⟩ := h
    exact .lst h1 (DvAll.up w.sub ds vs h4)
  | brw ds =>
    cases e
    obtain ⟨a, vs, rfl, h1, _, _, h4⟩ := h
    exact .lst h1 (DvAll.up w.sub ds vs h4)
  | _ => cases e
/-- the parts of a list that is looked at last -/
theorem Rs.viewL (w : Wd K G H ph st) {r : R} {v : V} {ds : List PyData} (h : Rs K G H ph r v) (e : r.view = some (.list ds)) : ∃ a vs, v = .ref a ∧ H a = some (.lst vs) ∧ DvAll K G vs ds := by
  cases r with
  | dat d' =>
    cases e
    cases (show Dv K G v (.list ds) from h) with
    | lst h1 h2 => exact ⟨_, _, rfl, w.sub _ _ h1, h2⟩
  | own ds =>
    cases e
    obtain ⟨a, vs, rfl, h1, _, _, h4⟩ := h
    exact ⟨a, vs, rfl, h1, h4⟩
  | brw ds =>
    cases e
    obtain ⟨a, vs, rfl, h1, _, _, h4⟩ := h
    exact ⟨a, vs, rfl, h1, h4⟩
  | _ => cases e
theorem Rs.viewT (w : Wd K G H ph st) {r : R} {v : V} {ds : List PyData} (h : Rs K G H ph r v) (e : r.view = some (.tuple ds)) : ∃ a vs, v = .ref a ∧ SqT K H a vs ∧ DvAll K G vs ds := by
  cases r with
  | dat d' =>
    cases e
    cases (show Dv K G v (.tuple ds) from h) with
    | tup h1 h2 => exact ⟨_, _, rfl, SqT.up w.sub h1, h2⟩
  | own ds => cases e
  | brw ds => cases e
  | _ => cases e
theorem Rs.viewI (w : Wd K G H ph st) {r : R} {v : V} {i : Int} (h : Rs K G H ph r v) (e : r.view = some (.int i)) : v = .int i := by
  have := Rs.view w h e
  cases this
  rfl
/-! new objects -/
theorem Wd.new (w : Wd K G H ph st) {p : Addr} {o : HO} (hp : H p = none) : Wd K G (upd H p o) ph st := by
  have ne : ∀ a u, H a = some u → a ≠ p := fun a u h e => by subst e; rw [hp] at h; cases h
  refine ⟨fun a u h => ?_, w.nd, w.len, fun n a ds h1 h2 => ?_⟩
  · rw [upd_ne (ne a u (w.sub a u h))]; exact w.sub a u h
  · obtain ⟨g, vs, h3, h4⟩ := w.box n a ds h1 h2
    exact ⟨g, vs, by rw [upd_ne (ne a _ h3)]; exact h3, h4⟩
theorem Stp.new {p : Addr} {o : HO} (hp : H p = none) : Stp G H ph G (upd H p o) ph := by
  have ne : ∀ a u, H a = some u → a ≠ p := fun a u h e => by subst e; rw [hp] at h; cases h
  refine ⟨fun _ _ h => h, fun _ _ h => .inl h, fun a u h _ => ?_, ⟨[], by simp, fun _ h => nomatch h⟩, fun a h => ?_⟩
  · rw [upd_ne (ne a u h)]; exact h
  · by_cases e : a = p
    · subst e; exact hp
    · rw [upd_ne e] at h; exact h
theorem Wd.newG (w : Wd K G H ph st) {p : Addr} {o : HO} (hp : H p = none) : Wd K (upd G p o) (upd H p o) ph st := by
  have ne : ∀ a u, H a = some u → a ≠ p := fun a u h e => by subst e; rw [hp] at h; cases h
  have gp : G p = none := by
    cases e : G p with
    | none => rfl
    | some u => have := w.sub p u e; rw [hp] at this; cases this
  have up : ∀ a u, G a = some u → upd G p o a = some u := fun a u h => by rw [upd_ne (ne a u (w.sub a u h))]; exact h
  refine ⟨fun a u h => ?_, w.nd, w.len, fun n a ds h1 h2 => ?_⟩
  · by_cases e : a = p
    · subst e; rw [upd_same] at h ⊢; exact h
    · rw [upd_ne e] at h ⊢; exact w.sub a u h
  · obtain ⟨g, vs, h3, h4⟩ := w.box n a ds h1 h2
    exact ⟨by rw [upd_ne (ne a _ h3)]; exact g, vs, by rw [upd_ne (ne a _ h3)]; exact h3, DvAll.up up ds vs h4⟩
theorem Stp.newG (w : Wd K G H ph st) {p : Addr} {o : HO} (hp : H p = none) : Stp G H ph (upd G p o) (upd H p o) ph := by
  have ne : ∀ a u, H a = some u → a ≠ p := fun a u h e => by subst e; rw [hp] at h; cases h
  refine ⟨fun a u h => ?_, fun a u h => ?_, fun a u h _ => ?_, ⟨[], by simp, fun _ h => nomatch h⟩, fun a h => ?_⟩
  · rw [upd_ne (ne a u (w.sub a u h))]; exact h
  · by_cases e : a = p
    · subst e; exact .inr hp
    · rw [upd_ne e] at h; exact .inl h
  · rw [upd_ne (ne a u h)]; exact h
  · by_cases e : a = p
    · subst e; exact hp
    · rw [upd_ne e] at h; exact h
/-- a new box -/
theorem Wd.newB (w : Wd K G H ph st) {p : Addr} {vs : List V} {ds : List PyData} (hp : H p = none) (h : DvAll K G vs ds) : Wd K G (upd H p (.lst vs)) (ph ++ [p]) (st ++ [ds]) := by
  have ne : ∀ a u, H a = some u → a ≠ p := fun a u h e => by subst e; rw [hp] at h; cases h
  have gp : G p = none := by
    cases e : G p with
    | none => rfl
    | some u => have := w.sub p u e; rw [hp] at this; cases this
  have hn : p ∉ ph := fun m => by
    obtain ⟨n, hn, e⟩ := List.getElem_of_mem m
    have hl : n < st.length := by rw [← w.len]; exact hn
    obtain ⟨_, us, q, _⟩ := w.box n p st[n] (by rw [List.getElem?_eq_getElem hn, e]) (List.getElem?_eq_getElem hl)
    rw [hp] at q; cases q
  refine ⟨(w.new hp).sub, ?_, by simp [w.len], fun n a es h1 h2 => ?_⟩
  · rw [List.nodup_append]
    refine ⟨w.nd, by simp, fun a ha b hb e => ?_⟩
    have eb : b = p := by simpa using hb
    rw [e, eb] at ha
    exact hn ha
  · by_cases hl : n < ph.length
    · rw [List.getElem?_append_left hl] at h1
      rw [List.getElem?_append_left (by rw [← w.len]; exact hl)] at h2
      exact (w.new hp).box n a es h1 h2
    · have en : n = ph.length := by
        have := (List.getElem?_eq_some_iff.mp h1).1
        simp at this
        omega
      rw [en, List.getElem?_append_right (Nat.le_refl _)] at h1
      rw [en, w.len, List.getElem?_append_right (Nat.le_refl _)] at h2
      simp at h1 h2
      subst h1 h2
      exact ⟨gp, vs, upd_same, h⟩
theorem Stp.newB {p : Addr} {o : HO} (hp : H p = none) : Stp G H ph G (upd H p o) (ph ++ [p]) := by
  have s : Stp G H ph G (upd H p o) ph := Stp.new hp
  exact ⟨s.g, s.gn, s.fr, ⟨[p], rfl, fun a m => (List.mem_singleton.mp m) ▸ hp⟩, s.dom⟩
/-- a list of one's own made lasting: G grows -/
theorem Wd.frz (w : Wd K G H ph st) {a : Addr} {o : HO} (ha : H a = some o) (hn : a ∉ ph) : Wd K (upd G a o) H ph st := by
  have up : ∀ b u, G b = some u → upd G a o b = some u := fun b u h => by
    by_cases e : b = a
    · subst e
      have := w.sub b u h
      rw [ha] at this
      rw [upd_same]; exact this
    · rw [upd_ne e]; exact h
  refine ⟨fun b u h => ?_, w.nd, w.len, fun n b ds h1 h2 => ?_⟩
  · by_cases e : b = a
    · subst e; rw [upd_same] at h; rw [ha]; exact h
    · rw [upd_ne e] at h; exact w.sub b u h
  · obtain ⟨g, vs, h3, h4⟩ := w.box n b ds h1 h2
    have e : b ≠ a := fun e => hn (e ▸ List.mem_of_getElem? h1)
    exact ⟨by rw [upd_ne e]; exact g, vs, h3, DvAll.up up ds vs h4⟩
theorem Stp.frz (s : Stp G H ph G1 H1 ph1) {a : Addr} {o : HO} (ha : H1 a = some o) (h0 : H a = none) (gn : G1 a = none) : Stp G H ph (upd G1 a o) H1 ph1 := by
  refine ⟨fun b u h => ?_, fun b u h => ?_, s.fr, s.ph, s.dom⟩
  · have q := s.g b u h
    have e : b ≠ a := fun e => by subst e; rw [gn] at q; cases q
    rw [upd_ne e]; exact q
  · by_cases e : b = a
    · subst e; exact .inr h0
    · rw [upd_ne e] at h; exact s.gn b u h
/-- what may be kept, kept: the state ahead of the expression is (G, H, ph) -/
theorem cap_ok (s : Stp G H ph G1 H1 ph1) (w : Wd K G1 H1 ph1 st) {r : R} {v : V} {d : PyData} (h : Rs K G1 H1 ph1 r v) (f : FrO H r v) (e : r.cap = some d) :
    ∃ G2, Wd K G2 H1 ph1 st ∧ Stp G H ph G2 H1 ph1 ∧ Dv K G2 v d ∧ (∀ a o, G1 a = some o → G2 a = some o) ∧ (∀ a, G2 a = G1 a ∨ ∃ ds, r = .own ds ∧ v = .ref a) := by
  cases r with
  | dat d' =>
    cases e
    exact ⟨G1, w, s, h, fun _ _ q => q, fun a => .inl rfl⟩
  | own ds =>
    cases e
    obtain ⟨a, vs, rfl, h1, h2, h3, h4⟩ := h
    have up : ∀ b u, G1 b = some u → upd G1 a (.lst vs) b = some u := fun b u q => by
      have e : b ≠ a := fun e => by subst e; rw [h2] at q; cases q
      rw [upd_ne e]; exact q
    refine ⟨upd G1 a (.lst vs), w.frz h1 h3, s.frz h1 (f a rfl) h2, .lst upd_same (DvAll.up up ds vs h4), up, fun b => ?_⟩
    by_cases e : b = a
    · subst e; exact .inr ⟨ds, rfl, rfl⟩
    · exact .inl (by rw [upd_ne e])
  | _ => cases e
theorem RsAll.step (s : Stp G H ph G1 H1 ph1) : ∀ {rs : List R} {vs : List V}, RsAll K G H ph rs vs → RsAll K G1 H1 ph1 rs vs
  | [], [], _ => trivial
  | _ :: _, _ :: _, ⟨h, t⟩ => ⟨h.step s, RsAll.step s t⟩
theorem noAt_of {a : Addr} {o : HO} (ha : H a = some o) : ∀ {rs : List R} {vs : List V}, FrL H rs vs → NoAt a rs vs
  | [], _, _ => by unfold NoAt; trivial
  | .own ds :: rs, [], _ => by unfold NoAt; trivial
  | .own ds :: rs, v :: vs, ⟨f, _, t⟩ => ⟨(fun e => nomatch (ha.symm.trans (f a e))), noAt_of ha t⟩
  | .dat _ :: rs, [], _ => by unfold NoAt; trivial
  | .ref _ :: rs, [], _ => by unfold NoAt; trivial
  | .brw _ :: rs, [], _ => by unfold NoAt; trivial
  | .scr _ :: rs, [], _ => by unfold NoAt; trivial
  | .dat _ :: rs, _ :: vs, ⟨_, _, t⟩ => noAt_of (rs := rs) ha t
  | .ref _ :: rs, _ :: vs, ⟨_, _, t⟩ => noAt_of (rs := rs) ha t
  | .brw _ :: rs, _ :: vs, ⟨_, _, t⟩ => noAt_of (rs := rs) ha t
  | .scr _ :: rs, _ :: vs, ⟨_, _, t⟩ => noAt_of (rs := rs) ha t
theorem FrL.before (s : Stp G H ph G1 H1 ph1) : ∀ {rs : List R} {vs : List V}, FrL H1 rs vs → FrL H rs vs
  | [], _, _ => by unfold FrL; trivial
  | _ :: _, [], _ => by unfold FrL; trivial
  | _ :: _, _ :: _, ⟨f, n, t⟩ => ⟨f.before s, n, FrL.before s t⟩
/-- what stays where a list of one's own is made lasting -/
theorem Rs.froze {a : Addr} (up : ∀ b o, G b = some o → G1 b = some o) (sm : ∀ b, G1 b = G b ∨ b = a) {r : R} {v : V} (h : Rs K G H ph r v) (n : v ≠ .ref a ∨ ∀ ds, r ≠ .own ds ∧ r ≠ .brw ds) : Rs K G1 H ph r v := by
  cases r with
  | dat d => exact Dv.up up d v h
  | ref m => exact h
  | own ds =>
    obtain ⟨b, vs, e, h1, h2, h3, h4⟩ := h
    refine ⟨b, vs, e, h1, ?_, h3, DvAll.up up ds vs h4⟩
    rcases sm b with q | q
    · rw [q]; exact h2
    · rcases n with n | n
      · subst q; exact absurd e n
      · exact absurd rfl (n ds).1
  | brw ds =>
    obtain ⟨b, vs, e, h1, h2, h3, h4⟩ := h
    refine ⟨b, vs, e, h1, ?_, h3, DvAll.up up ds vs h4⟩
    rcases sm b with q | q
    · rw [q]; exact h2
    · rcases n with n | n
      · subst q; exact absurd e n
      · exact absurd rfl (n ds).2
  | scr ns =>
    obtain ⟨b, e, q⟩ := h
    exact ⟨b, e, SqL.up up q⟩
theorem args_rest {a : Addr} (up : ∀ b o, G b = some o → G1 b = some o) (sm : ∀ b, G1 b = G b ∨ b = a) : ∀ {rs : List R} {vs : List V} {as : List R}, argsOf rs = some as → RsAll K G H ph rs vs → NoAt a rs vs → RsAll K G1 H ph rs vs
  | [], [], _, _, _, _ => trivial
  | [], _ :: _, _, _, h, _ => h.elim
  | _ :: _, [], _, _, h, _ => h.elim
  | r :: rs, v :: vs, as, e, ⟨h, t⟩, na => by
    unfold argsOf at e
    split at e
    · rename_i x xs e1 e2
      cases r with
      | own ds => exact ⟨Rs.froze up sm h (.inl na.1), args_rest up sm e2 t na.2⟩
      | brw ds => cases e1
      | dat d => exact ⟨Rs.froze up sm h (.inr fun _ => ⟨(fun z => nomatch z), (fun z => nomatch z)⟩), args_rest up sm e2 t na⟩
      | ref m => exact ⟨Rs.froze up sm h (.inr fun _ => ⟨(fun z => nomatch z), (fun z => nomatch z)⟩), args_rest up sm e2 t na⟩
      | scr m => exact ⟨Rs.froze up sm h (.inr fun _ => ⟨(fun z => nomatch z), (fun z => nomatch z)⟩), args_rest up sm e2 t na⟩
    · cases e
/-- arguments, made lasting -/
theorem args_ok : ∀ {rs as : List R} {vs : List V} {G1 : Hp}, Stp G H ph G1 H1 ph1 → Wd K G1 H1 ph1 st → RsAll K G1 H1 ph1 rs vs → FrL H rs vs → argsOf rs = some as →
    ∃ G2, Wd K G2 H1 ph1 st ∧ Stp G H ph G2 H1 ph1 ∧ RsAll K G2 H1 ph1 as vs ∧ (∀ a o, G1 a = some o → G2 a = some o)
  | [], as, [], G1, s, w, _, _, e => by
    cases (show some [] = some as from e)
    exact ⟨G1, w, s, trivial, fun _ _ q => q⟩
  | [], _, _ :: _, _, _, _, h, _, _ => h.elim
  | _ :: _, _, [], _, _, _, h, _, _ => h.elim
  | r :: rs, as, v :: vs, G1, s, w, ⟨h, t⟩, ⟨f, n, ft⟩, e => by
    unfold argsOf at e
    split at e
    · rename_i x xs e1 e2
      cases e
      have fin : ∀ G2, Wd K G2 H1 ph1 st → Stp G H ph G2 H1 ph1 → Rs K G2 H1 ph1 x v → (∀ a o, G1 a = some o → G2 a = some o) → RsAll K G2 H1 ph1 rs vs → (∀ ds, x ≠ .own ds ∧ x ≠ .brw ds) →
          ∃ G2, Wd K G2 H1 ph1 st ∧ Stp G H ph G2 H1 ph1 ∧ RsAll K G2 H1 ph1 (x :: xs) (v :: vs) ∧ (∀ a o, G1 a = some o → G2 a = some o) := fun G2 w2 s2 hx up t2 nx => by
        obtain ⟨G3, w3, s3, t3, up3⟩ := args_ok s2 w2 t2 ft e2
        refine ⟨G3, w3, s3, ⟨?_, t3⟩, fun a o q => up3 a o (up a o q)⟩
        cases x with
        | dat d => exact Dv.up up3 d v hx
        | ref m => exact hx
        | own ds => exact absurd rfl (nx ds).1
        | brw ds => exact absurd rfl (nx ds).2
        | scr ns => obtain ⟨b, e, q⟩ := hx; exact ⟨b, e, SqL.up up3 q⟩
      cases r with
      | brw ds => cases e1
      | dat d => cases e1; exact fin G1 w s h (fun _ _ q => q) t (fun _ => ⟨(fun z => nomatch z), (fun z => nomatch z)⟩)
      | ref d => cases e1; exact fin G1 w s h (fun _ _ q => q) t (fun _ => ⟨(fun z => nomatch z), (fun z => nomatch z)⟩)
      | scr d => cases e1; exact fin G1 w s h (fun _ _ q => q) t (fun _ => ⟨(fun z => nomatch z), (fun z => nomatch z)⟩)
      | own ds =>
        cases e1
        obtain ⟨G2, w2, s2, hd, up, sm⟩ := cap_ok s w h f (show (R.own ds).cap = some (.list ds) from rfl)
        have hv : ∃ a, v = .ref a := by
          obtain ⟨a, _, e, _⟩ := (show ∃ a vs, v = .ref a ∧ H1 a = some (.lst vs) ∧ G1 a = none ∧ a ∉ ph1 ∧ DvAll K G1 vs ds from h)
          exact ⟨a, e⟩
        obtain ⟨a, ev⟩ := hv
        have sm' : ∀ b, G2 b = G1 b ∨ b = a := fun b => by
          rcases sm b with q | ⟨ds2, q1, q2⟩
          · exact .inl q
          · rw [ev] at q2; cases q2; exact .inr rfl
        exact fin G2 w2 s2 hd up (args_rest up sm' e2 t (n ds a rfl ev)) (fun _ => ⟨(fun z => nomatch z), (fun z => nomatch z)⟩)
    · cases e
theorem caps_args : ∀ {rs : List R} {ds : List PyData}, caps rs = some ds → argsOf rs = some (ds.map .dat)
  | [], ds, e => by cases (show some [] = some ds from e); rfl
  | r :: rs, ds, e => by
    unfold caps at e
    split at e
    · rename_i d ds' e1 e2
      cases e
      have q := caps_args e2
      unfold argsOf
      rw [q]
      cases r with
      | dat d => cases e1; rfl
      | own d => cases e1; rfl
      | _ => cases e1
    · cases e
theorem RsAll.dats : ∀ {ds : List PyData} {vs : List V}, RsAll K G H ph (ds.map .dat) vs → DvAll K G vs ds
  | [], [], _ => .nil
  | [], _ :: _, h => h.elim
  | _ :: _, [], h => h.elim
  | _ :: _, _ :: _, ⟨h, t⟩ => .cons h (RsAll.dats t)
theorem caps_ok {rs : List R} {vs : List V} {ds : List PyData} (s : Stp G H ph G1 H1 ph1) (w : Wd K G1 H1 ph1 st) (h : RsAll K G1 H1 ph1 rs vs) (f : FrL H rs vs) (e : caps rs = some ds) :
    ∃ G2, Wd K G2 H1 ph1 st ∧ Stp G H ph G2 H1 ph1 ∧ DvAll K G2 vs ds ∧ (∀ a o, G1 a = some o → G2 a = some o) := by
  obtain ⟨G2, w2, s2, h2, up⟩ := args_ok s w h f (caps_args e)
  exact ⟨G2, w2, s2, h2.dats, up⟩
theorem views_ok (w : Wd K G H ph st) : ∀ {rs : List R} {vs : List V} {ds : List PyData}, RsAll K G H ph rs vs → views rs = some ds → DvAll K H vs ds
  | [], [], ds, _, e => by cases (show some [] = some ds from e); exact .nil
  | [], _ :: _, _, h, _ => h.elim
  | _ :: _, [], _, h, _ => h.elim
  | r :: rs, v :: vs, ds, ⟨h, t⟩, e => by
    unfold views at e
    split at e
    · rename_i d ds' e1 e2
      cases e
      exact .cons (Rs.view w h e1) (views_ok w t e2)
    · cases e
end
end Sy

namespace Sy
open PySem PySem.Spec PyProof.Rows L2

/-! ### readings -/
def tE (K : PySem.W.Frag) (d : En → Bx → Option (R × Bx)) : TE := fun σ H Q =>
  ∃ (G : Hp) (ph : List Addr) (env : En) (st : Bx) (r : R) (st' : Bx), Ev K G H ph env st σ ∧ d env st = some (r, st') ∧
    ∀ v H' G' ph', Wd K G' H' ph' st' → Stp G H ph G' H' ph' → Rs K G' H' ph' r v → FrO H r v → Q v H'
def tT (K : PySem.W.Frag) (d : En → Bx → Option (Bool × Bx)) : TT := fun σ H Q =>
  ∃ (G : Hp) (ph : List Addr) (env : En) (st : Bx) (b : Bool) (st' : Bx), Ev K G H ph env st σ ∧ d env st = some (b, st') ∧
    ∀ H' G' ph', Wd K G' H' ph' st' → Stp G H ph G' H' ph' → Q b H'
def tAs (K : PySem.W.Frag) (d : En → Bx → Option (List R × Bx)) : TA := fun σ H Q =>
  ∃ (G : Hp) (ph : List Addr) (env : En) (st : Bx) (rs : List R) (st' : Bx), Ev K G H ph env st σ ∧ d env st = some (rs, st') ∧
    ∀ vs H' G' ph', Wd K G' H' ph' st' → Stp G H ph G' H' ph' → RsAll K G' H' ph' rs vs → FrL H rs vs → Q vs H'

theorem peW {X : Cx} {e : Expr} {t t' : TE} (h : PE X e t) (w : ∀ σ H Q, t' σ H Q → t σ H Q) : PE X e t' := ⟨fun pins s σ H Q I q => h.run pins s σ H Q I (w σ H Q q)⟩
theorem ptW {X : Cx} {e : Expr} {t t' : TT} (h : PT X e t) (w : ∀ σ H Q, t' σ H Q → t σ H Q) : PT X e t' := ⟨fun pins s σ H Q I q => h.run pins s σ H Q I (w σ H Q q)⟩
theorem pwW {X : Cx} {e : Expr} {t t' : TT} (h : PW X e t) (w : ∀ σ H Q, t' σ H Q → t σ H Q) : PW X e t' := ⟨fun wh pins s σ H Q I q => h.run wh pins s σ H Q I (w σ H Q q)⟩
theorem paW {X : Cx} {es : List Expr} {t t' : TA} (h : PA X es t) (w : ∀ σ H Q, t' σ H Q → t σ H Q) : PA X es t' := ⟨fun p pins s σ H Q I q => h.run p pins s σ H Q I (w σ H Q q)⟩
theorem OpR.or {X : Cx} {f : Value → Value → Sem Value} {r r' : R2} (h : OpR X f r) (h' : OpR X f r') : OpR X f (fun x y H Q => r x y H Q ∨ r' x y H Q) := by
  intro pins s σ H x y v u Q I rx ry q
  rcases q with q | q
  · exact h pins s σ H x y v u Q I rx ry q
  · exact h' pins s σ H x y v u Q I rx ry q
theorem OpR.imp {X : Cx} {f : Value → Value → Sem Value} {r r' : R2} (h : OpR X f r) (w : ∀ x y H Q, r' x y H Q → r x y H Q) : OpR X f r' := fun pins s σ H x y v u Q I rx ry q => h pins s σ H x y v u Q I rx ry (w _ _ _ _ q)

section
variable {X : Cx} {cf : Cf} {K : PySem.W.Frag}
/-- the reading of a value that is at hand -/
theorem tE_c {X : Cx} {e : Expr} {w : V} {d : PyData} (h : PE X e (tC w)) (q : ∀ G : Hp, Dv X.K G w d) : PE X e (tE X.K fun _ st => some (.dat d, st)) :=
  peW h fun σ H Q ⟨G, ph, env, st, r, st', E, e, k⟩ => by
    cases e
    exact k w H G ph E.w Stp.refl (q G) trivial
theorem ok_int {i : Int} {j pos} : PE X (.Constant (.int i) j pos) (tE X.K ((Ex.c (.int i)).den cf)) := tE_c pe_int fun _ => .int i
theorem ok_bl {b : Bool} {j pos} : PE X (.Constant (.bool b) j pos) (tE X.K ((Ex.c (.bool b)).den cf)) := tE_c pe_bl fun _ => .bl b
theorem ok_non {j pos} : PE X (.Constant .none j pos) (tE X.K ((Ex.c .none).den cf)) := tE_c pe_non fun _ => .non
theorem ok_str {x : Str} {j pos} : PE X (.Constant (.str x) j pos) (tE X.K ((Ex.c (.str x)).den cf)) := tE_c pe_str fun _ => .str x
theorem ok_var {i : Nat} {x : Str} {pos : Pos} (h : PE X (.Name x pos) (tVar i)) : PE X (.Name x pos) (tE X.K ((Ex.v i).den cf)) :=
  peW h fun σ H Q ⟨G, ph, env, st, r, st', E, e, k⟩ => by
    simp only [Ex.den] at e
    split at e
    · rename_i r0 e0
      cases e
      obtain ⟨v, hv, hr⟩ := E.sl i r0 e0
      refine ⟨v, hv, k v H G ph E.w Stp.refl ?_ ?_⟩
      · cases r0 <;> exact hr
      · cases r0 <;> trivial
    · cases e
theorem ok_glob {x : String} {d : PyData} {e : Expr} {w : V} (h : PE X e (tC w)) (q : ∀ G : Hp, Dv X.K G w d) : PE X e (tE X.K ((Ex.g x d).den cf)) := tE_c h q
theorem ok_never {e : Expr} : PE X e (tE X.K (Ex.never.den cf)) := ⟨fun _ _ _ _ _ _ ⟨_, _, _, _, _, _, _, e, _⟩ => by simp only [Ex.den] at e; cases e⟩

/-! ### two operands -/
/-- from two readings to one operation by values -/
theorem two {da db : En → Bx → Option (R × Bx)} {rr : R2} {σ : L2.St} {H : Hp} {Q : VK} {G : Hp} {ph : List Addr} {env : En} {st st1 st2 : Bx} {x y : R} (E : Ev K G H ph env st σ)
    (ea : da env st = some (x, st1)) (eb : db env st1 = some (y, st2))
    (k : ∀ v u H2 G2 ph2, Wd K G2 H2 ph2 st2 → Stp G H ph G2 H2 ph2 → Rs K G2 H2 ph2 x v → Rs K G2 H2 ph2 y u → rr v u H2 Q) : tOp rr (tE K da) (tE K db) σ H Q := by
  refine ⟨G, ph, env, st, x, st1, E, ea, fun v H1 G1 ph1 w1 s1 r1 f1 => ?_⟩
  refine ⟨G1, ph1, env, st1, y, st2, E.step s1 w1, eb, fun u H2 G2 ph2 w2 s2 r2 f2 => ?_⟩
  exact k v u H2 G2 ph2 w2 (s1.trans s2) (r1.step s2) r2

def opOf : Bop → Operator
  | .add => .Add | .sub => .Sub | .mul => .Mult | .fdiv => .FloorDiv | .mod => .Mod | .pow => .Pow
theorem mulOk_ok {i j : Int} (h : mulOk i j = true) : CMulW i j := by
  have : i.natAbs.log2 + j.natAbs.log2 < 1000000 := of_decide_eq_true h
  exact this
theorem powOk_ok {i j : Int} (h : powOk i j = true) : CPow i j := by
  have : 0 ≤ j ∧ j ≤ 1000000 ∧ i.natAbs < 2 ^ 64 := of_decide_eq_true h
  exact this
theorem divOk_ok {j : Int} (h : divOk j = true) : j ≠ 0 ∧ j.natAbs.log2 < 9000 := of_decide_eq_true h
def rBin (K : PySem.W.Frag) (o : Bop) : R2 := fun x y H Q => (∃ i j k, x = .int i ∧ y = .int j ∧ binI o i j = some k ∧ Q (.int k) H) ∨ (o = .add ∧ (rCat x y H Q ∨ rCatA K x y H Q)) ∨ (o = .mul ∧ (rRep x y H Q ∨ rRepT K x y H Q))
theorem op_intB (o : Bop) : OpR X (binaryOp (opOf o)) (fun x y H Q => ∃ i j k, x = .int i ∧ y = .int j ∧ binI o i j = some k ∧ Q (.int k) H) := by
  intro pins s σ H x y v u Q I rx ry ⟨i, j, k, e1, e2, e, q⟩
  cases o with
  | add => cases e; exact op_add pins s σ H x y v u Q I rx ry ⟨i, j, e1, e2, q⟩
  | sub => cases e; exact op_sub pins s σ H x y v u Q I rx ry ⟨i, j, e1, e2, q⟩
  | mul =>
    simp only [binI] at e
    split at e
    · rename_i hm
      cases e
      exact op_mulW pins s σ H x y v u Q I rx ry ⟨i, j, e1, e2, mulOk_ok hm, q⟩
    · cases e
  | fdiv =>
    simp only [binI] at e
    split at e
    · rename_i hm
      cases e
      have hm' := of_decide_eq_true hm
      subst e1 e2
      obtain ⟨t, rfl⟩ := rx
      obtain ⟨t', rfl⟩ := ry
      exact floordiv_int hm'.1 ⟨.int _, H, I.tok _, ⟨_, rfl⟩, q⟩ (.inl (PyProof.noPylong_of_log2 hm'.2))
    · cases e
  | mod =>
    simp only [binI] at e
    split at e
    · cases e
    · rename_i hm
      cases e
      exact op_modN pins s σ H x y v u Q I rx ry ⟨i, j, e1, e2, hm, q⟩
  | pow =>
    simp only [binI] at e
    split at e
    · rename_i hm
      cases e
      exact op_pow pins s σ H x y v u Q I rx ry ⟨i, j, e1, e2, powOk_ok hm, q⟩
    · cases e
theorem op_bin (o : Bop) : OpR X (binaryOp (opOf o)) (rBin X.K o) := by
  intro pins s σ H x y v u Q I rx ry h
  rcases h with h | ⟨rfl, h | h⟩ | ⟨rfl, h | h⟩
  · exact op_intB o pins s σ H x y v u Q I rx ry h
  · exact op_cat pins s σ H x y v u Q I rx ry h
  · exact op_catA pins s σ H x y v u Q I rx ry h
  · exact op_rep pins s σ H x y v u Q I rx ry h
  · exact op_repT pins s σ H x y v u Q I rx ry h
theorem fits {n : Nat} (h : fitsL n = true) : n ≤ sizeLine := of_decide_eq_true h
/-- a new list of one's own -/
theorem new_own {G H Hb : Hp} {ph ph0 : List Addr} {G0 : Hp} {st : Bx} {vs : List V} {ds : List PyData} {p : Addr} (w : Wd K G H ph st) (s : Stp G0 Hb ph0 G H ph) (h : DvAll K G vs ds) (hp : H p = none) :
    Wd K G (upd H p (.lst vs)) ph st ∧ Stp G0 Hb ph0 G (upd H p (.lst vs)) ph ∧ Rs K G (upd H p (.lst vs)) ph (.own ds) (.ref p) ∧ FrO Hb (.own ds) (.ref p) := by
  refine ⟨w.new hp, s.trans (Stp.new hp), ⟨p, vs, rfl, upd_same, ?_, ?_, h⟩, fun a e => by cases e; exact s.dom p hp⟩
  · cases e : G p with
    | none => rfl
    | some u => have := w.sub p u e; rw [hp] at this; cases this
  · intro m
    obtain ⟨n, hn, e⟩ := List.getElem_of_mem m
    have hl : n < st.length := by rw [← w.len]; exact hn
    obtain ⟨_, us, q, _⟩ := w.box n p st[n] (by rw [List.getElem?_eq_getElem hn, e]) (List.getElem?_eq_getElem hl)
    rw [hp] at q; cases q
theorem new_tup {G H Hb : Hp} {ph ph0 : List Addr} {G0 : Hp} {st : Bx} {vs : List V} {ds : List PyData} {p : Addr} (w : Wd K G H ph st) (s : Stp G0 Hb ph0 G H ph) (h : DvAll K G vs ds) (hp : H p = none) :
    Wd K (upd G p (.tup vs)) (upd H p (.tup vs)) ph st ∧ Stp G0 Hb ph0 (upd G p (.tup vs)) (upd H p (.tup vs)) ph ∧ Rs K (upd G p (.tup vs)) (upd H p (.tup vs)) ph (.dat (.tuple ds)) (.ref p) := by
  have st2 := Stp.newG (o := .tup vs) w hp
  exact ⟨w.newG hp, s.trans st2, .tup (SqT.of upd_same) (DvAll.up st2.g ds vs h)⟩
theorem ok_bin {a b : Expr} {ea eb : Ex} {pos : Pos} (o : Bop) (ha : PE X a (tE X.K (ea.den cf))) (hb : PE X b (tE X.K (eb.den cf))) : PE X (.BinOp a (opOf o) b pos) (tE X.K ((Ex.bin o ea eb).den cf)) :=
  peW (pe_op (op_bin o) ha hb) fun σ H Q ⟨G, ph, env, st, r, st', E, e, k⟩ => by
    simp only [Ex.den] at e
    split at e
    · rename_i x st1 e1
      split at e
      · rename_i y st2 e2
        split at e
        · rename_i d d2 v1 v2
          cases hr : binD o d d2 with
          | none => rw [hr] at e; cases e
          | some r0 =>
            rw [hr] at e
            cases e
            refine two E e1 e2 fun v u H2 G2 ph2 w2 s2 r1 r2 => ?_
            unfold binD at hr
            split at hr
            · rename_i i j
              cases hi : binI o i j with
              | none => rw [hi] at hr; cases hr
              | some k0 =>
                rw [hi] at hr
                cases hr
                exact .inl ⟨i, j, k0, Rs.viewI w2 r1 v1, Rs.viewI w2 r2 v2, hi, k _ H2 G2 ph2 w2 s2 (.int k0) trivial⟩
            · rename_i xs ys
              split at hr
              · rename_i c
                cases hr
                obtain ⟨p, vs, rfl, h1, h2⟩ := Rs.viewL w2 r1 v1
                obtain ⟨q, us, rfl, h3, h4⟩ := Rs.viewL w2 r2 v2
                refine .inr (.inl ⟨c.1, .inl ⟨p, q, vs, us, rfl, rfl, h1, h3, by rw [h2.len, h4.len]; exact fits c.2, fun z hz => ?_⟩⟩)
                obtain ⟨a1, a2, a3, a4⟩ := new_own w2 s2 (h2.app h4) hz
                exact k _ _ _ _ a1 a2 a3 a4
              · cases hr
            · rename_i xs ys
              split at hr
              · rename_i c
                cases hr
                obtain ⟨p, vs, rfl, h1, h2⟩ := Rs.viewT w2 r1 v1
                obtain ⟨q, us, rfl, h3, h4⟩ := Rs.viewT w2 r2 v2
                refine .inr (.inl ⟨c.1, .inr ⟨p, q, vs, us, rfl, rfl, h1, h3, by rw [h2.len, h4.len]; exact fits c.2, fun z => ?_, fun _ z => ?_, fun _ _ p2 hp => ?_⟩⟩)
                · subst z
                  cases h2
                  cases y with
                  | dat d =>
                    cases v2
                    exact k _ _ _ _ w2 s2 r2 trivial
                  | _ => cases v2
                · subst z
                  cases h4
                  rw [List.append_nil] at k
                  cases x with
                  | dat d =>
                    cases v1
                    exact k _ _ _ _ w2 s2 r1 trivial
                  | _ => cases v1
                · obtain ⟨a1, a2, a3⟩ := new_tup w2 s2 (h2.app h4) hp
                  exact k _ _ _ _ a1 a2 a3 trivial
              · cases hr
            · rename_i xs k0
              split at hr
              · rename_i c
                cases hr
                have c2 : k0 < 2 ^ 20 ∧ 0 ≤ k0 ∧ xs.length * k0.toNat ≤ sizeLine := of_decide_eq_true c.2
                obtain ⟨p, vs, rfl, h1, h2⟩ := Rs.viewL w2 r1 v1
                refine .inr (.inr ⟨c.1, .inl ⟨p, k0, vs, rfl, Rs.viewI w2 r2 v2, h1, by omega, by omega, by rw [h2.len]; exact c2.2.2, fun z hz => ?_⟩⟩)
                obtain ⟨a1, a2, a3, a4⟩ := new_own w2 s2 (h2.rep k0.toNat) hz
                exact k _ _ _ _ a1 a2 a3 a4
              · cases hr
            · rename_i xs k0
              split at hr
              · rename_i c
                cases hr
                have c2 : 2 ≤ k0 ∧ k0 ≤ 1000 ∧ 1 ≤ xs.length ∧ xs.length ≤ 1000 := of_decide_eq_true c.2
                obtain ⟨p, vs, rfl, h1, h2⟩ := Rs.viewT w2 r1 v1
                have hl := h2.len
                refine .inr (.inr ⟨c.1, .inr ⟨p, k0, vs, rfl, Rs.viewI w2 r2 v2, h1, fun e => ?_, c2.1, c2.2.1, by omega, fun z hz => ?_⟩⟩)
                · subst e
                  simp at hl
                  omega
                · obtain ⟨a1, a2, a3⟩ := new_tup w2 s2 (h2.rep k0.toNat) hz
                  exact k _ _ _ _ a1 a2 a3 trivial
              · cases hr
            · cases hr
        · cases e
      · cases e
    · cases e
end
end Sy

namespace Sy
open PySem PySem.Spec PyProof.Rows L2

/-! ### comparisons by values -/
def cOf : Cop → CmpOp
  | .eq => .Eq | .ne => .NotEq | .lt => .Lt | .le => .LtE | .gt => .Gt | .ge => .GtE | .inn => .In | .nin => .NotIn
def rCmp (K : PySem.W.Frag) (o : Cop) : R2 := fun x y H Q => ∃ d e b, Dv K H x d ∧ Dv K H y e ∧ cmpD o d e = some b ∧ Q (.bl b) H
theorem iteP {p q : Prop} (h : p) : if true = true then p else q := by rw [if_pos rfl]; exact h
theorem iteN {p q : Prop} (h : q) : if false = true then p else q := by rw [if_neg Bool.false_ne_true]; exact h
section
variable {X : Cx} {cf : Cf}
theorem eqD_some {d e : PyData} {b : Bool} (h : eqD d e = some b) : (∃ x y, d = .str x ∧ e = .str y ∧ b = decide (x = y)) ∨ (SeqAt.shaped d = true ∧ SeqAt.shaped e = true ∧ b = PyData.eqv d e) := by
  unfold eqD at h
  split at h
  · cases h; exact .inl ⟨_, _, rfl, rfl, rfl⟩
  · split at h
    · rename_i c
      cases h
      exact .inr ⟨(Bool.and_eq_true_iff.mp c).1, (Bool.and_eq_true_iff.mp c).2, rfl⟩
    · cases h
theorem cps_eq (x y : Str) : (x.cps.toList == y.cps.toList) = decide (x = y) := by
  by_cases h : x = y
  · subst h; simp
  · rw [decide_eq_false h, beq_eq_false_iff_ne]
    exact fun q => h (by cases x; cases y; simpa using q)
theorem inD_some {d : PyData} {ds : List PyData} {b : Bool} (h : inD d ds = some b) : SeqAt.shaped d = true ∧ SeqAt.shaped (.list ds) = true ∧ b = ds.any fun z => PyData.eqv z d := by
  unfold inD at h
  split at h
  · rename_i c
    cases h
    exact ⟨(Bool.and_eq_true_iff.mp c).1, (Bool.and_eq_true_iff.mp c).2, rfl⟩
  · cases h
theorem map_not {o : Option Bool} {b : Bool} (h : o.map not = some b) : ∃ c, o = some c ∧ b = !c := by
  cases o with
  | none => cases h
  | some c => cases h; exact ⟨c, rfl, rfl⟩
theorem op_cmp (o : Cop) (hu : X.A.units + 65 < cLine) : OpR X (compareOp (cOf o)) (rCmp X.K o) := by
  intro pins s σ H x y v u Q I rx ry ⟨d, e, b, hd, he, hc, q⟩
  cases o with
  | eq =>
    rcases eqD_some hc with ⟨p, r, rfl, rfl, rfl⟩ | ⟨h1, h2, rfl⟩
    · cases hd; cases he
      obtain ⟨t1, rfl⟩ := rx
      obtain ⟨t2, rfl⟩ := ry
      exact P.eq_str ⟨.bl _, H, I, by rw [cps_eq]; rfl, q⟩
    exact op_eqD (by omega) pins s σ H x y v u Q I rx ry ⟨d, e, Dv.dp d x hd, Dv.dp e y he, h1, h2, q⟩
  | ne =>
    obtain ⟨c, h0, rfl⟩ := map_not (show (eqD d e).map not = some b from hc)
    rcases eqD_some h0 with ⟨p, r, rfl, rfl, rfl⟩ | ⟨h1, h2, rfl⟩
    · cases hd; cases he
      obtain ⟨t1, rfl⟩ := rx
      obtain ⟨t2, rfl⟩ := ry
      exact P.ne_str ⟨.bl _, H, I, by unfold bne; rw [cps_eq]; rfl, q⟩
    exact op_neD (by omega) pins s σ H x y v u Q I rx ry ⟨d, e, Dv.dp d x hd, Dv.dp e y he, h1, h2, q⟩
  | lt =>
    unfold cmpD at hc
    split at hc <;> first | contradiction | skip
    · rename_i i j _
      cases hc; cases hd; cases he
      exact op_lt pins s σ H _ _ v u Q I rx ry ⟨i, j, rfl, rfl, q⟩
    · rename_i xs ys _
      split at hc
      · rename_i a a2 h1 h2
        cases hc
        cases hd with
        | tup p1 p2 =>
          cases he with
          | tup p3 p4 =>
            refine op_ltT (by omega) pins s σ H _ _ v u Q I rx ry ⟨_, _, a, a2, rfl, rfl, ?_, ?_, q⟩
            · rw [← p2.ints h1]; exact p1
            · rw [← p4.ints h2]; exact p3
      · cases hc
  | le =>
    unfold cmpD at hc
    split at hc <;> first | contradiction | skip
    rename_i i j _
    cases hc; cases hd; cases he
    exact op_le pins s σ H _ _ v u Q I rx ry ⟨i, j, rfl, rfl, q⟩
  | gt =>
    unfold cmpD at hc
    split at hc <;> first | contradiction | skip
    rename_i i j _
    cases hc; cases hd; cases he
    exact op_gt pins s σ H _ _ v u Q I rx ry ⟨i, j, rfl, rfl, q⟩
  | ge =>
    unfold cmpD at hc
    split at hc <;> first | contradiction | skip
    rename_i i j _
    cases hc; cases hd; cases he
    exact op_ge pins s σ H _ _ v u Q I rx ry ⟨i, j, rfl, rfl, q⟩
  | inn =>
    unfold cmpD at hc
    split at hc <;> first | contradiction | skip
    · rename_i d0 ds _
      obtain ⟨h1, h2, rfl⟩ := inD_some hc
      exact op_inD hu pins s σ H x y v u Q I rx ry ⟨_, ds, Dv.dp _ x hd, Dv.dp _ y he, h1, h2, q⟩
    · rename_i d0 ds _
      obtain ⟨h1, h2, rfl⟩ := inD_some hc
      obtain ⟨as, r1⟩ := Dp.reads I _ x v (Dv.dp _ x hd) rx
      obtain ⟨bs, r2⟩ := Dp.reads I (.tuple ds) y u (Dv.dp _ y he) ry
      exact SeqAt.in_tuple_reads r2 r1 (SeqAt.canLay_of_shaped h2) (SeqAt.canLay_of_shaped h1) (room_in_shaped h1 hu) ⟨.bl _, H, I, rfl, q⟩
  | nin =>
    unfold cmpD at hc
    split at hc <;> first | contradiction | skip
    · rename_i d0 ds _
      obtain ⟨c, h0, rfl⟩ := map_not hc
      obtain ⟨h1, h2, rfl⟩ := inD_some h0
      exact op_notInD hu pins s σ H x y v u Q I rx ry ⟨_, ds, Dv.dp _ x hd, Dv.dp _ y he, h1, h2, q⟩
    · rename_i d0 ds _
      obtain ⟨c, h0, rfl⟩ := map_not hc
      obtain ⟨h1, h2, rfl⟩ := inD_some h0
      obtain ⟨as, r1⟩ := Dp.reads I _ x v (Dv.dp _ x hd) rx
      obtain ⟨bs, r2⟩ := Dp.reads I (.tuple ds) y u (Dv.dp _ y he) ry
      exact SeqAt.notIn_tuple_reads r2 r1 (SeqAt.canLay_of_shaped h2) (SeqAt.canLay_of_shaped h1) (room_in_shaped h1 hu) ⟨.bl _, H, I, rfl, q⟩

/-! ### tests -/
/-- a test as a value -/
abbrev asV (d : En → Bx → Option (Bool × Bx)) : En → Bx → Option (R × Bx) := fun env st => match d env st with
  | some (b, st1) => some (.dat (.bool b), st1)
  | none => none
theorem cmp_den {o : Cop} {a b : Ex} {env : En} {st : Bx} {r : Bool × Bx} (h : (Ts.cmp o a b).den cf env st = some r) :
    ∃ x st1 y p q, a.den cf env st = some (x, st1) ∧ b.den cf env st1 = some (y, r.2) ∧ x.view = some p ∧ y.view = some q ∧ cmpD o p q = some r.1 := by
  simp only [Ts.den] at h
  split at h
  · rename_i x st1 e1
    split at h
    · rename_i y st2 e2
      split at h
      · rename_i d d2 v1 v2
        cases hr : cmpD o d d2 with
        | none => rw [hr] at h; cases h
        | some c =>
          rw [hr] at h
          cases h
          exact ⟨x, st1, y, d, d2, e1, e2, v1, v2, hr⟩
      · cases h
    · cases h
  · cases h
theorem tTest_of {K : PySem.W.Frag} {t : TE} {d : En → Bx → Option (Bool × Bx)} (mono : ∀ σ H Q, tE K (asV d) σ H Q → t σ H Q) : ∀ σ H Q, tT K d σ H Q → tTest t σ H Q := fun σ H Q ⟨G, ph, env, st, b, st', E, e, k⟩ => by
  refine mono σ H _ ⟨G, ph, env, st, .dat (.bool b), st', E, by simp only [asV, e], fun v H' G' ph' w s r f => ?_⟩
  cases (show Dv K G' v (.bool b) from r)
  exact ⟨b, rfl, k H' G' ph' w s⟩
theorem tB_of {K : PySem.W.Frag} {t : TE} {d : En → Bx → Option (Bool × Bx)} (mono : ∀ σ H Q, tE K (asV d) σ H Q → t σ H Q) : ∀ σ H Q, tT K d σ H Q → tB t σ H Q := fun σ H Q h => tTest_of mono σ H Q h
theorem asV_some {d : En → Bx → Option (Bool × Bx)} {env : En} {st : Bx} {r : R × Bx} (h : asV d env st = some r) : ∃ b, d env st = some (b, r.2) ∧ r.1 = .dat (.bool b) := by
  simp only [asV] at h
  split at h
  · rename_i b st1 e
    cases h
    exact ⟨b, e, rfl⟩
  · cases h
theorem cmpT {o : Cop} {ea eb : Ex} : ∀ σ H Q, tE X.K (asV ((Ts.cmp o ea eb).den cf)) σ H Q → tOp (rCmp X.K o) (tE X.K (ea.den cf)) (tE X.K (eb.den cf)) σ H Q := fun σ H Q ⟨G, ph, env, st, r, st', E, e, k⟩ => by
  obtain ⟨b, e', hb⟩ := asV_some e
  obtain ⟨x, st1, y, p, q, e1, e2, v1, v2, hr⟩ := cmp_den e'
  refine two E e1 e2 fun v u H2 G2 ph2 w2 s2 r1 r2 => ?_
  refine ⟨p, q, b, Rs.view w2 r1 v1, Rs.view w2 r2 v2, hr, ?_⟩
  have k' := k (.bl b) H2 G2 ph2 w2 s2
  dsimp only at hb
  subst hb
  exact k' (.bl b) trivial
theorem ok_cmpT {a b : Expr} {ea eb : Ex} {pos : Pos} (o : Cop) (hu : X.A.units + 65 < cLine) (ha : PE X a (tE X.K (ea.den cf))) (hb : PE X b (tE X.K (eb.den cf))) (hm : behindInMarks (cOf o) b = false) :
    PT X (.Compare a [cOf o] [b] pos) (tT X.K ((Ts.cmp o ea eb).den cf)) := ptW (pt_cmpR (op_cmp o hu) ha hb hm) (tTest_of cmpT)
theorem ok_cmpV {a b : Expr} {ea eb : Ex} {pos : Pos} (o : Cop) (hu : X.A.units + 65 < cLine) (ha : PE X a (tE X.K (ea.den cf))) (hb : PE X b (tE X.K (eb.den cf))) (hm : behindInMarks (cOf o) b = false) :
    PE X (.Compare a [cOf o] [b] pos) (tE X.K (asV ((Ts.cmp o ea eb).den cf))) := peW (pe_cmpR (op_cmp o hu) ha hb hm) cmpT
/-! is None, is True .. -/
theorem rs_non {K : PySem.W.Frag} {G H : Hp} {ph : List Addr} {st : Bx} (w : Wd K G H ph st) {r : R} {v : V} (h : Rs K G H ph r v) : decide (v = .non) = (match r with | .dat .none => true | _ => false) := by
  cases r with
  | dat d => cases (show Dv K G v d from h) <;> rfl
  | ref n => obtain ⟨a, rfl, _⟩ := h; rfl
  | own n => obtain ⟨a, _, rfl, _⟩ := h; rfl
  | brw n => obtain ⟨a, _, rfl, _⟩ := h; rfl
  | scr n => obtain ⟨a, rfl, _⟩ := h; rfl
theorem isnT {ea : Ex} {neg : Bool} {r : R2} (hr : ∀ x H Q, Q (.bl (if neg then !decide (x = .non) else decide (x = .non))) H → r x .non H Q) : ∀ σ H Q, tE X.K (asV ((Ts.isn ea neg).den cf)) σ H Q → tOp r (tE X.K (ea.den cf)) (tC .non) σ H Q := fun σ H Q ⟨G, ph, env, st, r0, st', E, e, k⟩ => by
  obtain ⟨b, e', hb⟩ := asV_some e
  dsimp only at hb
  simp only [Ts.den] at e'
  split at e'
  · rename_i x st1 e1
    refine ⟨G, ph, env, st, x, st1, E, e1, fun v H1 G1 ph1 w1 s1 r1 f1 => hr v H1 Q ?_⟩
    have hq := rs_non w1 r1
    split at e'
    · cases e'
      rw [hq]
      subst hb
      have k' := k (.bl (!neg)) H1 G1 ph1 w1 s1 (.bl _) trivial
      cases neg <;> exact k'
    · rename_i x2 hx
      cases e'
      have hq' : decide (v = V.non) = false := by
        rw [hq]
        cases x with
        | dat d => cases d with
          | none => exact absurd rfl hx
          | _ => rfl
        | _ => rfl
      rw [hq']
      subst hb
      have k' := k (.bl neg) H1 G1 ph1 w1 s1 (.bl _) trivial
      cases neg <;> exact k'
  · cases e'
theorem ok_isnT {a : Expr} {ea : Ex} {j p pos} (neg : Bool) (ha : PE X a (tE X.K (ea.den cf))) : PT X (.Compare a [if neg then .IsNot else .Is] [.Constant .none j p] pos) (tT X.K ((Ts.isn ea neg).den cf)) := by
  cases neg with
  | true => exact ptW (pt_cmpR op_notN ha pe_non rfl) (tTest_of (isnT (neg := true) fun x H Q q => ⟨rfl, q⟩))
  | false => exact ptW (pt_cmpR op_isN ha pe_non rfl) (tTest_of (isnT (neg := false) fun x H Q q => ⟨rfl, q⟩))
theorem ok_isnV {a : Expr} {ea : Ex} {j p pos} (neg : Bool) (ha : PE X a (tE X.K (ea.den cf))) : PE X (.Compare a [if neg then .IsNot else .Is] [.Constant .none j p] pos) (tE X.K (asV ((Ts.isn ea neg).den cf))) := by
  cases neg with
  | true => exact peW (pe_cmpR op_notN ha pe_non rfl) (isnT (neg := true) fun x H Q q => ⟨rfl, q⟩)
  | false => exact peW (pe_cmpR op_isN ha pe_non rfl) (isnT (neg := false) fun x H Q q => ⟨rfl, q⟩)
theorem isbT {ea : Ex} {neg k0 : Bool} {r : R2} (hr : ∀ (c : Bool) H Q, Q (.bl (if neg then !decide (c = k0) else decide (c = k0))) H → r (.bl c) (.bl k0) H Q) : ∀ σ H Q, tE X.K (asV ((Ts.isb ea neg k0).den cf)) σ H Q → tOp r (tE X.K (ea.den cf)) (tC (.bl k0)) σ H Q := fun σ H Q ⟨G, ph, env, st, r0, st', E, e, k⟩ => by
  obtain ⟨b, e', hb⟩ := asV_some e
  dsimp only at hb
  simp only [Ts.den] at e'
  split at e'
  · rename_i c st1 e1
    refine ⟨G, ph, env, st, _, st1, E, e1, fun v H1 G1 ph1 w1 s1 r1 f1 => ?_⟩
    cases (show Dv X.K G1 v (.bool c) from r1)
    refine hr c H1 Q ?_
    cases e'
    subst hb
    exact k (.bl _) H1 G1 ph1 w1 s1 (.bl _) trivial
  · cases e'
theorem ok_isbT {a : Expr} {ea : Ex} {j p pos} (neg k0 : Bool) (ha : PE X a (tE X.K (ea.den cf))) : PT X (.Compare a [if neg then .IsNot else .Is] [.Constant (.bool k0) j p] pos) (tT X.K ((Ts.isb ea neg k0).den cf)) := by
  cases neg with
  | true => exact ptW (pt_cmpR op_notBl ha pe_bl rfl) (tTest_of (isbT (neg := true) fun c H Q q => ⟨c, k0, rfl, rfl, q⟩))
  | false => exact ptW (pt_cmpR op_isBl ha pe_bl rfl) (tTest_of (isbT (neg := false) fun c H Q q => ⟨c, k0, rfl, rfl, q⟩))
theorem ok_isbV {a : Expr} {ea : Ex} {j p pos} (neg k0 : Bool) (ha : PE X a (tE X.K (ea.den cf))) : PE X (.Compare a [if neg then .IsNot else .Is] [.Constant (.bool k0) j p] pos) (tE X.K (asV ((Ts.isb ea neg k0).den cf))) := by
  cases neg with
  | true => exact peW (pe_cmpR op_notBl ha pe_bl rfl) (isbT (neg := true) fun c H Q q => ⟨c, k0, rfl, rfl, q⟩)
  | false => exact peW (pe_cmpR op_isBl ha pe_bl rfl) (isbT (neg := false) fun c H Q q => ⟨c, k0, rfl, rfl, q⟩)
/-! a value that is a bool -/
theorem ok_valT {a : Expr} {ea : Ex} (ha : PE X a (tE X.K (ea.den cf))) (he : ∀ whole, isTrue a X.env whole = (do let v ← whole; standAt a.pos; holding [v] (truthy v))) : PT X a (tT X.K ((Ts.val ea).den cf)) :=
  ptW (pt_val ha he) fun σ H Q ⟨G, ph, env, st, b, st', E, e, k⟩ => by
    simp only [Ts.den] at e
    split at e
    · rename_i c st1 e1
      cases e
      refine ⟨G, ph, env, st, _, _, E, e1, fun v H1 G1 ph1 w1 s1 r1 f1 => ?_⟩
      cases (show Dv X.K G1 v (.bool b) from r1)
      exact ⟨b, rfl, k H1 G1 ph1 w1 s1⟩
    · cases e
theorem ok_valV {a : Expr} {ea : Ex} (ha : PE X a (tE X.K (ea.den cf))) : PE X a (tE X.K (asV ((Ts.val ea).den cf))) :=
  peW ha fun σ H Q ⟨G, ph, env, st, r, st', E, e, k⟩ => by
    obtain ⟨b, e', hb⟩ := asV_some e
    dsimp only at hb
    simp only [Ts.den] at e'
    split at e'
    · rename_i c st1 e1
      cases e'
      subst hb
      exact ⟨G, ph, env, st, _, _, E, e1, k⟩
    · cases e'
/-! not, and, or -/
theorem ok_notT {a : Expr} {t : Ts} {pos : Pos} (ha : PT X a (tT X.K (t.den cf))) : PT X (.UnaryOp .Not a pos) (tT X.K ((Ts.not t).den cf)) :=
  ptW (pt_not ha) fun σ H Q ⟨G, ph, env, st, b, st', E, e, k⟩ => by
    simp only [Ts.den] at e
    split at e
    · rename_i c st1 e1
      cases e
      exact ⟨G, ph, env, st, c, _, E, e1, fun H1 G1 ph1 w1 s1 => k H1 G1 ph1 w1 s1⟩
    · cases e
theorem ok_notV {a : Expr} {t : Ts} {pos : Pos} (ha : PE X a (tE X.K (asV (t.den cf)))) : PE X (.UnaryOp .Not a pos) (tE X.K (asV ((Ts.not t).den cf))) :=
  peW (pe_not ha) fun σ H Q ⟨G, ph, env, st, r, st', E, e, k⟩ => by
    obtain ⟨b, e', hb⟩ := asV_some e
    dsimp only at hb
    simp only [Ts.den] at e'
    split at e'
    · rename_i c st1 e1
      cases e'
      subst hb
      refine ⟨G, ph, env, st, .dat (.bool c), st', E, by simp only [asV, e1], fun v H1 G1 ph1 w1 s1 r1 f1 => ?_⟩
      cases (show Dv X.K G1 v (.bool c) from r1)
      exact ⟨c, rfl, k (.bl _) H1 G1 ph1 w1 s1 (.bl _) trivial⟩
    · cases e'
theorem ok_and1W {a : Expr} {t : Ts} {pos : Pos} (ha : PT X a (tT X.K (t.den cf))) : PW X (.BoolOp .And [a] pos) (tT X.K ((Tss.one t).all cf)) :=
  pwW (pw_and1 ha) fun σ H Q h => by simpa only [Tss.all] using h
theorem ok_or1W {a : Expr} {t : Ts} {pos : Pos} (ha : PT X a (tT X.K (t.den cf))) : PW X (.BoolOp .Or [a] pos) (tT X.K ((Tss.one t).any cf)) :=
  pwW (pw_or1 ha) fun σ H Q h => by simpa only [Tss.any] using h
theorem ok_andW {a b : Expr} {rest : List Expr} {t : Ts} {r : Tss} {pos : Pos} (ha : PT X a (tT X.K (t.den cf))) (hb : PW X (.BoolOp .And (b :: rest) pos) (tT X.K (r.all cf))) : PW X (.BoolOp .And (a :: b :: rest) pos) (tT X.K ((Tss.cons t r).all cf)) :=
  pwW (pw_and ha hb) fun σ H Q ⟨G, ph, env, st, b, st', E, e, k⟩ => by
    simp only [Tss.all] at e
    split at e
    · rename_i st1 e1
      exact ⟨G, ph, env, st, true, st1, E, e1, fun H1 G1 ph1 w1 s1 => iteP (⟨G1, ph1, env, st1, b, st', E.step s1 w1, e, fun H2 G2 ph2 w2 s2 => k H2 G2 ph2 w2 (s1.trans s2)⟩)⟩
    · rename_i st1 e1
      cases e
      exact ⟨G, ph, env, st, false, _, E, e1, fun H1 G1 ph1 w1 s1 => iteN (k H1 G1 ph1 w1 s1)⟩
    · cases e
theorem ok_orW {a b : Expr} {rest : List Expr} {t : Ts} {r : Tss} {pos : Pos} (ha : PT X a (tT X.K (t.den cf))) (hb : PW X (.BoolOp .Or (b :: rest) pos) (tT X.K (r.any cf))) : PW X (.BoolOp .Or (a :: b :: rest) pos) (tT X.K ((Tss.cons t r).any cf)) :=
  pwW (pw_or ha hb) fun σ H Q ⟨G, ph, env, st, b, st', E, e, k⟩ => by
    simp only [Tss.any] at e
    split at e
    · rename_i st1 e1
      cases e
      exact ⟨G, ph, env, st, true, _, E, e1, fun H1 G1 ph1 w1 s1 => iteP (k H1 G1 ph1 w1 s1)⟩
    · rename_i st1 e1
      exact ⟨G, ph, env, st, false, st1, E, e1, fun H1 G1 ph1 w1 s1 => iteN (⟨G1, ph1, env, st1, b, st', E.step s1 w1, e, fun H2 G2 ph2 w2 s2 => k H2 G2 ph2 w2 (s1.trans s2)⟩)⟩
    · cases e
theorem ok_and1V {a : Expr} {t : Ts} {pos : Pos} (ha : PE X a (tE X.K (asV (t.den cf)))) : PE X (.BoolOp .And [a] pos) (tE X.K (asV ((Tss.one t).all cf))) :=
  peW (pe_one ha) fun σ H Q h => by
    have e : asV ((Tss.one t).all cf) = asV (t.den cf) := by
      funext env st
      simp only [asV, Tss.all]
    rw [← e]; exact h
theorem ok_or1V {a : Expr} {t : Ts} {pos : Pos} (ha : PE X a (tE X.K (asV (t.den cf)))) : PE X (.BoolOp .Or [a] pos) (tE X.K (asV ((Tss.one t).any cf))) :=
  peW (pe_one ha) fun σ H Q h => by
    have e : asV ((Tss.one t).any cf) = asV (t.den cf) := by
      funext env st
      simp only [asV, Tss.any]
    rw [← e]; exact h
theorem ok_andV {a b : Expr} {rest : List Expr} {t : Ts} {r : Tss} {pos : Pos} (ha : PE X a (tE X.K (asV (t.den cf)))) (hb : PE X (.BoolOp .And (b :: rest) pos) (tE X.K (asV (r.all cf)))) : PE X (.BoolOp .And (a :: b :: rest) pos) (tE X.K (asV ((Tss.cons t r).all cf))) :=
  peW (pe_and ha hb) fun σ H Q ⟨G, ph, env, st, r0, st', E, e, k⟩ => by
    obtain ⟨b0, e', hb0⟩ := asV_some e
    dsimp only at hb0
    subst hb0
    simp only [Tss.all] at e'
    split at e'
    · rename_i st1 e1
      refine ⟨G, ph, env, st, .dat (.bool true), st1, E, by simp only [asV, e1], fun v H1 G1 ph1 w1 s1 r1 f1 => ?_⟩
      cases (show Dv X.K G1 v (.bool true) from r1)
      refine ⟨true, rfl, ?_⟩
      exact iteP (⟨G1, ph1, env, st1, .dat (.bool b0), st', E.step s1 w1, by simp only [asV, e'], fun u H2 G2 ph2 w2 s2 r2 f2 => k u H2 G2 ph2 w2 (s1.trans s2) r2 trivial⟩)
    · rename_i st1 e1
      cases e'
      refine ⟨G, ph, env, st, .dat (.bool false), st', E, by simp only [asV, e1], fun v H1 G1 ph1 w1 s1 r1 f1 => ?_⟩
      cases (show Dv X.K G1 v (.bool false) from r1)
      refine ⟨false, rfl, ?_⟩
      exact iteN (k _ H1 G1 ph1 w1 s1 (.bl _) trivial)
    · cases e'
theorem ok_orV {a b : Expr} {rest : List Expr} {t : Ts} {r : Tss} {pos : Pos} (ha : PE X a (tE X.K (asV (t.den cf)))) (hb : PE X (.BoolOp .Or (b :: rest) pos) (tE X.K (asV (r.any cf)))) : PE X (.BoolOp .Or (a :: b :: rest) pos) (tE X.K (asV ((Tss.cons t r).any cf))) :=
  peW (pe_or ha hb) fun σ H Q ⟨G, ph, env, st, r0, st', E, e, k⟩ => by
    obtain ⟨b0, e', hb0⟩ := asV_some e
    dsimp only at hb0
    subst hb0
    simp only [Tss.any] at e'
    split at e'
    · rename_i st1 e1
      cases e'
      refine ⟨G, ph, env, st, .dat (.bool true), st', E, by simp only [asV, e1], fun v H1 G1 ph1 w1 s1 r1 f1 => ?_⟩
      cases (show Dv X.K G1 v (.bool true) from r1)
      refine ⟨true, rfl, ?_⟩
      exact iteP (k _ H1 G1 ph1 w1 s1 (.bl _) trivial)
    · rename_i st1 e1
      refine ⟨G, ph, env, st, .dat (.bool false), st1, E, by simp only [asV, e1], fun v H1 G1 ph1 w1 s1 r1 f1 => ?_⟩
      cases (show Dv X.K G1 v (.bool false) from r1)
      refine ⟨false, rfl, ?_⟩
      exact iteN (⟨G1, ph1, env, st1, .dat (.bool b0), st', E.step s1 w1, by simp only [asV, e'], fun u H2 G2 ph2 w2 s2 r2 f2 => k u H2 G2 ph2 w2 (s1.trans s2) r2 trivial⟩)
    · cases e'
end
end Sy

namespace Sy
open PySem PySem.Spec PyProof.Rows L2
section
variable {X : Cx} {cf : Cf}
/-! ### chains -/
def ChnOk (X : Cx) (cf : Cf) : Chn → List CmpOp → List Expr → Prop
  | .last o e, [op], [b] => op = cOf o ∧ PE X b (tE X.K (e.den cf))
  | .link o e r, op :: ops, b :: bs => op = cOf o ∧ PE X b (tE X.K (e.den cf)) ∧ ChnOk X cf r ops bs
  | _, _, _ => False
theorem ChnOk.cons : ∀ {c : Chn} {ops : List CmpOp} {bs : List Expr}, ChnOk X cf c ops bs → ∃ op r b rs, ops = op :: r ∧ bs = b :: rs
  | .last o e, [op], [b], _ => ⟨_, _, _, _, rfl, rfl⟩
  | .link o e r, op :: ops, b :: bs, _ => ⟨_, _, _, _, rfl, rfl⟩
theorem chainV (hu : X.A.units + 65 < cLine) {pos : Pos} : ∀ (c : Chn) (ops : List CmpOp) (bs : List Expr), ChnOk X cf c ops bs → ∀ (pins : List (Addr × Obj)) (s : Shared) (σ : L2.St) (H : Hp) (Q : VK) (x : R) (v : V) (u : Value) (G : Hp) (ph : List Addr) (env : En) (st : Bx) (b : Bool) (st' : Bx),
    Inv X pins σ H s → Ev X.K G H ph env st σ → RelV v u → Rs X.K G H ph x v → c.den cf x env st = some (b, st') → (∀ H' G' ph', Wd X.K G' H' ph' st' → Stp G H ph G' H' ph' → Q (.bl b) H') →
    wpAny (model X.prog X.w) X.A (compareChain pos u ops (evalEach bs X.env)) (EP X pins σ Q) X.xe s
  | .last o e, [op], [eb], ⟨ho, he⟩, pins, s, σ, H, Q, x, v, u, G, ph, env, st, b, st', I, E, rv, rx, hd, k => by
    subst ho
    simp only [Chn.den] at hd
    split at hd
    · rename_i y st1 e1
      split at hd
      · rename_i d d2 v1 v2
        cases hr : cmpD o d d2 with
        | none => rw [hr] at hd; cases hd
        | some c0 =>
          rw [hr] at hd
          cases hd
          refine chain_last (thn (he.run pins s σ H _ I ⟨G, ph, env, st, y, _, E, e1, fun w H1 G1 ph1 w1 s1 r1 f1 => ?q1⟩) fun u2 s2 ⟨w, H2, I2, r2, q⟩ => op_cmp o hu pins s2 σ H2 v w u u2 _ I2 rv r2 q)
          exact ⟨d, d2, b, Rs.view w1 (rx.step s1) v1, Rs.view w1 r1 v2, hr, k H1 G1 ph1 w1 s1⟩
      · cases hd
    · cases hd
  | .link o e r, op :: ops, eb :: bs, ⟨ho, he, hrest⟩, pins, s, σ, H, Q, x, v, u, G, ph, env, st, b, st', I, E, rv, rx, hd, k => by
    subst ho
    obtain ⟨op2, ops2, b2, bs2, rfl, rfl⟩ := hrest.cons
    simp only [Chn.den] at hd
    split at hd
    · rename_i y st1 e1
      split at hd
      · rename_i d d2 v1 v2
        refine chain_link (thn (he.run pins s σ H (fun w H1 => ∃ c0, cmpD o d d2 = some c0 ∧ rCmp X.K o v w H1 (fun z H2 => z = .bl c0 ∧ H2 = H1) ∧ ∃ G1 ph1, Ev X.K G1 H1 ph1 env st1 σ ∧ Stp G H ph G1 H1 ph1 ∧ Rs X.K G1 H1 ph1 y w) I ⟨G, ph, env, st, y, _, E, e1, fun w H1 G1 ph1 w1 s1 r1 f1 => ?q2⟩) fun u2 s2 ⟨w, H2, I2, r2, c0, hc, q, G2, ph2, E2, S2, R2⟩ => ?_)
        case q2 =>
          cases hr : cmpD o d d2 with
          | none => rw [hr] at hd; cases hd
          | some c0 => exact ⟨c0, rfl, ⟨d, d2, c0, Rs.view w1 (rx.step s1) v1, Rs.view w1 r1 v2, hr, rfl, rfl⟩, G1, ph1, E.step s1 w1, s1, r1⟩
        · rw [hc] at hd
          refine thn (op_cmp o hu pins s2 σ H2 v w u u2 _ I2 rv r2 q) fun cv s3 ⟨z, H3, I3, r3, ez, eH⟩ => ?_
          subst ez eH
          cases r3
          refine wpAny_truthy_bool ?_
          cases c0 with
          | true =>
            refine iteP (chainV hu r (op2 :: ops2) (b2 :: bs2) hrest pins s3 σ H3 Q y w u2 G2 ph2 env st1 b st' I3 E2 r2 R2 hd fun H' G' ph' w' s' => k H' G' ph' w' (S2.trans s'))
          | false =>
            cases hd
            exact iteN ⟨.bl false, H3, I3, rfl, k H3 G2 ph2 E2.w S2⟩
      · cases hd
    · cases hd
theorem chainT (hu : X.A.units + 65 < cLine) {pos : Pos} : ∀ (c : Chn) (ops : List CmpOp) (bs : List Expr), ChnOk X cf c ops bs → ∀ (pins : List (Addr × Obj)) (s : Shared) (σ : L2.St) (H : Hp) (Q : Bool → Hp → Prop) (x : R) (v : V) (u : Value) (G : Hp) (ph : List Addr) (env : En) (st : Bx) (b : Bool) (st' : Bx),
    Inv X pins σ H s → Ev X.K G H ph env st σ → RelV v u → Rs X.K G H ph x v → c.den cf x env st = some (b, st') → (∀ H' G' ph', Wd X.K G' H' ph' st' → Stp G H ph G' H' ph' → Q b H') →
    wpAny (model X.prog X.w) X.A (testChain pos u ops (evalEach bs X.env)) (TP X pins σ Q) X.xe s
  | .last o e, [op], [eb], ⟨ho, he⟩, pins, s, σ, H, Q, x, v, u, G, ph, env, st, b, st', I, E, rv, rx, hd, k => by
    subst ho
    simp only [Chn.den] at hd
    split at hd
    · rename_i y st1 e1
      split at hd
      · rename_i d d2 v1 v2
        cases hr : cmpD o d d2 with
        | none => rw [hr] at hd; cases hd
        | some c0 =>
          rw [hr] at hd
          cases hd
          refine test_last (thn (he.run pins s σ H (fun w H1 => rCmp X.K o v w H1 (fun z H2 => z = .bl b ∧ Q b H2)) I ⟨G, ph, env, st, y, _, E, e1, fun w H1 G1 ph1 w1 s1 r1 f1 => ?q3⟩) fun u2 s2 ⟨w, H2, I2, r2, q⟩ => thn (op_cmp o hu pins s2 σ H2 v w u u2 _ I2 rv r2 q) fun cv s3 ⟨z, H3, I3, r3, ez, q3⟩ => ?_)
          · exact ⟨d, d2, b, Rs.view w1 (rx.step s1) v1, Rs.view w1 r1 v2, hr, rfl, k H1 G1 ph1 w1 s1⟩
          · subst ez
            cases r3
            exact wpAny_truthy_bool ⟨H3, I3, q3⟩
      · cases hd
    · cases hd
  | .link o e r, op :: ops, eb :: bs, ⟨ho, he, hrest⟩, pins, s, σ, H, Q, x, v, u, G, ph, env, st, b, st', I, E, rv, rx, hd, k => by
    subst ho
    obtain ⟨op2, ops2, b2, bs2, rfl, rfl⟩ := hrest.cons
    simp only [Chn.den] at hd
    split at hd
    · rename_i y st1 e1
      split at hd
      · rename_i d d2 v1 v2
        refine test_link (thn (he.run pins s σ H (fun w H1 => ∃ c0, cmpD o d d2 = some c0 ∧ rCmp X.K o v w H1 (fun z H2 => z = .bl c0 ∧ H2 = H1) ∧ ∃ G1 ph1, Ev X.K G1 H1 ph1 env st1 σ ∧ Stp G H ph G1 H1 ph1 ∧ Rs X.K G1 H1 ph1 y w) I ⟨G, ph, env, st, y, _, E, e1, fun w H1 G1 ph1 w1 s1 r1 f1 => ?q4⟩) fun u2 s2 ⟨w, H2, I2, r2, c0, hc, q, G2, ph2, E2, S2, R2⟩ => ?_)
        case q4 =>
          cases hr : cmpD o d d2 with
          | none => rw [hr] at hd; cases hd
          | some c0 => exact ⟨c0, rfl, ⟨d, d2, c0, Rs.view w1 (rx.step s1) v1, Rs.view w1 r1 v2, hr, rfl, rfl⟩, G1, ph1, E.step s1 w1, s1, r1⟩
        · rw [hc] at hd
          refine thn (op_cmp o hu pins s2 σ H2 v w u u2 _ I2 rv r2 q) fun cv s3 ⟨z, H3, I3, r3, ez, eH⟩ => ?_
          subst ez eH
          cases r3
          refine wpAny_truthy_bool ?_
          cases c0 with
          | true =>
            refine iteP (chainT hu r (op2 :: ops2) (b2 :: bs2) hrest pins s3 σ H3 Q y w u2 G2 ph2 env st1 b st' I3 E2 r2 R2 hd fun H' G' ph' w' s' => k H' G' ph' w' (S2.trans s'))
          | false =>
            cases hd
            exact iteN ⟨H3, I3, k H3 G2 ph2 E2.w S2⟩
      · cases hd
    · cases hd
theorem ok_chnV {a b1 b2 : Expr} {o1 o2 : CmpOp} {ops : List CmpOp} {bs : List Expr} {ea : Ex} {c : Chn} {pos : Pos} (hu : X.A.units + 65 < cLine) (ha : PE X a (tE X.K (ea.den cf))) (hc : ChnOk X cf c (o1 :: o2 :: ops) (b1 :: b2 :: bs)) (hm : lastMarks (o1 :: o2 :: ops) (b1 :: b2 :: bs) = false) :
    PE X (.Compare a (o1 :: o2 :: ops) (b1 :: b2 :: bs) pos) (tE X.K (asV ((Ts.chn ea c).den cf))) := ⟨fun pins s σ H Q I ⟨G, ph, env, st, r, st', E, e, k⟩ => by
  obtain ⟨b, e', hb⟩ := asV_some e
  dsimp only at hb
  subst hb
  simp only [Ts.den] at e'
  split at e'
  · rename_i x st1 e1
    refine Compare_chain (thn (ha.run pins s σ H (fun v H1 => ∃ G1 ph1, Ev X.K G1 H1 ph1 env st1 σ ∧ Stp G H ph G1 H1 ph1 ∧ Rs X.K G1 H1 ph1 x v) I ⟨G, ph, env, st, x, st1, E, e1, fun v H1 G1 ph1 w1 s1 r1 f1 => ⟨G1, ph1, E.step s1 w1, s1, r1⟩⟩) fun u s1 ⟨v, H1, I1, r1, G1, ph1, E1, S1, R1⟩ => ?_) hm
    exact chainV hu c _ (b1 :: b2 :: bs) hc pins s1 σ H1 Q x v u G1 ph1 env st1 b st' I1 E1 r1 R1 e' fun H' G' ph' w' s' => k (.bl b) H' G' ph' w' (S1.trans s') (.bl b) trivial
  · cases e'⟩
theorem ok_chnT {a b1 b2 : Expr} {o1 o2 : CmpOp} {ops : List CmpOp} {bs : List Expr} {ea : Ex} {c : Chn} {pos : Pos} (hu : X.A.units + 65 < cLine) (ha : PE X a (tE X.K (ea.den cf))) (hc : ChnOk X cf c (o1 :: o2 :: ops) (b1 :: b2 :: bs)) (hm : lastMarks (o1 :: o2 :: ops) (b1 :: b2 :: bs) = false) :
    PT X (.Compare a (o1 :: o2 :: ops) (b1 :: b2 :: bs) pos) (tT X.K ((Ts.chn ea c).den cf)) := ⟨fun pins s σ H Q I ⟨G, ph, env, st, b, st', E, e', k⟩ => by
  simp only [Ts.den] at e'
  split at e'
  · rename_i x st1 e1
    refine isTrue_chain (thn (ha.run pins s σ H (fun v H1 => ∃ G1 ph1, Ev X.K G1 H1 ph1 env st1 σ ∧ Stp G H ph G1 H1 ph1 ∧ Rs X.K G1 H1 ph1 x v) I ⟨G, ph, env, st, x, st1, E, e1, fun v H1 G1 ph1 w1 s1 r1 f1 => ⟨G1, ph1, E.step s1 w1, s1, r1⟩⟩) fun u s1 ⟨v, H1, I1, r1, G1, ph1, E1, S1, R1⟩ => ?_) hm
    exact chainT hu c _ (b1 :: b2 :: bs) hc pins s1 σ H1 Q x v u G1 ph1 env st1 b st' I1 E1 r1 R1 e' fun H' G' ph' w' s' => k H' G' ph' w' (S1.trans s')
  · cases e'⟩

/-! ### small ones -/
theorem ok_neg {a : Expr} {ea : Ex} {pos : Pos} (ha : PE X a (tE X.K (ea.den cf))) : PE X (.UnaryOp .USub a pos) (tE X.K ((Ex.neg ea).den cf)) :=
  peW (pe_un un_neg ha) fun σ H Q ⟨G, ph, env, st, r, st', E, e, k⟩ => by
    simp only [Ex.den] at e
    split at e
    · rename_i i st1 e1
      cases e
      refine ⟨G, ph, env, st, _, _, E, e1, fun v H1 G1 ph1 w1 s1 r1 f1 => ?_⟩
      cases (show Dv X.K G1 v (.int i) from r1)
      exact ⟨i, rfl, k _ H1 G1 ph1 w1 s1 (.int _) trivial⟩
    · cases e
theorem ok_tst {a : Expr} {t : Ts} (ha : PE X a (tE X.K (asV (t.den cf)))) : PE X a (tE X.K ((Ex.tst t).den cf)) := peW ha fun σ H Q h => by
  have e : asV (t.den cf) = (Ex.tst t).den cf := by
    funext env st
    simp only [asV, Ex.den] <;> (cases t.den cf env st <;> rfl)
  rw [e]; exact h
theorem ok_ite {c a b : Expr} {t : Ts} {ea eb : Ex} {pos : Pos} (hc : PT X c (tT X.K (t.den cf))) (ha : PE X a (tE X.K (ea.den cf))) (hb : PE X b (tE X.K (eb.den cf))) : PE X (.IfExp c a b pos) (tE X.K ((Ex.ite t ea eb).den cf)) :=
  peW (pe_ifExp hc ha hb) fun σ H Q ⟨G, ph, env, st, r, st', E, e, k⟩ => by
    simp only [Ex.den] at e
    split at e
    · rename_i st1 e1
      exact ⟨G, ph, env, st, true, st1, E, e1, fun H1 G1 ph1 w1 s1 => iteP ⟨G1, ph1, env, st1, r, st', E.step s1 w1, e, fun v H2 G2 ph2 w2 s2 r2 f2 => k v H2 G2 ph2 w2 (s1.trans s2) r2 (f2.before s1)⟩⟩
    · rename_i st1 e1
      exact ⟨G, ph, env, st, false, st1, E, e1, fun H1 G1 ph1 w1 s1 => iteN ⟨G1, ph1, env, st1, r, st', E.step s1 w1, e, fun v H2 G2 ph2 w2 s2 r2 f2 => k v H2 G2 ph2 w2 (s1.trans s2) r2 (f2.before s1)⟩⟩
    · cases e
/-! ### arguments -/
theorem ok_nil : PA X [] (tAs X.K (Exs.nil.den cf)) := paW pa_nil fun σ H Q ⟨G, ph, env, st, rs, st', E, e, k⟩ => by
  simp only [Exs.den] at e
  cases e
  exact k [] H G ph E.w Stp.refl trivial (by unfold FrL; trivial)
theorem ok_cons {a : Expr} {as : List Expr} {ea : Ex} {es : Exs} (ha : PE X a (tE X.K (ea.den cf))) (hr : PA X as (tAs X.K (es.den cf))) (hs : starEach (a :: as) X.env = (false, eval a X.env) :: starEach as X.env) :
    PA X (a :: as) (tAs X.K ((Exs.cons ea es).den cf)) := paW (pa_cons ha hr hs) fun σ H Q ⟨G, ph, env, st, rs, st', E, e, k⟩ => by
  simp only [Exs.den] at e
  split at e
  · rename_i x st1 e1
    split at e
    · rename_i xs st2 e2
      cases e
      refine ⟨G, ph, env, st, x, st1, E, e1, fun v H1 G1 ph1 w1 s1 r1 f1 => ?_⟩
      refine ⟨G1, ph1, env, st1, xs, _, E.step s1 w1, e2, fun vs H2 G2 ph2 w2 s2 r2 f2 => ?_⟩
      refine k (v :: vs) H2 G2 ph2 w2 (s1.trans s2) ⟨r1.step s2, r2⟩ ⟨f1, fun ds a e ev => ?_, f2.before s1⟩
      subst e
      obtain ⟨a', us, e', h1, _⟩ := (show ∃ a vs, v = .ref a ∧ H1 a = some (.lst vs) ∧ G1 a = none ∧ a ∉ ph1 ∧ DvAll X.K G1 vs ds from r1)
      rw [ev] at e'
      cases e'
      exact noAt_of h1 f2
    · cases e
  · cases e
/-! ### displays -/
theorem ok_tup {as : List Expr} {es : Exs} {k0 pos} (ha : PA X as (tAs X.K (es.den cf))) : PE X (.Tuple as k0 pos) (tE X.K ((Ex.tup es).den cf)) :=
  peW (pe_tup ha) fun σ H Q ⟨G, ph, env, st, r, st', E, e, k⟩ => by
    simp only [Ex.den] at e
    split at e
    · rename_i rs st1 e1
      split at e
      · rename_i ds hc
        split at e
        · rename_i hz
          cases e
          refine ⟨G, ph, env, st, rs, _, E, e1, fun vs H1 G1 ph1 w1 s1 r1 f1 => ?_⟩
          obtain ⟨G2, w2, s2, h2, up⟩ := caps_ok s1 w1 r1 f1 hc
          refine ⟨by rw [h2.len]; exact fits hz, fun p hp => ?_⟩
          obtain ⟨a1, a2, a3⟩ := new_tup w2 s2 h2 hp
          exact k _ _ _ _ a1 a2 a3 trivial
        · cases e
      · cases e
    · cases e
theorem ok_lst {as : List Expr} {es : Exs} {pos} (ha : PA X as (tAs X.K (es.den cf))) : PE X (.List as pos) (tE X.K ((Ex.lst es).den cf)) :=
  peW (pe_lst ha) fun σ H Q ⟨G, ph, env, st, r, st', E, e, k⟩ => by
    simp only [Ex.den] at e
    split at e
    · rename_i rs st1 e1
      split at e
      · rename_i ds hc
        split at e
        · rename_i hz
          cases e
          refine ⟨G, ph, env, st, rs, _, E, e1, fun vs H1 G1 ph1 w1 s1 r1 f1 => ?_⟩
          obtain ⟨G2, w2, s2, h2, up⟩ := caps_ok s1 w1 r1 f1 hc
          refine ⟨by rw [h2.len]; exact fits hz, fun p hp => ?_⟩
          obtain ⟨a1, a2, a3, a4⟩ := new_own w2 s2 h2 hp
          exact k _ _ _ _ a1 a2 a3 a4
        · cases e
      · cases e
    · cases e
theorem ok_box {as : List Expr} {es : Exs} {pos} (ha : PA X as (tAs X.K (es.den cf))) : PE X (.List as pos) (tE X.K ((Ex.box es).den cf)) :=
  peW (pe_lst ha) fun σ H Q ⟨G, ph, env, st, r, st', E, e, k⟩ => by
    simp only [Ex.den] at e
    split at e
    · rename_i rs st1 e1
      split at e
      · rename_i ds hc
        split at e
        · rename_i hz
          cases e
          refine ⟨G, ph, env, st, rs, _, E, e1, fun vs H1 G1 ph1 w1 s1 r1 f1 => ?_⟩
          obtain ⟨G2, w2, s2, h2, up⟩ := caps_ok s1 w1 r1 f1 hc
          refine ⟨by rw [h2.len]; exact fits hz, fun p hp => ?_⟩
          refine k _ _ _ _ (w2.newB hp h2) (s2.trans (Stp.newB hp)) ⟨p, rfl, ?_⟩ trivial
          rw [← w2.len, List.getElem?_append_right (Nat.le_refl _)]
          simp
        · cases e
      · cases e
    · cases e
/-! ### subscripts -/
theorem atI_some {α : Type} {xs : List α} {i : Int} {y : α} (h : atI xs i = some y) : ∃ j, ixN xs.length i = some j ∧ xs[j]? = some y := by
  unfold atI at h
  cases e : ixN xs.length i with
  | none => rw [e] at h; cases h
  | some j => rw [e] at h; exact ⟨j, rfl, h⟩
theorem atI_dv {K : PySem.W.Frag} {G : Hp} {vs : List V} {ds : List PyData} {i : Int} {d : PyData} (h : DvAll K G vs ds) (e : atI ds i = some d) : ∃ v, atI vs i = some v ∧ Dv K G v d := by
  obtain ⟨j, h1, h2⟩ := atI_some e
  obtain ⟨v, h3, h4⟩ := h.get h2
  refine ⟨v, ?_, h4⟩
  unfold atI
  rw [h.len, h1]
  exact h3
theorem ixR_ok {K : PySem.W.Frag} {G H : Hp} {ph : List Addr} {st : Bx} (w : Wd K G H ph st) {x : R} {v : V} {i : Int} {d : PyData} (h : Rs K G H ph x v) (e : ixR x i st = some d) : ∃ p vs z, v = .ref p ∧ (SqL K H p vs ∨ SqT K H p vs) ∧ atI vs i = some z ∧ Dv K G z d := by
  have view : ∀ {x : R}, Rs K G H ph x v → (x.view.bind fun d => ixD d i) = some d → ∃ p vs z, v = .ref p ∧ (SqL K H p vs ∨ SqT K H p vs) ∧ atI vs i = some z ∧ Dv K G z d := fun {x} h e => by
    cases ev : x.view with
    | none => rw [ev] at e; cases e
    | some dd =>
      rw [ev] at e
      cases dd with
      | list ds =>
        obtain ⟨p, vs, rfl, h1, h2⟩ := Rs.viewL w h ev
        obtain ⟨z, h3, h4⟩ := atI_dv h2 (show atI ds i = some d from e)
        exact ⟨p, vs, z, rfl, .inl (SqL.of h1), h3, h4⟩
      | tuple ds =>
        obtain ⟨p, vs, rfl, h1, h2⟩ := Rs.viewT w h ev
        obtain ⟨z, h3, h4⟩ := atI_dv h2 (show atI ds i = some d from e)
        exact ⟨p, vs, z, rfl, .inr h1, h3, h4⟩
      | _ => cases e
  cases x with
  | dat d0 => exact view h e
  | own d0 => exact view h e
  | brw d0 => exact view h e
  | ref n =>
    obtain ⟨a, rfl, ha⟩ := h
    simp only [ixR] at e
    cases es : st[n]? with
    | none => rw [es] at e; cases e
    | some ds =>
      rw [es] at e
      obtain ⟨_, vs, h1, h2⟩ := w.box n a ds ha es
      obtain ⟨z, h3, h4⟩ := atI_dv h2 (show atI ds i = some d from e)
      exact ⟨a, vs, z, rfl, .inl (SqL.of h1), h3, h4⟩
  | scr ns =>
    obtain ⟨a, rfl, ha⟩ := h
    simp only [ixR] at e
    cases en : atI ns i with
    | none => rw [en] at e; cases e
    | some m =>
      rw [en] at e
      cases e
      obtain ⟨j, h1, h2⟩ := atI_some en
      refine ⟨a, _, .int m, rfl, .inl (SqL.up w.sub ha), ?_, .int m⟩
      unfold atI
      rw [List.length_map, h1]
      show (ns.map V.int)[j]? = _
      rw [List.getElem?_map, h2]
      rfl
theorem ok_ix {a b : Expr} {ea eb : Ex} {pos : Pos} (ha : PE X a (tE X.K (ea.den cf))) (hb : PE X b (tE X.K (eb.den cf))) (hp : PlainIx b) : PE X (.Subscript a b pos) (tE X.K ((Ex.ix ea eb).den cf)) :=
  peW (pe_ix ix_seq ha hb hp) fun σ H Q ⟨G, ph, env, st, r, st', E, e, k⟩ => by
    simp only [Ex.den] at e
    split at e
    · rename_i x st1 e1
      split at e
      · rename_i i st2 e2
        cases hx : ixR x i st2 with
        | none => rw [hx] at e; cases e
        | some d =>
          rw [hx] at e
          cases e
          refine two E e1 e2 fun v u H2 G2 ph2 w2 s2 r1 r2 => ?_
          cases (show Dv X.K G2 u (.int i) from r2)
          obtain ⟨p, vs, z, rfl, hs, hz, hd⟩ := ixR_ok w2 r1 hx
          have q := k z H2 G2 ph2 w2 s2 hd trivial
          rcases hs with hs | hs
          · exact .inl ⟨p, vs, i, z, rfl, rfl, hs, hz, q⟩
          · exact .inr (.inl ⟨p, vs, i, z, rfl, rfl, hs, hz, q⟩)
      · cases e
    · cases e
def tO (K : PySem.W.Frag) (d : En → Bx → Option (Option Int × Bx)) : TO := fun σ H Q =>
  ∃ (G : Hp) (ph : List Addr) (env : En) (st : Bx) (o : Option Int) (st' : Bx), Ev K G H ph env st σ ∧ d env st = some (o, st') ∧ ∀ H' G' ph', Wd K G' H' ph' st' → Stp G H ph G' H' ph' → Q o H'
theorem poW {e : Option Expr} {t t' : TO} (h : PO X e t) (w : ∀ σ H Q, t' σ H Q → t σ H Q) : PO X e t' := ⟨fun pins s σ H Q I q => h.run pins s σ H Q I (w σ H Q q)⟩
theorem ok_no : PO X none (tO X.K (Exo.no.den cf)) := poW po_none fun σ H Q ⟨G, ph, env, st, o, st', E, e, k⟩ => by
  simp only [Exo.den] at e
  cases e
  exact k H G ph E.w Stp.refl
theorem ok_yes {a : Expr} {ea : Ex} (ha : PE X a (tE X.K (ea.den cf))) : PO X (some a) (tO X.K ((Exo.yes ea).den cf)) := poW (po_some ha) fun σ H Q ⟨G, ph, env, st, o, st', E, e, k⟩ => by
  simp only [Exo.den] at e
  split at e
  · rename_i i st1 e1
    cases e
    refine ⟨G, ph, env, st, _, _, E, e1, fun v H1 G1 ph1 w1 s1 r1 f1 => ?_⟩
    cases (show Dv X.K G1 v (.int i) from r1)
    exact ⟨i, rfl, k H1 G1 ph1 w1 s1⟩
  · cases e
theorem cutD_len {α : Type} (xs : List α) (lo hi : Option Int) : cutD xs lo hi = (xs.drop (HT.sIx xs.length 0 lo)).take (HT.sIx xs.length xs.length hi - HT.sIx xs.length 0 lo) := rfl
theorem cut_dv {K : PySem.W.Frag} {G : Hp} {vs : List V} {ds : List PyData} (h : DvAll K G vs ds) (lo hi : Option Int) : DvAll K G (cutV vs lo hi) (cutD ds lo hi) := by
  unfold cutV cutD
  rw [h.len]
  exact (h.drop _).take _
theorem ok_sl {a : Expr} {ea : Ex} {lo hi : Option Expr} {el eh : Exo} {p2 pos : Pos} (ha : PE X a (tE X.K (ea.den cf))) (hl : PO X lo (tO X.K (el.den cf))) (hh : PO X hi (tO X.K (eh.den cf))) : PE X (.Subscript a (.Slice lo hi none p2) pos) (tE X.K ((Ex.sl ea el eh).den cf)) :=
  peW (pe_slice (sl_list.or sl_tupA) ha hl hh) fun σ H Q ⟨G, ph, env, st, r, st', E, e, k⟩ => by
    simp only [Ex.den] at e
    split at e
    · rename_i x st1 e1
      split at e
      · rename_i l st2 e2
        split at e
        · rename_i h st3 e3
          split at e
          · rename_i d hv
            cases hs : slD d l h with
            | none => rw [hs] at e; cases e
            | some r0 =>
              rw [hs] at e
              cases e
              refine ⟨G, ph, env, st, x, st1, E, e1, fun v H1 G1 ph1 w1 s1 r1 f1 => ?_⟩
              refine ⟨G1, ph1, env, st1, l, st2, E.step s1 w1, e2, fun H2 G2 ph2 w2 s2 => ?_⟩
              refine ⟨G2, ph2, env, st2, h, _, E.step (s1.trans s2) w2, e3, fun H3 G3 ph3 w3 s3 => ?_⟩
              have S := (s1.trans s2).trans s3
              have R1 := r1.step (s2.trans s3)
              unfold slD at hs
              split at hs <;> first | contradiction | skip
              · cases hs
                obtain ⟨p, vs, rfl, h1, h2⟩ := Rs.viewL w3 R1 hv
                refine .inl ⟨p, vs, rfl, SqL.of h1, fun z hz => ?_⟩
                obtain ⟨a1, a2, a3, a4⟩ := new_own w3 S (cut_dv h2 l h) hz
                exact k _ _ _ _ a1 a2 a3 a4
              · rename_i ds
                cases hs
                obtain ⟨p, vs, rfl, h1, h2⟩ := Rs.viewT w3 R1 hv
                refine .inr ⟨p, vs, rfl, h1, fun hw => ?_, fun hw z hz => ?_⟩
                · have ew : cutD ds l h = ds := by
                    unfold cutD
                    rw [← h2.len, hw.1, hw.2, h2.len, List.drop_zero, Nat.sub_zero, List.take_length]
                  rw [ew] at k
                  cases x with
                  | dat d => cases hv; exact k _ _ _ _ w3 S R1 trivial
                  | _ => cases hv
                · obtain ⟨a1, a2, a3⟩ := new_tup w3 S (cut_dv h2 l h) hz
                  exact k _ _ _ _ a1 a2 a3 trivial
          · cases e
        · cases e
      · cases e
    · cases e
end
end Sy

namespace Sy
open PySem PySem.Spec PyProof.Rows L2 HT
/-! ### x[::-1] of a tuple or list -/
section
variable {prog : Program} {w : World} {A : Around} {E : Value → Shared → Prop} {s : Shared}
theorem rv_places (n : Nat) : Builtin.Slice.slicePlaces ((n : Int) - 1) (-1) (-1) = n := by
  unfold Builtin.Slice.slicePlaces
  have h1 : ¬ ((-1 : Int) > 0) := by omega
  rw [if_neg h1]
  by_cases h : ((n : Int) - 1 > -1)
  · rw [if_pos h, show -(-1 : Int) = 1 from rfl, Int.ediv_one]; omega
  · rw [if_neg h]
    have : n = 0 := by omega
    subst this; rfl
theorem sliceApplied_rv {sl : Addr} {vl vu vs : Value} {n : Nat} {Q : Int × Int × Nat → Shared → Prop} (hs : s.heap.IsSliceOf sl vl vu vs) (pl : IsPart vl none) (pu : IsPart vu none) (ps : IsPart vs (some (-1)))
    (h : Q ((n : Int) - 1, -1, n) s) : wpAny (model prog w) A (Builtin.Slice.sliceApplied (.ref sl) (pure (n : Int))) Q E s := by
  obtain ⟨os, hos, hcs, hds⟩ := id hs
  unfold Builtin.Slice.sliceApplied Builtin.Slice.sliceFields
  refine wpAny_bind (wpAny_bind (wpAny_field hos hds (x := vl) rfl (wpAny_bind (wpAny_field hos hds (x := vu) rfl (wpAny_bind (wpAny_field hos hds (x := vs) rfl (wpAny_pure ?_)))))))
  refine wpAny_bind (slicePart_ ps ?_)
  show wpAny _ _ (if ((-1 : Int) == 0) = true then _ else _) _ _ s
  rw [if_neg (by decide)]
  refine wpAny_bind (slicePart_ pl (wpAny_bind (slicePart_ pu (wpAny_bind (wpAny_pure ?_)))))
  show wpAny _ _ (pure ((n : Int) - 1, (-1 : Int), Builtin.Slice.slicePlaces ((n : Int) - 1) (-1) (-1))) _ _ s
  rw [rv_places]
  exact wpAny_pure h
theorem fm_congr {α β : Type} {f g : α → Option β} : ∀ {l : List α}, (∀ m ∈ l, f m = g m) → l.filterMap f = l.filterMap g
  | [], _ => rfl
  | a :: l, h => by
    rw [List.filterMap_cons, List.filterMap_cons, h a List.mem_cons_self, fm_congr fun m hm => h m (List.mem_cons_of_mem _ hm)]
theorem rv_pick (xs : Array Value) : ((List.range xs.size).filterMap fun (m : Nat) => xs[((xs.size : Int) - 1 + (m : Int) * -1).toNat]?).toArray = xs.toList.reverse.toArray := by
  congr 1
  have e : (List.range xs.size).filterMap (fun (m : Nat) => xs[((xs.size : Int) - 1 + (m : Int) * -1).toNat]?) = (List.range xs.size).filterMap (fun (m : Nat) => xs.toList.reverse[m]?) := by
    refine fm_congr fun m hm => ?_
    have hm' := List.mem_range.mp hm
    rw [List.getElem?_reverse (by rw [Array.length_toList]; exact hm'), Array.length_toList, show ((xs.size : Int) - 1 + (m : Int) * -1).toNat = xs.size - 1 - m by omega, Array.getElem?_toList]
  rw [e]
  have key : ∀ l : List Value, (List.range l.length).filterMap (fun m => l[m]?) = l := by
    intro l
    induction l with
    | nil => rfl
    | cons a l ih =>
      rw [List.length_cons, List.range_succ_eq_map, List.filterMap_cons]
      show a :: List.filterMap _ (List.map Nat.succ (List.range l.length)) = _
      rw [List.filterMap_map]
      congr 1
  have := key xs.toList.reverse
  rw [List.length_reverse, Array.length_toList] at this
  exact this
theorem getItem_tuple_rv {t sl : Addr} {items : Array Value} {vl vu vs : Value} {Q : Value → Shared → Prop} (ht : IsTup s.heap t items) (hs : s.heap.IsSliceOf sl vl vu vs) (pl : IsPart vl none) (pu : IsPart vu none) (ps : IsPart vs (some (-1)))
    (h : Q (.ref s.heap.objs.size) { s with heap := s.heap.push { cls := .type "tuple", data := .seq items.toList.reverse.toArray } })
    (hsz : items.size ≤ sizeLine) : wpAny (model prog w) A (getItem (.ref t) (.ref sl)) Q E s := by
  have htake : sizeOk (.seq items.toList.reverse.toArray) := by
    show items.toList.reverse.toArray.size ≤ sizeLine
    rw [List.size_toArray, List.length_reverse, Array.length_toList]
    exact hsz
  obtain ⟨os, hos, hcs, hds⟩ := id hs
  have hTs : s.TypeIs (.ref sl) "slice" := ⟨os, hos, hcs⟩
  unfold getItem
  try with_reducible refine wpAny_holding ?_
  first | refine wpAny_bind (wpAny_pure ?_) | skip
  refine wpAny_bind (wpAny_sequenceKey ht.typeIs (by decide) ?_)
  refine wpAny_bind (wpAny_callSpecial?_slot (name := Str.ofString "__getitem__") ht.typeIs PyProof.Rows.slot_tuple_getitem
    (wpAny_call_entry PyProof.Rows.slot_tuple_getitem ht.typeIs entry_tuple_getitem ?_ (args_tuple_getitem _ _)))
  show wpAny _ _ (Builtin.Tuple.tupleItemsOf (.ref t) >>= _) _ _ s
  refine wpAny_bind (tupleItemsOf_ ht ?_)
  refine wpAny_bind (wpAny_typeOf hTs ?_)
  rw [if_pos (by decide)]
  refine wpAny_bind (sliceApplied_rv hs pl pu ps ?_)
  have hno : ¬ ((((items.size : Int) - 1) == 0 && (-1 : Int) == 1 && items.size == items.size) = true) := by
    intro q
    rw [Bool.and_eq_true, Bool.and_eq_true] at q
    exact absurd q.1.2 (by decide)
  show wpAny _ _ (if (((items.size : Int) - 1) == 0 && (-1 : Int) == 1 && items.size == items.size) = true then _ else _) _ _ s
  rw [if_neg hno, rv_pick]
  first
    | exact wpAny_bind (m := Builtin.Tuple.tupleExact _) (wpAny_newObj_type (wpAny_pure ⟨_, rfl, wpAny_pure h⟩) htake)
    | exact wpAny_bind (m := Builtin.Tuple.tupleExact _) (wpAny_newObj_type (wpAny_bind (wpAny_pure (wpAny_pure ⟨_, rfl, wpAny_pure h⟩))) htake)
    | exact wpAny_bind (wpAny_bind (m := Builtin.Tuple.tupleExact _) (wpAny_newObj_type (wpAny_pure (wpAny_pure ⟨_, rfl, wpAny_pure h⟩)) htake))
    | exact wpAny_bind (wpAny_bind (m := Builtin.Tuple.tupleExact _) (wpAny_newObj_type (wpAny_pure ⟨_, rfl, wpAny_pure h⟩) htake))
end
section
variable {X : Cx} {cf : Cf}
def tRev (K : PySem.W.Frag) (te : TE) : TE := fun σ H Q => te σ H fun x H1 => ∃ a xs, x = .ref a ∧ ((SqL K H1 a xs ∧ ∀ p, H1 p = none → Q (.ref p) (upd H1 p (.lst xs.reverse))) ∨ (SqT K H1 a xs ∧ ∀ p, H1 p = none → Q (.ref p) (upd H1 p (.tup xs.reverse))))
theorem pe_rev {e : Expr} {te : TE} {k : Nat} {p1 p2 p3 pos : Pos} (he : PE X e te) : PE X (.Subscript e (.Slice none none (some (.UnaryOp .USub (.Constant (.int 1) k p1) p2)) p3) pos) (tRev X.K te) := by
  refine ⟨fun pins s σ H Q I h => ?_⟩
  refine Subscript_ (thn (he.run pins s σ H _ I h) fun v s1 ⟨x, H1, I1, r1, q1⟩ => ?_)
  obtain ⟨a, xs, ex, q⟩ := q1
  subst ex
  cases r1
  have hst : PO X (some (.UnaryOp .USub (.Constant (.int 1) k p1) p2)) (tPart (tUn (rU fun i => .int (-i)) (tC (.int 1)))) := po_some (pe_un un_neg pe_int)
  refine wpAny_Slice (thn (po_none.run pins s1 σ H1 (fun o H2 => o = none ∧ H2 = H1) I1 ⟨rfl, rfl⟩) fun vl s2 ⟨l, H2, I2, pl, el, e2⟩ => ?_)
  subst el e2
  refine thn (po_none.run pins s2 σ H2 (fun o H3 => o = none ∧ H3 = H2) I2 ⟨rfl, rfl⟩) fun vu s3 ⟨u, H3, I3, pu, eu, e3⟩ => ?_
  subst eu e3
  refine thn (hst.run pins s3 σ H3 (fun o H4 => o = some (-1) ∧ H4 = H3) I3 ⟨1, rfl, -1, rfl, rfl, rfl⟩) fun vs s4 ⟨o, H4, I4, ps, eo, e4⟩ => ?_
  subst eo e4
  have I5 : Inv X pins σ H4 { s4 with heap := s4.heap.push { cls := .type "slice", data := .fields #[vl, vu, vs] } } := I4.kept (t' := s4.toks) fun b ob q => Heap.get?_push_of_some _ q
  show wpAny (model X.prog X.w) X.A (subscriptTail e (.Slice none none (some (.UnaryOp .USub (.Constant (.int 1) k p1) p2)) p3) (.ref a) (.ref s4.heap.objs.size)) (EP X pins σ Q) X.xe { s4 with heap := s4.heap.push { cls := .type "slice", data := .fields #[vl, vu, vs] } }
  rcases q with ⟨hx, q⟩ | ⟨hx, q⟩
  · obtain ⟨its, r, ht, hz⟩ := I5.list hx
    have hlen := r.length
    refine tail_any (ops := [.ref a, .ref s4.heap.objs.size]) ht.isList.typeIs (PySem.slot_list_getitem.lookup) ?_ (by with_unfolding_all rfl)
    refine wpAny_getItem_list_slice ht.isList (Heap.IsSliceOf.new _ vl vu vs) pl pu ps (by decide) ?_ (by rw [List.size_toArray]; omega)
    rw [PySem.W.krv_pick]
    refine ⟨.ref _, _, I5.laid (t' := s4.toks) (o := .lst xs.reverse) (fun b ob q => Heap.get?_push_of_some _ q) (Nat.le_refl _) ?_, rfl, q _ (I5.hok.fresh (Nat.le_refl _))⟩
    exact ⟨by rw [List.length_reverse]; exact hz, _, 0, r.reverse, Heap.get?_push_size _ rfl⟩
  · obtain ⟨its, r, ht, hz⟩ := I5.tuple hx
    have hlen := r.length
    refine tail_any (ops := [.ref a, .ref s4.heap.objs.size]) ht.typeIs (PyProof.Rows.slot_tuple_getitem.lookup) ?_ (by with_unfolding_all rfl)
    refine getItem_tuple_rv ht (Heap.IsSliceOf.new _ vl vu vs) pl pu ps ?_ (by rw [List.size_toArray]; omega)
    refine ⟨.ref _, _, I5.laid (t' := s4.toks) (o := .tup xs.reverse) (fun b ob q => Heap.get?_push_of_some _ q) (Nat.le_refl _) ?_, rfl, q _ (I5.hok.fresh (Nat.le_refl _))⟩
    exact ⟨by rw [List.length_reverse]; exact hz, _, r.reverse, IsTup.new _ _⟩
theorem DvAll.reverse {K : PySem.W.Frag} {H : Hp} : ∀ {ds : List PyData} {vs : List V}, DvAll K H vs ds → DvAll K H vs.reverse ds.reverse
  | [], _, .nil => .nil
  | d :: ds, _, .cons h t => by
    rw [List.reverse_cons, List.reverse_cons]
    exact t.reverse.app (.one h)
theorem ok_rev {a : Expr} {ea : Ex} {k : Nat} {p1 p2 p3 pos : Pos} (ha : PE X a (tE X.K (ea.den cf))) : PE X (.Subscript a (.Slice none none (some (.UnaryOp .USub (.Constant (.int 1) k p1) p2)) p3) pos) (tE X.K ((Ex.rev ea).den cf)) :=
  peW (pe_rev ha) fun σ H Q ⟨G, ph, env, st, r, st', E, e, kk⟩ => by
    simp only [Ex.den] at e
    split at e
    · rename_i x st1 e1
      split at e
      · rename_i ds hv
        cases e
        refine ⟨G, ph, env, st, x, _, E, e1, fun v H1 G1 ph1 w1 s1 r1 f1 => ?_⟩
        obtain ⟨p, vs, rfl, h1, h2⟩ := Rs.viewL w1 r1 hv
        refine ⟨p, vs, rfl, .inl ⟨SqL.of h1, fun z hz => ?_⟩⟩
        obtain ⟨a1, a2, a3, a4⟩ := new_own w1 s1 h2.reverse hz
        exact kk _ _ _ _ a1 a2 a3 a4
      · rename_i ds hv
        cases e
        refine ⟨G, ph, env, st, x, _, E, e1, fun v H1 G1 ph1 w1 s1 r1 f1 => ?_⟩
        obtain ⟨p, vs, rfl, h1, h2⟩ := Rs.viewT w1 r1 hv
        refine ⟨p, vs, rfl, .inr ⟨h1, fun z hz => ?_⟩⟩
        obtain ⟨a1, a2, a3⟩ := new_tup w1 s1 h2.reverse hz
        exact kk _ _ _ _ a1 a2 a3 trivial
      · cases e
    · cases e
end
end Sy

namespace Sy
open PySem PySem.Spec PyProof.Rows L2

/-! ### a def's promise -/
/-- called with such arguments it computes what c does -/
def spF (K : PySem.W.Frag) (np : Nat) (c : List R → Bx → Option (R × Bx)) (vs : List V) (H : Hp) (Q : VK) : Prop :=
  vs.length = np ∧ ∃ (G : Hp) (ph : List Addr) (st : Bx) (as : List R) (r : R) (st' : Bx), Wd K G H ph st ∧ RsAll K G H ph as vs ∧ (∀ a ∈ as, ∀ ds, a ≠ .own ds ∧ a ≠ .brw ds) ∧ c as st = some (r, st') ∧
    ∀ v H' G' ph', Wd K G' H' ph' st' → Stp G H ph G' H' ph' → Rs K G' H' ph' r v → FrO H r v → Q v H'
/-- the promise kept at every call for which there is room -/
structure Fk (P : Program) (w : World) (K : PySem.W.Frag) (mg : Str → Option Value) (base : Heap) (k : Nat) (f : Addr) (fd : FuncData) (ps : List Str) (c : List R → Bx → Option (R × Bx)) : Prop where
  run : ∀ (A : Around) (fr : List Env) (s : Shared) (H : Hp) (args : Args) (us : List Value) (vs : List V) (Q : VK), Room k A → A.guards = some [] → Env0 P w K mg base A fr s H → BindsTo s fd args (ps.zip us) → Vals vs us → spF K ps.length c vs H Q →
    codeAny (model P w) A (.call (.ref f) args) (CR CX0 fr P w H s Q E0) s
/-- a def of the module at hand -/
def Cal (X : Cx) (f : String) (c : List R → Bx → Option (R × Bx)) : Prop :=
  ∃ (k : Nat) (a : Addr) (fd : FuncData) (ps : List Str), Fk X.prog X.w X.K X.mg X.base k a fd ps c ∧ Room k X.A ∧ X.mg (Str.ofString f) = some (.ref a) ∧ PySem.W.keepIn X.K (.ref a) = true ∧ Binds X.K fd ps [] ∧
    (∀ as st r, c as st = some r → as.length = ps.length)

section
variable {X : Cx} {cf : Cf}
def tCf (K : PySem.W.Frag) (np : Nat) (c : List R → Bx → Option (R × Bx)) (t : TA) : TE := fun σ H Q => t σ H fun vs H1 => spF K np c vs H1 Q
theorem runFk {pins : List (Addr × Obj)} {σ : L2.St} {H : Hp} {s : Shared} {Q : VK} {us : List Value} {vs : List V} {k : Nat} {a : Addr} {fd : FuncData} {ps : List Str} {c : List R → Bx → Option (R × Bx)} (hg : X.A.guards = some [])
    (F : Fk X.prog X.w X.K X.mg X.base k a fd ps c) (hr : Room k X.A) (hb : Binds X.K fd ps []) (I : Inv X pins σ H s) (r : Vals vs us) (h : spF X.K ps.length c vs H Q) :
    wpAny (model X.prog X.w) X.A (call (.ref a) us) (EP X pins σ Q) X.xe s := by
  have hl : us.length = ps.length := r.length.symm.trans h.1
  have hb' := hb s us I.kIn (by rw [List.append_nil]; exact hl)
  rw [List.append_nil] at hb'
  refine wpAny_call (codeAny_mono (F.run X.A X.stack s H ⟨us, []⟩ us vs Q hr hg I.env0 hb' r h) fun res s' hq => ?_)
  match res, hq with
  | .error e, hq => exact hq.elim
  | .ok .next, hq => exact hq.elim
  | .ok .brk, hq => exact hq.elim
  | .ok .cont, hq => exact hq.elim
  | .ok (.ret u), hq => exact I.after hq
theorem pe_cf {x : Str} {p pos : Pos} {e : Expr} {es : List Expr} {t : TA} {k : Nat} {a : Addr} {fd : FuncData} {ps : List Str} {c : List R → Bx → Option (R × Bx)} (hg : X.A.guards = some [])
    (F : Fk X.prog X.w X.K X.mg X.base k a fd ps c) (hr : Room k X.A) (hb : Binds X.K fd ps []) (gl : Gl X x) (hm : X.mg x = some (.ref a)) (hk : PySem.W.keepIn X.K (.ref a) = true) (hdb : (x == ("__debug__" : Str)) = false) (ha : PA X (e :: es) t)
    (he : starEach (e :: es) X.env = (false, eval e X.env) :: starEach es X.env) (hpl : (backTo pos (starEach es X.env)).any (·.1) = false) : PE X (.Call (.Name x p) (e :: es) [] pos) (tCf X.K ps.length c t) :=
  ⟨fun pins s σ H Q I h => wpAny_Call_Name_kw (ld_glob I gl hm (PySem.W.callWith_K (h₀ := X.base) I.ok.mod.kin hk (thn (ha.run pos pins s σ H _ I h) fun us s1 ⟨vs, H1, I1, r, q⟩ => ⟨I1.kIn, runFk hg F hr hb I1 r q⟩) he hpl) hdb)⟩
theorem pe_cf0 {x : Str} {p pos : Pos} {k : Nat} {a : Addr} {fd : FuncData} {ps : List Str} {c : List R → Bx → Option (R × Bx)} (hg : X.A.guards = some [])
    (F : Fk X.prog X.w X.K X.mg X.base k a fd ps c) (hr : Room k X.A) (hb : Binds X.K fd ps []) (gl : Gl X x) (hm : X.mg x = some (.ref a)) (hk : PySem.W.keepIn X.K (.ref a) = true) (hdb : (x == ("__debug__" : Str)) = false) : PE X (.Call (.Name x p) [] [] pos) (tCf X.K ps.length c tNil) :=
  ⟨fun pins s σ H Q I h => wpAny_Call_Name_kw (ld_glob I gl hm (PySem.W.callWith_K0 I.kIn hk (runFk (us := []) hg F hr hb I .nil h)) hdb)⟩
theorem arg_plain : ∀ {r a : R}, r.arg = some a → ∀ ds, a ≠ .own ds ∧ a ≠ .brw ds
  | .dat _, _, e, _ => by cases e; exact ⟨(fun z => nomatch z), (fun z => nomatch z)⟩
  | .own _, _, e, _ => by cases e; exact ⟨(fun z => nomatch z), (fun z => nomatch z)⟩
  | .ref _, _, e, _ => by cases e; exact ⟨(fun z => nomatch z), (fun z => nomatch z)⟩
  | .scr _, _, e, _ => by cases e; exact ⟨(fun z => nomatch z), (fun z => nomatch z)⟩
  | .brw _, _, e, _ => by cases e
theorem args_plain : ∀ {rs as : List R}, argsOf rs = some as → ∀ a ∈ as, ∀ ds, a ≠ .own ds ∧ a ≠ .brw ds
  | [], as, e, a, h => by cases (show some [] = some as from e); cases h
  | r :: rs, as, e, a, h => by
    unfold argsOf at e
    split at e
    · rename_i x xs e1 e2
      cases e
      rcases List.mem_cons.mp h with rfl | h
      · exact arg_plain e1
      · exact args_plain e2 a h
    · cases e
theorem RsAll.len {K : PySem.W.Frag} {G H : Hp} {ph : List Addr} : ∀ {rs : List R} {vs : List V}, RsAll K G H ph rs vs → rs.length = vs.length
  | [], [], _ => rfl
  | [], _ :: _, h => h.elim
  | _ :: _, [], h => h.elim
  | _ :: _, _ :: _, ⟨_, t⟩ => by rw [List.length_cons, List.length_cons, RsAll.len t]
theorem callW {f : String} {es : Exs} {np : Nat} (hlen : ∀ as st r, cf f as st = some r → as.length = np) : ∀ σ H Q, tE X.K ((Ex.call f es).den cf) σ H Q → tCf X.K np (cf f) (tAs X.K (es.den cf)) σ H Q := fun σ H Q ⟨G, ph, env, st, r, st', E, e, k⟩ => by
  simp only [Ex.den] at e
  split at e
  · rename_i rs st1 e1
    split at e
    · rename_i as ea
      refine ⟨G, ph, env, st, rs, st1, E, e1, fun vs H1 G1 ph1 w1 s1 r1 f1 => ?_⟩
      obtain ⟨G2, w2, s2, h2, up⟩ := args_ok s1 w1 r1 f1 ea
      refine ⟨by rw [← h2.len]; exact hlen _ _ _ e, G2, ph1, st1, as, r, st', w2, h2, args_plain ea, e, fun v H' G' ph' w' s' r' f' => k v H' G' ph' w' (s2.trans s') r' (f'.before s2)⟩
    · cases e
  · cases e
theorem ok_call {f : String} {p pos : Pos} {a : Expr} {as : List Expr} {es : Exs} (hg : X.A.guards = some []) (C : Cal X f (cf f)) (gl : Gl X (Str.ofString f)) (hdb : (Str.ofString f == ("__debug__" : Str)) = false) (ha : PA X (a :: as) (tAs X.K (es.den cf)))
    (he : starEach (a :: as) X.env = (false, eval a X.env) :: starEach as X.env) (hpl : (backTo pos (starEach as X.env)).any (·.1) = false) : PE X (.Call (.Name (Str.ofString f) p) (a :: as) [] pos) (tE X.K ((Ex.call f es).den cf)) := by
  obtain ⟨k, ad, fd, ps, F, hr, hm, hk, hb, hl⟩ := C
  exact peW (pe_cf hg F hr hb gl hm hk hdb ha he hpl) (callW hl)
theorem ok_call0 {f : String} {p pos : Pos} (hg : X.A.guards = some []) (C : Cal X f (cf f)) (gl : Gl X (Str.ofString f)) (hdb : (Str.ofString f == ("__debug__" : Str)) = false) : PE X (.Call (.Name (Str.ofString f) p) [] [] pos) (tE X.K ((Ex.call f .nil).den cf)) := by
  obtain ⟨k, ad, fd, ps, F, hr, hm, hk, hb, hl⟩ := C
  refine peW (pe_cf0 hg F hr hb gl hm hk hdb) fun σ H Q h => ?_
  obtain ⟨G, ph, env, st, rs, st1, E, e1, kk⟩ := callW hl σ H Q h
  simp only [Exs.den] at e1
  cases e1
  exact kk [] H G ph E.w Stp.refl trivial (by unfold FrL; trivial)

/-! ### built-ins -/
def bltName : Blt → String
  | .len => "len" | .abs => "abs" | .tup => "tuple" | .lst => "list" | .sum => "sum" | .all => "all" | .any => "any" | .min => "min" | .max => "max" | .sorted => "sorted" | .repr => "repr" | .str => "str" | .int => "int" | .divmod => "divmod"
/-- a type rather than a function -/
def bltTy : Blt → Bool
  | .tup => true | .lst => true | .str => true | .int => true | _ => false
def bltVal (f : Blt) : Value := if bltTy f then .type (bltName f) else .builtin (bltName f)
/-- what a built-in is asked and gives -/
def rB (K : PySem.W.Frag) (f : Blt) : List V → Hp → VK → Prop := fun vs H Q =>
  ∃ (Gb Hb : Hp) (phb : List Addr) (G : Hp) (ph : List Addr) (st : Bx) (rs : List R) (r : R), Wd K G H ph st ∧ Stp Gb Hb phb G H ph ∧ RsAll K G H ph rs vs ∧ FrL Hb rs vs ∧ bltR f rs st = some r ∧
    ∀ v H' G' ph', Wd K G' H' ph' st → Stp Gb Hb phb G' H' ph' → Rs K G' H' ph' r v → FrO Hb r v → Q v H'
theorem bltW {f : Blt} {es : Exs} : ∀ σ H Q, tE X.K ((Ex.blt f es).den cf) σ H Q → tCB (rB X.K f) (tAs X.K (es.den cf)) σ H Q := fun σ H Q ⟨G, ph, env, st, r, st', E, e, k⟩ => by
  simp only [Ex.den] at e
  split at e
  · rename_i rs st1 e1
    cases hb : bltR f rs st1 with
    | none => rw [hb] at e; cases e
    | some r0 =>
      rw [hb] at e
      cases e
      exact ⟨G, ph, env, st, rs, _, E, e1, fun vs H1 G1 ph1 w1 s1 r1 f1 => ⟨G, H, ph, G1, ph1, _, rs, _, w1, s1, r1, f1, hb, k⟩⟩
  · cases e
theorem ok_blt {f : Blt} {p pos : Pos} {a : Expr} {as : List Expr} {es : Exs} (hc : CallR X (bltVal f) (rB X.K f)) (gl : Gl X (Str.ofString (bltName f))) (hm : X.mg (Str.ofString (bltName f)) = none) (ha : PA X (a :: as) (tAs X.K (es.den cf)))
    (he : starEach (a :: as) X.env = (false, eval a X.env) :: starEach as X.env) (hpl : (backTo pos (starEach as X.env)).any (·.1) = false) : PE X (.Call (.Name (Str.ofString (bltName f)) p) (a :: as) [] pos) (tE X.K ((Ex.blt f es).den cf)) := by
  have hn : ∀ g : Blt, Str.ofString (bltName g) ≠ "__name__" := fun g => by cases g <;> decide +kernel
  have hd : ∀ g : Blt, (Str.ofString (bltName g) == ("__debug__" : Str)) = false := fun g => by cases g <;> decide +kernel
  have hv : ∀ g : Blt, bootBuiltins (Str.ofString (bltName g)) = some (bltVal g) := fun g => by cases g <;> decide +kernel
  by_cases ht : bltTy f = true
  · have e : bltVal f = .type (bltName f) := by unfold bltVal; rw [if_pos ht]
    rw [e] at hc
    exact peW (pe_callTy hc gl hm ((hv f).trans (congrArg some e)) ha (hn f) (hd f) he hpl) bltW
  · have e : bltVal f = .builtin (bltName f) := by unfold bltVal; rw [if_neg ht]
    rw [e] at hc
    exact peW (pe_callB hc gl hm ((hv f).trans (congrArg some e)) ha (hn f) (hd f) he hpl) bltW
end
end Sy

namespace Sy
open PySem PySem.Spec PyProof.Rows L2
section
variable {X : Cx} {cf : Cf}
/-! ### sorted -/
theorem each_of {pins : List (Addr × Obj)} {σ : L2.St} {H : Hp} {s : Shared} (I : Inv X pins σ H s) : ∀ {ds : List PyData} {xs : List V} {its : List Value}, DvAll X.K H xs ds → Vals xs its →
    PySem.W.EachIs (fun (u : Value) (b : V × PyData) => RelV b.1 u ∧ ∃ as, Reads s.heap u b.2 as) its (xs.zip ds)
  | _, _, _, .nil, .nil => .nil
  | _, _, _, .cons h t, .cons r q => .cons ⟨r, Dp.reads I _ _ _ (Dv.dp _ _ h) r⟩ (each_of I t q)
theorem vals_each : ∀ {bs : List (V × PyData)} {us : List Value}, PySem.W.EachIs (fun (u : Value) (b : V × PyData) => RelV b.1 u) us bs → Vals (bs.map Prod.fst) us
  | _, _, .nil => .nil
  | _, _, .cons h t => .cons h (vals_each t)
theorem dv_pairs {K : PySem.W.Frag} {G : Hp} : ∀ {l : List (V × PyData)}, (∀ b ∈ l, Dv K G b.1 b.2) → DvAll K G (l.map Prod.fst) (l.map Prod.snd)
  | [], _ => .nil
  | b :: l, h => .cons (h b List.mem_cons_self) (dv_pairs fun c hc => h c (List.mem_cons_of_mem _ hc))
theorem dv_zip {K : PySem.W.Frag} {G : Hp} : ∀ {ds : List PyData} {xs : List V}, DvAll K G xs ds → ∀ b ∈ xs.zip ds, Dv K G b.1 b.2
  | _, _, .nil, b, h => by simp at h
  | _, _, .cons h t, b, hb => by
    rw [List.zip_cons_cons] at hb
    rcases List.mem_cons.mp hb with rfl | hb
    · exact h
    · exact dv_zip t b hb
theorem sortOk_all {ds : List PyData} (h : sortOk ds = true) : PySem.W.AllAlike ds ∧ PySem.W.Sortable ds ∧ ds.length ≤ sizeLine ∧ ∀ d ∈ ds, d.depth ≤ 8 := by
  unfold sortOk at h
  simp only [Bool.and_eq_true] at h
  obtain ⟨⟨⟨h1, h2⟩, h3⟩, h4⟩ := h
  refine ⟨fun d hd e he => ?_, ?_, fits h3, fun d hd => of_decide_eq_true (List.all_eq_true.mp h4 d hd)⟩
  · exact List.all_eq_true.mp (List.all_eq_true.mp h1 d hd) e he
  · rcases Bool.or_eq_true_iff.mp h2 with q | q
    · refine .inl fun d hd => ?_
      have z := List.all_eq_true.mp q d hd
      cases d with
      | tuple xs => cases xs with
        | nil => cases z
        | cons x r => exact ⟨x, r, rfl⟩
      | _ => cases z
    · refine .inr fun d hd => ?_
      have z := List.all_eq_true.mp q d hd
      cases d with
      | tuple xs => cases z
      | none => cases z
      | _ => exact ⟨(fun e => nomatch e), (fun _ e => nomatch e)⟩
def rSortD (K : PySem.W.Frag) : List V → Hp → VK → Prop := fun vs H Q => ∃ (a : Addr) (xs : List V) (ds : List PyData), vs = [.ref a] ∧ H a = some (.lst xs) ∧ DvAll K H xs ds ∧ sortOk ds = true ∧
  ∀ (ys : List V) (p : Addr), (∀ G : Hp, DvAll K G xs ds → DvAll K G ys (sortD ds)) → H p = none → Q (.ref p) (upd H p (.lst ys))
theorem cr_sortD (hu : X.A.units + 65 < cLine) : CallR X (.builtin "sorted") (rSortD X.K) := by
  intro pins s σ H vs us Q I r ⟨a, xs, ds, e0, hH, hd, hok, q⟩
  subst e0
  obtain ⟨h1, h2, h3, h4⟩ := sortOk_all hok
  obtain ⟨its, rv, hl, hz⟩ := I.list (SqL.of hH)
  rw [Vals.ref1 r]
  have hlen : xs.length = ds.length := hd.len
  have ez : (xs.zip ds).map Prod.snd = ds := List.map_snd_zip (by omega)
  have E := each_of I hd rv
  have hbl : (xs.zip ds).length = ds.length := by rw [List.length_zip, hlen, Nat.min_self]
  refine PySem.W.sorted_data (R := fun (u : Value) (b : V × PyData) => RelV b.1 u) (enc := Prod.snd) hl.isList (E.mono fun _ _ z => z.1) (E.mono fun _ _ z => z.2) (by rw [ez]; exact h1) (by rw [ez]; exact h2) (by rw [hbl]; exact h3) (fun b hb => ?_) fun out ho hr => ?_
  · have hm : b.2 ∈ ds := by rw [← ez]; exact List.mem_map_of_mem hb
    have := h4 b.2 hm
    omega
  · have hv := vals_each hr
    obtain ⟨ep, he'⟩ := PyProof.Rows.sortedAll_at s.heap its (List.toArray out)
    have hyl : (((xs.zip ds).mergeSort (PySem.W.dataLe false Prod.snd)).map Prod.fst).length ≤ sizeLine := by
      rw [List.length_map, List.length_mergeSort, hbl]; exact h3
    refine ⟨.ref _, _, I.laid (t' := s.toks) (o := .lst (((xs.zip ds).mergeSort (PySem.W.dataLe false Prod.snd)).map Prod.fst)) (fun _ _ => PyProof.Rows.sortedAll_old) (Nat.le_succ _) ⟨hyl, out, ep, hv, ?_⟩, rfl, q _ _ (fun G hG => ?_) (I.hok.fresh (Nat.le_succ _))⟩
    · rw [he']
    · have hp : ∀ b ∈ (xs.zip ds).mergeSort (PySem.W.dataLe false Prod.snd), Dv X.K G b.1 b.2 := fun b hb => dv_zip hG b ((List.mergeSort_perm _ _).mem_iff.mp hb)
      have z := dv_pairs hp
      have em : ((xs.zip ds).mergeSort (PySem.W.dataLe false Prod.snd)).map Prod.snd = ((xs.zip ds).map Prod.snd).mergeSort (PySem.W.dataLe false id) := List.map_mergeSort (fun a _ b _ => rfl)
      rw [em, ez] at z
      exact z

/-! ### repr -/
mutual
theorem Dv.noDict {K : PySem.W.Frag} {H : Hp} : ∀ (d : PyData) (v : V), Dv K H v d → d.hasDict = false
  | .none, _, _ => rfl
  | .bool b, _, _ => rfl
  | .int i, _, _ => rfl
  | .str x, _, _ => rfl
  | .list ds, _, h => by
    cases h with
    | lst h1 h2 => simp only [PyData.hasDict]; exact DvAll.noDict ds _ h2
  | .tuple ds, _, h => by
    cases h with
    | tup h1 h2 => simp only [PyData.hasDict]; exact DvAll.noDict ds _ h2
  | .dict _, _, h => by cases h
theorem DvAll.noDict {K : PySem.W.Frag} {H : Hp} : ∀ (ds : List PyData) (vs : List V), DvAll K H vs ds → PyData.hasDictAll ds = false
  | [], _, _ => rfl
  | d :: ds, _, h => by
    cases h with
    | cons h1 h2 => simp only [PyData.hasDictAll, Dv.noDict d _ h1, DvAll.noDict ds _ h2, Bool.or_false]
end
def rRepr (K : PySem.W.Frag) : List V → Hp → VK → Prop := fun vs H Q => ∃ v d, vs = [v] ∧ Dv K H v d ∧ reprOk d = true ∧ Q (.str d.shown) H
theorem cr_repr (hg : X.A.guards = some []) (hu : X.A.units + 65 < cLine) : CallR X (.builtin "repr") (rRepr X.K) := by
  intro pins s σ H vs us Q I r ⟨v, d, e0, hd, hok, q⟩
  subst e0
  obtain ⟨u, rfl, ru⟩ := vals1 r
  unfold reprOk at hok
  simp only [Bool.and_eq_true, decide_eq_true_eq] at hok
  obtain ⟨⟨h1, h2⟩, h3⟩ := hok
  have big : ∀ {a : Addr}, Dv X.K H v d → u = .ref a → wpAny (model X.prog X.w) X.A (call (.builtin "repr") [u]) (EP X pins σ Q) X.xe s := fun {a} hd e => by
    subst e
    obtain ⟨as, hr⟩ := Dp.reads I d v _ (Dv.dp d v hd) ru
    refine repr_of_reads' hr h1 (fun z => by rw [Dv.noDict d v hd] at z; cases z) hg (by omega) (fun _ _ z => z) (fun h' t tk hk => ?_) h2
    exact ⟨.str d.shown, H, I.kept (t' := tk) hk, ⟨_, rfl⟩, q⟩
  cases hd with
  | non => cases ru; exact PySem.P.repr_of_none ⟨.str _, H, I.tok _, ⟨_, rfl⟩, q⟩
  | bl b => cases ru; exact PySem.P.repr_of_bool ⟨.str _, H, I.tok _, ⟨_, rfl⟩, q⟩
  | int i =>
    obtain ⟨t, rfl⟩ := ru
    exact PySem.P.repr_of_int (of_decide_eq_true h1) ⟨.str _, H, I.tok _, ⟨_, rfl⟩, q⟩
  | str x =>
    obtain ⟨t, rfl⟩ := ru
    exact PySem.P.repr_of_str ⟨.str _, H, I.tok _, ⟨_, rfl⟩, q⟩ h2
  | lst z1 z2 => cases ru; exact big (.lst z1 z2) rfl
  | tup z1 z2 => cases ru; exact big (.tup z1 z2) rfl

/-! ### all of them -/
theorem rsOne {K : PySem.W.Frag} {G H : Hp} {ph : List Addr} {r : R} {vs : List V} (h : RsAll K G H ph [r] vs) : ∃ v, vs = [v] ∧ Rs K G H ph r v := by
  cases vs with
  | nil => exact h.elim
  | cons v vs =>
    cases vs with
    | nil => exact ⟨v, rfl, h.1⟩
    | cons _ _ => exact h.2.elim
theorem views_one {rs : List R} {d : PyData} (h : views rs = some [d]) : ∃ r, rs = [r] ∧ r.view = some d := by
  cases rs with
  | nil => cases h
  | cons r rs =>
    unfold views at h
    split at h
    · rename_i d' ds' e1 e2
      cases h
      cases rs with
      | nil => exact ⟨r, rfl, e1⟩
      | cons r2 rs =>
        unfold views at e2
        split at e2 <;> cases e2
    · cases h
theorem minL_spec : ∀ {l : List Int}, l ≠ [] → ∀ m, m ∈ l → (∀ y, y ∈ l → m ≤ y) → m = minL l
  | [x], _, m, h1, _ => by simpa [minL] using h1
  | x :: y :: r, _, m, h1, h2 => by
    have lb : ∀ (l : List Int), l ≠ [] → minL l ∈ l ∧ ∀ z, z ∈ l → minL l ≤ z := by
      intro l
      induction l with
      | nil => intro h; exact absurd rfl h
      | cons a t ih =>
        intro _
        cases t with
        | nil => simp [minL]
        | cons b t =>
          obtain ⟨i1, i2⟩ := ih (by simp)
          have e : minL (a :: b :: t) = min a (minL (b :: t)) := rfl
          rw [e]
          refine ⟨?_, fun z hz => ?_⟩
          · rcases Int.le_total a (minL (b :: t)) with q | q
            · rw [Int.min_eq_left q]; exact List.mem_cons_self
            · rw [Int.min_eq_right q]; exact List.mem_cons_of_mem _ i1
          · rcases List.mem_cons.mp hz with rfl | hz
            · omega
            · have := i2 z hz; omega
    obtain ⟨q1, q2⟩ := lb (x :: y :: r) (by simp)
    have a1 := h2 _ q1
    have a2 := q2 _ h1
    omega
theorem maxL_spec : ∀ {l : List Int}, l ≠ [] → ∀ m, m ∈ l → (∀ y, y ∈ l → y ≤ m) → m = maxL l
  | [x], _, m, h1, _ => by simpa [maxL] using h1
  | x :: y :: r, _, m, h1, h2 => by
    have lb : ∀ (l : List Int), l ≠ [] → maxL l ∈ l ∧ ∀ z, z ∈ l → z ≤ maxL l := by
      intro l
      induction l with
      | nil => intro h; exact absurd rfl h
      | cons a t ih =>
        intro _
        cases t with
        | nil => simp [maxL]
        | cons b t =>
          obtain ⟨i1, i2⟩ := ih (by simp)
          have e : maxL (a :: b :: t) = max a (maxL (b :: t)) := rfl
          rw [e]
          refine ⟨?_, fun z hz => ?_⟩
          · rcases Int.le_total a (maxL (b :: t)) with q | q
            · rw [Int.max_eq_right q]; exact List.mem_cons_of_mem _ i1
            · rw [Int.max_eq_left q]; exact List.mem_cons_self
          · rcases List.mem_cons.mp hz with rfl | hz
            · omega
            · have := i2 z hz; omega
    obtain ⟨q1, q2⟩ := lb (x :: y :: r) (by simp)
    have a1 := h2 _ q1
    have a2 := q2 _ h1
    omega
theorem blt_ok (hc : X.calm = true) (hg : X.A.guards = some []) (hu : X.A.units + 65 < cLine) (f : Blt) : CallR X (bltVal f) (rB X.K f) := by
  intro pins s σ H vs us Q I rr ⟨Gb, Hb, phb, G, ph, st, rs, r, w, S, hrs, hfr, hb, k⟩
  -- one looked-at argument
  have gen : f ≠ .len → ∃ ds, views rs = some ds ∧ bltD f ds = some r := fun hne => by
    unfold bltR at hb
    split at hb
    · exact absurd rfl hne
    · cases hv : views rs with
      | none => rw [hv] at hb; cases hb
      | some ds => rw [hv] at hb; exact ⟨ds, rfl, hb⟩
  by_cases hl : f = .len
  · subst hl
    have one : ∃ r0, rs = [r0] ∧ lenR r0 st = some r := by
      unfold bltR at hb
      split at hb
      · rename_i r0 _; exact ⟨r0, rfl, hb⟩
      · rename_i rs0 _ _ hne
        exfalso
        cases hv : views rs0 with
        | none => rw [hv] at hb; cases hb
        | some ds =>
          rw [hv] at hb
          have hb2 : bltD .len ds = some r := hb
          unfold bltD at hb2
          split at hb2 <;> first | contradiction | skip
          · obtain ⟨r0, e, _⟩ := views_one hv; exact hne r0 rfl e
          · obtain ⟨r0, e, _⟩ := views_one hv; exact hne r0 rfl e
    obtain ⟨r0, rfl, hb⟩ := one
    obtain ⟨v, rfl, hr⟩ := rsOne hrs
    have viaView : ∀ {d : PyData}, r0.view = some d → bltD .len [d] = some r → wpAny (model X.prog X.w) X.A (call (.builtin "len") us) (EP X pins σ Q) X.xe s := fun {d} hv hb => by
      cases d with
      | list ds =>
        cases hb
        obtain ⟨a, xs, rfl, h1, h2⟩ := Rs.viewL w hr hv
        refine call_len_seq pins s σ H _ us Q I rr ⟨a, xs, rfl, .inl (SqL.of h1), ?_⟩
        rw [h2.len]
        exact k _ H G ph w S (.int _) trivial
      | tuple ds =>
        cases hb
        obtain ⟨a, xs, rfl, h1, h2⟩ := Rs.viewT w hr hv
        refine call_len_seq pins s σ H _ us Q I rr ⟨a, xs, rfl, .inr h1, ?_⟩
        rw [h2.len]
        exact k _ H G ph w S (.int _) trivial
      | _ => cases hb
    show wpAny _ _ (call (.builtin "len") us) _ _ _
    cases r0 with
    | dat d => exact viaView rfl hb
    | own d => exact viaView (d := .list d) rfl hb
    | brw d => exact viaView (d := .list d) rfl hb
    | ref n =>
      obtain ⟨a, rfl, ha⟩ := hr
      cases es : st[n]? with
      | none =>
        have hb' : ((st[n]?).map fun ds => R.dat (.int ds.length)) = some r := hb
        rw [es] at hb'; cases hb'
      | some ds =>
        have hb' : ((st[n]?).map fun ds => R.dat (.int ds.length)) = some r := hb
        rw [es] at hb'
        cases hb'
        obtain ⟨_, xs, h1, h2⟩ := w.box n a ds ha es
        refine call_len_seq pins s σ H _ us Q I rr ⟨a, xs, rfl, .inl (SqL.of h1), ?_⟩
        rw [h2.len]
        exact k _ H G ph w S (.int _) trivial
    | scr ns =>
      obtain ⟨a, rfl, ha⟩ := hr
      cases hb
      refine call_len_seq pins s σ H _ us Q I rr ⟨a, _, rfl, .inl (SqL.up w.sub ha), ?_⟩
      rw [List.length_map]
      exact k _ H G ph w S (.int _) trivial
  · obtain ⟨ds, hv, hb⟩ := gen hl
    have hdv := views_ok w hrs hv
    have fin : ∀ {d : PyData} {v : V}, r = .dat d → (∀ G : Hp, Dv X.K G v d) → Q v H := fun {d v} e hd => by
      subst e
      exact k v H G ph w S (hd G) trivial
    cases f with
    | len => exact absurd rfl hl
    | abs =>
      unfold bltD at hb
      split at hb <;> first | contradiction | skip
      rename_i i _
      cases hb
      cases hdv with
      | cons h t =>
        cases t; cases h
        refine call_abs pins s σ H _ us Q I rr ⟨i, rfl, ?_⟩
        have e : (if i < 0 then -i else i) = (i.natAbs : Int) := by split <;> omega
        rw [e]
        exact fin rfl fun _ => .int _
    | tup =>
      unfold bltD at hb
      split at hb <;> first | contradiction | skip
      · rename_i es _
        cases hb
        obtain ⟨r0, rfl, ev⟩ := views_one hv
        obtain ⟨v, rfl, hr⟩ := rsOne hrs
        obtain ⟨a, xs, rfl, h1, h2⟩ := Rs.viewL w hr ev
        refine call_tuple_of pins s σ H _ us Q I rr ⟨a, xs, rfl, .inl ⟨SqL.of h1, fun p hp => ?_⟩⟩
        obtain ⟨a1, a2, a3⟩ := new_tup w S h2 hp
        exact k _ _ _ _ a1 a2 a3 trivial
      · rename_i es _
        cases hb
        obtain ⟨r0, rfl, ev⟩ := views_one hv
        obtain ⟨v, rfl, hr⟩ := rsOne hrs
        obtain ⟨a, xs, rfl, h1, h2⟩ := Rs.viewT w hr ev
        refine call_tuple_of pins s σ H _ us Q I rr ⟨a, xs, rfl, .inr ⟨h1, ?_⟩⟩
        cases r0 with
        | dat d => cases ev; exact k _ H G ph w S hr trivial
        | _ => cases ev
    | lst =>
      unfold bltD at hb
      split at hb <;> first | contradiction | skip
      · rename_i es _
        cases hb
        obtain ⟨r0, rfl, ev⟩ := views_one hv
        obtain ⟨v, rfl, hr⟩ := rsOne hrs
        obtain ⟨a, xs, rfl, h1, h2⟩ := Rs.viewL w hr ev
        refine call_list_of pins s σ H _ us Q I rr ⟨a, xs, rfl, .inl (SqL.of h1), fun p hp => ?_⟩
        obtain ⟨a1, a2, a3, a4⟩ := new_own w S h2 hp
        exact k _ _ _ _ a1 a2 a3 a4
      · rename_i es _
        cases hb
        obtain ⟨r0, rfl, ev⟩ := views_one hv
        obtain ⟨v, rfl, hr⟩ := rsOne hrs
        obtain ⟨a, xs, rfl, h1, h2⟩ := Rs.viewT w hr ev
        refine call_list_of pins s σ H _ us Q I rr ⟨a, xs, rfl, .inr h1, fun p hp => ?_⟩
        obtain ⟨a1, a2, a3, a4⟩ := new_own w S h2 hp
        exact k _ _ _ _ a1 a2 a3 a4
    | sum =>
      unfold bltD at hb
      split at hb <;> first | contradiction | skip
      rename_i es _
      cases hi : intsOf es with
      | none => rw [hi] at hb; cases hb
      | some l =>
        rw [hi] at hb
        cases hb
        cases hdv with
        | cons h t =>
          cases t
          cases h with
          | lst h1 h2 =>
            refine cr_sum hc pins s σ H _ us Q I rr ⟨_, l, rfl, ?_, fin rfl fun _ => .int _⟩
            rw [← h2.ints hi]; exact SqL.of h1
    | all =>
      unfold bltD at hb
      split at hb <;> first | contradiction | skip
      rename_i es _
      cases hi : boolsOf es with
      | none => rw [hi] at hb; cases hb
      | some l =>
        rw [hi] at hb
        cases hb
        cases hdv with
        | cons h t =>
          cases t
          cases h with
          | lst h1 h2 =>
            refine cr_all hc pins s σ H _ us Q I rr ⟨_, l, rfl, ?_, fin rfl fun _ => .bl _⟩
            rw [← h2.bools hi]; exact SqL.of h1
    | any =>
      unfold bltD at hb
      split at hb <;> first | contradiction | skip
      rename_i es _
      cases hi : boolsOf es with
      | none => rw [hi] at hb; cases hb
      | some l =>
        rw [hi] at hb
        cases hb
        cases hdv with
        | cons h t =>
          cases t
          cases h with
          | lst h1 h2 =>
            refine cr_any hc pins s σ H _ us Q I rr ⟨_, l, rfl, ?_, fin rfl fun _ => .bl _⟩
            rw [← h2.bools hi]; exact SqL.of h1
    | min =>
      unfold bltD at hb
      split at hb <;> first | contradiction | skip
      · rename_i es _
        cases hi : intsOf es with
        | none => rw [hi] at hb; cases hb
        | some l =>
          rw [hi] at hb
          simp only [Option.bind_some] at hb
          split at hb
          · cases hb
          · rename_i hne
            cases hb
            cases hdv with
            | cons h t =>
              cases t
              cases h with
              | lst h1 h2 =>
                refine cr_min hc pins s σ H _ us Q I rr ⟨_, l, rfl, by rw [← h2.ints hi]; exact SqL.of h1, List.length_pos_iff.mpr hne, fun m q1 q2 => ?_⟩
                rw [minL_spec hne m q1 q2]
                exact fin rfl fun _ => .int _
      · rename_i i j _
        cases hb
        cases hdv with
        | cons h t =>
          cases t with
          | cons h' t' =>
            cases t'; cases h; cases h'
            refine call_min2 hc pins s σ H _ us Q I rr ⟨i, j, rfl, ?_⟩
            have e : (if j < i then j else i) = min i j := by split <;> omega
            rw [e]
            exact fin rfl fun _ => .int _
    | max =>
      unfold bltD at hb
      split at hb <;> first | contradiction | skip
      · rename_i es _
        cases hi : intsOf es with
        | none => rw [hi] at hb; cases hb
        | some l =>
          rw [hi] at hb
          simp only [Option.bind_some] at hb
          split at hb
          · cases hb
          · rename_i hne
            cases hb
            cases hdv with
            | cons h t =>
              cases t
              cases h with
              | lst h1 h2 =>
                refine cr_max hc pins s σ H _ us Q I rr ⟨_, l, rfl, by rw [← h2.ints hi]; exact SqL.of h1, List.length_pos_iff.mpr hne, fun m q1 q2 => ?_⟩
                rw [maxL_spec hne m q1 q2]
                exact fin rfl fun _ => .int _
      · rename_i i j _
        cases hb
        cases hdv with
        | cons h t =>
          cases t with
          | cons h' t' =>
            cases t'; cases h; cases h'
            refine call_max2 hc pins s σ H _ us Q I rr ⟨i, j, rfl, ?_⟩
            have e : (if j > i then j else i) = max i j := by split <;> omega
            rw [e]
            exact fin rfl fun _ => .int _
    | sorted =>
      unfold bltD at hb
      split at hb <;> first | contradiction | skip
      rename_i es _
      split at hb
      · rename_i hok
        cases hb
        obtain ⟨r0, rfl, ev⟩ := views_one hv
        obtain ⟨v, rfl, hr⟩ := rsOne hrs
        obtain ⟨a, xs, rfl, h1, h2⟩ := Rs.viewL w hr ev
        refine cr_sortD hu pins s σ H _ us Q I rr ⟨a, xs, es, rfl, h1, DvAll.up w.sub es xs h2, hok, fun ys p hy hp => ?_⟩
        obtain ⟨a1, a2, a3, a4⟩ := new_own w S (hy G h2) hp
        exact k _ _ _ _ a1 a2 a3 a4
      · cases hb
    | repr =>
      unfold bltD at hb
      split at hb <;> first | contradiction | skip
      rename_i d _
      split at hb
      · rename_i hok
        cases hb
        cases hdv with
        | cons h t =>
          cases t
          exact cr_repr hg hu pins s σ H _ us Q I rr ⟨_, d, rfl, h, hok, fin rfl fun _ => .str _⟩
      · cases hb
    | str =>
      unfold bltD at hb
      split at hb <;> first | contradiction | skip
      rename_i i _
      split at hb
      · rename_i hok
        cases hb
        cases hdv with
        | cons h t =>
          cases t; cases h
          exact call_str_int pins s σ H _ us Q I rr ⟨i, rfl, hok, fin rfl fun _ => .str _⟩
      · cases hb
    | int =>
      unfold bltD at hb
      split at hb <;> first | contradiction | skip
      rename_i b _
      cases hb
      cases hdv with
      | cons h t =>
        cases t; cases h
        exact call_int1 pins s σ H _ us Q I rr (.inr ⟨b, rfl, fin rfl fun _ => .int _⟩)
    | divmod =>
      unfold bltD at hb
      split at hb <;> first | contradiction | skip
      rename_i i j _
      split at hb
      · rename_i hok
        cases hb
        cases hdv with
        | cons h t =>
          cases t with
          | cons h' t' =>
            cases t'; cases h; cases h'
            refine call_divmodW pins s σ H _ us Q I rr ⟨i, j, rfl, ⟨hok.1, PyProof.noPylong_of_log2 (divOk_ok hok.2).2⟩, fun p hp => ?_⟩
            obtain ⟨a1, a2, a3⟩ := new_tup w S (.cons (.int (i / j)) (.cons (.int (i % j)) .nil)) hp
            exact k _ _ _ _ a1 a2 a3 trivial
      · cases hb
end
end Sy

namespace Sy
open PySem PySem.Spec PyProof.Rows L2

/-! ### lists and tuples alike: true for a list -/
def Sq (K : PySem.W.Frag) : Bool → Hp → Addr → List V → Prop
  | true, H, a, xs => SqL K H a xs
  | false, H, a, xs => SqT K H a xs
def IterIs : Bool → Heap → Addr → Addr → Nat → Prop
  | true, h, it, a, i => h.IsListIter it a i
  | false, h, it, a, i => h.IsTupleIter it a i
def SeqIs : Bool → Heap → Addr → Array Value → Prop
  | true, h, a, its => h.IsList a its
  | false, h, a, its => h.IsTuple a its
def iterObj (k : Bool) (a : Addr) : Obj := { cls := .type (if k then "list_iterator" else "tuple_iterator"), data := .fields #[.ref a, .int 0 0] }
section
variable {X : Cx} {pins : List (Addr × Obj)} {σ : L2.St} {H : Hp} {s : Shared} {k k2 : Bool} {a : Addr} {xs ys : List V}
theorem sq_vals (I : Inv X pins σ H s) (h : Sq X.K k H a xs) : ∃ its : List Value, Vals xs its ∧ SeqIs k s.heap a its.toArray := by
  cases k with
  | true => obtain ⟨its, r, p, _⟩ := I.list h; exact ⟨its, r, p.isList⟩
  | false => obtain ⟨its, r, p, _⟩ := I.tuple h; exact ⟨its, r, p⟩
theorem sq_inj (I : Inv X pins σ H s) (h : Sq X.K k H a xs) (h' : Sq X.K k H a ys) : xs = ys := by
  cases k with
  | true => exact I.list_inj h h'
  | false => exact I.tuple_inj h h'
theorem seq_lt {h : Heap} {its : Array Value} (q : SeqIs k h a its) : a < h.objs.size := by
  cases k with
  | true => obtain ⟨o, e, _⟩ := q; exact Heap.lt_size e
  | false => obtain ⟨o, e, _⟩ := q; exact Heap.lt_size e
theorem seq_keep {h h' : Heap} {its : Array Value} (q : SeqIs k h a its) (kp : ∀ o, h.get? a = some o → h'.get? a = some o) : SeqIs k h' a its := by
  cases k with
  | true => obtain ⟨o, e, r⟩ := q; exact ⟨o, kp o e, r⟩
  | false => obtain ⟨o, e, r⟩ := q; exact ⟨o, kp o e, r⟩
theorem iter_keep {h h' : Heap} {it : Addr} {i : Nat} (q : IterIs k h it a i) (kp : ∀ o, h.get? it = some o → h'.get? it = some o) : IterIs k h' it a i := by
  cases k with
  | true => obtain ⟨o, e, r⟩ := q; exact ⟨o, kp o e, r⟩
  | false => obtain ⟨o, e, r⟩ := q; exact ⟨o, kp o e, r⟩
theorem iter_obj {h : Heap} {it : Addr} {i : Nat} (q : IterIs k h it a i) : ∃ o, h.get? it = some o ∧ ∀ v, o.data ≠ .cell v := by
  cases k with
  | true => obtain ⟨o, e, c, d⟩ := q; exact ⟨o, e, fun v z => by rw [d] at z; cases z⟩
  | false => obtain ⟨o, e, c, d⟩ := q; exact ⟨o, e, fun v z => by rw [d] at z; cases z⟩
theorem iter_new {h : Heap} {it : Addr} (e : h.get? it = some (iterObj k a)) : IterIs k h it a 0 := by
  cases k with
  | true => exact ⟨_, e, rfl, rfl⟩
  | false => exact ⟨_, e, rfl, rfl⟩
theorem draws_sq {prog : Program} {w : World} {A : Around} (hh : A.handled = none) (it t : Addr) (hne : t ≠ it) (items : Array Value) :
    Draws prog w A it [it, t] items.size (fun i v => items[i]? = some v) (fun i h => IterIs k h it t i ∧ SeqIs k h t items) := by
  cases k with
  | true => exact Draws.list hh it t hne items
  | false => exact Draws.tuple hh it t hne items
theorem begins_sq (t : Addr) (items : Array Value) : Begins (.ref t) (iterObj k t) fun h => SeqIs k h t items := by
  cases k with
  | true => exact begins_list t items
  | false => exact begins_tuple t items
end

/-! ### zip of any two of them -/
def Itm (K : PySem.W.Frag) (k1 k2 : Bool) (a b : Addr) : It :=
  ⟨fun i H => ∃ (xs ys : List V) (x y : V), Sq K k1 H a xs ∧ Sq K k2 H b ys ∧ xs[i]? = some x ∧ ys[i]? = some y,
   fun i H v H' => ∃ T x y, v = .ref T ∧ H T = none ∧ H' = upd H T (.tup [x, y]) ∧ (∀ xs, Sq K k1 H a xs → xs[i]? = some x) ∧ ∀ ys, Sq K k2 H b ys → ys[i]? = some y,
   fun i H => ∃ xs ys : List V, Sq K k1 H a xs ∧ Sq K k2 H b ys ∧ i ≤ xs.length ∧ i ≤ ys.length ∧ (xs.length = i ∨ ys.length = i)⟩
/-- the five cells of a zip and the two that are walked lie apart -/
structure Apart5 (z TI TO i1 i2 a b : Addr) : Prop where
  S : ZipSep2 z TI TO i1 i2 [i1, a] [i2, b]
  a1 : a ≠ i1
  b1 : b ≠ i2
  zt : z ≠ i1
  zi : z ≠ i2
  ti : TO ≠ i1
  tj : TO ≠ i2
  ii : i1 ≠ i2
theorem turn_zipM {P : Program} {w : World} {K : PySem.W.Frag} {elts : List Expr} {kk : Nat} {tpos : Pos} {k1 k2 : Bool} {a b z TI TO i1 i2 : Addr} (D : Apart5 z TI TO i1 i2 a b) :
    Turn P w K (.Tuple elts kk tpos) (Itm K k1 k2 a b) [z, TI, TO, i1, i2] z (fun i h => IsZip h z TI TO .none ∧ IsTupOf2 h TI (.ref i1) (.ref i2) ∧ (∃ x y, IsTupOf2 h TO x y) ∧ IterIs k1 h i1 a i ∧ IterIs k2 h i2 b i) where
  mem := List.mem_cons_self
  obj := fun i h st c hc => by
    obtain ⟨hz, hTI, ⟨x, y, hTO⟩, q1, q2⟩ := st
    have hc' : c = z ∨ c = TI ∨ c = TO ∨ c = i1 ∨ c = i2 := by simpa using hc
    rcases hc' with rfl | rfl | rfl | rfl | rfl
    · exact ⟨_, hz, fun v q => nomatch q⟩
    · exact ⟨_, hTI, fun v q => nomatch q⟩
    · exact ⟨_, hTO, fun v q => nomatch q⟩
    · exact iter_obj q1
    · exact iter_obj q2
  keep := fun i h h' st kp => by
    obtain ⟨hz, hTI, ⟨x, y, hTO⟩, q1, q2⟩ := st
    exact ⟨kp z (by simp) _ hz, kp TI (by simp) _ hTI, ⟨x, y, kp TO (by simp) _ hTO⟩, iter_keep q1 (kp i1 (by simp)), iter_keep q2 (kp i2 (by simp))⟩
  item := by
    intro X hP hw hK hc i pins s σ H E I hf st hg
    subst hP hw hK
    obtain ⟨hz, hTI, ⟨x0, y0, hTO⟩, q1, q2⟩ := st
    obtain ⟨xs, ys, x, y, hqx, hqy, hx, hy⟩ := hg
    obtain ⟨its, rv, p1⟩ := sq_vals I hqx
    obtain ⟨jts, rw', p2⟩ := sq_vals I hqy
    obtain ⟨u, hu, ru⟩ := rv.get hx
    obtain ⟨v, hv, rv2⟩ := rw'.get hy
    have hi1 : i < its.toArray.size := by simpa using (List.getElem?_eq_some_iff.mp hu).1
    have hi2 : i < jts.toArray.size := by simpa using (List.getElem?_eq_some_iff.mp hv).1
    have hzl : z < s.heap.objs.size := Heap.lt_size hz
    have D1 := draws_sq (prog := X.prog) (w := X.w) (A := X.A.in1) (k := k1) (show X.A.in1.handled = none from I.ok.hd hc) i1 a D.a1 its.toArray
    have D2 := draws_sq (prog := X.prog) (w := X.w) (A := X.A.in1) (k := k2) (show X.A.in1.handled = none from I.ok.hd hc) i2 b D.b1 jts.toArray
    refine wpAny_pyNext_zipD2_item D.S D1 D2 hz hTI hTO ⟨q1, p1⟩ ⟨q2, p2⟩ hi1 hi2
      fun x1 x2 h' tk e1 e2 hz' hTO' r1 r2 hT hsz hk => ?_
    have eu : x1 = u := by
      have h0 : its.toArray[i]? = some u := by simpa using hu
      rw [h0] at e1; exact (Option.some.inj e1).symm
    have ev : x2 = v := by
      have h0 : jts.toArray[i]? = some v := by simpa using hv
      rw [h0] at e2; exact (Option.some.inj e2).symm
    subst eu ev
    refine ⟨_, rfl, wpAny_letOwnedTupleGo_zip (s := { s with heap := h', toks := tk }) hz' fun h2 z2 sb => ?_⟩
    have hT2 : h2.get? s.heap.objs.size = some { cls := .type "tuple", data := .seq #[x1, x2] } := (sb.2 _ (Nat.ne_of_gt hzl)).trans hT
    have new : ObjOk X.prog X.w (upd H s.heap.objs.size (.tup [x, y])) h2 s.heap.objs.size (.tup [x, y]) :=
      ⟨by show 2 ≤ sizeLine; decide, [x1, x2], .cons ru (.cons rv2 .nil), ⟨_, hT2, rfl, _, rfl⟩⟩
    have I1 : Inv X pins σ (upd H s.heap.objs.size (.tup [x, y])) { s with heap := h2, toks := tk } :=
      I.turnedNew (ch := [z, TI, TO, i1, i2]) (fun c o hb q => (sb.2 c fun e => hb (by simp [e])).trans (hk c o (fun e => hb (by simp [e])) (fun e => hb (by simp [e])) (fun e => hb (by simp [e])) (fun e => hb (by simp [e])) q)) hf (Nat.le_refl _) new
    refine ⟨.ref s.heap.objs.size, _, I1, rfl, ⟨_, x, y, rfl, I.hok.fresh (Nat.le_refl _), rfl, fun l hl => by rw [sq_inj I hl hqx]; exact hx, fun l hl => by rw [sq_inj I hl hqy]; exact hy⟩, ⟨z2, ?_, ⟨x1, x2, ?_⟩, ?_, ?_⟩, fun c hcm => ?_⟩
    · exact (sb.2 _ D.S.TIz).trans (hk _ _ D.S.TIz D.S.TITO D.S.TIi1 D.S.TIi2 hTI)
    · exact (sb.2 _ D.S.TOz).trans hTO'
    · exact iter_keep r1.1 fun o q => (sb.2 _ D.zt.symm).trans q
    · exact iter_keep r2.1 fun o q => (sb.2 _ D.zi.symm).trans q
    · have hlt : c < s.heap.objs.size := by
        have hc' : c = z ∨ c = TI ∨ c = TO ∨ c = i1 ∨ c = i2 := by simpa using hcm
        rcases hc' with rfl | rfl | rfl | rfl | rfl
        · exact hzl
        · exact Heap.lt_size hTI
        · exact Heap.lt_size hTO
        · obtain ⟨_, e1, _⟩ := iter_obj q1; exact Heap.lt_size e1
        · obtain ⟨_, e2, _⟩ := iter_obj q2; exact Heap.lt_size e2
      rw [upd_ne (Nat.ne_of_lt hlt)]
      exact (hf c hcm).1
  done := by
    intro X hP hw hK hc i pins s σ H E I hf st hg
    subst hP hw hK
    obtain ⟨hz, hTI, ⟨x0, y0, hTO⟩, q1, q2⟩ := st
    obtain ⟨xs, ys, hqx, hqy, l1, l2, hend⟩ := hg
    obtain ⟨its, rv, p1⟩ := sq_vals I hqx
    obtain ⟨jts, rw', p2⟩ := sq_vals I hqy
    have e1 := rv.length
    have e2 := rw'.length
    have s1 : its.toArray.size = its.length := List.size_toArray ..
    have s2 : jts.toArray.size = jts.length := List.size_toArray ..
    have D1 := draws_sq (prog := X.prog) (w := X.w) (A := X.A.in1) (k := k1) (show X.A.in1.handled = none from I.ok.hd hc) i1 a D.a1 its.toArray
    have D2 := draws_sq (prog := X.prog) (w := X.w) (A := X.A.in1) (k := k2) (show X.A.in1.handled = none from I.ok.hd hc) i2 b D.b1 jts.toArray
    exact wpAny_pyNext_zipD2_end D.S D1 D2 hz hTI hTO ⟨q1, p1⟩ ⟨q2, p2⟩ (by omega) (by omega) (by omega)
      fun h' tk hk => ⟨rfl, I.turnedL (ch := [z, TI, TO, i1, i2]) (fun c o hb q => hk c o (fun e => hb (by simp [e])) (fun e => hb (by simp [e])) (fun e => hb (by simp [e])) (fun e => hb (by simp [e])) q) hf⟩
  self := fun A i s Q E st h => wpAny_pyIter_zip st.1 h

/-! ### enumerate of any of them -/
def Iem (K : PySem.W.Frag) (k : Bool) (a : Addr) : It :=
  ⟨fun i H => ∃ (xs : List V) (x : V), Sq K k H a xs ∧ xs[i]? = some x,
   fun i H v H' => ∃ T x, v = .ref T ∧ H T = none ∧ H' = upd H T (.tup [.int (i : Nat), x]) ∧ ∀ xs, Sq K k H a xs → xs[i]? = some x,
   fun i H => ∃ xs : List V, Sq K k H a xs ∧ xs.length = i⟩
theorem turn_enumM {P : Program} {w : World} {K : PySem.W.Frag} {elts : List Expr} {kk : Nat} {tpos : Pos} {k : Bool} {a e it : Addr} (hei : e ≠ it) (hea : e ≠ a) (hai : a ≠ it) :
    Turn P w K (.Tuple elts kk tpos) (Iem K k a) [e, it] e (fun i h => (∃ old, IsEnum h e it ((i : Nat) : Int) old) ∧ IterIs k h it a i) where
  mem := List.mem_cons_self
  obj := fun i h st c hc => by
    obtain ⟨⟨old, he⟩, q⟩ := st
    have hc' : c = e ∨ c = it := by simpa using hc
    rcases hc' with rfl | rfl
    · exact ⟨_, he, fun v q => nomatch q⟩
    · exact iter_obj q
  keep := fun i h h' st kp => let ⟨⟨old, he⟩, q⟩ := st; ⟨⟨old, kp e (by simp) _ he⟩, iter_keep q (kp it (by simp))⟩
  item := by
    intro X hP hw hK hc i pins s σ H E I hf st hg
    subst hP hw hK
    obtain ⟨⟨old, he⟩, q⟩ := st
    obtain ⟨xs, x, hq, hx⟩ := hg
    obtain ⟨its, rv, p⟩ := sq_vals I hq
    obtain ⟨u, hu, ru⟩ := rv.get hx
    have hi : i < its.toArray.size := by simpa using (List.getElem?_eq_some_iff.mp hu).1
    have hel : e < s.heap.objs.size := Heap.lt_size he
    have D1 := draws_sq (prog := X.prog) (w := X.w) (A := X.A.in1) (k := k) (show X.A.in1.handled = none from I.ok.hd hc) it a hai its.toArray
    refine wpAny_pyNext_enum_itemC D1 he ⟨q, p⟩ hi hei (by simp [hei, hea]) fun x1 h' tk e1 ho r1 hT hsz hk => ?_
    have eu : x1 = u := by
      have h0 : its.toArray[i]? = some u := by simpa using hu
      rw [h0] at e1; exact (Option.some.inj e1).symm
    subst eu
    refine ⟨_, rfl, wpAny_letOwnedTupleGo_enum (s := { s with heap := h', toks := tk + 1 }) ho fun h2 he2 sb => ?_⟩
    have hT2 : h2.get? s.heap.objs.size = some { cls := .type "tuple", data := .seq #[.int i tk, x1] } := (sb.2 _ (Nat.ne_of_gt hel)).trans hT
    have new : ObjOk X.prog X.w (upd H s.heap.objs.size (.tup [.int (i : Nat), x])) h2 s.heap.objs.size (.tup [.int (i : Nat), x]) :=
      ⟨by show 2 ≤ sizeLine; decide, [.int i tk, x1], .cons ⟨_, rfl⟩ (.cons ru .nil), ⟨_, hT2, rfl, _, rfl⟩⟩
    have I1 : Inv X pins σ (upd H s.heap.objs.size (.tup [.int (i : Nat), x])) { s with heap := h2, toks := tk + 1 } :=
      I.turnedNew (ch := [e, it]) (fun c o hb q => (sb.2 c fun z => hb (by simp [z])).trans (hk c o (fun z => hb (by simp [z])) (fun z => hb (by simp [z])) q)) hf (Nat.le_refl _) new
    refine ⟨.ref s.heap.objs.size, _, I1, rfl, ⟨_, x, rfl, I.hok.fresh (Nat.le_refl _), rfl, fun l hl => by rw [sq_inj I hl hq]; exact hx⟩, ⟨⟨x1, ?_⟩, iter_keep r1.1 fun o q => (sb.2 _ hei.symm).trans q⟩, fun c hcm => ?_⟩
    · have e1 : ((i + 1 : Nat) : Int) = (i : Int) + 1 := by omega
      rw [e1]; exact he2
    · have hlt : c < s.heap.objs.size := by
        have hc' : c = e ∨ c = it := by simpa using hcm
        rcases hc' with rfl | rfl
        · exact hel
        · obtain ⟨_, e1, _⟩ := iter_obj q; exact Heap.lt_size e1
      rw [upd_ne (Nat.ne_of_lt hlt)]
      exact (hf c hcm).1
  done := by
    intro X hP hw hK hc i pins s σ H E I hf st hg
    subst hP hw hK
    obtain ⟨xs, hq, hl⟩ := hg
    obtain ⟨its, rv, p⟩ := sq_vals I hq
    have e1 := rv.length
    have s1 : its.toArray.size = its.length := List.size_toArray ..
    have en : i = its.toArray.size := by omega
    subst en
    have D1 := draws_sq (prog := X.prog) (w := X.w) (A := X.A.in1) (k := k) (show X.A.in1.handled = none from I.ok.hd hc) it a hai its.toArray
    have W := WalksT.enumFrom 0 D1 e hei (by simp [hei, hea]) (by simp)
    have st' : (∃ old, IsEnum s.heap e it (0 + ((its.toArray.size : Nat) : Int)) old) ∧ IterIs k s.heap it a its.toArray.size ∧ SeqIs k s.heap a its.toArray := by
      obtain ⟨⟨old, he⟩, q⟩ := st
      exact ⟨⟨old, by rw [Int.zero_add]; exact he⟩, q, p⟩
    exact W.done s _ _ st' fun h' tk hk => ⟨rfl, I.turnedL (ch := [e, it]) hk hf⟩
  self := fun A i s Q E st h => let ⟨⟨_, he⟩, _⟩ := st; wpAny_pyIter_enum he h
theorem meets_enumM {v : Value} {o : Obj} {Hp0 : Heap → Prop} (B : Begins v o Hp0) :
    Meets (Builtin.«enumerate.__new__» ⟨[.type "enumerate", v], []⟩) (fun _ R s => Hp0 s.heap ∧
      R (.ok (.ret (.ref (s.heap.push o).objs.size))) { s with heap := (s.heap.push o).push { cls := .type "enumerate", data := .fields #[.none, .bool false, .ref s.heap.objs.size, rawInt 0, .none, .none] } }) :=
  .of_wp fun prog w A R s h => by
    obtain ⟨hp, g, d, tk, os⟩ := s; obtain ⟨h1, h⟩ := h
    have hsub := sub_enumerate
    have q1 : ∀ {A' : Around} {E : Value → Shared → Prop} {Q : Value → Shared → Prop}, Q (.ref hp.objs.size) ⟨hp.push o, g, d, tk, os⟩ → wpAny (model prog w) A' (pyIter v) Q E ⟨hp, g, d, tk, os⟩ :=
      fun q => B.iter prog w _ _ ⟨hp, g, d, tk, os⟩ _ h1 q
    wp_walk using q1
    refine wpAny_stack_any fun st => wpAny_pure ?_
    split
    · rename_i c _ _ _ _ _
      cases (c == Value.type "enumerate") <;> (wp_walk using q1; exact ⟨_, rfl, h⟩)
    · wp_walk using q1
      exact ⟨_, rfl, h⟩
def iEnumM (K : PySem.W.Frag) (ta : TA) : TI := fun σ H R => ta σ H fun vs H1 => ∃ k a xs, vs = [.ref a] ∧ Sq K k H1 a xs ∧ R (Iem K k a) H1
theorem pi_enumM {X : Cx} {e : Expr} {ta : TA} {p pos tpos : Pos} {elts : List Expr} {kk : Nat} (hg : Gl X "enumerate") (hm : X.mg "enumerate" = none) (ha : PA X [e] ta) (hs : starEach [e] X.env = [(false, eval e X.env)]) :
    PI X (.Tuple elts kk tpos) (.Call (.Name "enumerate" p) [e] [] pos) (iEnumM X.K ta) := ⟨fun pins s σ H R I h => by
  refine Call_ (ld_blt I hg hm boot_enumerate (PyProof.Rows.callWith_type1 (thn (ha.run pos pins s σ H _ I h) fun us s1 ⟨vs, H1, I1, r1, k, a, xs, ex, hq, q⟩ => ?_) hs rfl))
  subst ex
  obtain ⟨u, rfl, ru⟩ := vals1 r1
  cases ru
  obtain ⟨its, rv, pq⟩ := sq_vals I1 hq
  have hal := seq_lt pq
  refine callType_new F.called_enumerate (by decide) (F.typeCall_enumerate_1 _) (F.newCall_enumerate_1 _) (fun obj => F.args_object_init_2 obj _) F.entry_enumerate_new (meets_enumM (begins_sq (k := k) a its.toArray)) ⟨pq, ?_⟩
  have hz : (s1.heap.push (iterObj k a)).objs.size = s1.heap.objs.size + 1 := Heap.size_push ..
  have g1 : ((s1.heap.push (iterObj k a)).push { cls := .type "enumerate", data := .fields #[.none, .bool false, .ref s1.heap.objs.size, rawInt 0, .none, .none] }).get? s1.heap.objs.size = some (iterObj k a) :=
    Heap.get?_push_of_some _ (Heap.get?_push_size _ (by cases k <;> rfl))
  have g2 := Heap.get?_push_size (s1.heap.push (iterObj k a)) (o := { cls := .type "enumerate", data := .fields #[.none, .bool false, .ref s1.heap.objs.size, rawInt 0, .none, .none] }) rfl
  rw [hz] at g2
  show _ ∧ _
  rw [hz]
  refine ⟨⟨_, g2, rfl⟩, wpAny_pyIter_enum (i := ((0 : Nat) : Int)) (old := .none) g2 ?_⟩
  refine ⟨s1.heap.objs.size + 1, [s1.heap.objs.size + 1, s1.heap.objs.size], _, _, H1, rfl, I1.kept (t' := s1.toks) fun b o x => Heap.get?_push_of_some _ (Heap.get?_push_of_some _ x), turn_enumM (k := k) (a := a) (Nat.succ_ne_self _) (Nat.ne_of_gt (Nat.lt_succ_of_lt hal)) (Nat.ne_of_lt hal), ⟨⟨.none, g2⟩, iter_new g1⟩, fun b hb => ?_, q⟩
  have hle : s1.heap.objs.size ≤ b := by
    have hb' : b = s1.heap.objs.size + 1 ∨ b = s1.heap.objs.size := by simpa using hb
    rcases hb' with q | q
    · rw [q]; exact Nat.le_succ _
    · rw [q]; exact Nat.le_refl _
  exact I1.fpOk hle (I1.hok.fresh hle)⟩
theorem addNe {n i : Nat} (h : 0 < i) : n + i ≠ n := by omega
theorem addNe2 {n i j : Nat} (h : i ≠ j) : n + i ≠ n + j := by omega
def iZipM (K : PySem.W.Frag) (ta : TA) : TI := fun σ H R => ta σ H fun vs H1 => ∃ k1 k2 a b xs ys, vs = [.ref a, .ref b] ∧ Sq K k1 H1 a xs ∧ Sq K k2 H1 b ys ∧ R (Itm K k1 k2 a b) H1
theorem pi_zipM {X : Cx} {e e2 : Expr} {ta : TA} {p pos tpos : Pos} {elts : List Expr} {kk : Nat} (hg : Gl X "zip") (hm : X.mg "zip" = none) (ha : PA X [e, e2] ta)
    (hs : starEach [e, e2] X.env = (false, eval e X.env) :: starEach [e2] X.env) (hpl : (backTo pos (starEach [e2] X.env)).any (·.1) = false) :
    PI X (.Tuple elts kk tpos) (.Call (.Name "zip" p) [e, e2] [] pos) (iZipM X.K ta) := ⟨fun pins s σ H R I h => by
  refine Call_ (ld_blt I hg hm PyProof.Rows.boot_zip (PyProof.Rows.callWith_type1 (thn (ha.run pos pins s σ H _ I h) fun us s1 ⟨vs, H1, I1, r1, k1, k2, a, b, xs, ys, ex, hqx, hqy, q⟩ => ?_) hs hpl))
  subst ex
  obtain ⟨u, u2, rfl, ru, ru2⟩ := vals2 r1
  cases ru
  cases ru2
  obtain ⟨its, rv, p1⟩ := sq_vals I1 hqx
  obtain ⟨jts, rw', p2⟩ := sq_vals I1 hqy
  have hal := seq_lt p1
  have hbl := seq_lt p2
  refine zip_begins2 (begins_sq (k := k1) a its.toArray) (begins_sq (k := k2) b jts.toArray) p1 p2 fun h' hz hTI hTO g1 g2 hsz hk => wpAny_pyIter_zip hz ?_
  have D : Apart5 (s1.heap.objs.size + 4) (s1.heap.objs.size + 2) (s1.heap.objs.size + 3) s1.heap.objs.size (s1.heap.objs.size + 1) a b :=
    ⟨zip_sep2 (fun c hc => by rw [List.mem_singleton.mp hc]; exact hal) (fun c hc => by rw [List.mem_singleton.mp hc]; exact hbl), Nat.ne_of_lt hal, Nat.ne_of_lt (Nat.lt_succ_of_lt hbl), addNe (by decide), addNe2 (by decide), addNe (by decide), addNe2 (by decide), Nat.ne_of_lt (Nat.lt_succ_self _)⟩
  refine ⟨s1.heap.objs.size + 4, [s1.heap.objs.size + 4, s1.heap.objs.size + 2, s1.heap.objs.size + 3, s1.heap.objs.size, s1.heap.objs.size + 1], _, _, H1, rfl, I1.kept (t' := s1.toks) hk, turn_zipM (k1 := k1) (k2 := k2) D, ⟨hz, hTI, ⟨_, _, hTO⟩, iter_new g1, iter_new g2⟩, fun c hc => ?_, q⟩
  have hle : s1.heap.objs.size ≤ c := by
    have hc' : c = s1.heap.objs.size + 4 ∨ c = s1.heap.objs.size + 2 ∨ c = s1.heap.objs.size + 3 ∨ c = s1.heap.objs.size ∨ c = s1.heap.objs.size + 1 := by simpa using hc
    rcases hc' with q | q | q | q | q <;> (rw [q]; first | exact Nat.le_refl _ | exact Nat.le_add_right _ _)
  exact I1.fpOk hle (I1.hok.fresh hle)⟩
section
variable {K : PySem.W.Frag} {a b : Addr} {xs ys : List V} {k k1 k2 : Bool}
theorem walk_sqE : Walk (Iem K k a) xs.length (fun H => Sq K k H a xs) (YPair (fun i => some (.int (i : Nat))) (fun i => xs[i]?)) :=
  ⟨fun i _ hi q => ⟨xs, xs[i], q, List.getElem?_eq_getElem hi⟩, fun _ q => ⟨xs, q, rfl⟩, fun i H v H' _ q ⟨T, x, h1, h2, h3, h4⟩ => ⟨T, _, x, h1, h2, h3, rfl, h4 xs q⟩⟩
theorem walk_sqZ : Walk (Itm K k1 k2 a b) (min xs.length ys.length) (fun H => Sq K k1 H a xs ∧ Sq K k2 H b ys) (YPair (fun i => xs[i]?) (fun i => ys[i]?)) :=
  ⟨fun i _ hi q => ⟨xs, ys, xs[i]'(by omega), ys[i]'(by omega), q.1, q.2, List.getElem?_eq_getElem _, List.getElem?_eq_getElem _⟩, fun _ q => ⟨xs, ys, q.1, q.2, by omega, by omega, by omega⟩,
    fun i H v H' _ q ⟨T, x, y, h1, h2, h3, h4, h5⟩ => ⟨T, x, y, h1, h2, h3, h4 xs q.1, h5 ys q.2⟩⟩
end
end Sy

namespace Sy
open PySem PySem.Spec PyProof.Rows L2

/-! ### what is walked -/
/-- what a walk may lean on: (true) all that was there but the boxes, (false) what lasts -/
def Per (m : Bool) (G H : Hp) (ph : List Addr) (G' H' : Hp) (ph' : List Addr) : Prop := if m = true then Stp G H ph G' H' ph' else ∀ a o, G a = some o → G' a = some o
theorem Per.up {m : Bool} {G H G' H' : Hp} {ph ph' : List Addr} (p : Per m G H ph G' H' ph') : ∀ a o, G a = some o → G' a = some o := by
  cases m with
  | true => exact (show Stp G H ph G' H' ph' from p).g
  | false => exact p
def Lk (K : PySem.W.Frag) (m : Bool) (G H : Hp) (ph : List Addr) (v : V) (d : PyData) : Prop := ∀ ds, seqItems d = some ds → ∃ k a vs, v = .ref a ∧ DvAll K G vs ds ∧ Sq K k H a vs ∧
  ∀ G' H' ph', (∀ a o, G' a = some o → H' a = some o) → Per m G H ph G' H' ph' → Sq K k H' a vs
def LkAll (K : PySem.W.Frag) (m : Bool) (G H : Hp) (ph : List Addr) : List V → List PyData → Prop
  | [], [] => True
  | v :: vs, d :: ds => Lk K m G H ph v d ∧ LkAll K m G H ph vs ds
  | _, _ => False
def looks (m : Bool) : List R → Option (List PyData)
  | [] => some []
  | r :: rs => match r.look m, looks m rs with
    | some d, some ds => some (d :: ds)
    | _, _ => none
section
variable {K : PySem.W.Frag} {G0 H0 G H : Hp} {ph0 ph : List Addr} {st : Bx} {m : Bool}
theorem Lk.ofDv (sub : ∀ a o, G a = some o → H a = some o) {v : V} {d : PyData} (h : Dv K G v d) : Lk K m G H ph v d := fun ds e => by
  cases h with
  | lst h1 h2 =>
    cases e
    exact ⟨true, _, _, rfl, h2, SqL.of (sub _ _ h1), fun G' H' ph' sb p => SqL.of (sb _ _ (p.up _ _ h1))⟩
  | tup h1 h2 =>
    cases e
    exact ⟨false, _, _, rfl, h2, SqT.up sub h1, fun G' H' ph' sb p => SqT.up sb (SqT.up p.up h1)⟩
  | _ => cases e
theorem LkAll.ofDv (sub : ∀ a o, G a = some o → H a = some o) : ∀ {ds : List PyData} {vs : List V}, DvAll K G vs ds → LkAll K m G H ph vs ds
  | _, _, .nil => trivial
  | _, _, .cons h t => ⟨Lk.ofDv sub h, LkAll.ofDv sub t⟩
theorem looks_cap : ∀ {rs : List R}, looks false rs = caps rs
  | [] => rfl
  | r :: rs => by
    unfold looks caps
    rw [looks_cap]
    rfl
theorem looks_view (w : Wd K G H ph st) : ∀ {rs : List R} {vs : List V} {ds : List PyData}, RsAll K G H ph rs vs → looks true rs = some ds → LkAll K true G H ph vs ds
  | [], [], ds, _, e => by cases (show some [] = some ds from e); trivial
  | [], _ :: _, _, h, _ => h.elim
  | _ :: _, [], _, h, _ => h.elim
  | r :: rs, v :: vs, ds, ⟨h, t⟩, e => by
    unfold looks at e
    split at e
    · rename_i d ds' e1 e2
      cases e
      refine ⟨?_, looks_view w t e2⟩
      have e1' : r.view = some d := e1
      have lst : ∀ {ds0 : List PyData}, d = .list ds0 → (∃ a us, v = .ref a ∧ H a = some (.lst us) ∧ G a = none ∧ a ∉ ph ∧ DvAll K G us ds0) → Lk K true G H ph v d := fun {ds0} ed ⟨a, us, ev, h1, h2, h3, h4⟩ ds2 e3 => by
        subst ed
        cases e3
        exact ⟨true, a, us, ev, h4, SqL.of h1, fun G' H' ph' sb p => SqL.of ((show Stp G H ph G' H' ph' from p).fr a _ h1 h3)⟩
      cases r with
      | dat d0 => cases e1'; exact Lk.ofDv w.sub h
      | own d0 => cases e1'; exact lst rfl h
      | brw d0 => cases e1'; exact lst rfl h
      | ref n => cases e1'
      | scr n => cases e1'
    · cases e
theorem looks_ok {rs : List R} {vs : List V} {ds : List PyData} (s : Stp G0 H0 ph0 G H ph) (w : Wd K G H ph st) (h : RsAll K G H ph rs vs) (f : FrL H0 rs vs) (e : looks m rs = some ds) :
    ∃ G2, Wd K G2 H ph st ∧ Stp G0 H0 ph0 G2 H ph ∧ LkAll K m G2 H ph vs ds := by
  cases m with
  | true => exact ⟨G, w, s, looks_view w h e⟩
  | false =>
    rw [looks_cap] at e
    obtain ⟨G2, w2, s2, h2, _⟩ := caps_ok s w h f e
    exact ⟨G2, w2, s2, LkAll.ofDv w2.sub h2⟩
/-- J goes over the items for as long as what it leans on stands -/
def WkI (K : PySem.W.Frag) (m : Bool) (J : It) (G H : Hp) (ph : List Addr) (items : List PyData) : Prop :=
  ∃ (Gc : Hp → Prop) (Y : Nat → Hp → V → Hp → Prop), Walk J items.length Gc Y ∧ (∀ G' H' ph', (∀ a o, G' a = some o → H' a = some o) → Per m G H ph G' H' ph' → Gc H') ∧
    ∀ (i : Nat) x H2 H3 d G2 ph2 st2, items[i]? = some d → Wd K G2 H2 ph2 st2 → Per m G H ph G2 H2 ph2 → Y i H2 x H3 → ∃ G3, Wd K G3 H3 ph2 st2 ∧ Stp G2 H2 ph2 G3 H3 ph2 ∧ Dv K G3 x d
def tI (K : PySem.W.Frag) (m : Bool) (d : En → Bx → Option (List PyData × Bx)) : TI := fun σ H R =>
  ∃ (G : Hp) (ph : List Addr) (env : En) (st : Bx) (items : List PyData) (st' : Bx), Ev K G H ph env st σ ∧ d env st = some (items, st') ∧
    ∀ J H' G' ph', Wd K G' H' ph' st' → Stp G H ph G' H' ph' → WkI K m J G' H' ph' items → R J H'
end
theorem piW {X : Cx} {tg e : Expr} {t t' : TI} (h : PI X tg e t) (w : ∀ σ H R, t' σ H R → t σ H R) : PI X tg e t' := ⟨fun pins s σ H R I q => h.run pins s σ H R I (w σ H R q)⟩
section
variable {X : Cx} {cf : Cf} {m : Bool}
/-! a list or a tuple -/
def itSq (K : PySem.W.Frag) : Bool → Addr → It
  | true, a => Itl K a
  | false, a => Itt K a
theorem walk_sq {K : PySem.W.Frag} {k : Bool} {a : Addr} {xs : List V} : Walk (itSq K k a) xs.length (fun H => Sq K k H a xs) (YAt xs) := by
  cases k with
  | true => exact walk_list
  | false => exact walk_tup
def iSq (K : PySem.W.Frag) (tl : TE) : TI := fun σ H R => tl σ H fun x H1 => ∃ k a xs, x = .ref a ∧ Sq K k H1 a xs ∧ R (itSq K k a) H1
theorem pi_sq {tg l : Expr} {tl : TE} (hl : PE X l tl) : PI X tg l (iSq X.K tl) := ⟨fun pins s σ H R I h => by
  refine thn (hl.run pins s σ H _ I h) fun v s1 ⟨x, H1, I1, r1, k, a, xs, e, hq, q⟩ => ?_
  subst e
  cases r1
  obtain ⟨its, rv, p⟩ := sq_vals I1 hq
  refine (begins_sq (k := k) a its.toArray).iter _ _ _ _ _ _ p ?_
  have g1 : (s1.heap.push (iterObj k a)).get? s1.heap.objs.size = some (iterObj k a) := Heap.get?_push_size _ (by cases k <;> rfl)
  cases k with
  | true => exact pi_one (tk := s1.toks) I1 _ (turn_list a _) ⟨_, g1, rfl, rfl⟩ q
  | false => exact pi_one (tk := s1.toks) I1 _ (turn_tuple a _) ⟨_, g1, rfl, rfl⟩ q⟩
theorem ok_seq {tg a : Expr} {ea : Ex} (ha : PE X a (tE X.K (ea.den cf))) : PI X tg a (tI X.K m ((Itx.seq ea).den cf m)) :=
  piW (pi_sq ha) fun σ H R ⟨G, ph, env, st, items, st', E, e, k⟩ => by
    simp only [Itx.den] at e
    split at e
    · rename_i x st1 e1
      cases hl : x.look m with
      | none => rw [hl] at e; cases e
      | some d =>
        rw [hl] at e
        simp only [Option.bind_some] at e
        cases hs : seqItems d with
        | none => rw [hs] at e; cases e
        | some ds =>
          rw [hs] at e
          cases e
          refine ⟨G, ph, env, st, x, _, E, e1, fun v H1 G1 ph1 w1 s1 r1 f1 => ?_⟩
          obtain ⟨G2, w2, s2, h2⟩ := looks_ok (m := m) (rs := [x]) (vs := [v]) (ds := [d]) s1 w1 ⟨r1, trivial⟩ ⟨f1, fun _ _ _ _ => by unfold NoAt; trivial, by unfold FrL; trivial⟩ (by unfold looks looks; rw [hl])
          obtain ⟨k0, a0, vs, ev, hd, hq, hp⟩ := h2.1 _ hs
          refine ⟨k0, a0, vs, ev, hq, k _ H1 G2 ph1 w2 s2 ?_⟩
          refine ⟨_, _, (by rw [← hd.len]; exact walk_sq), fun G' H' ph' sb p => hp G' H' ph' sb p, fun i y H2 H3 d0 G3 ph3 st3 hi w3 p3 y3 => ?_⟩
          obtain ⟨eH, ey⟩ := y3
          subst eH
          obtain ⟨z, hz, hdz⟩ := hd.get hi
          rw [hz] at ey
          cases ey
          exact ⟨G3, w3, Stp.refl, Dv.up p3.up d0 _ hdz⟩
    · cases e
/-! ranges -/
theorem rngItems_len (lo : Int) (n : Nat) : (rngItems lo n).length = n := by unfold rngItems; rw [List.length_map, List.length_range]
theorem rng_walk {K : PySem.W.Frag} {G H : Hp} {ph : List Addr} {lo : Int} {n : Nat} : WkI K m (Itr lo n) G H ph (rngItems lo n) := by
  refine ⟨_, _, (by rw [rngItems_len]; exact walk_range), fun _ _ _ _ _ => trivial, fun i x H2 H3 d G2 ph2 st2 hi w2 p2 y2 => ?_⟩
  obtain ⟨eH, ex⟩ := y2
  subst eH ex
  have hl := (List.getElem?_eq_some_iff.mp hi).1
  rw [rngItems_len] at hl
  unfold rngItems at hi
  rw [List.getElem?_map, List.getElem?_range hl] at hi
  cases hi
  exact ⟨G2, w2, Stp.refl, .int _⟩
theorem rngOk_ok {i : Int} (h : rngOk i = true) : -(2 ^ 62) ≤ i ∧ i < 2 ^ 62 := by
  have h : i.natAbs.log2 < 61 := of_decide_eq_true h
  by_cases h0 : i.natAbs = 0
  · omega
  · have := (Nat.log2_lt h0).mp h
    omega
theorem rng_den {es : Exs} {env : En} {st : Bx} {items : List PyData} {st' : Bx} (h : (Itx.rng es).den cf m env st = some (items, st')) :
    ∃ rs l, es.den cf env st = some (rs, st') ∧ (∃ ds, views rs = some ds ∧ intsOf ds = some l) ∧ rngD l = some items := by
  simp only [Itx.den] at h
  split at h
  · rename_i rs st1 e1
    cases hv : views rs with
    | none => rw [hv] at h; cases h
    | some ds =>
      rw [hv] at h
      simp only [Option.bind_some] at h
      cases hi : intsOf ds with
      | none => rw [hi] at h; cases h
      | some l =>
        rw [hi] at h
        simp only [Option.bind_some] at h
        cases hr : rngD l with
        | none => rw [hr] at h; cases h
        | some its =>
          rw [hr] at h
          cases h
          exact ⟨rs, l, e1, ⟨ds, hv, hi⟩, hr⟩
  · cases h
theorem den_one {ea : Ex} {env : En} {st st' : Bx} {rs : List R} (h : (Exs.cons ea .nil).den cf env st = some (rs, st')) : ∃ x, rs = [x] := by
  simp only [Exs.den] at h
  split at h
  · cases h; exact ⟨_, rfl⟩
  · cases h
theorem den_two {ea eb : Ex} {env : En} {st st' : Bx} {rs : List R} (h : (Exs.cons ea (.cons eb .nil)).den cf env st = some (rs, st')) : ∃ x y, rs = [x, y] := by
  simp only [Exs.den] at h
  split at h
  · split at h
    · rename_i e2
      cases h
      split at e2
      · cases e2; exact ⟨_, _, rfl⟩
      · cases e2
    · cases h
  · cases h
theorem ok_rng1 {tg a : Expr} {p pos : Pos} {ea : Ex} (hg : Gl X "range") (hm : X.mg "range" = none) (ha : PA X [a] (tAs X.K ((Exs.cons ea .nil).den cf))) (hs : starEach [a] X.env = [(false, eval a X.env)]) : PI X tg (.Call (.Name "range" p) [a] [] pos) (tI X.K m ((Itx.rng (.cons ea .nil)).den cf m)) := by
  refine ⟨fun pins s σ H R I ⟨G, ph, env, st, items, st', E, e, k⟩ => ?_⟩
  obtain ⟨rs, l, e1, ⟨ds, hv, hi⟩, hr⟩ := rng_den e
  refine (pi_range1 hg hm ha hs).run pins s σ H R I ⟨G, ph, env, st, rs, st', E, e1, fun vs H1 G1 ph1 w1 s1 r1 f1 => ?_⟩
  have hd := (views_ok w1 r1 hv).ints hi
  subst hd
  obtain ⟨x, rfl⟩ := den_one e1
  have hl := r1.len
  rw [List.length_map] at hl
  match l, hl with
  | [j], _ =>
    have hr' : (if rngOk j = true then some (rngItems 0 j.toNat) else none) = some items := hr
    split at hr'
    · rename_i c
      cases hr'
      have c' := rngOk_ok c
      exact ⟨_, rfl, c'.1, c'.2, k _ H1 G1 ph1 w1 s1 rng_walk⟩
    · cases hr'
theorem ok_rng2 {tg a b : Expr} {p pos : Pos} {ea eb : Ex} (hg : Gl X "range") (hm : X.mg "range" = none) (ha : PA X [a, b] (tAs X.K ((Exs.cons ea (.cons eb .nil)).den cf))) (hs : starEach [a, b] X.env = [(false, eval a X.env), (false, eval b X.env)]) (hs2 : starEach [b] X.env = [(false, eval b X.env)]) :
    PI X tg (.Call (.Name "range" p) [a, b] [] pos) (tI X.K m ((Itx.rng (.cons ea (.cons eb .nil))).den cf m)) := by
  refine ⟨fun pins s σ H R I ⟨G, ph, env, st, items, st', E, e, k⟩ => ?_⟩
  obtain ⟨rs, l, e1, ⟨ds, hv, hi⟩, hr⟩ := rng_den e
  refine (pi_range2 hg hm ha hs hs2).run pins s σ H R I ⟨G, ph, env, st, rs, st', E, e1, fun vs H1 G1 ph1 w1 s1 r1 f1 => ?_⟩
  have hd := (views_ok w1 r1 hv).ints hi
  subst hd
  obtain ⟨x, y, rfl⟩ := den_two e1
  have hl := r1.len
  rw [List.length_map] at hl
  match l, hl with
  | [i, j], _ =>
    have hr' : (if (rngOk i && rngOk j) = true then some (rngItems i (j - i).toNat) else none) = some items := hr
    split at hr'
    · rename_i c
      cases hr'
      have c1 := rngOk_ok (Bool.and_eq_true_iff.mp c).1
      have c2 := rngOk_ok (Bool.and_eq_true_iff.mp c).2
      exact ⟨_, _, rfl, ⟨c1.1, c1.2, c2.1, c2.2⟩, k _ H1 G1 ph1 w1 s1 rng_walk⟩
    · cases hr'
/-! zip, enumerate -/
theorem zipD_len (xs ys : List PyData) : (zipD xs ys).length = min xs.length ys.length := by unfold zipD; rw [List.length_map, List.length_zip]
theorem zipD_get {xs ys : List PyData} {i : Nat} {d : PyData} (h : (zipD xs ys)[i]? = some d) : ∃ x y, xs[i]? = some x ∧ ys[i]? = some y ∧ d = .tuple [x, y] := by
  unfold zipD at h
  rw [List.getElem?_map] at h
  cases e : (xs.zip ys)[i]? with
  | none => rw [e] at h; cases h
  | some p =>
    rw [e] at h
    cases h
    rw [List.getElem?_zip_eq_some] at e
    exact ⟨p.1, p.2, e.1, e.2, rfl⟩
theorem enumD_len (xs : List PyData) : (enumD xs).length = xs.length := by unfold enumD; rw [List.length_map, List.length_zipIdx]
theorem enumD_get {xs : List PyData} {i : Nat} {d : PyData} (h : (enumD xs)[i]? = some d) : ∃ x, xs[i]? = some x ∧ d = .tuple [.int (i : Int), x] := by
  unfold enumD at h
  rw [List.getElem?_map, List.getElem?_zipIdx] at h
  cases e : xs[i]? with
  | none => rw [e] at h; cases h
  | some p =>
    rw [e] at h
    cases h
    exact ⟨p, rfl, by simp⟩
/-- a new pair -/
theorem pair_new {K : PySem.W.Frag} {G H H3 : Hp} {ph : List Addr} {st : Bx} {x y v : V} {d e : PyData} (w : Wd K G H ph st) (hx : Dv K G x d) (hy : Dv K G y e) (h : ∃ T, v = .ref T ∧ H T = none ∧ H3 = upd H T (.tup [x, y])) :
    ∃ G3, Wd K G3 H3 ph st ∧ Stp G H ph G3 H3 ph ∧ Dv K G3 v (.tuple [d, e]) := by
  obtain ⟨T, rfl, hT, rfl⟩ := h
  obtain ⟨a1, a2, a3⟩ := new_tup w (Stp.refl (H := H) (ph := ph)) (.cons hx (.cons hy .nil)) hT
  exact ⟨_, a1, a2, a3⟩
theorem ok_zip {a b : Expr} {ea eb : Ex} {p pos tpos : Pos} {elts : List Expr} {kk : Nat} (hg : Gl X "zip") (hm : X.mg "zip" = none) (ha : PA X [a, b] (tAs X.K ((Exs.cons ea (.cons eb .nil)).den cf)))
    (hs : starEach [a, b] X.env = (false, eval a X.env) :: starEach [b] X.env) (hpl : (backTo pos (starEach [b] X.env)).any (·.1) = false) : PI X (.Tuple elts kk tpos) (.Call (.Name "zip" p) [a, b] [] pos) (tI X.K m ((Itx.zip ea eb).den cf m)) :=
  piW (pi_zipM hg hm ha hs hpl) fun σ H R ⟨G, ph, env, st, items, st', E, e, k⟩ => by
    simp only [Itx.den] at e
    split at e
    · rename_i x st1 e1
      split at e
      · rename_i y st2 e2
        split at e
        · rename_i xs ys q1 q2
          cases e
          have L : ∃ d1 d2, x.look m = some d1 ∧ seqItems d1 = some xs ∧ y.look m = some d2 ∧ seqItems d2 = some ys := by
            cases h1 : x.look m with
            | none => rw [h1] at q1; cases q1
            | some d1 =>
              cases h2 : y.look m with
              | none => rw [h2] at q2; cases q2
              | some d2 =>
                rw [h1] at q1
                rw [h2] at q2
                exact ⟨d1, d2, rfl, q1, rfl, q2⟩
          obtain ⟨d1, d2, l1, s1', l2, s2'⟩ := L
          refine ⟨G, ph, env, st, [x, y], st', E, by simp only [Exs.den, e1, e2], fun vs H1 G1 ph1 w1 s1 r1 f1 => ?_⟩
          obtain ⟨G2, w2, S2, hk⟩ := looks_ok (m := m) (ds := [d1, d2]) s1 w1 r1 f1 (by unfold looks looks looks; rw [l1, l2])
          match vs, hk with
          | [v1, v2], ⟨k1, k2, _⟩ =>
            obtain ⟨b1, a1, us1, ev1, hd1, hq1, hp1⟩ := k1 _ s1'
            obtain ⟨b2, a2, us2, ev2, hd2, hq2, hp2⟩ := k2 _ s2'
            subst ev1 ev2
            refine ⟨b1, b2, a1, a2, us1, us2, rfl, hq1, hq2, k _ H1 G2 ph1 w2 S2 ?_⟩
            refine ⟨fun H => Sq X.K b1 H a1 us1 ∧ Sq X.K b2 H a2 us2, _, (by rw [zipD_len, ← hd1.len, ← hd2.len]; exact walk_sqZ), fun G' H' ph' sb p => ⟨hp1 G' H' ph' sb p, hp2 G' H' ph' sb p⟩, fun i z H2 H3 d0 G3 ph3 st3 hi w3 p3 y3 => ?_⟩
            obtain ⟨dx, dy, gx, gy, rfl⟩ := zipD_get hi
            obtain ⟨T, vx, vy, t1, t2, t3, t4, t5⟩ := y3
            obtain ⟨z1, hz1, hdz1⟩ := hd1.get gx
            obtain ⟨z2, hz2, hdz2⟩ := hd2.get gy
            have t4 : us1[i]? = some vx := t4
            have t5 : us2[i]? = some vy := t5
            rw [hz1] at t4
            rw [hz2] at t5
            cases t4
            cases t5
            exact pair_new w3 (Dv.up p3.up _ _ hdz1) (Dv.up p3.up _ _ hdz2) ⟨T, t1, t2, t3⟩
        · cases e
      · cases e
    · cases e
theorem ok_enum {a : Expr} {ea : Ex} {p pos tpos : Pos} {elts : List Expr} {kk : Nat} (hg : Gl X "enumerate") (hm : X.mg "enumerate" = none) (ha : PA X [a] (tAs X.K ((Exs.cons ea .nil).den cf))) (hs : starEach [a] X.env = [(false, eval a X.env)]) :
    PI X (.Tuple elts kk tpos) (.Call (.Name "enumerate" p) [a] [] pos) (tI X.K m ((Itx.enum ea).den cf m)) :=
  piW (pi_enumM hg hm ha hs) fun σ H R ⟨G, ph, env, st, items, st', E, e, k⟩ => by
    simp only [Itx.den] at e
    split at e
    · rename_i x st1 e1
      cases hl : x.look m with
      | none => rw [hl] at e; cases e
      | some d =>
        rw [hl] at e
        simp only [Option.bind_some] at e
        cases hsq : seqItems d with
        | none => rw [hsq] at e; cases e
        | some ds =>
          rw [hsq] at e
          cases e
          refine ⟨G, ph, env, st, [x], st', E, by simp only [Exs.den, e1], fun vs H1 G1 ph1 w1 s1 r1 f1 => ?_⟩
          obtain ⟨G2, w2, S2, hk⟩ := looks_ok (m := m) (ds := [d]) s1 w1 r1 f1 (by unfold looks looks; rw [hl])
          match vs, hk with
          | [v1], ⟨k1, _⟩ =>
            obtain ⟨b1, a1, us1, ev1, hd1, hq1, hp1⟩ := k1 _ hsq
            subst ev1
            refine ⟨b1, a1, us1, rfl, hq1, k _ H1 G2 ph1 w2 S2 ?_⟩
            refine ⟨_, _, (by rw [enumD_len, ← hd1.len]; exact walk_sqE), fun G' H' ph' sb p => hp1 G' H' ph' sb p, fun i z H2 H3 d0 G3 ph3 st3 hi w3 p3 y3 => ?_⟩
            obtain ⟨dx, gx, rfl⟩ := enumD_get hi
            obtain ⟨T, vx, vy, t1, t2, t3, t4, t5⟩ := y3
            obtain ⟨z1, hz1, hdz1⟩ := hd1.get gx
            have t5 : us1[i]? = some vy := t5
            rw [hz1] at t5
            cases t4
            cases t5
            exact pair_new w3 (.int _) (Dv.up p3.up _ _ hdz1) ⟨T, t1, t2, t3⟩
    · cases e

/-! ### isinstance -/
def tyName : Ty → String
  | .int => "int" | .bool => "bool" | .str => "str" | .list => "list" | .tuple => "tuple"
def kindOfD : PyData → String
  | .none => "NoneType" | .bool _ => "bool" | .int _ => "int" | .str _ => "str" | .list _ => "list" | .tuple _ => "tuple" | .dict _ => "dict"
theorem dv_ty {K : PySem.W.Frag} {H : Hp} {v : V} {d : PyData} (h : Dv K H v d) : TyX K H v (.type (kindOfD d)) := by
  cases h with
  | non => exact .base .non
  | bl b => exact .base (.bl b)
  | int i => exact .base (.int i)
  | str x => exact .base (.str x)
  | lst h1 h2 => exact .base (.lst h1)
  | tup h1 h2 =>
    rcases h1 with (h1 | ⟨o, h1⟩) | ⟨o, its, n, h1, h2, _⟩
    · exact .base (.tup h1)
    · exact .fTuple h1
    · exact .kTuple h1 h2
theorem kit_isi (t : Ty) (d : PyData) : kitB (kindOfD d) (tyName t) = some (isiD t d) := by
  cases t <;> cases d <;> simp only [kindOfD, tyName, isiD] <;> decide +kernel
theorem ok_isi {a : Expr} {ea : Ex} {p p2 pos : Pos} (t : Ty) (gi : Gl X "isinstance") (mi : X.mg "isinstance" = none) (gt : Gl X (Str.ofString (tyName t))) (mt : X.mg (Str.ofString (tyName t)) = none) (ha : PE X a (tE X.K (ea.den cf)))
    (hs : starEach [a, .Name (Str.ofString (tyName t)) p2] X.env = (false, eval a X.env) :: starEach [.Name (Str.ofString (tyName t)) p2] X.env) : PE X (.Call (.Name "isinstance" p) [a, .Name (Str.ofString (tyName t)) p2] [] pos) (tE X.K ((Ex.isi ea t).den cf)) := by
  have hb : ∀ t : Ty, bootBuiltins (Str.ofString (tyName t)) = some (.type (tyName t)) := fun t => by cases t <;> decide +kernel
  have hn : ∀ t : Ty, Str.ofString (tyName t) ≠ "__name__" := fun t => by cases t <;> decide +kernel
  have hd : ∀ t : Ty, (Str.ofString (tyName t) == ("__debug__" : Str)) = false := fun t => by cases t <;> decide +kernel
  refine peW (pe_callB call_isi gi mi PyProof.Rows.boot_isinstance (pa_cons ha (pa_cons (pe_bltn (v := .ty (tyName t)) gt mt (hb t) rfl (hn t) (hd t)) pa_nil) hs) (he := hs)) fun σ H Q ⟨G, ph, env, st, r, st', E, e, k⟩ => ?_
  simp only [Ex.den] at e
  split at e
  · rename_i x st1 e1
    split at e
    · rename_i d hv
      cases e
      refine ⟨G, ph, env, st, x, _, E, e1, fun v H1 G1 ph1 w1 s1 r1 f1 => ?_⟩
      exact ⟨v, .ty (tyName t), _, _, isiD t d, rfl, .ty _, dv_ty (Rs.view w1 r1 hv), kit_ty (kit_isi t d), k _ H1 G1 ph1 w1 s1 (.bl _) trivial⟩
    · cases e
  · cases e
end
end Sy

namespace Sy
open PySem PySem.Spec PyProof.Rows L2

/-! ### targets -/
/-- names of ix are given data -/
inductive Ud (K : PySem.W.Frag) (G : Hp) (ix : List Nat) (env : En) (σ : L2.St) : En → L2.St → Prop
  | refl : Ud K G ix env σ env σ
  | set {env' : En} {σ' : L2.St} {i : Nat} {v : V} {d : PyData} : Ud K G ix env σ env' σ' → i ∈ ix → Dv K G v d → Ud K G ix env σ (env'.set i (some (.dat d))) (σ'.set i (some v))
theorem Ud.mono {K : PySem.W.Frag} {G : Hp} {ix ix' : List Nat} {env env' : En} {σ σ' : L2.St} (h : Ud K G ix env σ env' σ') (s : ∀ i ∈ ix, i ∈ ix') : Ud K G ix' env σ env' σ' := by
  induction h with
  | refl => exact .refl
  | set _ hi hd ih => exact .set ih (s _ hi) hd
theorem Ud.trans {K : PySem.W.Frag} {G : Hp} {ix : List Nat} {env env1 env2 : En} {σ σ1 σ2 : L2.St} (h : Ud K G ix env σ env1 σ1) (q : Ud K G ix env1 σ1 env2 σ2) : Ud K G ix env σ env2 σ2 := by
  induction q with
  | refl => exact h
  | set _ hi hd ih => exact .set ih hi hd
theorem Ud.len {K : PySem.W.Frag} {G : Hp} {ix : List Nat} {env env1 : En} {σ σ1 : L2.St} (h : Ud K G ix env σ env1 σ1) : env1.length = env.length ∧ σ1.length = σ.length := by
  induction h with
  | refl => exact ⟨rfl, rfl⟩
  | set _ hi hd ih => rw [List.length_set, List.length_set]; exact ih
theorem Ev.ud {K : PySem.W.Frag} {G H : Hp} {ph : List Addr} {ix : List Nat} {env env1 : En} {st : Bx} {σ σ1 : L2.St} (e : Ev K G H ph env st σ) (h : Ud K G ix env σ env1 σ1) : Ev K G H ph env1 st σ1 := by
  induction h with
  | refl => exact e
  | @set env' σ' i v d _ hi hd ih =>
    refine ⟨ih.w, by rw [List.length_set, List.length_set]; exact ih.ln, fun j r hj => ?_⟩
    by_cases hij : i = j
    · subst hij
      have hl : i < env'.length := by
        have := (List.getElem?_eq_some_iff.mp hj).1
        rw [List.length_set] at this; exact this
      rw [List.getElem?_set_self hl] at hj
      cases hj
      exact ⟨v, by rw [List.getElem?_set_self (by rw [← ih.ln]; exact hl)], hd⟩
    · rw [List.getElem?_set_ne hij] at hj
      obtain ⟨u, q, z⟩ := ih.sl j r hj
      exact ⟨u, by rw [List.getElem?_set_ne hij]; exact q, z⟩
def gB (K : PySem.W.Frag) (t : Tg) : TG := fun v σ H Q => ∃ (G : Hp) (d : PyData) (env env' : En), (∀ a o, G a = some o → H a = some o) ∧ Dv K G v d ∧ t.bind d env = some env' ∧ ∀ σ', Ud K G t.idx env σ env' σ' → Q σ' H
def gBs (K : PySem.W.Frag) (ts : Tgs) : TGs := fun vs σ H Q => ∃ (G : Hp) (ds : List PyData) (env env' : En), (∀ a o, G a = some o → H a = some o) ∧ DvAll K G vs ds ∧ ts.bind ds env = some env' ∧ ∀ σ', Ud K G ts.idx env σ env' σ' → Q σ' H
theorem pgW {X : Cx} {tg : Expr} {t t' : TG} (h : PG X tg t) (w : ∀ v σ H Q, t' v σ H Q → t v σ H Q) : PG X tg t' := ⟨fun pins s σ H v u Q I r q => h.run pins s σ H v u Q I r (w v σ H Q q)⟩
theorem pgsW {X : Cx} {ts : List Expr} {t t' : TGs} (h : PGs X ts t) (w : ∀ v σ H Q, t' v σ H Q → t v σ H Q) : PGs X ts t' := ⟨fun pins s σ H v u Q I r q => h.run pins s σ H v u Q I r (w v σ H Q q)⟩
theorem PG.or {X : Cx} {tg : Expr} {t t' : TG} (h : PG X tg t) (h' : PG X tg t') : PG X tg (fun v σ H Q => t v σ H Q ∨ t' v σ H Q) := ⟨fun pins s σ H v u Q I r q => by
  rcases q with q | q
  · exact h.run pins s σ H v u Q I r q
  · exact h'.run pins s σ H v u Q I r q⟩
section
variable {X : Cx} {cf : Cf} {m : Bool}
theorem ok_nm {i : Nat} {x : Str} {pos : Pos} (h : PG X (.Name x pos) (gName i)) : PG X (.Name x pos) (gB X.K (.nm i)) :=
  pgW h fun v σ H Q ⟨G, d, env, env', sb, hd, hb, k⟩ => by
    simp only [Tg.bind] at hb
    cases hb
    exact k _ (.set .refl (by simp [Tg.idx]) hd)
theorem ok_gnil : PGs X [] (gBs X.K .nil) := pgsW pgs_nil fun vs σ H Q ⟨G, ds, env, env', sb, hd, hb, k⟩ => by
  cases hd with
  | nil =>
    simp only [Tgs.bind] at hb
    cases hb
    exact ⟨rfl, k _ .refl⟩
  | cons _ _ => simp only [Tgs.bind] at hb; cases hb
theorem ok_gcons {e : Expr} {es : List Expr} {t : Tg} {r : Tgs} (h : PG X e (gB X.K t)) (hr : PGs X es (gBs X.K r)) (hs : (assignEach (e :: es) X.env).map (·.2) = assign e X.env :: (assignEach es X.env).map (·.2)) : PGs X (e :: es) (gBs X.K (.cons t r)) :=
  pgsW (pgs_cons h hr hs) fun vs σ H Q ⟨G, ds, env, env', sb, hd, hb, k⟩ => by
    cases hd with
    | nil => simp only [Tgs.bind] at hb; cases hb
    | cons h1 h2 =>
      simp only [Tgs.bind] at hb
      cases hb1 : t.bind _ env with
      | none => rw [hb1] at hb; cases hb
      | some env1 =>
        rw [hb1] at hb
        refine ⟨_, _, rfl, G, _, env, env1, sb, h1, hb1, fun σ1 u1 => ?_⟩
        refine ⟨G, _, env1, env', sb, h2, hb, fun σ2 u2 => k σ2 ?_⟩
        exact (u1.mono fun i hi => by simp only [Tgs.idx]; exact List.mem_append_left _ hi).trans (u2.mono fun i hi => by simp only [Tgs.idx]; exact List.mem_append_right _ hi)
def Tgs.many : Tgs → Nat
  | .nil => 0
  | .cons _ r => r.many + 1
theorem Tgs.bind_len : ∀ {ts : Tgs} {ds : List PyData} {env env' : En}, ts.bind ds env = some env' → ds.length = ts.many
  | .nil, [], _, _, _ => rfl
  | .nil, _ :: _, _, _, h => by simp only [Tgs.bind] at h; cases h
  | .cons t r, [], _, _, h => by simp only [Tgs.bind] at h; cases h
  | .cons t r, d :: ds, env, env', h => by
    simp only [Tgs.bind] at h
    cases hb1 : t.bind d env with
    | none => rw [hb1] at h; cases h
    | some env1 =>
      rw [hb1] at h
      rw [List.length_cons, Tgs.bind_len (show r.bind ds env1 = some env' from h)]
      rfl
theorem ok_tp {es : List Expr} {ts : Tgs} {k0 : Nat} {pos : Pos} (hc : X.calm = true) (h : PGs X es (gBs X.K ts)) (hn : (assignEach es X.env).length = ts.many) (hst : (assignEach es X.env).findIdx? (·.1) = none) : PG X (.Tuple es k0 pos) (gB X.K (.tp ts)) :=
  pgW (PG.or (pg_tup hc h hn hst) (pg_unl hc h hn hst)) fun v σ H Q ⟨G, d, env, env', sb, hd, hb, k⟩ => by
    cases hd with
    | @lst a xs ds h1 h2 =>
      have hb' : ts.bind ds env = some env' := by simpa only [Tg.bind] using hb
      exact .inr ⟨_, _, rfl, SqL.of (sb _ _ h1), by rw [h2.len]; exact Tgs.bind_len hb', G, _, env, env', sb, h2, hb', k⟩
    | @tup a xs ds h1 h2 =>
      have hb' : ts.bind ds env = some env' := by simpa only [Tg.bind] using hb
      exact .inl ⟨_, _, rfl, SqT.up sb h1, by rw [h2.len]; exact Tgs.bind_len hb', G, _, env, env', sb, h2, hb', k⟩
    | _ => simp only [Tg.bind] at hb; cases hb

/-! ### list comprehensions -/
theorem wipe_set {σ : L2.St} {i : Nat} {v : Option V} : ∀ {vs : List Nat}, i ∈ vs → wipe (σ.set i v) vs = wipe σ vs
  | [], h => nomatch h
  | j :: vs, h => by
    unfold wipe
    by_cases hi : i ∈ vs
    · rw [wipe_set hi]
    · have e : i = j := by
        rcases List.mem_cons.mp h with e | e
        · exact e
        · exact absurd e hi
      subst e
      have comm : ∀ {ws : List Nat}, i ∉ ws → wipe (σ.set i v) ws = (wipe σ ws).set i v := by
        intro ws
        induction ws with
        | nil => intro _; rfl
        | cons w ws ih =>
          intro hn
          unfold wipe
          rw [ih fun q => hn (List.mem_cons_of_mem _ q)]
          exact List.set_comm _ _ fun e => hn (e ▸ List.mem_cons_self)
      rw [comm hi, List.set_set]
theorem wipe_mem_none {σ : L2.St} : ∀ {vs : List Nat} {i : Nat}, i ∈ vs → (wipe σ vs).set i none = wipe σ vs
  | j :: vs, i, h => by
    unfold wipe
    by_cases e : i = j
    · subst e; rw [List.set_set]
    · have hi : i ∈ vs := by
        rcases List.mem_cons.mp h with q | q
        · exact absurd q e
        · exact q
      rw [List.set_comm _ _ (Ne.symm e), wipe_mem_none hi]
theorem wipe_wipe (σ : L2.St) (vs : List Nat) : wipe (wipe σ vs) vs = wipe σ vs := by
  have sub : ∀ {ws : List Nat}, (∀ i ∈ ws, i ∈ vs) → wipe (wipe σ vs) ws = wipe σ vs := by
    intro ws
    induction ws with
    | nil => intro _; rfl
    | cons w ws ih =>
      intro h
      show (wipe (wipe σ vs) ws).set w none = wipe σ vs
      rw [ih fun i hi => h i (List.mem_cons_of_mem _ hi), wipe_mem_none (h w List.mem_cons_self)]
  exact sub fun _ h => h
theorem Ud.wipe {K : PySem.W.Frag} {G : Hp} {ix vs : List Nat} {env env1 : En} {σ σ1 : L2.St} (h : Ud K G ix env σ env1 σ1) (s : ∀ i ∈ ix, i ∈ vs) : L2.wipe σ1 vs = L2.wipe σ vs := by
  induction h with
  | refl => rfl
  | set _ hi hd ih => rw [wipe_set (s _ hi)]; exact ih
theorem wipeE_len (env : En) : ∀ vs : List Nat, (wipeE env vs).length = env.length
  | [] => rfl
  | v :: vs => by unfold wipeE; rw [List.length_set, wipeE_len env vs]
theorem wipeE_some {env : En} {i : Nat} {r : R} : ∀ {vs : List Nat}, (wipeE env vs)[i]? = some (some r) → env[i]? = some (some r) ∧ i ∉ vs
  | [], h => ⟨h, by simp⟩
  | v :: vs, h => by
    unfold wipeE at h
    by_cases hi : v = i
    · subst hi
      by_cases hv : v < (wipeE env vs).length
      · rw [List.getElem?_set_self hv] at h; cases h
      · rw [List.getElem?_eq_none (by simpa using hv)] at h; cases h
    · rw [List.getElem?_set_ne hi] at h
      obtain ⟨h1, h2⟩ := wipeE_some h
      exact ⟨h1, by simp only [List.mem_cons, not_or]; exact ⟨fun e => hi e.symm, h2⟩⟩
theorem wipe_keep {σ : L2.St} {i : Nat} : ∀ {vs : List Nat}, i ∉ vs → (wipe σ vs)[i]? = σ[i]?
  | [], _ => rfl
  | v :: vs, h => by
    unfold wipe
    rw [List.getElem?_set_ne fun e => h (List.mem_cons.mpr (.inl e.symm))]
    exact wipe_keep fun q => h (List.mem_cons_of_mem _ q)
theorem Ev.wipe {K : PySem.W.Frag} {G H : Hp} {ph : List Addr} {env : En} {st : Bx} {σ : L2.St} (e : Ev K G H ph env st σ) (vs : List Nat) : Ev K G H ph (wipeE env vs) st (L2.wipe σ vs) :=
  ⟨e.w, by rw [wipeE_len, wipe_length]; exact e.ln, fun i r h => by
    obtain ⟨h1, h2⟩ := wipeE_some h
    obtain ⟨v, q, z⟩ := e.sl i r h1
    exact ⟨v, by rw [wipe_keep h2]; exact q, z⟩⟩
theorem Wd.put {K : PySem.W.Frag} {G H : Hp} {ph : List Addr} {st : Bx} {p : Addr} {o : HO} (w : Wd K G H ph st) (hg : G p = none) (hn : p ∉ ph) : Wd K G (upd H p o) ph st := by
  refine ⟨fun a u h => ?_, w.nd, w.len, fun n a ds h1 h2 => ?_⟩
  · have e : a ≠ p := fun e => by subst e; rw [hg] at h; cases h
    rw [upd_ne e]; exact w.sub a u h
  · obtain ⟨g, vs, h3, h4⟩ := w.box n a ds h1 h2
    have e : a ≠ p := fun e => hn (e ▸ List.mem_of_getElem? h1)
    exact ⟨g, vs, by rw [upd_ne e]; exact h3, h4⟩
theorem Stp.put {G H G1 H1 : Hp} {ph ph1 : List Addr} {p : Addr} {o : HO} (s : Stp G H ph G1 H1 ph1) (h0 : H p = none) : Stp G H ph G1 (upd H1 p o) ph1 := by
  refine ⟨s.g, s.gn, fun a u h n => ?_, s.ph, fun a h => ?_⟩
  · have e : a ≠ p := fun e => by subst e; rw [h0] at h; cases h
    rw [upd_ne e]; exact s.fr a u h n
  · by_cases e : a = p
    · subst e; exact h0
    · rw [upd_ne e] at h; exact s.dom a h
theorem lc_ok {K : PySem.W.Frag} {elt : Ex} {tg : Tg} {it : Itx} {cd : Tso} {ow : List Nat} {g : TG} {tt : TT} {te : TE} (hix : ∀ i ∈ tg.idx, i ∈ ow)
    (hg : ∀ v σ H Q, gB K tg v σ H Q → g v σ H Q) (ht : ∀ σ H Q, tT K (cd.den cf) σ H Q → tt σ H Q) (he : ∀ σ H Q, tE K (elt.den cf) σ H Q → te σ H Q) : ∀ σ H Q, tE K ((Ex.lc elt tg it cd ow).den cf) σ H Q → tLc (tI K true (it.den cf true)) g tt te ow σ H Q := fun σ H Q ⟨G, ph, env, st, r, st', E, e, k⟩ => by
  simp only [Ex.den] at e
  split at e
  · rename_i items st1 e1
    refine ⟨G, ph, env, st, items, st1, E, e1, fun J H1 G1 ph1 w1 s1 wk => ?_⟩
    intro D hD
    obtain ⟨Gc, Y, walk, per, yl⟩ := wk
    generalize hstep : (fun d st => match tg.bind d (wipeE env ow) with
        | some env1 => match cd.den cf env1 st with
          | some (true, st2) => match elt.den cf env1 st2 with
            | some (r, st3) => r.cap.map fun y => (some y, st3)
            | none => none
          | some (false, st2) => some (none, st2)
          | none => none
        | none => none : PyData → Bx → Option (Option PyData × Bx)) = step at e
    split at e
    · rename_i acc st2 e2
      cases e
      refine lc_it walk (fun i Hi => ∃ Gi phi sti a av, Wd K Gi Hi phi sti ∧ Stp G1 H1 ph1 Gi Hi phi ∧ Hi D = some (.lst av) ∧ Gi D = none ∧ D ∉ phi ∧ DvAll K Gi av a ∧ lcGo step (items.drop i) a sti = some (acc, st')) ?_ ?_ ?_ ?_
      · obtain ⟨a1, a2, ⟨_, _, _, a3, a4, a5, _⟩, _⟩ := new_own w1 (Stp.refl (G := G1) (H := H1) (ph := ph1)) (.nil : DvAll K G1 [] []) hD
        obtain ⟨_, _, ev, a3, a4, a5, _⟩ := (new_own w1 (Stp.refl (G := G1) (H := H1) (ph := ph1)) (.nil : DvAll K G1 [] []) hD).2.2.1
        cases ev
        exact ⟨G1, ph1, st1, [], [], a1, a2, upd_same, a4, a5, .nil, e2⟩
      · rintro i Hi _ ⟨Gi, phi, sti, a, av, wi, si, _⟩
        exact per Gi Hi phi wi.sub si
      · rintro i x Hi H3 hi ⟨Gi, phi, sti, a, av, wi, si, hDi, gDi, nDi, hav, go⟩ y3
        have hd : items[i]? = some items[i] := List.getElem?_eq_getElem hi
        rw [List.drop_eq_getElem_cons hi] at go
        unfold lcGo at go
        obtain ⟨G3, w3, s3, hx⟩ := yl i x Hi H3 items[i] Gi phi sti hd wi si y3
        have S3 := si.trans s3
        have hD3 := s3.fr D _ hDi nDi
        have gD3 := s3.Gnone hDi gDi
        have hav3 := DvAll.up s3.g a av hav
        rw [← hstep] at go
        dsimp only at go
        cases hb : tg.bind items[i] (wipeE env ow) with
        | none => rw [hb] at go; cases go
        | some env1 =>
          rw [hb] at go
          dsimp only at go
          refine hg _ _ _ _ ⟨G3, items[i], wipeE env ow, env1, w3.sub, hx, hb, fun σ2 u2 => ?_⟩
          refine ⟨by rw [u2.wipe hix, wipe_wipe], ?_⟩
          have E3 : Ev K G3 H3 phi env1 sti σ2 := (((E.step s1 w1).step S3 w3).wipe ow).ud u2
          cases hc : cd.den cf env1 sti with
          | none => rw [hc] at go; cases go
          | some cb =>
            obtain ⟨cb, st4⟩ := cb
            rw [hc] at go
            refine ht _ _ _ ⟨G3, phi, env1, sti, cb, st4, E3, hc, fun H4 G4 ph4 w4 s4 => ?_⟩
            have hD4 := s4.fr D _ hD3 nDi
            have gD4 := s4.Gnone hD3 gD3
            have nD4 := s4.notin hD3 nDi
            cases cb with
            | false =>
              dsimp only at go
              exact iteN ⟨G4, ph4, st4, a, av, w4, S3.trans s4, hD4, gD4, nD4, DvAll.up s4.g a av hav3, by rw [← hstep]; exact go⟩
            | true =>
              dsimp only at go
              refine iteP (he _ _ _ ?_)
              cases hl : elt.den cf env1 st4 with
              | none => rw [hl] at go; cases go
              | some rr =>
                obtain ⟨r5, st5⟩ := rr
                rw [hl] at go
                dsimp only at go
                refine ⟨G4, ph4, env1, st4, r5, st5, E3.step s4 w4, hl, fun v H5 G5 ph5 w5 s5 q5 f5 => ?_⟩
                cases hy : r5.cap with
                | none => rw [hy] at go; cases go
                | some y =>
                  rw [hy] at go
                  dsimp only [Option.map_some] at go
                  split at go
                  · rename_i hlen
                    obtain ⟨G6, w6, s6, hd6, up6, sm6⟩ := cap_ok s5 w5 q5 f5 hy
                    have hD5 := s5.fr D _ hD4 nD4
                    have nD5 := s5.notin hD4 nD4
                    have gD6 : G6 D = none := by
                      rcases sm6 D with z | ⟨ds, z1, z2⟩
                      · rw [z]; exact s5.Gnone hD4 gD4
                      · subst z1
                        have := f5 D z2
                        rw [hD4] at this; cases this
                    have av6 : DvAll K G6 av a := DvAll.up (fun a o h => up6 a o (s5.g a o (s4.g a o h))) a av hav3
                    refine ⟨av, hD5, by rw [av6.len]; exact hlen, G6, ph5, st5, a ++ [y], av ++ [v], w6.put gD6 nD5, ((S3.trans s4).trans s6).put hD, upd_same, gD6, nD5, av6.app (.one hd6), by rw [← hstep]; exact go⟩
                  · cases go
      · rintro Hn ⟨Gn, phn, stn, a, av, wn, sn, hDn, gDn, nDn, hav, go⟩
        rw [List.drop_length] at go
        unfold lcGo at go
        cases go
        exact k (.ref D) Hn Gn phn wn (s1.trans sn) ⟨D, av, rfl, hDn, gDn, nDn, hav⟩ fun a ea => by cases ea; exact s1.dom D hD
    · cases e
  · cases e
end
end Sy

namespace Sy
open PySem PySem.Spec PyProof.Rows L2

/-! ### within a def: (G0, H0, ph0) the entry -/
structure Rl (K : PySem.W.Frag) (H0 G0 : Hp) (ph0 : List Addr) (G H : Hp) (ph : List Addr) (env : En) (st : Bx) (σ : L2.St) : Prop where
  e : Ev K G H ph env st σ
  s : Stp G0 H0 ph0 G H ph
  fr : ∀ (i : Nat) ds a, env[i]? = some (some (.own ds)) → σ[i]? = some (some (.ref a)) → H0 a = none
  dj : ∀ (i j : Nat) ds es a, env[i]? = some (some (.own ds)) → env[j]? = some (some (.own es)) → σ[i]? = some (some (.ref a)) → σ[j]? = some (some (.ref a)) → i = j
  nb : ∀ (i : Nat) ds, env[i]? ≠ some (some (.brw ds))
section
variable {K : PySem.W.Frag} {H0 G0 G H G1 H1 : Hp} {ph0 ph ph1 : List Addr} {env : En} {st st1 : Bx} {σ : L2.St}
theorem Rl.step (r : Rl K H0 G0 ph0 G H ph env st σ) (s : Stp G H ph G1 H1 ph1) (w : Wd K G1 H1 ph1 st1) : Rl K H0 G0 ph0 G1 H1 ph1 env st1 σ := ⟨r.e.step s w, r.s.trans s, r.fr, r.dj, r.nb⟩
theorem set_get {α : Type} {l : List (Option α)} {i j : Nat} {x y : α} (h : (l.set i (some x))[j]? = some (some y)) : (i = j ∧ x = y) ∨ (i ≠ j ∧ l[j]? = some (some y)) := by
  by_cases e : i = j
  · subst e
    have hl : i < l.length := by
      have := (List.getElem?_eq_some_iff.mp h).1
      rw [List.length_set] at this; exact this
    rw [List.getElem?_set_self hl] at h
    cases h
    exact .inl ⟨rfl, rfl⟩
  · rw [List.getElem?_set_ne e] at h
    exact .inr ⟨e, h⟩
theorem set_lt {α : Type} {l : List (Option α)} {i j : Nat} {x y : α} (h : (l.set i (some x))[j]? = some (some y)) : j < l.length := by
  have := (List.getElem?_eq_some_iff.mp h).1
  rw [List.length_set] at this; exact this
/-- a name is given a value -/
theorem Rl.put (r : Rl K H0 G0 ph0 G H ph env st σ) {i : Nat} {x : R} {v : V} (hx : Rs K G H ph x v) (nbx : ∀ ds, x ≠ .brw ds)
    (own : ∀ ds a, x = .own ds → v = .ref a → H0 a = none ∧ ∀ (j : Nat) es, env[j]? = some (some (.own es)) → σ[j]? = some (some (.ref a)) → j = i) : Rl K H0 G0 ph0 G H ph (env.set i (some x)) st (σ.set i (some v)) := by
  refine ⟨⟨r.e.w, by rw [List.length_set, List.length_set]; exact r.e.ln, fun j y hj => ?_⟩, r.s, fun j ds a hj hs => ?_, fun j l ds es a hj hl hs ht => ?_, fun j ds hj => ?_⟩
  · have hlt := set_lt hj
    rcases set_get hj with ⟨rfl, rfl⟩ | ⟨ne, hj⟩
    · exact ⟨v, List.getElem?_set_self (by rw [← r.e.ln]; exact hlt), hx⟩
    · obtain ⟨u, q, z⟩ := r.e.sl j y hj
      exact ⟨u, by rw [List.getElem?_set_ne ne]; exact q, z⟩
  · rcases set_get hj with ⟨rfl, rfl⟩ | ⟨ne, hj⟩
    · rcases set_get hs with ⟨_, rfl⟩ | ⟨ne, _⟩
      · exact (own ds a rfl rfl).1
      · exact absurd rfl ne
    · rw [List.getElem?_set_ne ne] at hs
      exact r.fr j ds a hj hs
  · rcases set_get hj with ⟨rfl, rfl⟩ | ⟨ne, hj⟩
    · rcases set_get hl with ⟨rfl, _⟩ | ⟨ne', hl⟩
      · rfl
      · rcases set_get hs with ⟨_, rfl⟩ | ⟨ne, _⟩
        · rw [List.getElem?_set_ne ne'] at ht
          exact ((own ds a rfl rfl).2 l es hl ht).symm
        · exact absurd rfl ne
    · rw [List.getElem?_set_ne ne] at hs
      skip
      rcases set_get hl with ⟨e1, e2⟩ | ⟨ne', hl⟩
      · rcases set_get ht with ⟨_, e3⟩ | ⟨ne, _⟩
        · rw [← e1]; exact (own es a e2 e3).2 j ds hj hs
        · exact absurd e1 ne
      · rw [List.getElem?_set_ne ne'] at ht
        exact r.dj j l ds es a hj hl hs ht
  · rcases set_get hj with ⟨rfl, rfl⟩ | ⟨ne, hj⟩
    · exact nbx ds rfl
    · exact r.nb j ds hj
/-- another's own list was there ahead -/
theorem Rl.old (r : Rl K H0 G0 ph0 G H ph env st σ) {j : Nat} {es : List PyData} {a : Addr} (h : env[j]? = some (some (.own es))) (q : σ[j]? = some (some (.ref a))) : ∃ o, H a = some o := by
  obtain ⟨v, hv, b, vs, e, h1, _⟩ := r.e.sl j _ h
  rw [q] at hv
  cases hv
  cases e
  exact ⟨_, h1⟩
theorem Rl.ud (r : Rl K H0 G0 ph0 G H ph env st σ) {ix : List Nat} {env1 : En} {σ1 : L2.St} (u : Ud K G ix env σ env1 σ1) : Rl K H0 G0 ph0 G H ph env1 st σ1 := by
  induction u with
  | refl => exact r
  | set _ hi hd ih => exact ih.put hd (fun _ z => nomatch z) fun _ _ z => nomatch z
end
def tS (K : PySem.W.Frag) (H0 G0 : Hp) (ph0 : List Addr) (d : En → Bx → Option Out) : TS := fun D σ H =>
  ∃ (G : Hp) (ph : List Addr) (env : En) (st : Bx) (o : Out), Rl K H0 G0 ph0 G H ph env st σ ∧ d env st = some o ∧
    (∀ env' st', o = .nx env' st' → ∀ σ' H' G' ph', Rl K H0 G0 ph0 G' H' ph' env' st' σ' → (∀ a u, G a = some u → G' a = some u) → D.nx σ' H') ∧
    (∀ r st', o = .rt r st' → ∀ v H' G' ph', Wd K G' H' ph' st' → Stp G0 H0 ph0 G' H' ph' → Rs K G' H' ph' r v → FrO H0 r v → D.rt v H')
theorem psW {X : Cx} {s : Stmt} {t t' : TS} (h : PS X s t) (w : ∀ D σ H, t' D σ H → t D σ H) : PS X s t' := ⟨fun pins s σ H D I q => h.run pins s σ H D I (w D σ H q)⟩
theorem pssW {X : Cx} {s : List Stmt} {t t' : TS} (h : PSs X s t) (w : ∀ D σ H, t' D σ H → t D σ H) : PSs X s t' := ⟨fun pins s σ H D I q => h.run pins s σ H D I (w D σ H q)⟩
section
variable {X : Cx} {cf : Cf} {H0 G0 : Hp} {ph0 : List Addr}
theorem ok_snil : PSs X [] (tS X.K H0 G0 ph0 (Stms.nil.den cf)) := pssW pss_nil fun D σ H ⟨G, ph, env, st, o, r, e, k1, k2⟩ => by
  simp only [Stms.den] at e
  cases e
  exact k1 _ _ rfl σ H G ph r fun _ _ q => q
theorem ok_scons {s : Stmt} {ss : List Stmt} {d : Stm} {ds : Stms} (h : PS X s (tS X.K H0 G0 ph0 (d.den cf))) (hr : PSs X ss (tS X.K H0 G0 ph0 (ds.den cf))) : PSs X (s :: ss) (tS X.K H0 G0 ph0 ((Stms.cons d ds).den cf)) :=
  pssW (pss_cons h hr) fun D σ H ⟨G, ph, env, st, o, r, e, k1, k2⟩ => by
    simp only [Stms.den] at e
    cases h1 : d.den cf env st with
    | none => rw [h1] at e; cases e
    | some o1 =>
      rw [h1] at e
      refine ⟨G, ph, env, st, o1, r, h1, fun env1 st1 eo σ1 H1 G1 ph1 r1 u1 => ?_, fun r' st1 eo => ?_⟩
      · subst eo
        exact ⟨G1, ph1, env1, st1, o, r1, e, fun env' st' eo σ' H' G' ph' r' u' => k1 env' st' eo σ' H' G' ph' r' fun a u q => u' a u (u1 a u q), k2⟩
      · subst eo
        cases e
        exact k2 r' st1 rfl
theorem ok_frz {ss : List Stmt} {i : Nat} {ds : Stms} (hr : PSs X ss (tS X.K H0 G0 ph0 (ds.den cf))) : PSs X ss (tS X.K H0 G0 ph0 ((Stms.cons (.frz i) ds).den cf)) :=
  pssW hr fun D σ H ⟨G, ph, env, st, o, r, e, k1, k2⟩ => by
    simp only [Stms.den, Stm.den] at e
    cases hi : env[i]? with
    | none => rw [hi] at e; exact ⟨G, ph, env, st, o, r, e, k1, k2⟩
    | some x =>
      cases x with
      | none => rw [hi] at e; exact ⟨G, ph, env, st, o, r, e, k1, k2⟩
      | some x =>
        cases x with
        | own l =>
          rw [hi] at e
          obtain ⟨v, hv, a, vs, rfl, h1, h2, h3, h4⟩ := r.e.sl i _ hi
          have w1 : Wd X.K (upd G a (.lst vs)) H ph st := r.e.w.frz h1 h3
          have up : ∀ b u, G b = some u → upd G a (.lst vs) b = some u := fun b u q => by
            have ne : b ≠ a := fun ne => by subst ne; rw [h2] at q; cases q
            rw [upd_ne ne]; exact q
          have s1 : Stp G0 H0 ph0 (upd G a (.lst vs)) H ph := r.s.frz h1 (r.fr i l a hi hv) h2
          have nd : Dv X.K (upd G a (.lst vs)) (.ref a) (.list l) := .lst upd_same (DvAll.up up l vs h4)
          refine ⟨upd G a (.lst vs), ph, env.set i (some (.dat (.list l))), st, o, ?_, e, fun env' st' eo σ' H' G' ph' r' u' => k1 env' st' eo σ' H' G' ph' r' fun a u q => u' a u (up a u q), k2⟩
          -- the slots
          have es : σ = σ.set i (some (.ref a)) := by
            apply List.ext_getElem?
            intro j
            by_cases ij : i = j
            · subst ij
              rw [hv, List.getElem?_set_self (List.getElem?_eq_some_iff.mp hv).1]
            · rw [List.getElem?_set_ne ij]
          rw [es]
          refine ⟨⟨w1, by rw [List.length_set, List.length_set]; exact r.e.ln, fun j y hj => ?_⟩, s1, fun j ds a' hj hs => ?_, fun j m ds es' a' hj hm hs ht => ?_, fun j ds hj => ?_⟩
          · have hlt := set_lt hj
            rcases set_get hj with ⟨rfl, rfl⟩ | ⟨ne, hj⟩
            · exact ⟨.ref a, List.getElem?_set_self (by rw [← r.e.ln]; exact hlt), nd⟩
            · obtain ⟨u, q, z⟩ := r.e.sl j y hj
              refine ⟨u, by rw [List.getElem?_set_ne ne]; exact q, Rs.froze (a := a) up (fun b => ?_) z ?_⟩
              · by_cases eb : b = a
                · exact .inr eb
                · exact .inl (upd_ne eb)
              · cases y with
                | own l2 => exact .inl fun ev => by subst ev; exact ne (r.dj i j l l2 a hi hj hv q)
                | brw l2 => exact absurd hj (r.nb j l2)
                | dat d => exact .inr fun _ => ⟨(fun z => nomatch z), (fun z => nomatch z)⟩
                | ref d => exact .inr fun _ => ⟨(fun z => nomatch z), (fun z => nomatch z)⟩
                | scr d => exact .inr fun _ => ⟨(fun z => nomatch z), (fun z => nomatch z)⟩
          · rcases set_get hj with ⟨rfl, z⟩ | ⟨ne, hj⟩
            · cases z
            · rw [List.getElem?_set_ne ne] at hs
              exact r.fr j ds a' hj hs
          · rcases set_get hj with ⟨rfl, z⟩ | ⟨ne, hj⟩
            · cases z
            · rcases set_get hm with ⟨rfl, z⟩ | ⟨ne', hm⟩
              · cases z
              · rw [List.getElem?_set_ne ne] at hs
                rw [List.getElem?_set_ne ne'] at ht
                exact r.dj j m ds es' a' hj hm hs ht
          · rcases set_get hj with ⟨rfl, z⟩ | ⟨ne, hj⟩
            · cases z
            · exact r.nb j ds hj
        | _ => rw [hi] at e; exact ⟨G, ph, env, st, o, r, e, k1, k2⟩
/-! ### small statements -/
theorem ok_snever {s : Stmt} : PS X s (tS X.K H0 G0 ph0 (Stm.never.den cf)) := ⟨fun _ _ _ _ _ _ ⟨_, _, _, _, _, _, e, _⟩ => by simp only [Stm.den] at e; cases e⟩
theorem ok_pass {pos : Pos} : PS X (.Pass pos) (tS X.K H0 G0 ph0 (Stm.pass.den cf)) := psW ps_pass fun D σ H ⟨G, ph, env, st, o, r, e, k1, k2⟩ => by
  simp only [Stm.den] at e
  cases e
  exact k1 _ _ rfl σ H G ph r fun _ _ q => q
theorem hold_some {x r : R} (h : x.hold = some r) : x = r ∧ ∀ ds, r ≠ .brw ds := by
  cases x with
  | brw ds => cases h
  | _ => cases h; exact ⟨rfl, fun _ z => nomatch z⟩
theorem asgW {e : Ex} {i : Nat} {te : TE} (mono : ∀ σ H Q, tE X.K (e.den cf) σ H Q → te σ H Q) : ∀ D σ H, tS X.K H0 G0 ph0 ((Stm.asg i e).den cf) D σ H → tAsg te (gName i) D σ H := fun D σ H ⟨G, ph, env, st, o, r, ed, k1, k2⟩ => by
  simp only [Stm.den] at ed
  cases h1 : e.den cf env st with
  | none => rw [h1] at ed; cases ed
  | some p =>
    obtain ⟨x, st1⟩ := p
    rw [h1] at ed
    dsimp only at ed
    cases hh : x.hold with
    | none => rw [hh] at ed; cases ed
    | some y =>
      rw [hh] at ed
      cases ed
      obtain ⟨rfl, nb⟩ := hold_some hh
      refine mono _ _ _ ⟨G, ph, env, st, x, st1, r.e, h1, fun v H1 G1 ph1 w1 s1 r1 f1 => ?_⟩
      refine k1 _ _ rfl _ _ G1 ph1 ((r.step s1 w1).put r1 nb fun ds a ex ev => ?_) s1.g
      subst ex
      have hn : H a = none := f1 a ev
      refine ⟨r.s.dom a hn, fun j es hj hs => ?_⟩
      obtain ⟨o, ho⟩ := r.old hj hs
      rw [hn] at ho; cases ho
theorem ok_asg {i : Nat} {x : Str} {e : Expr} {ee : Ex} {pos pos' : Pos} (hN : X.N.Nodup) (hi : X.N[i]? = some x) (hx : Loc X.env.scope x) (he : PE X e (tE X.K (ee.den cf))) (hs : swapsWith e (some (.Name x pos')) pos.line X.env = pure false) (hf : X.fn x = true ∨ X.env.scope.names.lookup x = some .local) :
    PS X (.Assign [.Name x pos'] e pos) (tS X.K H0 G0 ph0 ((Stm.asg i ee).den cf)) := psW (ps_set hN hi hx he hs hf) (asgW fun _ _ _ h => h)
theorem ok_par {i j : Nat} {x y : Str} {a b : Expr} {ea eb : Ex} {px py pt pos : Pos} {kt k2 pt2} (hc : X.calm = true) (hN : X.N.Nodup) (hi : X.N[i]? = some x) (hj : X.N[j]? = some y) (hij : i ≠ j)
    (hx : X.env.scope.names.lookup x = some .local) (hy : X.env.scope.names.lookup y = some .local) (ha : PA X [a, b] (tAs X.K ((Exs.cons ea (.cons eb .nil)).den cf)))
    (hw : swappedStores [.Tuple [.Name x px, .Name y py] kt pt] (.Tuple [a, b] k2 pt2) X.env = pure (some [x, y])) (hs : swapsWithSole [.Tuple [.Name x px, .Name y py] kt pt] (.Tuple [a, b] k2 pt2) pos.line X.env = pure false) :
    PS X (.Assign [.Tuple [.Name x px, .Name y py] kt pt] (.Tuple [a, b] k2 pt2) pos) (tS X.K H0 G0 ph0 ((Stm.par i j ea eb).den cf)) :=
  psW (ps_par hc hN hi hj hij hx hy ha hw hs) fun D σ H ⟨G, ph, env, st, o, r, ed, k1, k2⟩ => by
    simp only [Stm.den] at ed
    cases h1 : ea.den cf env st with
    | none => rw [h1] at ed; cases ed
    | some p =>
      obtain ⟨x1, st1⟩ := p
      rw [h1] at ed
      dsimp only at ed
      cases h2 : eb.den cf env st1 with
      | none => rw [h2] at ed; cases ed
      | some p =>
        obtain ⟨x2, st2⟩ := p
        rw [h2] at ed
        dsimp only at ed
        cases q1 : x1.hold with
        | none => rw [q1] at ed; cases ed
        | some y1 =>
          cases q2 : x2.hold with
          | none => rw [q1, q2] at ed; cases ed
          | some y2 =>
            rw [q1, q2] at ed
            cases ed
            obtain ⟨rfl, nb1⟩ := hold_some q1
            obtain ⟨rfl, nb2⟩ := hold_some q2
            refine ⟨G, ph, env, st, [x1, x2], st2, r.e, by simp only [Exs.den, h1, h2], fun vs H1 G1 ph1 w1 s1 r1 f1 => ?_⟩
            match vs, r1, f1 with
            | [v, u], ⟨ra, rb, _⟩, ⟨fa, na, fb, _⟩ =>
              have fresh : ∀ {x : R} {v : V}, FrO H x v → ∀ ds a, x = .own ds → v = .ref a → H0 a = none ∧ ∀ (j : Nat) es, env[j]? = some (some (.own es)) → σ[j]? = some (some (.ref a)) → False := fun {x v} f ds a ex ev => by
                subst ex
                have hn : H a = none := f a ev
                refine ⟨r.s.dom a hn, fun j es hj hs => ?_⟩
                obtain ⟨o, ho⟩ := r.old hj hs
                rw [hn] at ho; cases ho
              refine ⟨v, u, rfl, k1 _ _ rfl _ _ G1 ph1 ?_ s1.g⟩
              have R1 : Rl X.K H0 G0 ph0 G1 H1 ph1 (env.set i (some x1)) st2 (σ.set i (some v)) := (r.step s1 w1).put ra nb1 fun ds a ex ev => ⟨(fresh fa ds a ex ev).1, fun j es hj hs => ((fresh fa ds a ex ev).2 j es hj hs).elim⟩
              refine R1.put rb nb2 fun ds a ex ev => ⟨(fresh fb ds a ex ev).1, fun l es hl hs => ?_⟩
              rcases set_get hl with ⟨rfl, rfl⟩ | ⟨ne, hl⟩
              · rcases set_get hs with ⟨_, rfl⟩ | ⟨ne, _⟩
                · have z := na es a rfl rfl
                  subst ex
                  exact absurd ev z.1
                · exact absurd rfl ne
              · rw [List.getElem?_set_ne ne] at hs
                exact ((fresh fb ds a ex ev).2 l es hl hs).elim
theorem ok_par3 {i j l : Nat} {x y z : Str} {a b c : Expr} {ea eb ec : Ex} {px py pz pt pos : Pos} {kt k2 pt2} (hc : X.calm = true) (hN : X.N.Nodup) (hi : X.N[i]? = some x) (hj : X.N[j]? = some y) (hl : X.N[l]? = some z) (hij : i ≠ j) (hil : i ≠ l) (hjl : j ≠ l)
    (hx : X.env.scope.names.lookup x = some .local) (hy : X.env.scope.names.lookup y = some .local) (hz : X.env.scope.names.lookup z = some .local) (ha : PA X [a, b, c] (tAs X.K ((Exs.cons ea (.cons eb (.cons ec .nil))).den cf)))
    (hw : swappedStores [.Tuple [.Name x px, .Name y py, .Name z pz] kt pt] (.Tuple [a, b, c] k2 pt2) X.env = pure (some [x, y, z]))
    (hs : swapsWithSole [.Tuple [.Name x px, .Name y py, .Name z pz] kt pt] (.Tuple [a, b, c] k2 pt2) pos.line X.env = pure false) :
    PS X (.Assign [.Tuple [.Name x px, .Name y py, .Name z pz] kt pt] (.Tuple [a, b, c] k2 pt2) pos) (tS X.K H0 G0 ph0 ((Stm.par3 i j l ea eb ec).den cf)) :=
  psW (ps_par3 hc hN hi hj hl hij hil hjl hx hy hz ha hw hs) fun D σ H ⟨G, ph, env, st, o, r, ed, k1, k2⟩ => by
    simp only [Stm.den] at ed
    split at ed
    · rename_i rs st1 e1
      split at ed
      · rename_i d1 d2 d3 e2
        cases ed
        refine ⟨G, ph, env, st, rs, st1, r.e, e1, fun vs H1 G1 ph1 w1 s1 r1 f1 => ?_⟩
        obtain ⟨G2, w2, s2, h2, _⟩ := caps_ok s1 w1 r1 f1 e2
        cases h2 with
        | cons q1 h2 =>
          cases h2 with
          | cons q2 h2 =>
            cases h2 with
            | cons q3 h2 =>
              cases h2
              refine ⟨_, _, _, rfl, k1 _ _ rfl _ _ G2 ph1 ?_ s2.g⟩
              exact (((r.step s2 w2).put (x := .dat d1) q1 (fun _ z => nomatch z) fun _ _ z => nomatch z).put (x := .dat d2) q2 (fun _ z => nomatch z) fun _ _ z => nomatch z).put (x := .dat d3) q3 (fun _ z => nomatch z) fun _ _ z => nomatch z
      · cases ed
    · cases ed
theorem ok_unp {tg e : Expr} {t : Tg} {ee : Ex} {pos : Pos} (he : PE X e (tE X.K (ee.den cf))) (hg : PG X tg (gB X.K t)) (hs : swapsWithSole [tg] e pos.line X.env = pure false) (hw : swappedStores [tg] e X.env = pure none) (h1 : (assignEach [tg] X.env).map (·.2) = [assign tg X.env]) :
    PS X (.Assign [tg] e pos) (tS X.K H0 G0 ph0 ((Stm.unp t ee).den cf)) := psW (ps_asg he hg hs hw h1) fun D σ H ⟨G, ph, env, st, o, r, ed, k1, k2⟩ => by
  simp only [Stm.den] at ed
  cases q1 : ee.den cf env st with
  | none => rw [q1] at ed; cases ed
  | some p =>
    obtain ⟨x, st1⟩ := p
    rw [q1] at ed
    dsimp only at ed
    cases hcap : x.cap with
    | none => rw [hcap] at ed; cases ed
    | some d =>
      rw [hcap] at ed
      simp only [Option.bind_some] at ed
      cases hb : t.bind d env with
      | none => rw [hb] at ed; cases ed
      | some env1 =>
        rw [hb] at ed
        cases ed
        refine ⟨G, ph, env, st, x, st1, r.e, q1, fun v H1 G1 ph1 w1 s1 r1 f1 => ?_⟩
        obtain ⟨G2, w2, s2, hd, up, _⟩ := cap_ok s1 w1 r1 f1 hcap
        exact ⟨G2, d, env, env1, w2.sub, hd, hb, fun σ1 u => k1 _ _ rfl _ _ G2 ph1 ((r.step s2 w2).ud u) s2.g⟩
theorem ok_exp {e : Expr} {ee : Ex} {pos : Pos} (he : PE X e (tE X.K (ee.den cf))) (hs : swapsWith e none pos.line X.env = pure false) : PS X (.Expr e pos) (tS X.K H0 G0 ph0 ((Stm.exp ee).den cf)) :=
  psW (ps_expr he hs) fun D σ H ⟨G, ph, env, st, o, r, ed, k1, k2⟩ => by
    simp only [Stm.den] at ed
    cases q1 : ee.den cf env st with
    | none => rw [q1] at ed; cases ed
    | some p =>
      obtain ⟨x, st1⟩ := p
      rw [q1] at ed
      cases ed
      exact ⟨G, ph, env, st, x, st1, r.e, q1, fun v H1 G1 ph1 w1 s1 r1 f1 => k1 _ _ rfl _ _ G1 ph1 (r.step s1 w1) s1.g⟩
theorem ok_ret {e : Expr} {ee : Ex} {pos : Pos} (he : PE X e (tE X.K (ee.den cf))) : PS X (.Return (some e) pos) (tS X.K H0 G0 ph0 ((Stm.ret ee).den cf)) :=
  psW (ps_ret he) fun D σ H ⟨G, ph, env, st, o, r, ed, k1, k2⟩ => by
    simp only [Stm.den] at ed
    cases q1 : ee.den cf env st with
    | none => rw [q1] at ed; cases ed
    | some p =>
      obtain ⟨x, st1⟩ := p
      rw [q1] at ed
      dsimp only at ed
      cases hh : x.hold with
      | none => rw [hh] at ed; cases ed
      | some y =>
        rw [hh] at ed
        cases ed
        obtain ⟨rfl, nb⟩ := hold_some hh
        exact ⟨G, ph, env, st, x, st1, r.e, q1, fun v H1 G1 ph1 w1 s1 r1 f1 => k2 _ _ rfl v H1 G1 ph1 w1 (r.s.trans s1) r1 (f1.before r.s)⟩
theorem ok_retv {i : Nat} {x : Str} {p pos : Pos} (h : PE X (.Name x p) (tVar i)) : PS X (.Return (some (.Name x p)) pos) (tS X.K H0 G0 ph0 ((Stm.retv i).den cf)) :=
  psW (ps_ret h) fun D σ H ⟨G, ph, env, st, o, r, ed, k1, k2⟩ => by
    simp only [Stm.den] at ed
    split at ed
    · rename_i y hy
      cases ed
      obtain ⟨v, hv, hr⟩ := r.e.sl i y hy
      refine ⟨v, hv, k2 _ _ rfl v H G ph r.e.w r.s hr ?_⟩
      cases y with
      | own ds => exact fun a ev => r.fr i ds a hy (by rw [hv, ev])
      | _ => trivial
    · cases ed
theorem ok_if {c : Expr} {a b : List Stmt} {t : Ts} {sa sb : Stms} {pos : Pos} (hc : PT X c (tT X.K (t.den cf))) (ha : PSs X a (tS X.K H0 G0 ph0 (sa.den cf))) (hb : PSs X b (tS X.K H0 G0 ph0 (sb.den cf))) : PS X (.If c a b pos) (tS X.K H0 G0 ph0 ((Stm.iff t sa sb).den cf)) :=
  psW (ps_if hc ha hb) fun D σ H ⟨G, ph, env, st, o, r, ed, k1, k2⟩ => by
    simp only [Stm.den] at ed
    split at ed
    · rename_i st1 e1
      exact ⟨G, ph, env, st, true, st1, r.e, e1, fun H1 G1 ph1 w1 s1 => iteP ⟨G1, ph1, env, st1, o, r.step s1 w1, ed, fun env' st' eo σ' H' G' ph' r' u' => k1 env' st' eo σ' H' G' ph' r' fun a u q => u' a u (s1.g a u q), k2⟩⟩
    · rename_i st1 e1
      exact ⟨G, ph, env, st, false, st1, r.e, e1, fun H1 G1 ph1 w1 s1 => iteN ⟨G1, ph1, env, st1, o, r.step s1 w1, ed, fun env' st' eo σ' H' G' ph' r' u' => k1 env' st' eo σ' H' G' ph' r' fun a u q => u' a u (s1.g a u q), k2⟩⟩
    · cases ed
end
end Sy

namespace Sy
open PySem PySem.Spec PyProof.Rows L2

section
variable {K : PySem.W.Frag} {H0 G0 G H : Hp} {ph0 ph : List Addr} {env : En} {st : Bx} {σ : L2.St}
theorem nodup_inj {α : Type} : ∀ {l : List α} {n m : Nat} {a : α}, l.Nodup → l[n]? = some a → l[m]? = some a → n = m
  | [], _, _, _, _, h, _ => by simp at h
  | x :: l, 0, 0, _, _, _, _ => rfl
  | x :: l, 0, m + 1, a, nd, h, k => by
    simp at h k; subst h
    exact absurd (List.mem_of_getElem? k) (List.nodup_cons.mp nd).1
  | x :: l, n + 1, 0, a, nd, h, k => by
    simp at h k; subst k
    exact absurd (List.mem_of_getElem? h) (List.nodup_cons.mp nd).1
  | x :: l, n + 1, m + 1, a, nd, h, k => by
    simp at h k
    rw [nodup_inj (List.nodup_cons.mp nd).2 h k]
/-- a box is written -/
theorem Wd.setB (w : Wd K G H ph st) {n : Nat} {a : Addr} {vs : List V} {ds : List PyData} (hp : ph[n]? = some a) (hn : (st[n]?).isSome = true) (hd : DvAll K G vs ds) : Wd K G (upd H a (.lst vs)) ph (st.set n ds) := by
  obtain ⟨d0, hd0⟩ := Option.isSome_iff_exists.mp hn
  obtain ⟨g, us, h1, h2⟩ := w.box n a d0 hp hd0
  refine ⟨fun b u h => ?_, w.nd, by rw [List.length_set]; exact w.len, fun m b es k1 k2 => ?_⟩
  · have e : b ≠ a := fun e => by subst e; rw [g] at h; cases h
    rw [upd_ne e]; exact w.sub b u h
  · by_cases e : n = m
    · subst e
      rw [hp] at k1; cases k1
      have hl := (List.getElem?_eq_some_iff.mp hd0).1
      rw [List.getElem?_set_self hl] at k2
      cases k2
      exact ⟨g, vs, upd_same, hd⟩
    · rw [List.getElem?_set_ne e] at k2
      obtain ⟨g', us', h3, h4⟩ := w.box m b es k1 k2
      have ne : b ≠ a := fun q => by
        subst q
        obtain ⟨l1, e1⟩ := List.getElem?_eq_some_iff.mp hp
        obtain ⟨l2, e2⟩ := List.getElem?_eq_some_iff.mp k1
        exact e (nodup_inj w.nd hp k1)
      exact ⟨g', us', by rw [upd_ne ne]; exact h3, h4⟩
theorem Stp.setB {G H G1 H1 : Hp} {ph ph1 : List Addr} {a : Addr} {vs : List V} (s : Stp G H ph G1 H1 ph1) (ha : a ∈ ph1) (g : G1 a = none) : Stp G H ph G1 (upd H1 a (.lst vs)) ph1 := by
  refine ⟨s.g, s.gn, fun b u h n => ?_, s.ph, fun b h => ?_⟩
  · have e : b ≠ a := fun e => by subst e; exact s.notin h n ha
    rw [upd_ne e]; exact s.fr b u h n
  · by_cases e : b = a
    · subst e; rw [upd_same] at h; cases h
    · rw [upd_ne e] at h; exact s.dom b h
theorem Rs.setB {a : Addr} {vs : List V} (ha : a ∈ ph) {r : R} {v : V} (h : Rs K G H ph r v) : Rs K G (upd H a (.lst vs)) ph r v := by
  cases r with
  | dat d => exact h
  | ref n => exact h
  | scr n => exact h
  | own d =>
    obtain ⟨b, us, e, h1, h2, h3, h4⟩ := h
    exact ⟨b, us, e, by rw [upd_ne fun q => h3 (by rw [q]; exact ha)]; exact h1, h2, h3, h4⟩
  | brw d =>
    obtain ⟨b, us, e, h1, h2, h3, h4⟩ := h
    exact ⟨b, us, e, by rw [upd_ne fun q => h3 (by rw [q]; exact ha)]; exact h1, h2, h3, h4⟩
theorem Rl.setB (r : Rl K H0 G0 ph0 G H ph env st σ) {n : Nat} {a : Addr} {vs : List V} {ds : List PyData} (hp : ph[n]? = some a) (hn : (st[n]?).isSome = true) (hd : DvAll K G vs ds) : Rl K H0 G0 ph0 G (upd H a (.lst vs)) ph env (st.set n ds) σ := by
  have ha : a ∈ ph := List.mem_of_getElem? hp
  obtain ⟨d0, hd0⟩ := Option.isSome_iff_exists.mp hn
  obtain ⟨g, _⟩ := r.e.w.box n a d0 hp hd0
  refine ⟨⟨r.e.w.setB hp hn hd, r.e.ln, fun i x hi => ?_⟩, r.s.setB ha g, r.fr, r.dj, r.nb⟩
  obtain ⟨v, q, z⟩ := r.e.sl i x hi
  exact ⟨v, q, z.setB ha⟩
/-- a list of one's own is changed -/
theorem Rl.mut (r : Rl K H0 G0 ph0 G H ph env st σ) {i : Nat} {a : Addr} {ds es : List PyData} {vs : List V} (hi : env[i]? = some (some (.own ds))) (hs : σ[i]? = some (some (.ref a))) (g : G a = none) (np : a ∉ ph) (hd : DvAll K G vs es) : Rl K H0 G0 ph0 G (upd H a (.lst vs)) ph (env.set i (some (.own es))) st σ := by
  have sp : Stp G0 H0 ph0 G (upd H a (.lst vs)) ph := r.s.put (r.fr i ds a hi hs)
  have oth : ∀ (j : Nat) y, i ≠ j → env[j]? = some (some y) → ∀ v, σ[j]? = some (some v) → Rs K G H ph y v → Rs K G (upd H a (.lst vs)) ph y v := fun j y ne hj v hv h => by
    cases y with
    | dat d => exact h
    | ref n => exact h
    | scr n => exact h
    | own d =>
      obtain ⟨b, us, e, h1, h2, h3, h4⟩ := h
      subst e
      exact ⟨b, us, rfl, by rw [upd_ne fun q => ne (r.dj i j ds d a hi hj hs (by rw [hv, q]))]; exact h1, h2, h3, h4⟩
    | brw d => exact absurd hj (r.nb j d)
  refine ⟨⟨r.e.w.put g np, by rw [List.length_set]; exact r.e.ln, fun j y hj => ?_⟩, sp, fun j d b hj hb => ?_, fun j l d e b hj hl hb hc => ?_, fun j d hj => ?_⟩
  · rcases set_get hj with ⟨rfl, rfl⟩ | ⟨ne, hj⟩
    · exact ⟨.ref a, hs, a, vs, rfl, upd_same, g, np, hd⟩
    · obtain ⟨v, q, z⟩ := r.e.sl j y hj
      exact ⟨v, q, oth j y ne hj v q z⟩
  · rcases set_get hj with ⟨rfl, z⟩ | ⟨ne, hj⟩
    · exact r.fr _ ds b hi hb
    · exact r.fr j d b hj hb
  · rcases set_get hj with ⟨rfl, z⟩ | ⟨ne, hj⟩
    · rcases set_get hl with ⟨rfl, _⟩ | ⟨ne', hl⟩
      · rfl
      · exact r.dj _ l ds e b hi hl hb hc
    · rcases set_get hl with ⟨rfl, _⟩ | ⟨ne', hl⟩
      · exact r.dj j _ d ds b hj hi hb hc
      · exact r.dj j l d e b hj hl hb hc
  · rcases set_get hj with ⟨rfl, z⟩ | ⟨ne, hj⟩
    · cases z
    · exact r.nb j d hj
end
section
variable {X : Cx} {cf : Cf} {H0 G0 : Hp} {ph0 : List Addr}
/-! ### o[i] = e on a box -/
theorem ok_setB {o i e : Expr} {eo ei ee : Ex} {tpos pos : Pos} (he : PE X e (tE X.K (ee.den cf))) (ho : PE X o (tE X.K (eo.den cf))) (hi : PE X i (tE X.K (ei.den cf)))
    (ha : ∀ v, assign (.Subscript o i tpos) X.env v = (do
      let ov ← holding [v] (eval o X.env)
      let iv ← holding [v, ov] (eval i X.env)
      standAt tpos
      holding [v, ov, iv] (setItem ov iv v)
      release [v, ov, iv] []))
    (hs : swapsWithSole [.Subscript o i tpos] e pos.line X.env = pure false) (hw : swappedStores [.Subscript o i tpos] e X.env = pure none)
    (h1 : (assignEach [.Subscript o i tpos] X.env).map (·.2) = [assign (.Subscript o i tpos) X.env]) :
    PS X (.Assign [.Subscript o i tpos] e pos) (tS X.K H0 G0 ph0 ((Stm.setB eo ei ee).den cf)) :=
  psW (ps_asg he (pg_sub ho hi set_list ha) hs hw h1) fun D σ H ⟨G, ph, env, st, ot, r, ed, k1, k2⟩ => by
    simp only [Stm.den] at ed
    cases q1 : ee.den cf env st with
    | none => rw [q1] at ed; cases ed
    | some p =>
      obtain ⟨x, st1⟩ := p
      rw [q1] at ed
      dsimp only at ed
      cases q2 : eo.den cf env st1 with
      | none => rw [q2] at ed; cases ed
      | some p =>
        obtain ⟨y, st2⟩ := p
        rw [q2] at ed
        cases y with
        | ref n =>
          dsimp only at ed
          cases q3 : ei.den cf env st2 with
          | none => rw [q3] at ed; cases ed
          | some p =>
            obtain ⟨z, st3⟩ := p
            rw [q3] at ed
            cases z with
            | dat z =>
              cases z with
              | int k =>
                dsimp only at ed
                cases hcap : x.cap with
                | none => rw [hcap] at ed; cases ed
                | some d =>
                  cases hbx : st3[n]? with
                  | none => rw [hcap, hbx] at ed; cases ed
                  | some ds =>
                    rw [hcap, hbx] at ed
                    dsimp only at ed
                    cases hix : ixN ds.length k with
                    | none => rw [hix] at ed; cases ed
                    | some j =>
                      rw [hix] at ed
                      cases ed
                      refine ⟨G, ph, env, st, x, st1, r.e, q1, fun v H1 G1 ph1 w1 s1 r1 f1 => ?_⟩
                      obtain ⟨G1', w1', s1', hd1, _, _⟩ := cap_ok s1 w1 r1 f1 hcap
                      refine ⟨G1', ph1, env, st1, .ref n, st2, r.e.step s1' w1', q2, fun v2 H2 G2 ph2 w2 s2 r2 f2 => ?_⟩
                      refine ⟨G2, ph2, env, st2, .dat (.int k), st3, (r.e.step s1' w1').step s2 w2, q3, fun v3 H3 G3 ph3 w3 s3 r3 f3 => ?_⟩
                      cases (show Dv X.K G3 v3 (.int k) from r3)
                      obtain ⟨a, ev, hpa⟩ := Rs.step s3 r2
                      obtain ⟨g, vs, hb1, hb2⟩ := w3.box n a ds hpa hbx
                      have hd3 : Dv X.K G3 v d := Dv.up s3.g d _ (Dv.up s2.g d _ hd1)
                      refine ⟨a, vs, k, j, ev, rfl, hb1, by rw [hb2.len]; exact hix, ?_⟩
                      exact k1 _ _ rfl _ _ G3 ph3 ((((r.step s1' w1').step s2 w2).step s3 w3).setB hpa (by rw [hbx]; rfl) (hb2.set j hd3)) fun a u q => s3.g a u (s2.g a u (s1'.g a u q))
              | _ => cases ed
            | _ => cases ed
        | _ => cases ed
/-! ### x.append(e), x.extend(e) -/
theorem ok_app {i : Nat} {e : Expr} {ee : Ex} {x : Str} {px apos cpos pos : Pos} (hv : PE X (.Name x px) (tVar i)) (he : PE X e (tE X.K (ee.den cf)))
    (h : PE X (.Call (.Attribute (.Name x px) "append" apos) [e] [] cpos) (tBM X.K "list" rAppend (tVar i) (tCons (tE X.K (ee.den cf)) tNil)))
    (hs : swapsWith (.Call (.Attribute (.Name x px) "append" apos) [e] [] cpos) none pos.line X.env = pure false) :
    PS X (.Expr (.Call (.Attribute (.Name x px) "append" apos) [e] [] cpos) pos) (tS X.K H0 G0 ph0 ((Stm.app i ee).den cf)) :=
  psW (ps_expr h hs) fun D σ H ⟨G, ph, env, st, ot, r, ed, k1, k2⟩ => by
    simp only [Stm.den] at ed
    split at ed
    · rename_i ds hi
      cases q1 : ee.den cf env st with
      | none => rw [q1] at ed; cases ed
      | some p =>
        obtain ⟨y, st1⟩ := p
        rw [q1] at ed
        dsimp only at ed
        cases hcap : y.cap with
        | none => rw [hcap] at ed; cases ed
        | some d =>
          rw [hcap] at ed
          dsimp only at ed
          split at ed
          · rename_i hlen
            cases ed
            obtain ⟨v, hv, a, vs, ev, b1, b2, b3, b4⟩ := r.e.sl i _ hi
            subst ev
            refine ⟨.ref a, hv, .inl ⟨rfl, vs, SqL.of b1⟩, ?_⟩
            refine ⟨G, ph, env, st, y, st1, r.e, q1, fun v1 H1 G1 ph1 w1 s1 r1 f1 => ?_⟩
            obtain ⟨G2, w2, s2, hd2, up, sm⟩ := cap_ok s1 w1 r1 f1 hcap
            have hl1 : H1 a = some (.lst vs) := s1.fr a _ b1 b3
            have b5 : DvAll X.K G2 vs ds := DvAll.up s2.g ds vs b4
            refine ⟨a, vs, v1, rfl, rfl, hl1, by rw [b5.len]; exact hlen, ?_⟩
            exact k1 _ _ rfl _ _ G2 ph1 ((r.step s2 w2).mut hi hv (s2.Gnone b1 b2) (s2.notin b1 b3) (b5.app (.one hd2))) s2.g
          · cases ed
    · cases ed
theorem ok_ext {i : Nat} {e : Expr} {ee : Ex} {x : Str} {px apos cpos pos : Pos} (hv : PE X (.Name x px) (tVar i)) (he : PE X e (tE X.K (ee.den cf)))
    (h : PE X (.Call (.Attribute (.Name x px) "extend" apos) [e] [] cpos) (tBM X.K "list" rExtend (tVar i) (tCons (tE X.K (ee.den cf)) tNil)))
    (hs : swapsWith (.Call (.Attribute (.Name x px) "extend" apos) [e] [] cpos) none pos.line X.env = pure false) :
    PS X (.Expr (.Call (.Attribute (.Name x px) "extend" apos) [e] [] cpos) pos) (tS X.K H0 G0 ph0 ((Stm.ext i ee).den cf)) :=
  psW (ps_expr h hs) fun D σ H ⟨G, ph, env, st, ot, r, ed, k1, k2⟩ => by
    simp only [Stm.den] at ed
    split at ed
    · rename_i ds hi
      split at ed
      · rename_i y st1 q1
        split at ed
        · rename_i es hvw
          split at ed
          · rename_i hlen
            cases ed
            obtain ⟨v, hv, a, vs, ev, b1, b2, b3, b4⟩ := r.e.sl i _ hi
            subst ev
            refine ⟨.ref a, hv, .inl ⟨rfl, vs, SqL.of b1⟩, ?_⟩
            refine ⟨G, ph, env, st, y, st1, r.e, q1, fun v1 H1 G1 ph1 w1 s1 r1 f1 => ?_⟩
            obtain ⟨b, us, eb, c1, c4⟩ := r1.viewL w1 hvw
            have hl1 : H1 a = some (.lst vs) := s1.fr a _ b1 b3
            have b5 : DvAll X.K G1 vs ds := DvAll.up s1.g ds vs b4
            subst eb
            refine ⟨a, b, vs, us, rfl, rfl, hl1, c1, by rw [b5.len, c4.len]; exact fits hlen, ?_⟩
            exact k1 _ _ rfl _ _ G1 ph1 ((r.step s1 w1).mut hi hv (s1.Gnone b1 b2) (s1.notin b1 b3) (b5.app c4)) s1.g
          · cases ed
        · cases ed
      · cases ed
    · cases ed
/-! ### x[i] = e on a list of one's own -/
theorem ok_setO {n : Nat} {x : Str} {px : Pos} {i e : Expr} {ei ee : Ex} {tpos pos : Pos} (he : PE X e (tE X.K (ee.den cf))) (ho : PE X (.Name x px) (tVar n)) (hi : PE X i (tE X.K (ei.den cf)))
    (ha : ∀ v, assign (.Subscript (.Name x px) i tpos) X.env v = (do
      let ov ← holding [v] (eval (.Name x px) X.env)
      let iv ← holding [v, ov] (eval i X.env)
      standAt tpos
      holding [v, ov, iv] (setItem ov iv v)
      release [v, ov, iv] []))
    (hs : swapsWithSole [.Subscript (.Name x px) i tpos] e pos.line X.env = pure false) (hw : swappedStores [.Subscript (.Name x px) i tpos] e X.env = pure none)
    (h1 : (assignEach [.Subscript (.Name x px) i tpos] X.env).map (·.2) = [assign (.Subscript (.Name x px) i tpos) X.env]) :
    PS X (.Assign [.Subscript (.Name x px) i tpos] e pos) (tS X.K H0 G0 ph0 ((Stm.setO n ei ee).den cf)) :=
  psW (ps_asg he (pg_sub ho hi set_list ha) hs hw h1) fun D σ H ⟨G, ph, env, st, ot, r, ed, k1, k2⟩ => by
    simp only [Stm.den] at ed
    split at ed
    · rename_i ds hn
      split at ed
      · rename_i y st1 q1
        split at ed
        · rename_i q st2 q2
          split at ed
          · rename_i d j hcap hix
            cases ed
            obtain ⟨v, hv, a, vs, ev, b1, b2, b3, b4⟩ := r.e.sl n _ hn
            subst ev
            refine ⟨G, ph, env, st, y, st1, r.e, q1, fun v1 H1 G1 ph1 w1 s1 r1 f1 => ?_⟩
            obtain ⟨G2, w2, s2, hd2, up, sm⟩ := cap_ok s1 w1 r1 f1 hcap
            refine ⟨.ref a, hv, ?_⟩
            refine ⟨G2, ph1, env, st1, .dat (.int q), st2, r.e.step s2 w2, q2, fun v3 H3 G3 ph3 w3 s3 r3 f3 => ?_⟩
            cases (show Dv X.K G3 v3 (.int q) from r3)
            have S := s2.trans s3
            have b5 : DvAll X.K G3 vs ds := DvAll.up S.g ds vs b4
            refine ⟨a, vs, q, j, rfl, rfl, S.fr a _ b1 b3, by rw [b5.len]; exact hix, ?_⟩
            exact k1 _ _ rfl _ _ G3 ph3 (((r.step s2 w2).step s3 w3).mut hn hv (S.Gnone b1 b2) (S.notin b1 b3) (b5.set j (Dv.up s3.g d _ hd2))) S.g
          · cases ed
        · cases ed
      · cases ed
    · cases ed
/-! ### while -/
theorem whlN_next {c : En → Bx → Option (Bool × Bx)} {b : En → Bx → Option Out} {m : Nat} {env : En} {st : Bx} {o : Out} (h : whlN c b m env st = some o) :
    ∃ d st1, c env st = some (d, st1) ∧ (d = false → o = .nx env st1) ∧ (d = true → ∃ m', m = m' + 1 ∧ ∃ o1, b env st1 = some o1 ∧
      (∀ r st2, o1 = .rt r st2 → o = .rt r st2) ∧ (∀ env2 st2, o1 = .nx env2 st2 → whlN c b m' env2 st2 = some o)) := by
  cases m with
  | zero => cases h
  | succ m =>
    unfold whlN at h
    cases q : c env st with
    | none => rw [q] at h; cases h
    | some p =>
      obtain ⟨d, st1⟩ := p
      rw [q] at h
      refine ⟨d, st1, rfl, fun e => ?_, fun e => ?_⟩
      · subst e; cases h; rfl
      · subst e
        dsimp only at h
        cases q2 : b env st1 with
        | none => rw [q2] at h; cases h
        | some o1 =>
          rw [q2] at h
          refine ⟨m, rfl, o1, rfl, fun r st2 e => ?_, fun env2 st2 e => ?_⟩
          · subst e; cases h; rfl
          · subst e; exact h
theorem whlD_some {c : En → Bx → Option (Bool × Bx)} {b : En → Bx → Option Out} {env : En} {st : Bx} {o : Out} (h : whlD c b env st = some o) : ∃ n, whlN c b n env st = some o := by
  unfold whlD at h
  split at h
  · exact ⟨_, h⟩
  · cases h
theorem ok_whl {c : Expr} {body : List Stmt} {t : Ts} {b : Stms} {pos : Pos} (hp : PassesOwn (model X.prog X.w) X.A X.env X.xe) (hc : PT X c (tT X.K (t.den cf))) (hb : PSs X body (tS X.K H0 G0 ph0 (b.den cf))) : PS X (.While c body [] pos) (tS X.K H0 G0 ph0 ((Stm.whl t b).den cf)) :=
  psW (ps_while hp hc hb) fun D σ H ⟨G, ph, env, st, o, r, ed, k1, k2⟩ => by
    simp only [Stm.den] at ed
    obtain ⟨n, hn⟩ := whlD_some ed
    let Gb := G
    refine ⟨fun m σ H => ∃ G ph env st, Rl X.K H0 G0 ph0 G H ph env st σ ∧ (∀ a u, Gb a = some u → G a = some u) ∧ whlN (t.den cf) (b.den cf) m env st = some o, ⟨n, G, ph, env, st, r, fun _ _ q => q, hn⟩, ?_⟩
    rintro m σ1 H1 ⟨G1, ph1, env1, st1, r1, up1, q1⟩
    obtain ⟨d, st2, qc, qf, qt⟩ := whlN_next q1
    refine ⟨G1, ph1, env1, st1, d, st2, r1.e, qc, fun H2 G2 ph2 w2 s2 => ?_⟩
    cases d with
    | false =>
      rw [if_neg (by decide)]
      exact k1 _ _ (qf rfl) _ _ G2 ph2 (r1.step s2 w2) fun a u q => s2.g a u (up1 a u q)
    | true =>
      rw [if_pos rfl]
      obtain ⟨m', em, o1, qb, qr, qn⟩ := qt rfl
      refine ⟨fun σ H => ∃ G ph env st, Rl X.K H0 G0 ph0 G H ph env st σ ∧ (∀ a u, Gb a = some u → G a = some u) ∧ whlN (t.den cf) (b.den cf) m' env st = some o, fun σ' H' z => ⟨m', by omega, z⟩, ?_⟩
      refine ⟨G2, ph2, env1, st2, o1, r1.step s2 w2, qb, fun env' st' e σ' H' G' ph' r' u' => ⟨G', ph', env', st', r', fun a u q => u' a u (s2.g a u (up1 a u q)), qn _ _ e⟩, fun r' st' e => k2 _ _ (qr _ _ e)⟩
/-! ### for -/
theorem ok_for {tg iter : Expr} {body : List Stmt} {t : Tg} {it : Itx} {b : Stms} {pos : Pos} (hp : PassesOwn (model X.prog X.w) X.A X.env X.xe) (hc : X.calm = true) (hi : PI X tg iter (tI X.K false (it.den cf false))) (hg : PG X tg (gB X.K t)) (hb : PSs X body (tS X.K H0 G0 ph0 (b.den cf)))
    (hs : ∀ x, foldedSetIterable iter X.env x = pure x) : PS X (.For tg iter body [] pos) (tS X.K H0 G0 ph0 ((Stm.forr t it b).den cf)) :=
  psW (ps_for hp hc hi hg hb hs) fun D σ H ⟨G, ph, env, st, o, r, ed, k1, k2⟩ => by
    simp only [Stm.den] at ed
    cases q0 : it.den cf false env st with
    | none => rw [q0] at ed; cases ed
    | some p =>
      obtain ⟨items, st1⟩ := p
      rw [q0] at ed
      dsimp only at ed
      refine ⟨G, ph, env, st, items, st1, r.e, q0, fun J H1 G1 ph1 w1 s1 wk => ?_⟩
      obtain ⟨Gc, Y, walk, per, yl⟩ := wk
      generalize hstep : (fun d env st => (t.bind d env).bind fun env1 => b.den cf env1 st : PyData → En → Bx → Option Out) = step at ed
      refine for_it walk (fun i σi Hi => ∃ Gi phi envi sti, Rl X.K H0 G0 ph0 Gi Hi phi envi sti σi ∧ (∀ a u, G1 a = some u → Gi a = some u) ∧ forGo step (items.drop i) envi sti = some o) ?_ ?_ ?_ ?_
      · exact ⟨G1, ph1, env, st1, r.step s1 w1, fun _ _ h => h, ed⟩
      · rintro i σi Hi _ ⟨Gi, phi, envi, sti, ri, up, _⟩
        exact per Gi Hi phi ri.e.w.sub up
      · rintro i x σi Hi H3 hi ⟨Gi, phi, envi, sti, ri, up, go⟩ y3
        have hd : items[i]? = some items[i] := List.getElem?_eq_getElem hi
        rw [List.drop_eq_getElem_cons hi] at go
        unfold forGo at go
        obtain ⟨G3, w3, s3, hx⟩ := yl i x Hi H3 items[i] Gi phi sti hd ri.e.w up y3
        have r3 := ri.step s3 w3
        rw [← hstep] at go
        dsimp only at go
        cases qb : t.bind items[i] envi with
        | none => rw [qb] at go; cases go
        | some env1 =>
          rw [qb] at go
          simp only [Option.bind_some] at go
          refine ⟨G3, items[i], envi, env1, w3.sub, hx, qb, fun σ2 u2 => ?_⟩
          have r4 := r3.ud u2
          cases qd : b.den cf env1 sti with
          | none => rw [qd] at go; cases go
          | some o1 =>
            rw [qd] at go
            refine ⟨G3, phi, env1, sti, o1, r4, qd, fun env' st' e σ' H' G' ph' r' u' => ?_, fun r' st' e => ?_⟩
            · subst e
              dsimp only at go
              exact ⟨G', ph', env', st', r', fun a u q => u' a u (s3.g a u (up a u q)), by rw [← hstep]; exact go⟩
            · subst e
              dsimp only at go
              cases go
              exact k2 _ _ rfl
      · rintro σn Hn ⟨Gn, phn, envn, stn, rn, up, go⟩
        rw [List.drop_length] at go
        unfold forGo at go
        cases go
        exact k1 _ _ rfl _ _ Gn phn rn fun a u q => up a u (s1.g a u q)
/-! ### comprehensions as expressions -/
theorem ok_ifs0 : PTs X [] (tT X.K (Tso.no.den cf)) := ⟨fun pins s σ H Q I ⟨G, ph, env, st, b, st', E, e, k⟩ => by
  simp only [Tso.den] at e
  cases e
  exact pts_nil.run pins s σ H Q I (show Q true H from k H G ph E.w Stp.refl)⟩
theorem ok_ifs1 {a : Expr} {t : Ts} (h : PT X a (tT X.K (t.den cf))) : PTs X [a] (tT X.K ((Tso.yes t).den cf)) := ⟨fun pins s σ H Q I ⟨G, ph, env, st, b, st', E, e, k⟩ => by
  simp only [Tso.den] at e
  exact (pts_one h).run pins s σ H Q I ⟨G, ph, env, st, b, st', E, e, k⟩⟩
theorem ok_lc {elt tg iter : Expr} {ifs : List Expr} {scope : Scope} {own : List (Str × Nat)} {pos : Pos} {el : Ex} {t : Tg} {it : Itx} {cd : Tso} (hc : X.calm = true) (hN : X.N.Nodup) (hi : PI X tg iter (tI X.K true (it.den cf true))) (ok : BlkOk X.N X.env.scope scope own)
    (hix : ∀ i ∈ t.idx, i ∈ own.map (·.2))
    (hg : ∀ (s : Shared) (H : Hp) (C : Addr) (cl : List (Str × Addr)) (fp : List Addr), PG (X.blk s H scope (compEnvC scope cl C X.env) fp) tg (gB X.K t)) (ht : ∀ (s : Shared) (H : Hp) (C : Addr) (cl : List (Str × Addr)) (fp : List Addr), PTs (X.blk s H scope (compEnvC scope cl C X.env) fp) ifs (tT X.K (cd.den cf)))
    (he : ∀ (s : Shared) (H : Hp) (C : Addr) (cl : List (Str × Addr)) (fp : List Addr), PE (X.blk s H scope (compEnvC scope cl C X.env) fp) elt (tE X.K (el.den cf))) (hs : ∀ x, foldedSetIterable iter X.env x = pure x) :
    PE X (.ListComp elt [⟨tg, iter, ifs, 0⟩] scope pos) (tE X.K ((Ex.lc el t it cd (own.map (·.2))).den cf)) :=
  peW (pe_lc hc hN hi ok hg ht he hs) (lc_ok hix (fun _ _ _ _ h => h) (fun _ _ _ h => h) fun _ _ _ h => h)
theorem ok_setLc {i : Nat} {y : Str} {py : Pos} {elt tg iter : Expr} {ifs : List Expr} {scope : Scope} {own : List (Str × Nat)} {pos spos : Pos} {el : Ex} {t : Tg} {it : Itx} {cd : Tso} (hc : X.calm = true) (hN : X.N.Nodup) (hy : X.N[i]? = some y) (hyl : X.env.scope.names.lookup y = some .local)
    (hsw : swapsWith (.ListComp elt [⟨tg, iter, ifs, 0⟩] scope pos) (some (.Name y py)) spos.line X.env = pure true) (hi : PI X tg iter (tI X.K true (it.den cf true))) (ok : BlkOk X.N X.env.scope scope own)
    (hix : ∀ i ∈ t.idx, i ∈ own.map (·.2))
    (hg : ∀ (s : Shared) (H : Hp) (C : Addr) (cl : List (Str × Addr)) (fp : List Addr), PG (X.blk s H scope (compEnvC scope cl C X.env) fp) tg (gB X.K t)) (ht : ∀ (s : Shared) (H : Hp) (C : Addr) (cl : List (Str × Addr)) (fp : List Addr), PTs (X.blk s H scope (compEnvC scope cl C X.env) fp) ifs (tT X.K (cd.den cf)))
    (he : ∀ (s : Shared) (H : Hp) (C : Addr) (cl : List (Str × Addr)) (fp : List Addr), PE (X.blk s H scope (compEnvC scope cl C X.env) fp) elt (tE X.K (el.den cf))) (hs : ∀ x, foldedSetIterable iter X.env x = pure x) :
    PS X (.Assign [.Name y py] (.ListComp elt [⟨tg, iter, ifs, 0⟩] scope pos) spos) (tS X.K H0 G0 ph0 ((Stm.asg i (.lc el t it cd (own.map (·.2)))).den cf)) :=
  psW (ps_setLc hc hN hy hyl hsw hi ok hg ht he hs) (asgW (lc_ok hix (fun _ _ _ _ h => h) (fun _ _ _ h => h) fun _ _ _ h => h))
end
end Sy

namespace Sy
open PySem PySem.Spec PyProof.Rows L2

/-! ### the text beside its term: what is checked -/
/-- where a text stands: the slots' names, the scope, which cells are one's own -/
structure Cc where
  N : List Str
  sc : Scope
  fn : Str → Bool
/-- what the module has: defs, built-ins that no global hides -/
structure Sg where
  fs : List String
  bs : List String
  gs : List (String × PyData)
def Cc.blk (c : Cc) (scope : Scope) : Cc := ⟨c.N, relS scope c.sc, fun x => scope.names.lookup x == some .cell⟩
def nmB (c : Cc) (i : Nat) (x : Str) : Bool := decide (c.N[i]? = some x)
def visB (sc : Scope) (x : Str) : Bool := match sc.names.lookup x with
  | some .local => true
  | some .cell => true
  | some .free => true
  | _ => false
def dbgB (x : Str) : Bool := !(x == ("__debug__" : Str)) && !(x == ("__classdict__" : Str))
def varB (c : Cc) (i : Nat) (x : Str) : Bool := nmB c i x && visB c.sc x && dbgB x
def locB (c : Cc) (x : Str) : Bool := decide (c.sc.names.lookup x = some .local)
def putB (c : Cc) (i : Nat) (x : Str) : Bool := nmB c i x && (match c.sc.names.lookup x with
  | some .local => true
  | some .cell => c.fn x
  | _ => false)
def glB (c : Cc) (x : Str) : Bool := decide (c.sc.names.lookup x = some .globalImplicit)
def noStar : Expr → Bool
  | .Starred _ _ => false
  | _ => true
def isComp : Expr → Bool
  | .ListComp _ _ _ _ => true
  | .SetComp _ _ _ _ => true
  | .DictComp _ _ _ _ _ => true
  | _ => false
def isSet : Expr → Bool
  | .Set _ _ _ => true
  | _ => false
def isSlice : Expr → Bool
  | .Slice _ _ _ _ => true
  | _ => false
def isTuple : Expr → Bool
  | .Tuple _ _ _ => true
  | _ => false
def plainT : Expr → Bool
  | .UnaryOp _ _ _ => false
  | .BoolOp _ _ _ => false
  | .IfExp _ _ _ _ => false
  | .Compare _ _ _ _ => false
  | _ => true
def swB (c : Cc) (scope : Scope) (t : Str) (pos vpos : Pos) : Bool :=
  (if c.sc.kind.isAnnotationScope then ScopeKind.function else c.sc.kind) == .function && c.sc.names.lookup t == some .local && pos.line == vpos.line && !(scope.names.any fun (n, k) => n == t && (k == .local || k == .cell))
def parB (c : Cc) (x y : Str) (px py : Pos) (a b : Expr) : Bool :=
  c.sc.kind == .function && locB c x && locB c y && py.line == px.line && !(x == y) && noStar a && noStar b && !(foldedForSure 8 a && foldedForSure 8 b) && !(constantsAlone 8 a && constantsAlone 8 b)
def par3B (c : Cc) (x y z : Str) (px py pz : Pos) (a b d : Expr) : Bool :=
  c.sc.kind == .function && locB c x && locB c y && locB c z && py.line == px.line && pz.line == px.line && !(x == y) && !(x == z) && !(y == z) && noStar a && noStar b && noStar d && !(foldedForSure 8 a && (foldedForSure 8 b && foldedForSure 8 d)) && !(constantsAlone 8 a && (constantsAlone 8 b && constantsAlone 8 d))
def nonLoc (c : Cc) : Expr → Bool
  | .Name x _ => !locB c x
  | _ => true
def unpB (c : Cc) (es : List Expr) (e : Expr) : Bool := match e with
  | .Tuple vs _ _ => vs.all (foldedForSure 8) || es.any (nonLoc c)
  | _ => true
def constB : PyData → Const → Bool
  | .none, .none => true
  | .bool b, .bool b' => b == b'
  | .int i, .int j => decide (i = j)
  | .str x, .str y => decide (x = y)
  | _, _ => false

/-! two data alike, decided -/
mutual
def sameD : PyData → PyData → Bool
  | .none, .none => true
  | .bool a, .bool b => a == b
  | .int i, .int j => decide (i = j)
  | .str x, .str y => decide (x = y)
  | .list xs, .list ys => sameDs xs ys
  | .tuple xs, .tuple ys => sameDs xs ys
  | _, _ => false
def sameDs : List PyData → List PyData → Bool
  | [], [] => true
  | d :: ds, e :: es => sameD d e && sameDs ds es
  | _, _ => false
end
mutual
theorem sameD_eq : ∀ {d e : PyData}, sameD d e = true → d = e
  | .none, .none, _ => rfl
  | .bool a, .bool b, h => by unfold sameD at h; rw [beq_iff_eq.mp h]
  | .int i, .int j, h => by unfold sameD at h; rw [of_decide_eq_true h]
  | .str x, .str y, h => by unfold sameD at h; rw [of_decide_eq_true h]
  | .list xs, .list ys, h => by unfold sameD at h; rw [sameDs_eq h]
  | .tuple xs, .tuple ys, h => by unfold sameD at h; rw [sameDs_eq h]
theorem sameDs_eq : ∀ {d e : List PyData}, sameDs d e = true → d = e
  | [], [], _ => rfl
  | d :: ds, e :: es, h => by
    unfold sameDs at h
    rw [Bool.and_eq_true] at h
    rw [sameD_eq h.1, sameDs_eq h.2]
end
section
variable {X : Cx}
theorem star1 {e : Expr} (es : List Expr) (env : Env) (h : noStar e = true) : starEach (e :: es) env = (false, eval e env) :: starEach es env := by
  cases e <;> first | rfl | cases h
theorem back0 (pos : Pos) (env : Env) : ∀ {es : List Expr}, es.all noStar = true → (backTo pos (starEach es env)).any (·.1) = false
  | [], _ => rfl
  | e :: es, h => by
    rw [List.all_cons, Bool.and_eq_true] at h
    rw [star1 es env h.1]
    show (false || (backTo pos (starEach es env)).any (·.1)) = false
    rw [back0 pos env h.2]
    rfl
theorem asg1 {e : Expr} (es : List Expr) (env : Env) (h : noStar e = true) : assignEach (e :: es) env = (false, assign e env) :: assignEach es env := by
  cases e <;> first | rfl | cases h
theorem asgLen (env : Env) : ∀ {es : List Expr}, es.all noStar = true → (assignEach es env).length = es.length ∧ (assignEach es env).findIdx? (·.1) = none
  | [], _ => ⟨rfl, rfl⟩
  | e :: es, h => by
    rw [List.all_cons, Bool.and_eq_true] at h
    obtain ⟨h1, h2⟩ := asgLen env h.2
    rw [asg1 es env h.1]
    refine ⟨by rw [List.length_cons, List.length_cons, h1], ?_⟩
    rw [List.findIdx?_cons]
    simp [h2]
theorem swN {e : Expr} {t : Option Expr} {l : Nat} {env : Env} (h : isComp e = false) : swapsWith e t l env = pure false := by
  cases e <;> first | rfl | cases h
theorem swL {elt : Expr} {gs : List Comprehension} {scope : Scope} {pos py : Pos} {y : Str} {l : Nat} {env : Env} {c : Cc} (hs : env.scope = c.sc) : swapsWith (.ListComp elt gs scope pos) (some (.Name y py)) l env = pure (swB c scope y py pos) := by
  unfold swB
  rw [← hs]
  rfl
theorem swT {e : Expr} {es : List Expr} {k : Nat} {p : Pos} {l : Nat} {env : Env} : swapsWithSole [.Tuple es k p] e l env = pure false := by
  cases e <;> rfl
theorem swS {e o i : Expr} {p : Pos} {l : Nat} {env : Env} : swapsWithSole [.Subscript o i p] e l env = pure false := by
  cases e <;> rfl
theorem ssS {e o i : Expr} {p : Pos} {env : Env} : swappedStores [.Subscript o i p] e env = pure none := by
  cases e <;> rfl
theorem folds {e : Expr} (h : isSet e = false) (env : Env) : ∀ x, foldedSetIterable e env x = pure x := fun x => by
  cases e <;> first | rfl | cases h
theorem plT {e : Expr} {env : Env} (h : plainT e = true) : ∀ whole, isTrue e env whole = (do let v ← whole; standAt e.pos; holding [v] (truthy v)) := fun whole => by
  cases e <;> first | rfl | cases h
theorem plIx {b : Expr} (h : isSlice b = false) : PlainIx b := fun o i => by
  cases b <;> first | rfl | cases h
theorem noMark {o : CmpOp} {b : Expr} (h : isSet b = false) : behindInMarks o b = false := by
  cases b <;> first | rfl | cases h
def rvB : Expr → Bool
  | .Slice none none (some (.UnaryOp .USub (.Constant (.int i) _ _) _)) _ => i == 1
  | _ => false
theorem rvB_eq {e : Expr} (h : rvB e = true) : ∃ k p1 p2 p3, e = .Slice none none (some (.UnaryOp .USub (.Constant (.int 1) k p1) p2)) p3 := by
  unfold rvB at h
  split at h
  · rename_i i k p1 p2 p3
    rw [beq_iff_eq] at h
    subst h
    exact ⟨_, _, _, _, rfl⟩
  · cases h
theorem fm_lt {α β : Type} {f : α → Option β} : ∀ {l : List α}, (∃ a ∈ l, f a = none) → (l.filterMap f).length < l.length
  | [], ⟨_, h, _⟩ => nomatch h
  | a :: l, ⟨b, h, e⟩ => by
    rw [List.filterMap_cons, List.length_cons]
    cases hf : f a with
    | none =>
      have := List.length_filterMap_le f l
      dsimp only
      omega
    | some y =>
      rcases List.mem_cons.mp h with rfl | h
      · rw [hf] at e; cases e
      · have := fm_lt ⟨b, h, e⟩
        dsimp only
        rw [List.length_cons]
        omega
theorem ite_non {α : Type} {c : Prop} [Decidable c] {x y : α} (h : ¬ c → y = x) : (if c then x else y) = x := by
  by_cases z : c
  · rw [if_pos z]
  · rw [if_neg z, h z]
theorem ssT {c : Cc} {e : Expr} {es : List Expr} {k : Nat} {p : Pos} {env : Env} (hs : env.scope = c.sc) (h : unpB c es e = true) : swappedStores [.Tuple es k p] e env = pure none := by
  cases e with
  | Tuple vs k2 p2 =>
    unfold unpB at h
    dsimp only at h
    rw [Bool.or_eq_true] at h
    rcases h with h | h
    · unfold swappedStores
      simp only [h, if_true]
      repeat' split
      all_goals rfl
    · obtain ⟨a, ha, hn⟩ := List.any_eq_true.mp h
      have key : ∀ f : Expr → Option Str, (∀ x q, env.kindOf x ≠ some .local → f (.Name x q) = none) → (∀ b, (∀ x q, b ≠ .Name x q) → f b = none) → ((es.filterMap f).length != es.length) = true := fun f f1 f2 => by
        have hf : f a = none := by
          cases a with
          | Name x q =>
            refine f1 x q fun hk => ?_
            unfold nonLoc locB at hn
            unfold Env.kindOf at hk
            rw [hs] at hk
            dsimp only at hn
            rw [hk] at hn
            simp at hn
          | _ => exact f2 _ (fun x q z => by cases z)
        have := fm_lt ⟨a, ha, hf⟩
        rw [bne_iff_ne]
        omega
      unfold swappedStores
      refine ite_non fun _ => ite_non fun _ => ?_
      refine Eq.trans (if_pos ?_) rfl
      rw [Bool.or_eq_true]
      refine .inl (key _ (fun x q hk => ?_) fun b hb => ?_)
      · refine if_neg fun z => ?_
        rw [Bool.and_eq_true, beq_iff_eq] at z
        exact hk z.1
      · cases b <;> first | rfl | exact absurd rfl (hb _ _)
  | _ => rfl
theorem ssP {c : Cc} {x y : Str} {px py : Pos} {a b : Expr} {kt k2 : Nat} {pt p2 : Pos} {env : Env} (hs : env.scope = c.sc) (h : parB c x y px py a b = true) : swappedStores [.Tuple [.Name x px, .Name y py] kt pt] (.Tuple [a, b] k2 p2) env = pure (some [x, y]) := by
  unfold parB locB at h
  simp only [Bool.and_eq_true, decide_eq_true_eq, Bool.not_eq_true', beq_iff_eq, beq_eq_false_iff_ne] at h
  obtain ⟨⟨⟨⟨⟨⟨⟨⟨h1, h2⟩, h3⟩, h4⟩, h5⟩, h6⟩, h7⟩, h8⟩, h9⟩ := h
  have kx : env.kindOf x = some .local := by unfold Env.kindOf; rw [hs]; exact h2
  have ky : env.kindOf y = some .local := by unfold Env.kindOf; rw [hs]; exact h3
  have bk : env.blockKind = .function := by unfold Env.blockKind; rw [hs, h1]; rfl
  have st : ∀ p : Expr → Bool, (∀ e, noStar e = true → p e = false) → ¬ ([a, b].any p = true) := fun p q => by
    rw [List.any_cons, List.any_cons, List.any_nil, q a h6, q b h7]; decide
  have f8 : ([a, b].all (foldedForSure 8)) = false := by rw [List.all_cons, List.all_cons, List.all_nil, Bool.and_true]; exact h8
  have f9 : ([a, b].all (constantsAlone 8)) = false := by rw [List.all_cons, List.all_cons, List.all_nil, Bool.and_true]; exact h9
  have nm : ∀ p : Expr → Option Str, p (.Name x px) = some x → p (.Name y py) = some y → List.filterMap p [.Name x px, .Name y py] = [x, y] := fun p q1 q2 => by
    rw [List.filterMap_cons, q1]
    show x :: List.filterMap p [.Name y py] = _
    rw [List.filterMap_cons, q2]
    rfl
  have yx : (y == x) = false := by rw [beq_eq_false_iff_ne]; exact fun e => h5 e.symm
  have dd : ([x, y].eraseDups) = [x, y] := by
    rw [List.eraseDups_cons, List.filter_cons, yx]
    simp [List.eraseDups_cons]
  unfold swappedStores
  simp only [bk, f8, f9]
  refine (if_neg (by simp)).trans ?_
  refine (if_neg (st _ fun e he => by cases e <;> first | rfl | cases he)).trans ?_
  rw [nm _ (by simp [kx, Expr.pos]) (by simp [ky, h4, Expr.pos]), dd]
  rfl
theorem ssP3 {c : Cc} {x y z : Str} {px py pz : Pos} {a b d : Expr} {kt k2 : Nat} {pt p2 : Pos} {env : Env} (hs : env.scope = c.sc) (h : par3B c x y z px py pz a b d = true) : swappedStores [.Tuple [.Name x px, .Name y py, .Name z pz] kt pt] (.Tuple [a, b, d] k2 p2) env = pure (some [x, y, z]) := by
  unfold par3B locB at h
  simp only [Bool.and_eq_true, decide_eq_true_eq, Bool.not_eq_true', beq_iff_eq, beq_eq_false_iff_ne] at h
  obtain ⟨⟨⟨⟨⟨⟨⟨⟨⟨⟨⟨⟨⟨h1, h2⟩, h3⟩, h4⟩, h5⟩, h6⟩, h7⟩, h8⟩, h9⟩, ha⟩, hb⟩, hd⟩, hf⟩, hg⟩ := h
  have kx : env.kindOf x = some .local := by unfold Env.kindOf; rw [hs]; exact h2
  have ky : env.kindOf y = some .local := by unfold Env.kindOf; rw [hs]; exact h3
  have kz : env.kindOf z = some .local := by unfold Env.kindOf; rw [hs]; exact h4
  have bk : env.blockKind = .function := by unfold Env.blockKind; rw [hs, h1]; rfl
  have st : ∀ p : Expr → Bool, (∀ e, noStar e = true → p e = false) → ¬ ([a, b, d].any p = true) := fun p q => by
    rw [List.any_cons, List.any_cons, List.any_cons, List.any_nil, q a ha, q b hb, q d hd]; decide
  have f8 : ([a, b, d].all (foldedForSure 8)) = false := by rw [List.all_cons, List.all_cons, List.all_cons, List.all_nil, Bool.and_true]; exact hf
  have f9 : ([a, b, d].all (constantsAlone 8)) = false := by rw [List.all_cons, List.all_cons, List.all_cons, List.all_nil, Bool.and_true]; exact hg
  have nm : ∀ p : Expr → Option Str, p (.Name x px) = some x → p (.Name y py) = some y → p (.Name z pz) = some z → List.filterMap p [.Name x px, .Name y py, .Name z pz] = [x, y, z] := fun p q1 q2 q3 => by
    rw [List.filterMap_cons, q1]
    show x :: List.filterMap p [.Name y py, .Name z pz] = _
    rw [List.filterMap_cons, q2]
    show x :: y :: List.filterMap p [.Name z pz] = _
    rw [List.filterMap_cons, q3]
    rfl
  have yx : (y == x) = false := by rw [beq_eq_false_iff_ne]; exact fun e => h7 e.symm
  have zx : (z == x) = false := by rw [beq_eq_false_iff_ne]; exact fun e => h8 e.symm
  have zy : (z == y) = false := by rw [beq_eq_false_iff_ne]; exact fun e => h9 e.symm
  have dd : ([x, y, z].eraseDups) = [x, y, z] := by
    rw [List.eraseDups_cons, List.filter_cons, yx]
    simp [List.eraseDups_cons, zx, List.filter_cons, zy]
  unfold swappedStores
  simp only [bk, f8, f9]
  refine (if_neg (by simp)).trans ?_
  refine (if_neg (st _ fun e he => by cases e <;> first | rfl | cases he)).trans ?_
  rw [nm _ (by simp [kx, Expr.pos]) (by simp [ky, h5, Expr.pos]) (by simp [kz, h6, Expr.pos]), dd]
  rfl
end
/-! ### the check -/
def opB : Bop → Operator → Bool
  | .add, .Add => true | .sub, .Sub => true | .mul, .Mult => true | .fdiv, .FloorDiv => true | .mod, .Mod => true | .pow, .Pow => true
  | _, _ => false
def cpB (o : Cop) (q : CmpOp) : Bool := decide (q = cOf o)
def isB (neg : Bool) (q : CmpOp) : Bool := decide (q = if neg then .IsNot else .Is)
def ownOf (c : Cc) (ow : List Nat) : List (Str × Nat) := ow.filterMap fun i => (c.N[i]?).map fun x => (x, i)
def lcB (c : Cc) (scope : Scope) (ow ix : List Nat) : Bool :=
  blkC c.N c.sc scope (ownOf c ow) && decide ((ownOf c ow).map (·.2) = ow) && ix.all fun i => decide (i ∈ ow)
mutual
def chkG (c : Cc) : Tg → Expr → Bool
  | .nm i, e => match e with
    | .Name x _ => putB c i x
    | _ => false
  | .tp ts, e => match e with
    | .Tuple es _ _ => chkGs c ts es
    | _ => false
def chkGs (c : Cc) : Tgs → List Expr → Bool
  | .nil, es => match es with
    | [] => true
    | _ => false
  | .cons t r, es => match es with
    | e :: es => noStar e && chkG c t e && chkGs c r es
    | _ => false
end
mutual
def chkE (S : Sg) : Ex → Cc → Expr → Bool
  | .c d, _, e => match e with
    | .Constant k _ _ => constB d k
    | _ => false
  | .v i, c, e => match e with
    | .Name x _ => varB c i x
    | _ => false
  | .g x d, c, e => match e with
    | .Name y _ => decide (y = Str.ofString x) && glB c y && dbgB y && (S.gs.any fun p => decide (p.1 = x) && sameD p.2 d)
    | _ => false
  | .never, _, _ => true
  | .bin o a b, c, e => match e with
    | .BinOp l p r _ => opB o p && chkE S a c l && chkE S b c r
    | _ => false
  | .neg a, c, e => match e with
    | .UnaryOp .USub l _ => chkE S a c l
    | _ => false
  | .tst t, c, e => chkT S t c e
  | .ite t a b, c, e => match e with
    | .IfExp q l r _ => chkT S t c q && chkE S a c l && chkE S b c r
    | _ => false
  | .tup es, c, e => match e with
    | .Tuple l _ _ => chkEs S es c l
    | _ => false
  | .lst es, c, e => match e with
    | .List l _ => chkEs S es c l
    | _ => false
  | .box es, c, e => match e with
    | .List l _ => chkEs S es c l
    | _ => false
  | .ix a b, c, e => match e with
    | .Subscript l r _ => !isSlice r && chkE S a c l && chkE S b c r
    | _ => false
  | .sl a lo hi, c, e => match e with
    | .Subscript l (.Slice p q none _) _ => chkE S a c l && chkO S lo c p && chkO S hi c q
    | _ => false
  | .rev a, c, e => match e with
    | .Subscript l q _ => rvB q && chkE S a c l
    | _ => false
  | .call f es, c, e => match e with
    | .Call (.Name x _) l [] _ => decide (x = Str.ofString f) && decide (f ∈ S.fs) && glB c x && dbgB x && chkEs S es c l
    | _ => false
  | .blt f es, c, e => match e with
    | .Call (.Name x _) (a :: l) [] _ => decide (x = Str.ofString (bltName f)) && decide (bltName f ∈ S.bs) && glB c x && chkEs S es c (a :: l)
    | _ => false
  | .isi a t, c, e => match e with
    | .Call (.Name x _) [l, .Name y _] [] _ => decide (x = Str.ofString "isinstance") && decide ("isinstance" ∈ S.bs) && glB c x && decide (y = Str.ofString (tyName t)) && decide (tyName t ∈ S.bs) && glB c y && noStar l && chkE S a c l
    | _ => false
  | .lc el t it cd ow, c, e => match e with
    | .ListComp elt [⟨tg, iter, ifs, 0⟩] scope _ => lcB c scope ow t.idx && !isSet iter && chkI S it c tg iter && chkG (c.blk scope) t tg && chkC S cd (c.blk scope) ifs && chkE S el (c.blk scope) elt
    | _ => false
def chkEs (S : Sg) : Exs → Cc → List Expr → Bool
  | .nil, _, es => match es with
    | [] => true
    | _ => false
  | .cons a r, c, es => match es with
    | e :: es => noStar e && chkE S a c e && chkEs S r c es
    | _ => false
def chkO (S : Sg) : Exo → Cc → Option Expr → Bool
  | .no, _, o => match o with
    | none => true
    | _ => false
  | .yes a, c, o => match o with
    | some e => chkE S a c e
    | _ => false
def chkT (S : Sg) : Ts → Cc → Expr → Bool
  | .val a, c, e => plainT e && chkE S a c e
  | .cmp o a b, c, e => match e with
    | .Compare l [q] [r] _ => cpB o q && !isSet r && chkE S a c l && chkE S b c r
    | _ => false
  | .chn a r, c, e => match e with
    | .Compare l (q1 :: q2 :: qs) (e1 :: e2 :: es) _ => !lastMarks (q1 :: q2 :: qs) (e1 :: e2 :: es) && chkE S a c l && chkH S r c (q1 :: q2 :: qs) (e1 :: e2 :: es)
    | _ => false
  | .isn a neg, c, e => match e with
    | .Compare l [q] [.Constant .none _ _] _ => isB neg q && chkE S a c l
    | _ => false
  | .isb a neg k, c, e => match e with
    | .Compare l [q] [.Constant (.bool b) _ _] _ => isB neg q && (k == b) && chkE S a c l
    | _ => false
  | .and ts, c, e => match e with
    | .BoolOp .And es _ => chkTs S ts c es
    | _ => false
  | .or ts, c, e => match e with
    | .BoolOp .Or es _ => chkTs S ts c es
    | _ => false
  | .not t, c, e => match e with
    | .UnaryOp .Not l _ => chkT S t c l
    | _ => false
def chkH (S : Sg) : Chn → Cc → List CmpOp → List Expr → Bool
  | .last o b, c, qs, es => match qs, es with
    | [q], [e] => cpB o q && chkE S b c e
    | _, _ => false
  | .link o b r, c, qs, es => match qs, es with
    | q :: qs, e :: es => cpB o q && chkE S b c e && chkH S r c qs es
    | _, _ => false
def chkTs (S : Sg) : Tss → Cc → List Expr → Bool
  | .one t, c, es => match es with
    | [e] => chkT S t c e
    | _ => false
  | .cons t r, c, es => match es with
    | e :: e2 :: es => chkT S t c e && chkTs S r c (e2 :: es)
    | _ => false
def chkC (S : Sg) : Tso → Cc → List Expr → Bool
  | .no, _, es => match es with
    | [] => true
    | _ => false
  | .yes t, c, es => match es with
    | [e] => chkT S t c e
    | _ => false
/-- tg: the target beside it -/
def chkI (S : Sg) : Itx → Cc → Expr → Expr → Bool
  | .seq a, c, _, e => chkE S a c e
  | .rng es, c, _, e => match e with
    | .Call (.Name x _) l [] _ => decide (x = Str.ofString "range") && decide ("range" ∈ S.bs) && glB c x && chkEs S es c l && (match es with
      | .cons _ .nil => true
      | .cons _ (.cons _ .nil) => true
      | _ => false)
    | _ => false
  | .zip a b, c, tg, e => match e with
    | .Call (.Name x _) [l, r] [] _ => isTuple tg && decide (x = Str.ofString "zip") && decide ("zip" ∈ S.bs) && glB c x && noStar l && noStar r && chkE S a c l && chkE S b c r
    | _ => false
  | .enum a, c, tg, e => match e with
    | .Call (.Name x _) [l] [] _ => isTuple tg && decide (x = Str.ofString "enumerate") && decide ("enumerate" ∈ S.bs) && glB c x && noStar l && chkE S a c l
    | _ => false
end
/-- o.append(e): the method, on one line -/
def mthB (c : Cc) (i : Nat) (m : String) (x a : Str) (apos cpos : Pos) : Bool := varB c i x && decide (a = Str.ofString m) && apos.endLine == cpos.line
mutual
def chkS (S : Sg) : Stm → Cc → Stmt → Bool
  | .never, _, _ => true
  | .pass, _, s => match s with
    | .Pass _ => true
    | _ => false
  | .asg i e, c, s => match s with
    | .Assign [.Name x p] v pos => chkE S e c v && nmB c i x && (match e, v with
      | .lc _ _ _ _ _, .ListComp _ _ scope vp => locB c x && (swB c scope x p vp || putB c i x)
      | _, _ => !isComp v && putB c i x)
    | _ => false
  | .par i j a b, c, s => match s with
    | .Assign [.Tuple [.Name x px, .Name y py] _ _] (.Tuple [l, r] _ _) _ => nmB c i x && nmB c j y && parB c x y px py l r && chkE S a c l && chkE S b c r
    | _ => false
  | .par3 i j l a b d, c, s => match s with
    | .Assign [.Tuple [.Name x px, .Name y py, .Name z pz] _ _] (.Tuple [p, q, r] _ _) _ => nmB c i x && nmB c j y && nmB c l z && par3B c x y z px py pz p q r && chkE S a c p && chkE S b c q && chkE S d c r
    | _ => false
  | .setO i k e, c, s => match s with
    | .Assign [.Subscript (.Name x _) r _] v _ => varB c i x && !isSlice r && chkE S k c r && chkE S e c v
    | _ => false
  | .unp t e, c, s => match s with
    | .Assign [.Tuple es k p] v _ => unpB c es v && chkG c t (.Tuple es k p) && chkE S e c v
    | _ => false
  | .setB o i e, c, s => match s with
    | .Assign [.Subscript l r _] v _ => !isSlice r && chkE S o c l && chkE S i c r && chkE S e c v
    | _ => false
  | .exp e, c, s => match s with
    | .Expr v _ => !isComp v && chkE S e c v
    | _ => false
  | .app i e, c, s => match s with
    | .Expr (.Call (.Attribute (.Name x _) a apos) [v] [] cpos) _ => mthB c i "append" x a apos cpos && noStar v && chkE S e c v
    | _ => false
  | .ext i e, c, s => match s with
    | .Expr (.Call (.Attribute (.Name x _) a apos) [v] [] cpos) _ => mthB c i "extend" x a apos cpos && noStar v && chkE S e c v
    | _ => false
  | .iff t a b, c, s => match s with
    | .If q l r _ => chkT S t c q && chkSs S a c l && chkSs S b c r
    | _ => false
  | .whl t b, c, s => match s with
    | .While q l [] _ => chkT S t c q && chkSs S b c l
    | _ => false
  | .forr t it b, c, s => match s with
    | .For tg iter l [] _ => !isSet iter && chkI S it c tg iter && chkG c t tg && chkSs S b c l
    | _ => false
  | .ret e, c, s => match s with
    | .Return (some v) _ => chkE S e c v
    | _ => false
  | .retv i, c, s => match s with
    | .Return (some (.Name x _)) _ => varB c i x
    | _ => false
  | .frz _, _, _ => false
def chkSs (S : Sg) : Stms → Cc → List Stmt → Bool
  | .nil, _, ss => match ss with
    | [] => true
    | _ => false
  | .cons d r, c, ss => match d with
    | .frz _ => chkSs S r c ss
    | d => match ss with
      | s :: ss => chkS S d c s && chkSs S r c ss
      | _ => false
end
end Sy

namespace Sy
open PySem PySem.Spec PyProof.Rows L2

/-- the context stands as the check takes it -/
structure Good (X : Cx) (c : Cc) (cf : Cf) (S : Sg) : Prop where
  hN : X.N = c.N
  nd : c.N.Nodup
  sc : X.env.scope = c.sc
  fn : X.fn = c.fn
  calm : X.calm = true
  gd : X.A.guards = some []
  un : X.A.units + 65 < cLine
  xe : X.xe = fun _ _ => False
  cal : ∀ f ∈ S.fs, Cal X f (cf f)
  bs : ∀ x ∈ S.bs, X.mg (Str.ofString x) = none
  gs : ∀ p ∈ S.gs, ∃ u w, X.mg (Str.ofString p.1) = some u ∧ RelV w u ∧ ∀ G : Hp, Dv X.K G w p.2
section
variable {X : Cx} {c : Cc} {cf : Cf} {S : Sg}
theorem Good.blk (g : Good X c cf S) {s : Shared} {H : Hp} {scope : Scope} {C : Addr} {cl : List (Str × Addr)} {fp : List Addr} : Good (X.blk s H scope (compEnvC scope cl C X.env) fp) (c.blk scope) cf S := by
  refine ⟨g.hN, g.nd, ?_, rfl, g.calm, g.gd, g.un, rfl, fun f hf => g.cal f hf, fun x hx => g.bs x hx, fun p hp => g.gs p hp⟩
  show relS scope X.env.scope = relS scope c.sc
  rw [g.sc]
theorem Good.pass (g : Good X c cf S) : PassesOwn (model X.prog X.w) X.A X.env X.xe := by rw [g.xe]; exact PassesOwn.never
theorem Good.nm (g : Good X c cf S) {i : Nat} {x : Str} (h : nmB c i x = true) : X.N[i]? = some x := by rw [g.hN]; exact of_decide_eq_true h
theorem Good.gl (g : Good X c cf S) {x : Str} (h : glB c x = true) : Gl X x := by
  show X.env.scope.names.lookup x = _
  rw [g.sc]; exact of_decide_eq_true h
theorem Good.loc (g : Good X c cf S) {x : Str} (h : locB c x = true) : X.env.scope.names.lookup x = some .local := by rw [g.sc]; exact of_decide_eq_true h
theorem dbg_no {x : Str} (h : dbgB x = true) : (x == ("__debug__" : Str)) = false ∧ (x == ("__classdict__" : Str)) = false := by
  unfold dbgB at h
  simpa using h
theorem Good.var (g : Good X c cf S) {i : Nat} {x : Str} {pos : Pos} (h : varB c i x = true) : PE X (.Name x pos) (tVar i) := by
  unfold varB at h
  simp only [Bool.and_eq_true] at h
  obtain ⟨⟨h1, h2⟩, h3⟩ := h
  obtain ⟨d1, d2⟩ := dbg_no h3
  refine pe_var (g.nm h1) ?_ d1 d2
  unfold visB at h2
  rw [← g.sc] at h2
  split at h2
  · rename_i e; exact .inl e
  · rename_i e; exact .inr (.inl e)
  · rename_i e; exact .inr (.inr e)
  · cases h2
theorem Good.put (g : Good X c cf S) {i : Nat} {x : Str} (h : putB c i x = true) : X.N[i]? = some x ∧ Loc X.env.scope x ∧ (X.fn x = true ∨ X.env.scope.names.lookup x = some .local) := by
  unfold putB at h
  simp only [Bool.and_eq_true] at h
  obtain ⟨h1, h2⟩ := h
  rw [← g.sc, ← g.fn] at h2
  refine ⟨g.nm h1, ?_⟩
  split at h2
  · rename_i e; exact ⟨.inl e, .inr e⟩
  · rename_i e; exact ⟨.inr e, .inl h2⟩
  · cases h2
theorem Good.ndX (g : Good X c cf S) : X.N.Nodup := by rw [g.hN]; exact g.nd
end
/-! ### targets -/
mutual
theorem sG {cf : Cf} {S : Sg} : ∀ (t : Tg) {X : Cx} {c : Cc} {e : Expr}, Good X c cf S → chkG c t e = true → PG X e (gB X.K t)
  | .nm i, X, c, e, g, h => by
    (unfold chkG at h)
    split at h
    · obtain ⟨h1, h2, h3⟩ := g.put h
      exact ok_nm (pg_name g.ndX h1 h2 h3)
    · cases h
  | .tp ts, X, c, e, g, h => by
    (unfold chkG at h)
    split at h
    · obtain ⟨h1, h2, h3⟩ := sGs ts g h
      obtain ⟨h4, h5⟩ := asgLen X.env h2
      exact ok_tp g.calm h1 (h4.trans h3) h5
    · cases h
theorem sGs {cf : Cf} {S : Sg} : ∀ (ts : Tgs) {X : Cx} {c : Cc} {es : List Expr}, Good X c cf S → chkGs c ts es = true → PGs X es (gBs X.K ts) ∧ es.all noStar = true ∧ es.length = ts.many
  | .nil, X, c, es, g, h => by
    (unfold chkGs at h)
    split at h
    · exact ⟨ok_gnil, rfl, rfl⟩
    · cases h
  | .cons t r, X, c, es, g, h => by
    (unfold chkGs at h)
    split at h
    · simp only [Bool.and_eq_true] at h
      obtain ⟨⟨h1, h2⟩, h3⟩ := h
      obtain ⟨q1, q2, q3⟩ := sGs r g h3
      refine ⟨ok_gcons (sG t g h2) q1 (by rw [asg1 _ _ h1]; rfl), by rw [List.all_cons, h1, q2]; rfl, by rw [List.length_cons, q3]; rfl⟩
    · cases h
end
/-! ### expressions -/
theorem opB_eq {o : Bop} {p : Operator} (h : opB o p = true) : p = opOf o := by
  cases o <;> cases p <;> first | rfl | cases h
theorem lcB_ok {X : Cx} {c : Cc} {cf : Cf} {S : Sg} (g : Good X c cf S) {scope : Scope} {ow ix : List Nat} (h : lcB c scope ow ix = true) : BlkOk X.N X.env.scope scope (ownOf c ow) ∧ (ownOf c ow).map (·.2) = ow ∧ ∀ i ∈ ix, i ∈ (ownOf c ow).map (·.2) := by
  unfold lcB at h
  simp only [Bool.and_eq_true, decide_eq_true_eq, List.all_eq_true] at h
  obtain ⟨⟨h1, h2⟩, h3⟩ := h
  refine ⟨?_, h2, fun i hi => by rw [h2]; exact h3 i hi⟩
  rw [g.hN, g.sc]
  exact blkOk_by h1
mutual
theorem sE {cf : Cf} {S : Sg} : ∀ (d : Ex) {X : Cx} {c : Cc} {e : Expr}, Good X c cf S → chkE S d c e = true → PE X e (tE X.K (d.den cf))
  | .c d, X, c, e, g, h => by
    (unfold chkE at h)
    split at h
    · rename_i k _ _
      cases d <;> cases k <;> first | cases h | skip
      · exact ok_non
      · cases beq_iff_eq.mp h; exact ok_bl
      · cases of_decide_eq_true h; exact ok_int
      · cases of_decide_eq_true h; exact ok_str
    · cases h
  | .v i, X, c, e, g, h => by
    (unfold chkE at h)
    split at h
    · exact ok_var (g.var h)
    · cases h
  | .g x d, X, c, e, g, h => by
    (unfold chkE at h)
    split at h
    · simp only [Bool.and_eq_true, List.any_eq_true] at h
      obtain ⟨⟨⟨h1, h2⟩, h3⟩, p, hp, h4, h5⟩ := h
      obtain ⟨u, w, q1, q2, q3⟩ := g.gs p hp
      cases of_decide_eq_true h1
      have e5 := sameD_eq h5
      have e4 : p.1 = x := of_decide_eq_true h4
      rw [e4] at q1
      rw [e5] at q3
      exact ok_glob (pe_glob (g.gl h2) q1 q2 (dbg_no h3).1) q3
    · cases h
  | .never, X, c, e, g, h => ok_never
  | .bin o a b, X, c, e, g, h => by
    (unfold chkE at h)
    split at h
    · simp only [Bool.and_eq_true] at h
      obtain ⟨⟨h1, h2⟩, h3⟩ := h
      rw [opB_eq h1]
      exact ok_bin o (sE a g h2) (sE b g h3)
    · cases h
  | .neg a, X, c, e, g, h => by
    (unfold chkE at h)
    split at h
    · exact ok_neg (sE a g h)
    · cases h
  | .tst t, X, c, e, g, h => by
    (unfold chkE at h)
    exact ok_tst (sT t g h).2
  | .ite t a b, X, c, e, g, h => by
    (unfold chkE at h)
    split at h
    · simp only [Bool.and_eq_true] at h
      obtain ⟨⟨h1, h2⟩, h3⟩ := h
      exact ok_ite (sT t g h1).1 (sE a g h2) (sE b g h3)
    · cases h
  | .tup es, X, c, e, g, h => by
    (unfold chkE at h)
    split at h
    · exact ok_tup (sEs es g h).1
    · cases h
  | .lst es, X, c, e, g, h => by
    (unfold chkE at h)
    split at h
    · exact ok_lst (sEs es g h).1
    · cases h
  | .box es, X, c, e, g, h => by
    (unfold chkE at h)
    split at h
    · exact ok_box (sEs es g h).1
    · cases h
  | .ix a b, X, c, e, g, h => by
    (unfold chkE at h)
    split at h
    · simp only [Bool.and_eq_true, Bool.not_eq_true'] at h
      obtain ⟨⟨h1, h2⟩, h3⟩ := h
      exact ok_ix (sE a g h2) (sE b g h3) (plIx h1)
    · cases h
  | .sl a lo hi, X, c, e, g, h => by
    (unfold chkE at h)
    split at h
    · simp only [Bool.and_eq_true] at h
      obtain ⟨⟨h1, h2⟩, h3⟩ := h
      exact ok_sl (sE a g h1) (sO lo g h2) (sO hi g h3)
    · cases h
  | .rev a, X, c, e, g, h => by
    (unfold chkE at h)
    split at h
    · rw [Bool.and_eq_true] at h
      obtain ⟨k, p1, p2, p3, e0⟩ := rvB_eq h.1
      subst e0
      exact ok_rev (sE a g h.2)
    · cases h
  | .call f es, X, c, e, g, h => by
    (unfold chkE at h)
    split at h
    · rename_i l _
      simp only [Bool.and_eq_true, decide_eq_true_eq] at h
      obtain ⟨⟨⟨⟨h1, h2⟩, h3⟩, h4⟩, h5⟩ := h
      subst h1
      obtain ⟨q1, q2⟩ := sEs es g h5
      cases l with
      | nil =>
        cases es with
        | nil => exact ok_call0 g.gd (g.cal f h2) (g.gl h3) (dbg_no h4).1
        | cons a r => (unfold chkEs at h5); cases h5
      | cons a l =>
        rw [List.all_cons, Bool.and_eq_true] at q2
        exact ok_call g.gd (g.cal f h2) (g.gl h3) (dbg_no h4).1 q1 (star1 _ _ q2.1) (back0 _ _ q2.2)
    · cases h
  | .blt f es, X, c, e, g, h => by
    (unfold chkE at h)
    split at h
    · simp only [Bool.and_eq_true, decide_eq_true_eq] at h
      obtain ⟨⟨⟨h1, h2⟩, h3⟩, h5⟩ := h
      subst h1
      obtain ⟨q1, q2⟩ := sEs es g h5
      rw [List.all_cons, Bool.and_eq_true] at q2
      exact ok_blt (blt_ok g.calm g.gd g.un f) (g.gl h3) (g.bs _ h2) q1 (star1 _ _ q2.1) (back0 _ _ q2.2)
    · cases h
  | .isi a t, X, c, e, g, h => by
    (unfold chkE at h)
    split at h
    · simp only [Bool.and_eq_true, decide_eq_true_eq] at h
      obtain ⟨⟨⟨⟨⟨⟨⟨h1, h2⟩, h3⟩, h4⟩, h5⟩, h6⟩, h7⟩, h8⟩ := h
      subst h1 h4
      exact ok_isi t (g.gl h3) (g.bs _ h2) (g.gl h6) (g.bs _ h5) (sE a g h8) (star1 _ _ h7)
    · cases h
  | .lc el t it cd ow, X, c, e, g, h => by
    (unfold chkE at h)
    split at h
    · simp only [Bool.and_eq_true, Bool.not_eq_true'] at h
      obtain ⟨⟨⟨⟨⟨h1, h2⟩, h3⟩, h4⟩, h5⟩, h6⟩ := h
      obtain ⟨b1, b2, b3⟩ := lcB_ok g h1
      rw [← b2]
      exact ok_lc g.calm g.ndX (sI it true g h3) b1 b3 (fun s H C cl fp => sG t (g.blk) h4) (fun s H C cl fp => sC cd (g.blk) h5) (fun s H C cl fp => sE el (g.blk) h6) (folds h2 _)
    · cases h
theorem sEs {cf : Cf} {S : Sg} : ∀ (d : Exs) {X : Cx} {c : Cc} {e : List Expr}, Good X c cf S → chkEs S d c e = true → PA X e (tAs X.K (d.den cf)) ∧ e.all noStar = true
  | .nil, X, c, e, g, h => by
    (unfold chkEs at h)
    split at h
    · exact ⟨ok_nil, rfl⟩
    · cases h
  | .cons a r, X, c, e, g, h => by
    (unfold chkEs at h)
    split at h
    · simp only [Bool.and_eq_true] at h
      obtain ⟨⟨h1, h2⟩, h3⟩ := h
      obtain ⟨q1, q2⟩ := sEs r g h3
      exact ⟨ok_cons (sE a g h2) q1 (star1 _ _ h1), by rw [List.all_cons, h1, q2]; rfl⟩
    · cases h
theorem sO {cf : Cf} {S : Sg} : ∀ (d : Exo) {X : Cx} {c : Cc} {e : Option Expr}, Good X c cf S → chkO S d c e = true → PO X e (tO X.K (d.den cf))
  | .no, X, c, e, g, h => by
    (unfold chkO at h)
    split at h
    · exact ok_no
    · cases h
  | .yes a, X, c, e, g, h => by
    (unfold chkO at h)
    split at h
    · exact ok_yes (sE a g h)
    · cases h
theorem sT {cf : Cf} {S : Sg} : ∀ (d : Ts) {X : Cx} {c : Cc} {e : Expr}, Good X c cf S → chkT S d c e = true → PT X e (tT X.K (d.den cf)) ∧ PE X e (tE X.K (asV (d.den cf)))
  | .val a, X, c, e, g, h => by
    (unfold chkT at h; rw [Bool.and_eq_true] at h)
    exact ⟨ok_valT (sE a g h.2) (plT h.1), ok_valV (sE a g h.2)⟩
  | .cmp o a b, X, c, e, g, h => by
    (unfold chkT at h)
    split at h
    · simp only [Bool.and_eq_true, Bool.not_eq_true'] at h
      obtain ⟨⟨⟨h1, h2⟩, h3⟩, h4⟩ := h
      cases of_decide_eq_true h1
      exact ⟨ok_cmpT o g.un (sE a g h3) (sE b g h4) (noMark h2), ok_cmpV o g.un (sE a g h3) (sE b g h4) (noMark h2)⟩
    · cases h
  | .chn a r, X, c, e, g, h => by
    (unfold chkT at h)
    split at h
    · simp only [Bool.and_eq_true, Bool.not_eq_true'] at h
      obtain ⟨⟨h1, h2⟩, h3⟩ := h
      exact ⟨ok_chnT g.un (sE a g h2) (sH r g h3) h1, ok_chnV g.un (sE a g h2) (sH r g h3) h1⟩
    · cases h
  | .isn a neg, X, c, e, g, h => by
    (unfold chkT at h)
    split at h
    · simp only [Bool.and_eq_true] at h
      cases of_decide_eq_true h.1
      exact ⟨ok_isnT neg (sE a g h.2), ok_isnV neg (sE a g h.2)⟩
    · cases h
  | .isb a neg k, X, c, e, g, h => by
    (unfold chkT at h)
    split at h
    · simp only [Bool.and_eq_true] at h
      obtain ⟨⟨h1, h2⟩, h3⟩ := h
      cases of_decide_eq_true h1
      cases beq_iff_eq.mp h2
      exact ⟨ok_isbT neg k (sE a g h3), ok_isbV neg k (sE a g h3)⟩
    · cases h
  | .and ts, X, c, e, g, h => by
    (unfold chkT at h)
    split at h
    · rename_i es pos
      have q := (sTs ts g h).1 pos
      refine ⟨(ptW q.1.pt fun σ H Q z => by simpa only [Ts.den] using z), peW q.2 fun σ H Q z => ?_⟩
      have e : asV ((Ts.and ts).den cf) = asV (ts.all cf) := by funext env st; simp only [asV, Ts.den]
      rw [e] at z; exact z
    · cases h
  | .or ts, X, c, e, g, h => by
    (unfold chkT at h)
    split at h
    · rename_i es pos
      have q := (sTs ts g h).2 pos
      refine ⟨(ptW q.1.pt fun σ H Q z => by simpa only [Ts.den] using z), peW q.2 fun σ H Q z => ?_⟩
      have e : asV ((Ts.or ts).den cf) = asV (ts.any cf) := by funext env st; simp only [asV, Ts.den]
      rw [e] at z; exact z
    · cases h
  | .not t, X, c, e, g, h => by
    (unfold chkT at h)
    split at h
    · exact ⟨ok_notT (sT t g h).1, ok_notV (sT t g h).2⟩
    · cases h
theorem sH {cf : Cf} {S : Sg} : ∀ (d : Chn) {X : Cx} {c : Cc} {qs : List CmpOp} {es : List Expr}, Good X c cf S → chkH S d c qs es = true → ChnOk X cf d qs es
  | .last o b, X, c, qs, es, g, h => by
    (unfold chkH at h)
    split at h
    · simp only [Bool.and_eq_true] at h
      exact ⟨of_decide_eq_true h.1, sE b g h.2⟩
    · cases h
  | .link o b r, X, c, qs, es, g, h => by
    (unfold chkH at h)
    split at h
    · simp only [Bool.and_eq_true] at h
      exact ⟨of_decide_eq_true h.1.1, sE b g h.1.2, sH r g h.2⟩
    · cases h
theorem sTs {cf : Cf} {S : Sg} : ∀ (d : Tss) {X : Cx} {c : Cc} {es : List Expr}, Good X c cf S → chkTs S d c es = true →
    (∀ pos, PW X (.BoolOp .And es pos) (tT X.K (d.all cf)) ∧ PE X (.BoolOp .And es pos) (tE X.K (asV (d.all cf)))) ∧ (∀ pos, PW X (.BoolOp .Or es pos) (tT X.K (d.any cf)) ∧ PE X (.BoolOp .Or es pos) (tE X.K (asV (d.any cf))))
  | .one t, X, c, es, g, h => by
    (unfold chkTs at h)
    split at h
    · have q := sT t g h
      exact ⟨fun pos => ⟨ok_and1W q.1, ok_and1V q.2⟩, fun pos => ⟨ok_or1W q.1, ok_or1V q.2⟩⟩
    · cases h
  | .cons t r, X, c, es, g, h => by
    (unfold chkTs at h)
    split at h
    · simp only [Bool.and_eq_true] at h
      have q := sT t g h.1
      have z := sTs r g h.2
      exact ⟨fun pos => ⟨ok_andW q.1 (z.1 pos).1, ok_andV q.2 (z.1 pos).2⟩, fun pos => ⟨ok_orW q.1 (z.2 pos).1, ok_orV q.2 (z.2 pos).2⟩⟩
    · cases h
theorem sC {cf : Cf} {S : Sg} : ∀ (d : Tso) {X : Cx} {c : Cc} {es : List Expr}, Good X c cf S → chkC S d c es = true → PTs X es (tT X.K (d.den cf))
  | .no, X, c, es, g, h => by
    (unfold chkC at h)
    split at h
    · exact ok_ifs0
    · cases h
  | .yes t, X, c, es, g, h => by
    (unfold chkC at h)
    split at h
    · exact ok_ifs1 (sT t g h).1
    · cases h
theorem sI {cf : Cf} {S : Sg} : ∀ (d : Itx) (m : Bool) {X : Cx} {c : Cc} {tg e : Expr}, Good X c cf S → chkI S d c tg e = true → PI X tg e (tI X.K m (d.den cf m))
  | .seq a, m, X, c, tg, e, g, h => by
    (unfold chkI at h)
    exact ok_seq (sE a g h)
  | .rng es, m, X, c, tg, e, g, h => by
    (unfold chkI at h)
    split at h
    · rename_i l _
      simp only [Bool.and_eq_true, decide_eq_true_eq] at h
      obtain ⟨⟨⟨⟨h1, h2⟩, h3⟩, h4⟩, h5⟩ := h
      subst h1
      obtain ⟨q1, q2⟩ := sEs es g h4
      split at h5
      · cases l with
        | nil => (unfold chkEs at h4); cases h4
        | cons a l =>
          (unfold chkEs at h4; rw [Bool.and_eq_true] at h4; unfold chkEs at h4)
          cases l with
          | nil =>
            rw [List.all_cons, Bool.and_eq_true] at q2
            exact ok_rng1 (g.gl h3) (g.bs _ h2) q1 (star1 _ _ q2.1)
          | cons b l => cases h4.2
      · cases l with
        | nil => (unfold chkEs at h4); cases h4
        | cons a l =>
          (unfold chkEs at h4; rw [Bool.and_eq_true] at h4)
          cases l with
          | nil => (unfold chkEs at h4); cases h4.2
          | cons b l =>
            (unfold chkEs at h4; rw [Bool.and_eq_true] at h4; unfold chkEs at h4)
            cases l with
            | nil =>
              rw [List.all_cons, Bool.and_eq_true, List.all_cons, Bool.and_eq_true] at q2
              exact ok_rng2 (g.gl h3) (g.bs _ h2) q1 (by rw [star1 _ _ q2.1, star1 _ _ q2.2.1]; rfl) (star1 _ _ q2.2.1)
            | cons b l =>
              have z := h4.2
              dsimp only at z
              rw [Bool.and_eq_true] at z
              cases z.2
      · cases h5
    · cases h
  | .zip a b, m, X, c, tg, e, g, h => by
    (unfold chkI at h)
    split at h
    · simp only [Bool.and_eq_true, decide_eq_true_eq] at h
      obtain ⟨⟨⟨⟨⟨⟨⟨h0, h1⟩, h2⟩, h3⟩, h4⟩, h5⟩, h6⟩, h7⟩ := h
      subst h1
      cases tg <;> first | cases h0 | skip
      exact ok_zip (g.gl h3) (g.bs _ h2) (ok_cons (sE a g h6) (ok_cons (sE b g h7) ok_nil (star1 _ _ h5)) (star1 _ _ h4)) (star1 _ _ h4) (back0 _ _ (by rw [List.all_cons, h5]; rfl))
    · cases h
  | .enum a, m, X, c, tg, e, g, h => by
    (unfold chkI at h)
    split at h
    · simp only [Bool.and_eq_true, decide_eq_true_eq] at h
      obtain ⟨⟨⟨⟨⟨h0, h1⟩, h2⟩, h3⟩, h4⟩, h5⟩ := h
      subst h1
      cases tg <;> first | cases h0 | skip
      exact ok_enum (g.gl h3) (g.bs _ h2) (ok_cons (sE a g h5) ok_nil (star1 _ _ h4)) (star1 _ _ h4)
    · cases h
end
end Sy

namespace Sy
open PySem PySem.Spec PyProof.Rows L2

theorem attr1 {x : Str} {p : Pos} {a : Str} {env : Env} : attributeBase (.Name x p) a env (eval (.Name x p) env) = eval (.Name x p) env := rfl
theorem mth_ok {X : Cx} {c : Cc} {cf : Cf} {S : Sg} (g : Good X c cf S) {i : Nat} {m : String} {x a : Str} {px apos cpos : Pos} {v : Expr} {T id : String} {r : V → List V → Hp → VK → Prop} {te : TE} (h : mthB c i m x a apos cpos = true) (hv : noStar v = true) (he : PE X v te)
    (pa : PySem.PlainAttrs T) (slot : PySem.Slot T (Str.ofString m) id) (hty : typeOf (.builtin id) = pure (.type "method_descriptor")) (hm : MtR X id r) :
    PE X (.Name x px) (tVar i) ∧ a = Str.ofString m ∧ PE X (.Call (.Attribute (.Name x px) a apos) [v] [] cpos) (tBM X.K T r (tVar i) (tCons te tNil)) := by
  unfold mthB at h
  simp only [Bool.and_eq_true, decide_eq_true_eq] at h
  obtain ⟨⟨h1, h2⟩, h3⟩ := h
  subst h2
  have s1 := star1 [] X.env hv
  refine ⟨g.var h1, rfl, pe_bm pa slot hty hm (g.var h1) (pa_cons he pa_nil s1) attr1 ?_ h3 s1 rfl⟩
  rw [s1]
  rfl
mutual
theorem sS {cf : Cf} {S : Sg} {H0 G0 : Hp} {ph0 : List Addr} : ∀ (d : Stm) {X : Cx} {c : Cc} {s : Stmt}, Good X c cf S → chkS S d c s = true → PS X s (tS X.K H0 G0 ph0 (d.den cf))
  | .never, X, c, s, g, h => ok_snever
  | .pass, X, c, s, g, h => by
    unfold chkS at h
    split at h
    · exact ok_pass
    · cases h
  | .asg i e, X, c, s, g, h => by
    unfold chkS at h
    split at h
    · rename_i x p v pos
      simp only [Bool.and_eq_true] at h
      obtain ⟨⟨h1, h2⟩, h3⟩ := h
      split at h3
      · rename_i el t it cd ow elt gs scope vp
        rw [Bool.and_eq_true, Bool.or_eq_true] at h3
        have hl := g.loc h3.1
        by_cases hw : swB c scope x p vp = true
        · unfold chkE at h1
          split at h1
          · rename_i q
            cases q
            simp only [Bool.and_eq_true, Bool.not_eq_true'] at h1
            obtain ⟨⟨⟨⟨⟨k1, k2⟩, k3⟩, k4⟩, k5⟩, k6⟩ := h1
            obtain ⟨b1, b2, b3⟩ := lcB_ok g k1
            rw [← b2]
            exact ok_setLc g.calm g.ndX (g.nm h2) hl ((swL g.sc).trans (by rw [hw])) (sI it true g k3) b1 b3 (fun s H C cl fp => sG t (g.blk) k4) (fun s H C cl fp => sC cd (g.blk) k5) (fun s H C cl fp => sE el (g.blk) k6) (folds k2 _)
          · cases h1
        · obtain ⟨q1, q2, q3⟩ := g.put (h3.2.resolve_left hw)
          exact ok_asg g.ndX q1 q2 (sE _ g h1) ((swL g.sc).trans (by rw [Bool.not_eq_true] at hw; rw [hw])) q3
      · rw [Bool.and_eq_true, Bool.not_eq_true'] at h3
        obtain ⟨q1, q2, q3⟩ := g.put h3.2
        exact ok_asg g.ndX q1 q2 (sE e g h1) (swN h3.1) q3
    · cases h
  | .par i j a b, X, c, s, g, h => by
    unfold chkS at h
    split at h
    · simp only [Bool.and_eq_true] at h
      obtain ⟨⟨⟨⟨h1, h2⟩, h3⟩, h4⟩, h5⟩ := h
      have hp := ssP (kt := 0) (k2 := 0) (pt := ⟨0, 0, 0, 0⟩) (p2 := ⟨0, 0, 0, 0⟩) g.sc h3
      have hp2 := h3
      unfold parB at h3
      simp only [Bool.and_eq_true, Bool.not_eq_true'] at h3
      obtain ⟨⟨⟨⟨⟨⟨⟨⟨k1, k2⟩, k3⟩, k4⟩, k5⟩, k6⟩, k7⟩, k8⟩, k9⟩ := h3
      have n1 := g.nm h1
      have n2 := g.nm h2
      have hij : i ≠ j := fun e => by
        subst e
        rw [n1] at n2
        cases n2
        simp at k5
      exact ok_par g.calm g.ndX n1 n2 hij (g.loc k2) (g.loc k3) (ok_cons (sE a g h4) (ok_cons (sE b g h5) ok_nil (star1 _ _ k7)) (star1 _ _ k6)) (ssP g.sc hp2) swT
    · cases h
  | .par3 i j l a b d, X, c, s, g, h => by
    unfold chkS at h
    split at h
    · simp only [Bool.and_eq_true] at h
      obtain ⟨⟨⟨⟨⟨⟨h1, h2⟩, h3⟩, h4⟩, h5⟩, h6⟩, h7⟩ := h
      have hp := h4
      unfold par3B at h4
      simp only [Bool.and_eq_true, Bool.not_eq_true'] at h4
      obtain ⟨⟨⟨⟨⟨⟨⟨⟨⟨⟨⟨⟨⟨k1, k2⟩, k3⟩, k4⟩, k5⟩, k6⟩, k7⟩, k8⟩, k9⟩, ka⟩, kb⟩, kd⟩, kf⟩, kg⟩ := h4
      have n1 := g.nm h1
      have n2 := g.nm h2
      have n3 := g.nm h3
      have ne : ∀ {p q : Nat} {u v : Str}, X.N[p]? = some u → X.N[q]? = some v → (u == v) = false → p ≠ q := fun {p q u v} m1 m2 e z => by
        subst z
        rw [m1] at m2
        cases m2
        simp at e
      exact ok_par3 g.calm g.ndX n1 n2 n3 (ne n1 n2 k7) (ne n1 n3 k8) (ne n2 n3 k9) (g.loc k2) (g.loc k3) (g.loc k4)
        (ok_cons (sE a g h5) (ok_cons (sE b g h6) (ok_cons (sE d g h7) ok_nil (star1 _ _ kd)) (star1 _ _ kb)) (star1 _ _ ka)) (ssP3 g.sc hp) swT
    · cases h
  | .setO i k e, X, c, s, g, h => by
    unfold chkS at h
    split at h
    · rename_i x xp r tp v pos
      simp only [Bool.and_eq_true, Bool.not_eq_true'] at h
      obtain ⟨⟨⟨h1, h2⟩, h3⟩, h4⟩ := h
      refine ok_setO (sE e g h4) (g.var h1) (sE k g h3) (fun v => ?_) swS ssS rfl
      cases r <;> first | rfl | cases h2
    · cases h
  | .unp t e, X, c, s, g, h => by
    unfold chkS at h
    split at h
    · simp only [Bool.and_eq_true] at h
      obtain ⟨⟨h1, h2⟩, h3⟩ := h
      exact ok_unp (sE e g h3) (sG t g h2) swT (ssT g.sc h1) rfl
    · cases h
  | .setB o i e, X, c, s, g, h => by
    unfold chkS at h
    split at h
    · rename_i l r tp v pos
      simp only [Bool.and_eq_true, Bool.not_eq_true'] at h
      obtain ⟨⟨⟨h1, h2⟩, h3⟩, h4⟩ := h
      refine ok_setB (sE e g h4) (sE o g h2) (sE i g h3) (fun v => ?_) swS ssS rfl
      cases r <;> first | rfl | cases h1
    · cases h
  | .exp e, X, c, s, g, h => by
    unfold chkS at h
    split at h
    · rw [Bool.and_eq_true, Bool.not_eq_true'] at h
      exact ok_exp (sE e g h.2) (swN h.1)
    · cases h
  | .app i e, X, c, s, g, h => by
    unfold chkS at h
    split at h
    · simp only [Bool.and_eq_true] at h
      obtain ⟨⟨h1, h2⟩, h3⟩ := h
      have he := sE e g h3
      obtain ⟨q1, q2, q3⟩ := mth_ok g h1 h2 he PySem.F.plainAttrs_list PySem.F.slot_list_append PySem.F.type_list_append mt_append
      subst q2
      exact ok_app q1 he q3 (swN rfl)
    · cases h
  | .ext i e, X, c, s, g, h => by
    unfold chkS at h
    split at h
    · simp only [Bool.and_eq_true] at h
      obtain ⟨⟨h1, h2⟩, h3⟩ := h
      have he := sE e g h3
      obtain ⟨q1, q2, q3⟩ := mth_ok g h1 h2 he PySem.F.plainAttrs_list PySem.F.slot_list_extend PySem.F.type_list_extend mt_extend
      subst q2
      exact ok_ext q1 he q3 (swN rfl)
    · cases h
  | .iff t a b, X, c, s, g, h => by
    unfold chkS at h
    split at h
    · simp only [Bool.and_eq_true] at h
      obtain ⟨⟨h1, h2⟩, h3⟩ := h
      exact ok_if (sT t g h1).1 (sSs a g h2) (sSs b g h3)
    · cases h
  | .whl t b, X, c, s, g, h => by
    unfold chkS at h
    split at h
    · rw [Bool.and_eq_true] at h
      exact ok_whl g.pass (sT t g h.1).1 (sSs b g h.2)
    · cases h
  | .forr t it b, X, c, s, g, h => by
    unfold chkS at h
    split at h
    · simp only [Bool.and_eq_true, Bool.not_eq_true'] at h
      obtain ⟨⟨⟨h1, h2⟩, h3⟩, h4⟩ := h
      exact ok_for g.pass g.calm (sI it false g h2) (sG t g h3) (sSs b g h4) (folds h1 _)
    · cases h
  | .ret e, X, c, s, g, h => by
    unfold chkS at h
    split at h
    · exact ok_ret (sE e g h)
    · cases h
  | .retv i, X, c, s, g, h => by
    unfold chkS at h
    split at h
    · exact ok_retv (g.var h)
    · cases h
  | .frz i, X, c, s, g, h => by
    unfold chkS at h
    cases h
theorem sSs {cf : Cf} {S : Sg} {H0 G0 : Hp} {ph0 : List Addr} : ∀ (d : Stms) {X : Cx} {c : Cc} {s : List Stmt}, Good X c cf S → chkSs S d c s = true → PSs X s (tS X.K H0 G0 ph0 (d.den cf))
  | .nil, X, c, s, g, h => by
    unfold chkSs at h
    split at h
    · exact ok_snil
    · cases h
  | .cons d r, X, c, ss, g, h => by
    unfold chkSs at h
    split at h
    · exact ok_frz (sSs r g h)
    · split at h
      · rw [Bool.and_eq_true] at h
        exact ok_scons (sS d g h.1) (sSs r g h.2)
      · cases h
end
end Sy

namespace Sy
open PySem PySem.Spec PyProof.Rows L2

/-- a def beside its term -/
structure Df where
  name : String
  fn : Fn
  ps : List Str
  N : List Str
  st : Stmt
def scopeB (N ps : List Str) (sc : Scope) : Bool :=
  (match sc.kind with | .function => true | _ => false) && !sc.isCoroutine && !sc.isGenerator && decide N.Nodup && decide (N.take ps.length = ps) &&
    (ps.all fun x => match sc.names.lookup x with | some .local => true | some .cell => true | _ => false) && (sc.names.all fun y => match y.2 with | .free => false | _ => true)
theorem scopeB_ok {N ps : List Str} {sc : Scope} (h : scopeB N ps sc = true) : FnScope N ps sc := by
  unfold scopeB at h
  simp only [Bool.and_eq_true, decide_eq_true_eq, Bool.not_eq_true', List.all_eq_true] at h
  obtain ⟨⟨⟨⟨⟨⟨h1, h2⟩, h3⟩, h4⟩, h5⟩, h6⟩, h7⟩ := h
  refine ⟨?_, h2, h3, h4, h5, fun x hx => ?_, fun y hy e => ?_⟩
  · split at h1
    · assumption
    · cases h1
  · have q := h6 x hx
    split at q
    · exact .inl (by assumption)
    · exact .inr (by assumption)
    · cases q
  · have q := h7 y hy
    rw [e] at q
    cases q
def chkD (S : Sg) (d : Df) : Bool := scopeB d.N d.ps (defScope d.st) && decide (d.fn.np = d.ps.length) && decide (d.fn.nv = d.N.length) && chkSs S d.fn.body ⟨d.N, defScope d.st, fun _ => true⟩ (defBody d.st)
def tbOf : List Df → String → Option Fn
  | [], _ => none
  | d :: ds, f => if d.name = f then some d.fn else tbOf ds f
theorem tbOf_mem : ∀ {ds : List Df} {f : String} {fn : Fn}, tbOf ds f = some fn → ∃ d ∈ ds, d.name = f ∧ d.fn = fn
  | d :: ds, f, fn, h => by
    unfold tbOf at h
    split at h
    · rename_i e; cases h; exact ⟨d, List.mem_cons_self, e, rfl⟩
    · obtain ⟨d', m, q⟩ := tbOf_mem h; exact ⟨d', List.mem_cons_of_mem _ m, q⟩
theorem tbOf_find : ∀ {ds : List Df}, (ds.map (·.name)).Nodup → ∀ d ∈ ds, tbOf ds d.name = some d.fn
  | d :: ds, nd, e, h => by
    unfold tbOf
    rw [List.map_cons, List.nodup_cons] at nd
    rcases List.mem_cons.mp h with rfl | h
    · rw [if_pos rfl]
    · rw [if_neg fun q => nd.1 (by rw [q]; exact List.mem_map_of_mem h)]
      exact tbOf_find nd.2 e h
/-- the def stands in the module -/
def Has (K : PySem.W.Frag) (mg : Str → Option Value) (d : Df) : Prop := ∃ f fd, mg (Str.ofString d.name) = some (.ref f) ∧ L2.Fun K (Str.ofString d.name) (Str.ofString d.name) d.st f fd ∧ Binds K fd d.ps []

section
variable {P : Program} {w : World} {K : PySem.W.Frag} {mg : Str → Option Value} {base : Heap}
theorem start_get {N : List Str} {vs : List V} {i : Nat} {v : V} (h : vs[i]? = some v) : (start N vs)[i]? = some (some v) := by
  unfold L2.start
  rw [List.getElem?_append_left (by rw [List.length_map]; exact (List.getElem?_eq_some_iff.mp h).1), List.getElem?_map, h]
  rfl
theorem env0_get {as : List R} {n i : Nat} {r : R} (h : (as.map some ++ List.replicate n none)[i]? = some (some r)) : as[i]? = some r := by
  by_cases hl : i < as.length
  · rw [List.getElem?_append_left (by rw [List.length_map]; exact hl), List.getElem?_map] at h
    cases q : as[i]? with
    | none => rw [q] at h; cases h
    | some x => rw [q] at h; cases h; rfl
  · rw [List.getElem?_append_right (by rw [List.length_map]; omega), List.getElem?_replicate] at h
    split at h <;> cases h
theorem RsAll.get {G H : Hp} {ph : List Addr} : ∀ {rs : List R} {vs : List V} {i : Nat} {r : R}, RsAll K G H ph rs vs → rs[i]? = some r → ∃ v, vs[i]? = some v ∧ Rs K G H ph r v
  | [], _, _, _, _, h => by simp at h
  | _ :: _, [], _, _, h, _ => h.elim
  | _ :: _, v :: _, 0, _, h, e => by simp at e; subst e; exact ⟨v, rfl, h.1⟩
  | _ :: rs, _ :: vs, i + 1, r, h, e => by
    obtain ⟨v, h1, h2⟩ := RsAll.get (i := i) h.2 (by simpa using e)
    exact ⟨v, by simpa using h1, h2⟩
theorem entry {G H : Hp} {ph : List Addr} {st : Bx} {as : List R} {vs : List V} {N : List Str} {nv np : Nat} (w1 : Wd K G H ph st) (h : RsAll K G H ph as vs) (pl : ∀ a ∈ as, ∀ ds, a ≠ .own ds ∧ a ≠ .brw ds) (e1 : nv = N.length) (e2 : as.length = np) (e3 : np ≤ N.length) :
    Rl K H G ph G H ph (as.map some ++ List.replicate (nv - np) none) st (start N vs) := by
  have hl := h.len
  have noOwn : ∀ (i : Nat) ds, (as.map some ++ List.replicate (nv - np) (none : Option R))[i]? ≠ some (some (.own ds)) ∧ (as.map some ++ List.replicate (nv - np) (none : Option R))[i]? ≠ some (some (.brw ds)) := fun i ds =>
    ⟨fun q => (pl _ (List.mem_of_getElem? (env0_get q)) ds).1 rfl, fun q => (pl _ (List.mem_of_getElem? (env0_get q)) ds).2 rfl⟩
  refine ⟨⟨w1, ?_, fun i r hi => ?_⟩, Stp.refl, fun i ds a q => absurd q (noOwn i ds).1, fun i j ds es a q => absurd q (noOwn i ds).1, fun i ds => (noOwn i ds).2⟩
  · unfold L2.start
    rw [List.length_append, List.length_append, List.length_map, List.length_map, List.length_replicate, List.length_replicate]
    omega
  · obtain ⟨v, q1, q2⟩ := h.get (env0_get hi)
    exact ⟨v, start_get q1, q2⟩
/-- what a def's text does, in its own context -/
theorem body_ok {S : Sg} {tb : String → Option Fn} {k : Nat} {d : Df} (hd : chkD S d = true) (ht : tb d.name = some d.fn) (X : Cx) (g : Good X ⟨d.N, defScope d.st, fun _ => true⟩ (callF tb k) S) {vs : List V} {H : Hp} {Q : VK} (hK : X.K = K)
    (h : spF K d.ps.length (callF tb (k + 1) d.name) vs H Q) : ∃ t, PSs X (defBody d.st) t ∧ t { nx := fun _ H' => Q .non H', rt := Q } (start d.N vs) H := by
  subst hK
  unfold chkD at hd
  simp only [Bool.and_eq_true, decide_eq_true_eq] at hd
  obtain ⟨⟨⟨h1, h2⟩, h3⟩, h4⟩ := hd
  obtain ⟨hl, G, ph, st, as, r, st', w1, ha, pl, e, kk⟩ := h
  have S1 := scopeB_ok h1
  have hN : d.ps.length ≤ d.N.length := by
    have q := congrArg List.length S1.pre
    rw [List.length_take] at q
    omega
  unfold callF at e
  rw [ht] at e
  dsimp only at e
  split at e
  · rename_i hlen
    refine ⟨_, sSs (H0 := H) (G0 := G) (ph0 := ph) d.fn.body g h4, ?_⟩
    have R0 : Rl X.K H G ph G H ph (as.map some ++ List.replicate (d.fn.nv - d.fn.np) none) st (start d.N vs) := entry w1 ha pl h3 hlen (by rw [h2]; exact hN)
    cases hb : d.fn.body.den (callF tb k) (as.map some ++ List.replicate (d.fn.nv - d.fn.np) none) st with
    | none => rw [hb] at e; cases e
    | some o =>
      rw [hb] at e
      refine ⟨G, ph, _, st, o, R0, hb, fun env' st2 eo σ' H' G' ph' r' u' => ?_, fun r2 st2 eo v H' G' ph' w2 s2 r2' f2 => ?_⟩
      · subst eo
        cases e
        exact kk .non H' G' ph' r'.e.w r'.s .non trivial
      · subst eo
        cases e
        exact kk v H' G' ph' w2 s2 r2' f2
  · cases e
/-- the rule for a def (the guards of the caller stand in its context) -/
theorem def_ok {np : Nat} {k : Nat} {f : Addr} {fd : FuncData} {d : Df} {c : List R → Bx → Option (R × Bx)} (F : L2.Fun K (Str.ofString d.name) (Str.ofString d.name) d.st f fd) (S1 : FnScope d.N d.ps (defScope d.st))
    (hbody : ∀ (X : Cx) (vs : List V) (H : Hp) (Q : VK), X.prog = P → X.w = w → X.K = K → X.mg = mg → X.base = base → X.N = d.N → X.env.scope = defScope d.st → (X.fn = fun _ => true) → X.calm = true → X.A.guards = some [] → Room k X.A → (X.xe = fun _ _ => False) →
      spF K d.ps.length c vs H Q → ∃ t, PSs X (defBody d.st) t ∧ t { nx := fun _ H' => Q .non H', rt := Q } (start d.N vs) H) : Fk P w K mg base (k + 1) f fd d.ps c := by
  obtain ⟨oc, od, kV, doc, pm, an, cdv, ct, osl, rfl, lk, hcd⟩ := F.ex
  constructor
  intro A fr s H args us vs Q room hg e0 bind rel hsp
  have kin := e0.mod.kin.keeps fun b o e => (e0.bs b o e).1
  have nolim := e0.mod.nolimit.keeps fun b o e => (e0.bs b o e).1
  have kinds : ∀ y ∈ d.ps.zip us, (defScope d.st).names.lookup y.1 = some .local ∨ ((defScope d.st).names.lookup y.1 = some .cell ∧ ((cellsFrom (s.heap.objs.size + 1) (defScope d.st).names []).lookup y.1).isSome = true) := by
    rintro ⟨n, v⟩ hy
    cases S1.par n (List.of_mem_zip hy).1 with
    | inl q => exact .inl q
    | inr q => exact .inr ⟨q, PySem.W.cellsFrom_some _ _ _ (.inl q)⟩
  apply codeAny_call_function room.depth (kin _ _ lk) rfl S1.co S1.gen rfl (PySem.W.codeRec_of kin hcd)
  apply bind
  apply wpAny_newFunctionEnv_cells S1.kind kinds
  intro env he s1 inc
  subst he
  refine ⟨nolim.keeps inc.toInCall.keep, codeAny_func ?_⟩
  have I0 := inv_start (CX := CX0) (E := E0) S1 room.hd e0 hsp.1 rel inc
  obtain ⟨t, ht, hq⟩ := hbody (cxOf CX0 P w K mg base d.N (Str.ofString d.name) (defScope d.st) f cdv A fr s H E0).nox vs H Q rfl rfl rfl rfl rfl rfl rfl rfl rfl hg (room.deeper _) rfl hsp
  refine wpAny_mono (ht.nox.run [] s1 (start d.N vs) H _ I0 hq) ?_ fun e s2 hs => hs
  intro fl s2 out
  match fl, out with
  | .ret u, ⟨v, σ2, H2, J, rv, q⟩ => exact ⟨v, H2, J.os, J.bare, J.base, J.hok, rv, q⟩
  | .next, ⟨σ2, H2, J, q⟩ => exact ⟨.non, H2, J.os, J.bare, J.base, J.hok, rfl, q⟩
  | .brk, ⟨_, _, _, q⟩ => exact q.elim
  | .cont, ⟨_, _, _, q⟩ => exact q.elim
/-- every def of the module keeps what its term computes -/
theorem all_ok {ds : List Df} {S : Sg} (nd : (ds.map (·.name)).Nodup) (hS : S.fs = ds.map (·.name)) (hc : ∀ d ∈ ds, chkD S d = true) (hh : ∀ d ∈ ds, Has K mg d) (hb : ∀ x ∈ S.bs, mg (Str.ofString x) = none)
    (hgs : ∀ p ∈ S.gs, ∃ u w, mg (Str.ofString p.1) = some u ∧ RelV w u ∧ ∀ G : Hp, Dv K G w p.2) : ∀ (k : Nat), ∀ d ∈ ds, ∀ f fd, L2.Fun K (Str.ofString d.name) (Str.ofString d.name) d.st f fd → Fk P w K mg base k f fd d.ps (callF (tbOf ds) k d.name)
  | 0, d, hd, f, fd, F => ⟨fun A fr s H args us vs Q _ _ _ _ _ hsp => by
    obtain ⟨_, _, _, _, _, _, _, _, _, _, e, _⟩ := hsp
    unfold callF at e
    cases e⟩
  | k + 1, d, hd, f, fd, F => by
    have ih := all_ok nd hS hc hh hb hgs k
    have hcd := hc d hd
    have hcd2 := hcd
    unfold chkD at hcd2
    simp only [Bool.and_eq_true, decide_eq_true_eq] at hcd2
    obtain ⟨⟨⟨h1, h2⟩, h3⟩, h4⟩ := hcd2
    have S1 := scopeB_ok h1
    refine def_ok (np := 0) F S1 fun X vs H Q eP ew eK emg eb eN esc efn ecalm egd room exe hsp => ?_
    refine body_ok hcd (tbOf_find nd d hd) X ⟨eN, S1.nd, esc, efn, ecalm, egd, ?_, exe, fun f' hf' => ?_, fun x hx => by rw [emg]; exact hb x hx, fun p hp => ?_⟩ eK hsp
    · have q := room.un
      omega
    · rw [hS] at hf'
      obtain ⟨d', hd', rfl⟩ := List.mem_map.mp hf'
      obtain ⟨f2, fd2, q1, F2, q3⟩ := hh d' hd'
      refine ⟨k, f2, fd2, d'.ps, ?_, room, by rw [emg]; exact q1, by rw [eK]; exact F2.kp, by rw [eK]; exact q3, fun as st r e => ?_⟩
      · subst eP ew eK emg eb
        exact ih d' hd' f2 fd2 F2
      · have hcd' := hc d' hd'
        unfold chkD at hcd'
        simp only [Bool.and_eq_true, decide_eq_true_eq] at hcd'
        cases k with
        | zero => unfold callF at e; cases e
        | succ k =>
          unfold callF at e
          rw [tbOf_find nd d' hd'] at e
          dsimp only at e
          split at e
          · rename_i hl; rw [hl]; exact hcd'.1.1.2
          · cases e
    · rw [emg, eK]
      exact hgs p hp
end
end Sy

namespace Sy
open PySem PySem.Spec PyProof.Rows L2

/-! ### the law at the machine's top -/
/-- what the law's def computes of a script -/
def Yes (c : List R → Bx → Option (R × Bx)) (n : Nat) : Prop := ∀ ns : List Int, ns.length ≤ n → ∃ st, c [.scr ns] [] = some (.dat (.bool true), st)
theorem yes_sp {K : PySem.W.Frag} {c : List R → Bx → Option (R × Bx)} {n : Nat} (y : Yes c n) {H : Hp} {a : Addr} {ns : List Int} (hl : ns.length ≤ n) (hS : SqL K H a (ns.map V.int)) : spF K 1 c [.ref a] H (fun v _ => v = .bl true) := by
  obtain ⟨st, e⟩ := y ns hl
  refine ⟨rfl, H, [], [], [.scr ns], _, st, ⟨fun _ _ h => h, List.nodup_nil, rfl, fun n a ds h => by simp at h⟩, ⟨⟨a, rfl, hS⟩, trivial⟩, fun x hx ds => ?_, e, fun v H' G' ph' w1 s1 r1 f1 => ?_⟩
  · have ex : x = .scr ns := by simpa using hx
    subst ex
    exact ⟨(fun z => nomatch z), (fun z => nomatch z)⟩
  · cases (show Dv K G' v (.bool true) from r1)
    rfl
section
variable {P : Program} {w : World} {K : PySem.W.Frag} {mg mb : Str → Option Value} {k : Nat} {fa a : Addr} {fd : FuncData} {x : Str} {c : List R → Bx → Option (R × Bx)} {n : Nat} {ns : List Int} {vs : List Value} {s1 : Shared}
abbrev Fin (s1 : Shared) : Result → Shared → Prop := fun r s2 => r = .ok (.ret (.bool true)) ∧ OldK s1.heap s2.heap ∧ s2.os = s1.os ∧ AllBare s2.gens
/-- where nothing but the script is tracked -/
theorem top_at (y : Yes c n) (hl : ns.length ≤ n) (kin : K.In s1.heap) (gns : s1.heap.Ns mainGlobals mg) (bns : s1.heap.Ns builtinsNs mb) (bboot : ∀ z : Str, z ≠ "__name__" → mb z = bootBuiltins z) (nolim : s1.heap.NoLimit) (nogens : s1.gens = #[])
    (obj : s1.heap.get? a = some { cls := .type "list", data := .seq vs.toArray }) (room : Room k callerA) (F : ∀ base : Heap, K.In base → base.Ns mainGlobals mg → Fk P w K mg base k fa fd [x] c) (bind : Binds K fd [x] [])
    {H : Hp} (only : Only H) (hS : SqL K H a (ns.map V.int)) (hok : HOk P w H s1.heap) (alone : ∀ b, H b ≠ none → b = a) (notK : H a ≠ none → K.lookup a = none) : codeAny (model P w) callerA (.call (.ref fa) ⟨[.ref a], []⟩) (Fin s1) s1 := by
  have untracked : ∀ {b : Addr} {o : Obj} {es : Array DictEntry} {ep : Nat}, s1.heap.get? b = some o → o.data = .dict es ep → H b = none := by
    intro b o es ep g d
    rcases hb : H b with _ | u
    · rfl
    · exfalso
      have eb := alone b (by rw [hb]; exact fun z => nomatch z)
      rw [eb, obj] at g
      cases g
      cases (show Data.seq vs.toArray _ = Data.dict es ep from d)
  have nsT : ∀ {b : Addr} {m : Str → Option Value}, s1.heap.Ns b m → (hidT s1.heap H).Ns b m := by
    rintro b m ⟨o, es, ep, g, d, r⟩
    exact ⟨o, es, ep, hidT_get g (untracked g d), d, r⟩
  have kinT : K.In (hidT s1.heap H) := by
    intro b o g
    refine hidT_get (kin b o g) ?_
    rcases hb : H b with _ | u
    · rfl
    · exfalso
      have eb := alone b (by rw [hb]; exact fun z => nomatch z)
      rw [eb] at hb g
      rw [notK (by rw [hb]; exact fun z => nomatch z)] at g
      cases g
  have modT : Mod K mg (hidT s1.heap H) := by
    obtain ⟨mc, c1, c2⟩ := nolim
    exact ⟨kinT, nsT gns, ⟨mb, nsT bns, bboot⟩, ⟨mc, nsT c1, c2⟩⟩
  have env : Env0 P w K mg (hidT s1.heap H) callerA [] s1 H := by
    refine ⟨rfl, modT, fun b o g => of_hidT g, by rw [hidT_size]; exact Nat.le_refl _, trivial, fun b hb => ?_, hok, .of_eq nogens⟩
    simp [frs] at hb
  refine codeAny_mono ((F _ kinT (nsT gns)).run callerA [] s1 H ⟨[.ref a], []⟩ [.ref a] [.ref a] (fun v _ => v = .bl true) room rfl env (bind s1 [.ref a] kin rfl) (.cons rfl .nil) (yes_sp y hl hS)) ?_
  intro r s2 out
  match r, out with
  | .error _, out => exact out.elim
  | .ok .next, out => exact out.elim
  | .ok .brk, out => exact out.elim
  | .ok .cont, out => exact out.elim
  | .ok (.ret u), ⟨v, H2, os, bare, un, hok2, rel, ev⟩ =>
    have ev : v = .bl true := ev
    subst ev
    cases (show u = Value.bool true from rel)
    refine ⟨rfl, OldK.of_keep fun b o g => ?_, os, bare⟩
    rcases only b with z | ⟨ob, xs, z⟩
    · exact un.keep b o g z (by simp [frs]) (by simp)
    · obtain ⟨g1, _⟩ := hok b _ z
      obtain ⟨g2, _⟩ := hok2 b _ (un.frzs b ob _ z)
      rw [g] at g1
      cases g1
      exact g2
theorem top_ok (y : Yes c n) (hl : ns.length ≤ n) (hn : n ≤ sizeLine) (kin : K.In s1.heap) (gns : s1.heap.Ns mainGlobals mg) (bns : s1.heap.Ns builtinsNs mb) (bboot : ∀ z : Str, z ≠ "__name__" → mb z = bootBuiltins z) (nolim : s1.heap.NoLimit) (nogens : s1.gens = #[])
    (obj : s1.heap.get? a = some { cls := .type "list", data := .seq vs.toArray }) (intz : IntsAre vs ns) (room : Room k callerA) (F : ∀ base : Heap, K.In base → base.Ns mainGlobals mg → Fk P w K mg base k fa fd [x] c) (bind : Binds K fd [x] []) :
    codeAny (model P w) callerA (.call (.ref fa) ⟨[.ref a], []⟩) (Fin s1) s1 := by
  have rv := vals_ints intz
  have lv := intz.length
  have ls : ns.length ≤ sizeLine := Nat.le_trans hl hn
  rcases hk : K.lookup a with _ | o
  · refine top_at (H := fun b => if b = a then some (.frz { cls := .type "list", data := .seq vs.toArray } (.lst (ns.map V.int))) else none) y hl kin gns bns bboot nolim nogens obj room F bind (fun b => ?_) (.inl (.inr ⟨{ cls := .type "list", data := .seq vs.toArray }, if_pos rfl⟩)) (fun b u z => ?_) (fun b z => ?_) fun _ => hk
    · rcases Classical.em (b = a) with e | e
      · exact .inr ⟨_, _, if_pos e⟩
      · exact .inl (if_neg e)
    · rcases Classical.em (b = a) with e | e
      · cases (if_pos e).symm.trans z
        subst e
        exact ⟨obj, by rw [List.length_map]; exact ls, vs, _, rv, obj⟩
      · cases (if_neg e).symm.trans z
    · exact Classical.byContradiction fun e => z (if_neg e)
  · have g := kin a o hk
    rw [obj] at g
    cases g
    exact top_at (H := fun _ => none) y hl kin gns bns bboot nolim nogens obj room F bind (fun _ => .inl rfl) (.inr ⟨_, vs.toArray, _, hk, rfl, rfl, rfl, by rw [List.size_toArray, lv]; exact ls, by simpa using rv⟩) (fun b u z => by cases (show (none : Option HO) = some u from z)) (fun b z => absurd rfl z) fun z => absurd rfl z
end
/-- what the head asks for -/
theorem top_walk {l : PySem.W.OpenLaw} {n k : Nat} {q : Program} {loose : List Str} {XP : (Str → Option Value) → Heap → Prop} {YP : World → Heap → Prop} {d : DefRec} {K : Params → PySem.W.Frag} {x : Str} {c : List R → Bx → Option (R × Bx)} (y : Yes c n)
    (hn : l.most = some n) (hn2 : n ≤ sizeLine) (hdf : d.params.defaults = []) (room : Room k callerA) (hY : ∀ (w : World) (h : Heap), YP w h → (K w.params).In h)
    (F : ∀ (w : World) (mg : Str → Option Value) (fa : Addr) (h : Heap), (K w.params).In h → h.Ns mainGlobals mg → mg d.name = some (.ref fa) → ∃ fd : FuncData, Binds (K w.params) fd [x] [] ∧
      ∀ base : Heap, (K w.params).In base → base.Ns mainGlobals mg → Fk l.prog w (K w.params) mg base k fa fd [x] c) : PySem.W.WalkO q loose XP YP l.row.toRowW d [] (fun f vs => PySem.call f vs) := by
  apply Att.attach_call hn hdf
  intro w s0 s1 mg mb fa o pm cd doc a vs ns G Y ho hd hcd hmg obj intz hlen nogens
  have kin := hY w _ Y
  obtain ⟨fd, bind, FF⟩ := F w mg fa _ kin G.T.g hmg
  exact top_ok y hlen hn2 kin G.T.g G.T.b G.T.builtins G.T.nolimit nogens obj intz room FF bind
/-! ### what the written objects tell -/
def HasK (K : PySem.W.Frag) (x : String) (st : Stmt) : Prop :=
  ∃ (f : Addr) (oc : Value) (od : Option Addr) (kV doc pm : Value) (an : Option Addr) (cdv ct : Value) (osl : Array (Option Value)), PySem.W.nsIn K mainGlobals (Str.ofString x) = some (some (.ref f)) ∧
    K.lookup f = some ⟨oc, od, .func (PySem.W.fnOf (Str.ofString x) (Str.ofString x) (defArgs st) (defBody st) (defScope st) .none kV doc pm an cdv ct), osl⟩ ∧ PySem.W.codeIn K cdv (Str.ofString x) = true ∧ PySem.W.keepIn K (.ref f) = true
theorem hasK_mk {K : PySem.W.Frag} {x : String} {st : Stmt} {f : Addr} {oc : Value} {od : Option Addr} {kV doc pm : Value} {an : Option Addr} {cdv ct : Value} {osl : Array (Option Value)} (a1 : PySem.W.nsIn K mainGlobals (Str.ofString x) = some (some (.ref f)))
    (l1 : K.lookup f = some ⟨oc, od, .func (PySem.W.fnOf (Str.ofString x) (Str.ofString x) (defArgs st) (defBody st) (defScope st) .none kV doc pm an cdv ct), osl⟩) (c1 : PySem.W.codeIn K cdv (Str.ofString x) = true) (k1 : PySem.W.keepIn K (.ref f) = true) : HasK K x st := ⟨f, oc, od, kV, doc, pm, an, cdv, ct, osl, a1, l1, c1, k1⟩
theorem HasK.has {K : PySem.W.Frag} {h : Heap} {mg : Str → Option Value} {d : Df} (H : HasK K d.name d.st) (X : K.In h) (G : h.Ns mainGlobals mg)
    (hb : ∀ (kV doc pm : Value) (an : Option Addr) (cdv ct : Value) (us : List Value), us.length = d.ps.length → bindArgs (PySem.W.fnOf (Str.ofString d.name) (Str.ofString d.name) (defArgs d.st) (defBody d.st) (defScope d.st) .none kV doc pm an cdv ct) ⟨us, []⟩ = pure (d.ps.zip us)) : Has K mg d := by
  obtain ⟨f, oc, od, kV, doc, pm, an, cdv, ct, osl, a1, l1, c1, k1⟩ := H
  have F := fun_mk (st := d.st) l1 c1 k1
  exact ⟨f, _, PySem.W.mg_of X G a1, F, F.binds hb⟩
/-- a constant of the module -/
def ConK (K : PySem.W.Frag) (x : String) (d : PyData) : Prop := ∃ u w, PySem.W.nsIn K mainGlobals (Str.ofString x) = some (some u) ∧ RelV w u ∧ ∀ G : Hp, Dv K G w d
theorem conK_int {K : PySem.W.Frag} {x : String} {i : Int} {t : Tok} (a1 : PySem.W.nsIn K mainGlobals (Str.ofString x) = some (some (.int i t))) : ConK K x (.int i) := ⟨_, .int i, a1, ⟨t, rfl⟩, fun _ => .int i⟩
theorem conK_str {K : PySem.W.Frag} {x : String} {s : Str} {t : Tok} (a1 : PySem.W.nsIn K mainGlobals (Str.ofString x) = some (some (.str s t))) : ConK K x (.str s) := ⟨_, .str s, a1, ⟨t, rfl⟩, fun _ => .str s⟩
theorem ConK.con {K : PySem.W.Frag} {h : Heap} {mg : Str → Option Value} {x : String} {d : PyData} (c : ConK K x d) (X : K.In h) (G : h.Ns mainGlobals mg) : ∃ u w, mg (Str.ofString x) = some u ∧ RelV w u ∧ ∀ G : Hp, Dv K G w d := by
  obtain ⟨u, w, a1, r, q⟩ := c
  exact ⟨u, w, PySem.W.mg_of X G a1, r, q⟩
/-- the law's def, from all the defs -/
theorem head_ok {P : Program} {w : World} {K : PySem.W.Frag} {mg : Str → Option Value} {fa : Addr} {ds : List Df} {S : Sg} {d : Df} (k : Nat) (nd : (ds.map (·.name)).Nodup) (hS : S.fs = ds.map (·.name)) (hc : ∀ d ∈ ds, chkD S d = true) (hh : ∀ d ∈ ds, Has K mg d) (hb : ∀ x ∈ S.bs, mg (Str.ofString x) = none)
    (hgs : ∀ p ∈ S.gs, ∃ u w, mg (Str.ofString p.1) = some u ∧ RelV w u ∧ ∀ G : Hp, Dv K G w p.2) (hd : d ∈ ds) (hfa : mg (Str.ofString d.name) = some (.ref fa)) :
    ∃ fd : FuncData, Binds K fd d.ps [] ∧ ∀ base : Heap, K.In base → base.Ns mainGlobals mg → Fk P w K mg base k fa fd d.ps (callF (tbOf ds) k d.name) := by
  obtain ⟨f, fd, e, F, B⟩ := hh d hd
  rw [hfa] at e
  cases e
  exact ⟨fd, B, fun base _ _ => all_ok nd hS hc hh hb hgs k d hd fa fd F⟩
end Sy

namespace Sy
open PySem L2
/-! ### plain tools -/
def outR : Option Out → Option (R × Bx)
  | some (.rt r st1) => some (r, st1)
  | some (.nx _ st1) => some (.dat .none, st1)
  | none => none
theorem callF_of {tb : String → Option Fn} {f : String} {fn : Fn} (t : tb f = some fn) (k : Nat) (args : List R) (st : Bx) (h : args.length = fn.np) :
    callF tb (k + 1) f args st = outR (fn.body.den (callF tb k) (args.map some ++ List.replicate (fn.nv - fn.np) none) st) := by
  conv => lhs; unfold callF
  rw [t]
  dsimp only
  rw [if_pos h]
  unfold outR
  rfl
/-! the forms, as plain rules -/
theorem y_e_c {cf : Cf} {d u0 st} : Ex.den cf (.c d) u0 st = ( some (.dat d, st)) := Eq.trans rfl rfl
theorem y_e_v {cf : Cf} {i env st} : Ex.den cf (.v i) env st = ( match env[i]? with
    | some (some r) => some (r.read, st)
    | _ => none) := Eq.trans rfl rfl
theorem y_e_g {cf : Cf} {u0 d u1 st} : Ex.den cf (.g u0 d) u1 st = ( some (.dat d, st)) := Eq.trans rfl rfl
theorem y_e_never {cf : Cf} {u0 u1} : Ex.den cf (.never ) u0 u1 = ( none) := Eq.trans rfl rfl
theorem y_e_bin {cf : Cf} {o a b env st} : Ex.den cf (.bin o a b) env st = ( match a.den cf env st with
    | some (x, st1) => match b.den cf env st1 with
      | some (y, st2) => match x.view, y.view with
        | some d, some e => (binD o d e).map fun r => (r, st2)
        | _, _ => none
      | none => none
    | none => none) := Eq.trans rfl rfl
theorem y_e_neg {cf : Cf} {a env st} : Ex.den cf (.neg a) env st = ( match a.den cf env st with
    | some (.dat (.int i), st1) => some (.dat (.int (-i)), st1)
    | _ => none) := Eq.trans rfl rfl
theorem y_e_tst {cf : Cf} {t env st} : Ex.den cf (.tst t) env st = ( match t.den cf env st with
    | some (b, st1) => some (.dat (.bool b), st1)
    | none => none) := Eq.trans rfl rfl
theorem y_e_ite {cf : Cf} {t a b env st} : Ex.den cf (.ite t a b) env st = ( match t.den cf env st with
    | some (true, st1) => a.den cf env st1
    | some (false, st1) => b.den cf env st1
    | none => none) := Eq.trans rfl rfl
theorem y_e_tup {cf : Cf} {es env st} : Ex.den cf (.tup es) env st = ( match es.den cf env st with
    | some (rs, st1) => match caps rs with
      | some ds => if fitsL ds.length then some (.dat (.tuple ds), st1) else none
      | none => none
    | none => none) := Eq.trans rfl rfl
theorem y_e_lst {cf : Cf} {es env st} : Ex.den cf (.lst es) env st = ( match es.den cf env st with
    | some (rs, st1) => match caps rs with
      | some ds => if fitsL ds.length then some (.own ds, st1) else none
      | none => none
    | none => none) := Eq.trans rfl rfl
theorem y_e_box {cf : Cf} {es env st} : Ex.den cf (.box es) env st = ( match es.den cf env st with
    | some (rs, st1) => match caps rs with
      | some ds => if fitsL ds.length then some (.ref st1.length, st1 ++ [ds]) else none
      | none => none
    | none => none) := Eq.trans rfl rfl
theorem y_e_ix {cf : Cf} {a b env st} : Ex.den cf (.ix a b) env st = ( match a.den cf env st with
    | some (x, st1) => match b.den cf env st1 with
      | some (.dat (.int i), st2) => (ixR x i st2).map fun d => (.dat d, st2)
      | _ => none
    | none => none) := Eq.trans rfl rfl
theorem y_e_sl {cf : Cf} {a lo hi env st} : Ex.den cf (.sl a lo hi) env st = ( match a.den cf env st with
    | some (x, st1) => match lo.den cf env st1 with
      | some (l, st2) => match hi.den cf env st2 with
        | some (h, st3) => match x.view with
          | some d => (slD d l h).map fun r => (r, st3)
          | none => none
        | none => none
      | none => none
    | none => none) := Eq.trans rfl rfl
theorem y_e_rev {cf : Cf} {a env st} : Ex.den cf (.rev a) env st = ( match a.den cf env st with
    | some (x, st1) => match x.view with
      | some (.list ds) => some (.own ds.reverse, st1)
      | some (.tuple ds) => some (.dat (.tuple ds.reverse), st1)
      | _ => none
    | none => none) := Eq.trans rfl rfl
theorem y_e_call {cf : Cf} {f es env st} : Ex.den cf (.call f es) env st = ( match es.den cf env st with
    | some (rs, st1) => match argsOf rs with
      | some as => cf f as st1
      | none => none
    | none => none) := Eq.trans rfl rfl
theorem y_e_blt {cf : Cf} {f es env st} : Ex.den cf (.blt f es) env st = ( match es.den cf env st with
    | some (rs, st1) => (bltR f rs st1).map fun r => (r, st1)
    | none => none) := Eq.trans rfl rfl
theorem y_e_isi {cf : Cf} {a t env st} : Ex.den cf (.isi a t) env st = ( match a.den cf env st with
    | some (x, st1) => match x.view with
      | some d => some (.dat (.bool (isiD t d)), st1)
      | none => none
    | none => none) := Eq.trans rfl rfl
theorem y_e_lc {cf : Cf} {elt tg it cd ow env st} : Ex.den cf (.lc elt tg it cd ow) env st = ( match it.den cf true env st with
    | some (items, st1) => match lcGo (fun d st => match tg.bind d (wipeE env ow) with
        | some env1 => match cd.den cf env1 st with
          | some (true, st2) => match elt.den cf env1 st2 with
            | some (r, st3) => r.cap.map fun y => (some y, st3)
            | none => none
          | some (false, st2) => some (none, st2)
          | none => none
        | none => none) items [] st1 with
      | some (acc, st2) => some (.own acc, st2)
      | none => none
    | none => none) := Eq.trans rfl rfl
theorem y_es_nil {cf : Cf} {u0 st} : Exs.den cf (.nil ) u0 st = ( some ([], st)) := Eq.trans rfl rfl
theorem y_es_cons {cf : Cf} {e r env st} : Exs.den cf (.cons e r) env st = ( match e.den cf env st with
    | some (x, st1) => match r.den cf env st1 with
      | some (xs, st2) => some (x :: xs, st2)
      | none => none
    | none => none) := Eq.trans rfl rfl
theorem y_o_no {cf : Cf} {u0 st} : Exo.den cf (.no ) u0 st = ( some (none, st)) := Eq.trans rfl rfl
theorem y_o_yes {cf : Cf} {e env st} : Exo.den cf (.yes e) env st = ( match e.den cf env st with
    | some (.dat (.int i), st1) => some (some i, st1)
    | _ => none) := Eq.trans rfl rfl
theorem y_t_val {cf : Cf} {e env st} : Ts.den cf (.val e) env st = ( match e.den cf env st with
    | some (.dat (.bool b), st1) => some (b, st1)
    | _ => none) := Eq.trans rfl rfl
theorem y_t_cmp {cf : Cf} {o a b env st} : Ts.den cf (.cmp o a b) env st = ( match a.den cf env st with
    | some (x, st1) => match b.den cf env st1 with
      | some (y, st2) => match x.view, y.view with
        | some d, some e => (cmpD o d e).map fun r => (r, st2)
        | _, _ => none
      | none => none
    | none => none) := Eq.trans rfl rfl
theorem y_t_chn {cf : Cf} {a r env st} : Ts.den cf (.chn a r) env st = ( match a.den cf env st with
    | some (x, st1) => r.den cf x env st1
    | none => none) := Eq.trans rfl rfl
theorem y_t_isn {cf : Cf} {a neg env st} : Ts.den cf (.isn a neg) env st = ( match a.den cf env st with
    | some (x, st1) => match x with
      | .dat .none => some (!neg, st1)
      | _ => some (neg, st1)
    | none => none) := Eq.trans rfl rfl
theorem y_t_isb {cf : Cf} {a neg k env st} : Ts.den cf (.isb a neg k) env st = ( match a.den cf env st with
    | some (.dat (.bool b), st1) => some (if neg then !decide (b = k) else decide (b = k), st1)
    | _ => none) := Eq.trans rfl rfl
theorem y_t_and {cf : Cf} {ts env st} : Ts.den cf (.and ts) env st = ( ts.all cf env st) := Eq.trans rfl rfl
theorem y_t_or {cf : Cf} {ts env st} : Ts.den cf (.or ts) env st = ( ts.any cf env st) := Eq.trans rfl rfl
theorem y_t_not {cf : Cf} {t env st} : Ts.den cf (.not t) env st = ( match t.den cf env st with
    | some (b, st1) => some (!b, st1)
    | none => none) := Eq.trans rfl rfl
theorem y_h_last {cf : Cf} {o b x env st} : Chn.den cf (.last o b) x env st = ( match b.den cf env st with
    | some (y, st1) => match x.view, y.view with
      | some d, some e => (cmpD o d e).map fun r => (r, st1)
      | _, _ => none
    | none => none) := Eq.trans rfl rfl
theorem y_h_link {cf : Cf} {o b r x env st} : Chn.den cf (.link o b r) x env st = ( match b.den cf env st with
    | some (y, st1) => match x.view, y.view with
      | some d, some e => match cmpD o d e with
        | some true => r.den cf y env st1
        | some false => some (false, st1)
        | none => none
      | _, _ => none
    | none => none) := Eq.trans rfl rfl
theorem y_al_one {cf : Cf} {t env st} : Tss.all cf (.one t) env st = ( t.den cf env st) := Eq.trans rfl rfl
theorem y_al_cons {cf : Cf} {t r env st} : Tss.all cf (.cons t r) env st = ( match t.den cf env st with
    | some (true, st1) => r.all cf env st1
    | some (false, st1) => some (false, st1)
    | none => none) := Eq.trans rfl rfl
theorem y_an_one {cf : Cf} {t env st} : Tss.any cf (.one t) env st = ( t.den cf env st) := Eq.trans rfl rfl
theorem y_an_cons {cf : Cf} {t r env st} : Tss.any cf (.cons t r) env st = ( match t.den cf env st with
    | some (true, st1) => some (true, st1)
    | some (false, st1) => r.any cf env st1
    | none => none) := Eq.trans rfl rfl
theorem y_c_no {cf : Cf} {u0 st} : Tso.den cf (.no ) u0 st = ( some (true, st)) := Eq.trans rfl rfl
theorem y_c_yes {cf : Cf} {t env st} : Tso.den cf (.yes t) env st = ( t.den cf env st) := Eq.trans rfl rfl
theorem y_i_seq {cf : Cf} {m : Bool} {e env st} : Itx.den cf m (.seq e) env st = ( match e.den cf env st with
    | some (x, st1) => ((x.look m).bind seqItems).map fun ds => (ds, st1)
    | none => none) := Eq.trans rfl rfl
theorem y_i_rng {cf : Cf} {m : Bool} {es env st} : Itx.den cf m (.rng es) env st = ( match es.den cf env st with
    | some (rs, st1) => (((views rs).bind intsOf).bind rngD).map fun ds => (ds, st1)
    | none => none) := Eq.trans rfl rfl
theorem y_i_zip {cf : Cf} {m : Bool} {a b env st} : Itx.den cf m (.zip a b) env st = ( match a.den cf env st with
    | some (x, st1) => match b.den cf env st1 with
      | some (y, st2) => match (x.look m).bind seqItems, (y.look m).bind seqItems with
        | some xs, some ys => some (zipD xs ys, st2)
        | _, _ => none
      | none => none
    | none => none) := Eq.trans rfl rfl
theorem y_i_enum {cf : Cf} {m : Bool} {a env st} : Itx.den cf m (.enum a) env st = ( match a.den cf env st with
    | some (x, st1) => ((x.look m).bind seqItems).map fun ds => (enumD ds, st1)
    | none => none) := Eq.trans rfl rfl
theorem y_s_never {cf : Cf} {u0 u1} : Stm.den cf (.never ) u0 u1 = ( none) := Eq.trans rfl rfl
theorem y_s_pass {cf : Cf} {env st} : Stm.den cf (.pass ) env st = ( some (.nx env st)) := Eq.trans rfl rfl
theorem y_s_asg {cf : Cf} {i e env st} : Stm.den cf (.asg i e) env st = ( match e.den cf env st with
    | some (x, st1) => x.hold.map fun r => .nx (env.set i (some r)) st1
    | none => none) := Eq.trans rfl rfl
theorem y_s_par {cf : Cf} {i j a b env st} : Stm.den cf (.par i j a b) env st = ( match a.den cf env st with
    | some (x, st1) => match b.den cf env st1 with
      | some (y, st2) => match x.hold, y.hold with
        | some r, some q => some (.nx ((env.set i (some r)).set j (some q)) st2)
        | _, _ => none
      | none => none
    | none => none) := Eq.trans rfl rfl
theorem y_s_par3 {cf : Cf} {i j l a b c env st} : Stm.den cf (.par3 i j l a b c) env st = ( match Exs.den cf (.cons a (.cons b (.cons c .nil))) env st with
    | some (rs, st1) => match caps rs with
      | some [d1, d2, d3] => some (.nx (((env.set i (some (.dat d1))).set j (some (.dat d2))).set l (some (.dat d3))) st1)
      | _ => none
    | none => none) := Eq.trans rfl rfl
theorem y_s_setO {cf : Cf} {i k e env st} : Stm.den cf (.setO i k e) env st = ( match env[i]? with
    | some (some (.own ds)) => match e.den cf env st with
      | some (x, st1) => match k.den cf env st1 with
        | some (.dat (.int q), st2) => match x.cap, ixN ds.length q with
          | some d, some j => some (.nx (env.set i (some (.own (ds.set j d)))) st2)
          | _, _ => none
        | _ => none
      | none => none
    | _ => none) := Eq.trans rfl rfl
theorem y_s_unp {cf : Cf} {t e env st} : Stm.den cf (.unp t e) env st = ( match e.den cf env st with
    | some (x, st1) => (x.cap.bind fun d => t.bind d env).map fun env1 => .nx env1 st1
    | none => none) := Eq.trans rfl rfl
theorem y_s_setB {cf : Cf} {o i e env st} : Stm.den cf (.setB o i e) env st = ( match e.den cf env st with
    | some (x, st1) => match o.den cf env st1 with
      | some (.ref n, st2) => match i.den cf env st2 with
        | some (.dat (.int k), st3) => match x.cap, st3[n]? with
          | some d, some ds => match ixN ds.length k with
            | some j => some (.nx env (st3.set n (ds.set j d)))
            | none => none
          | _, _ => none
        | _ => none
      | _ => none
    | none => none) := Eq.trans rfl rfl
theorem y_s_exp {cf : Cf} {e env st} : Stm.den cf (.exp e) env st = ( match e.den cf env st with
    | some (_, st1) => some (.nx env st1)
    | none => none) := Eq.trans rfl rfl
theorem y_s_app {cf : Cf} {i e env st} : Stm.den cf (.app i e) env st = ( match env[i]? with
    | some (some (.own ds)) => match e.den cf env st with
      | some (x, st1) => match x.cap with
        | some d => if ds.length < sizeLine then some (.nx (env.set i (some (.own (ds ++ [d])))) st1) else none
        | none => none
      | none => none
    | _ => none) := Eq.trans rfl rfl
theorem y_s_ext {cf : Cf} {i e env st} : Stm.den cf (.ext i e) env st = ( match env[i]? with
    | some (some (.own ds)) => match e.den cf env st with
      | some (x, st1) => match x.view with
        | some (.list es) => if fitsL (ds.length + es.length) then some (.nx (env.set i (some (.own (ds ++ es)))) st1) else none
        | _ => none
      | none => none
    | _ => none) := Eq.trans rfl rfl
theorem y_s_iff {cf : Cf} {t a b env st} : Stm.den cf (.iff t a b) env st = ( match t.den cf env st with
    | some (true, st1) => a.den cf env st1
    | some (false, st1) => b.den cf env st1
    | none => none) := Eq.trans rfl rfl
theorem y_s_whl {cf : Cf} {t b env st} : Stm.den cf (.whl t b) env st = ( whlD (t.den cf) (b.den cf) env st) := Eq.trans rfl rfl
theorem y_s_forr {cf : Cf} {tg it b env st} : Stm.den cf (.forr tg it b) env st = ( match it.den cf false env st with
    | some (items, st1) => forGo (fun d env st => (tg.bind d env).bind fun env1 => b.den cf env1 st) items env st1
    | none => none) := Eq.trans rfl rfl
theorem y_s_ret {cf : Cf} {e env st} : Stm.den cf (.ret e) env st = ( match e.den cf env st with
    | some (x, st1) => x.hold.map fun r => .rt r st1
    | none => none) := Eq.trans rfl rfl
theorem y_s_retv {cf : Cf} {i env st} : Stm.den cf (.retv i) env st = ( match env[i]? with
    | some (some r) => some (.rt r st)
    | _ => none) := Eq.trans rfl rfl
theorem y_s_frz {cf : Cf} {i env st} : Stm.den cf (.frz i) env st = ( match env[i]? with
    | some (some (.own ds)) => some (.nx (env.set i (some (.dat (.list ds)))) st)
    | _ => some (.nx env st)) := Eq.trans rfl rfl
theorem y_ss_nil {cf : Cf} {env st} : Stms.den cf (.nil ) env st = ( some (.nx env st)) := Eq.trans rfl rfl
theorem y_ss_cons {cf : Cf} {s r env st} : Stms.den cf (.cons s r) env st = ( match s.den cf env st with
    | some (.nx env1 st1) => r.den cf env1 st1
    | o => o) := Eq.trans rfl rfl
/-! what each form computes, constructor by constructor -/
theorem z_read_dat (d : PyData) : (R.dat d).read = .dat d := Eq.trans rfl rfl
theorem z_read_ref (n : Nat) : (R.ref n).read = .ref n := Eq.trans rfl rfl
theorem z_read_scr (ns : List Int) : (R.scr ns).read = .scr ns := Eq.trans rfl rfl
theorem z_read_own (ds : List PyData) : (R.own ds).read = .brw ds := Eq.trans rfl rfl
theorem z_view_own (ds : List PyData) : (R.own ds).view = some (.list ds) := Eq.trans rfl rfl
theorem z_view_brw (ds : List PyData) : (R.brw ds).view = some (.list ds) := Eq.trans rfl rfl
theorem z_view_dat (d : PyData) : (R.dat d).view = some d := Eq.trans rfl rfl
theorem z_cap_dat (d : PyData) : (R.dat d).cap = some d := Eq.trans rfl rfl
theorem z_cap_own (d : List PyData) : (R.own d).cap = some (.list d) := Eq.trans rfl rfl
theorem z_hold_dat (d : PyData) : (R.dat d).hold = some (.dat d) := Eq.trans rfl rfl
theorem z_hold_ref (n : Nat) : (R.ref n).hold = some (.ref n) := Eq.trans rfl rfl
theorem z_hold_scr (ns : List Int) : (R.scr ns).hold = some (.scr ns) := Eq.trans rfl rfl
theorem z_hold_own (ds : List PyData) : (R.own ds).hold = some (.own ds) := Eq.trans rfl rfl
theorem z_arg_dat (d : PyData) : (R.dat d).arg = some (.dat d) := Eq.trans rfl rfl
theorem z_arg_ref (n : Nat) : (R.ref n).arg = some (.ref n) := Eq.trans rfl rfl
theorem z_arg_scr (ns : List Int) : (R.scr ns).arg = some (.scr ns) := Eq.trans rfl rfl
theorem z_arg_own (ds : List PyData) : (R.own ds).arg = some (.dat (.list ds)) := Eq.trans rfl rfl
theorem z_look_t (r : R) : r.look true = r.view := Eq.trans rfl rfl
theorem z_look_f (r : R) : r.look false = r.cap := Eq.trans rfl rfl
theorem z_len_ref (n : Nat) (st : Bx) : lenR (.ref n) st = (st[n]?).map fun ds => .dat (.int ds.length) := Eq.trans rfl rfl
theorem z_len_scr (ns : List Int) (st : Bx) : lenR (.scr ns) st = some (.dat (.int ns.length)) := Eq.trans rfl rfl
theorem z_len_l (ds : List PyData) (st : Bx) : lenR (.dat (.list ds)) st = some (.dat (.int ds.length)) := Eq.trans rfl rfl
theorem z_len_t (ds : List PyData) (st : Bx) : lenR (.dat (.tuple ds)) st = some (.dat (.int ds.length)) := Eq.trans rfl rfl
theorem z_len_o (ds : List PyData) (st : Bx) : lenR (.own ds) st = some (.dat (.int ds.length)) := Eq.trans rfl rfl
theorem z_len_b (ds : List PyData) (st : Bx) : lenR (.brw ds) st = some (.dat (.int ds.length)) := Eq.trans rfl rfl
theorem z_ix_ref (n : Nat) (i : Int) (st : Bx) : ixR (.ref n) i st = (st[n]?).bind fun ds => atI ds i := Eq.trans rfl rfl
theorem z_ix_scr (ns : List Int) (i : Int) (st : Bx) : ixR (.scr ns) i st = (atI ns i).map .int := Eq.trans rfl rfl
theorem z_ix_l (ds : List PyData) (i : Int) (st : Bx) : ixR (.dat (.list ds)) i st = atI ds i := Eq.trans rfl rfl
theorem z_ix_t (ds : List PyData) (i : Int) (st : Bx) : ixR (.dat (.tuple ds)) i st = atI ds i := Eq.trans rfl rfl
theorem z_ix_o (ds : List PyData) (i : Int) (st : Bx) : ixR (.own ds) i st = atI ds i := Eq.trans rfl rfl
theorem z_ix_b (ds : List PyData) (i : Int) (st : Bx) : ixR (.brw ds) i st = atI ds i := Eq.trans rfl rfl
theorem z_blt_len (r : R) (st : Bx) : bltR .len [r] st = lenR r st := Eq.trans rfl rfl
theorem z_blt_abs (rs : List R) (st : Bx) : bltR .abs rs st = (views rs).bind fun ds => bltD .abs ds := Eq.trans rfl rfl
theorem z_blt_tup (rs : List R) (st : Bx) : bltR .tup rs st = (views rs).bind fun ds => bltD .tup ds := Eq.trans rfl rfl
theorem z_blt_lst (rs : List R) (st : Bx) : bltR .lst rs st = (views rs).bind fun ds => bltD .lst ds := Eq.trans rfl rfl
theorem z_blt_sum (rs : List R) (st : Bx) : bltR .sum rs st = (views rs).bind fun ds => bltD .sum ds := Eq.trans rfl rfl
theorem z_blt_all (rs : List R) (st : Bx) : bltR .all rs st = (views rs).bind fun ds => bltD .all ds := Eq.trans rfl rfl
theorem z_blt_any (rs : List R) (st : Bx) : bltR .any rs st = (views rs).bind fun ds => bltD .any ds := Eq.trans rfl rfl
theorem z_blt_min (rs : List R) (st : Bx) : bltR .min rs st = (views rs).bind fun ds => bltD .min ds := Eq.trans rfl rfl
theorem z_blt_max (rs : List R) (st : Bx) : bltR .max rs st = (views rs).bind fun ds => bltD .max ds := Eq.trans rfl rfl
theorem z_blt_sorted (rs : List R) (st : Bx) : bltR .sorted rs st = (views rs).bind fun ds => bltD .sorted ds := Eq.trans rfl rfl
theorem z_blt_repr (rs : List R) (st : Bx) : bltR .repr rs st = (views rs).bind fun ds => bltD .repr ds := Eq.trans rfl rfl
theorem z_blt_str (rs : List R) (st : Bx) : bltR .str rs st = (views rs).bind fun ds => bltD .str ds := Eq.trans rfl rfl
theorem z_blt_int (rs : List R) (st : Bx) : bltR .int rs st = (views rs).bind fun ds => bltD .int ds := Eq.trans rfl rfl
theorem z_blt_divmod (rs : List R) (st : Bx) : bltR .divmod rs st = (views rs).bind fun ds => bltD .divmod ds := Eq.trans rfl rfl
theorem z_d_abs (i : Int) : bltD .abs [.int i] = some (.dat (.int i.natAbs)) := Eq.trans rfl rfl
theorem z_d_tupl (ds : List PyData) : bltD .tup [.list ds] = some (.dat (.tuple ds)) := Eq.trans rfl rfl
theorem z_d_tupt (ds : List PyData) : bltD .tup [.tuple ds] = some (.dat (.tuple ds)) := Eq.trans rfl rfl
theorem z_d_lstl (ds : List PyData) : bltD .lst [.list ds] = some (.own ds) := Eq.trans rfl rfl
theorem z_d_lstt (ds : List PyData) : bltD .lst [.tuple ds] = some (.own ds) := Eq.trans rfl rfl
theorem z_d_sum (ds : List PyData) : bltD .sum [.list ds] = (intsOf ds).map fun l => .dat (.int l.sum) := Eq.trans rfl rfl
theorem z_d_all (ds : List PyData) : bltD .all [.list ds] = (boolsOf ds).map fun l => .dat (.bool (l.all id)) := Eq.trans rfl rfl
theorem z_d_any (ds : List PyData) : bltD .any [.list ds] = (boolsOf ds).map fun l => .dat (.bool (l.any id)) := Eq.trans rfl rfl
theorem z_d_minl (ds : List PyData) : bltD .min [.list ds] = (intsOf ds).bind fun l => if l = [] then none else some (.dat (.int (minL l))) := Eq.trans rfl rfl
theorem z_d_maxl (ds : List PyData) : bltD .max [.list ds] = (intsOf ds).bind fun l => if l = [] then none else some (.dat (.int (maxL l))) := Eq.trans rfl rfl
theorem z_d_min (i j : Int) : bltD .min [.int i, .int j] = some (.dat (.int (min i j))) := Eq.trans rfl rfl
theorem z_d_max (i j : Int) : bltD .max [.int i, .int j] = some (.dat (.int (max i j))) := Eq.trans rfl rfl
theorem z_d_sorted {ds : List PyData} (h : sortOk ds = true) : bltD .sorted [.list ds] = some (.own (sortD ds)) := if_pos h
theorem z_d_divmod {i j : Int} (h : 0 < j) (h2 : divOk j = true) : bltD .divmod [.int i, .int j] = some (.dat (.tuple [.int (i / j), .int (i % j)])) := if_pos ⟨h, h2⟩
theorem z_d_int (b : Bool) : bltD .int [.bool b] = some (.dat (.int (if b then 1 else 0))) := Eq.trans rfl rfl
theorem z_d_repr {d : PyData} (h : reprOk d = true) : bltD .repr [d] = some (.dat (.str d.shown)) := if_pos h
theorem z_d_str {i : Int} (h : i.natAbs.log2 < 1920) : bltD .str [.int i] = some (.dat (.str (toString i))) := if_pos h
theorem z_bin_i (o : Bop) (i j : Int) : binD o (.int i) (.int j) = (binI o i j).map fun k => .dat (.int k) := Eq.trans rfl rfl
theorem z_bin_ll {xs ys : List PyData} (h : fitsL (xs.length + ys.length) = true) : binD .add (.list xs) (.list ys) = some (.own (xs ++ ys)) := if_pos ⟨rfl, h⟩
theorem z_bin_tt {xs ys : List PyData} (h : fitsL (xs.length + ys.length) = true) : binD .add (.tuple xs) (.tuple ys) = some (.dat (.tuple (xs ++ ys))) := if_pos ⟨rfl, h⟩
theorem z_bin_rep {xs : List PyData} {k : Int} (h : repOk xs.length k = true) : binD .mul (.list xs) (.int k) = some (.own (List.replicate k.toNat xs).flatten) := if_pos ⟨rfl, h⟩
theorem z_add (i j : Int) : binI .add i j = some (i + j) := Eq.trans rfl rfl
theorem z_sub (i j : Int) : binI .sub i j = some (i - j) := Eq.trans rfl rfl
theorem z_mul {i j : Int} (h : mulOk i j = true) : binI .mul i j = some (i * j) := if_pos h
theorem z_fdiv {i j : Int} (h : 0 < j) (h2 : divOk j = true) : binI .fdiv i j = some (i / j) := (if_pos h2).trans (by rw [Int.fdiv_eq_ediv_of_nonneg i (Int.le_of_lt h)])
theorem z_mod {i j : Int} (h : 0 < j) : binI .mod i j = some (i % j) := (if_neg (by omega)).trans (by rw [Int.fmod_eq_emod_of_nonneg i (Int.le_of_lt h)])
theorem z_pow {i j : Int} (h : powOk i j = true) : binI .pow i j = some (i ^ j.toNat) := if_pos h
theorem z_eq (d e : PyData) : cmpD .eq d e = eqD d e := by cases d <;> cases e <;> rfl
theorem z_ne (d e : PyData) : cmpD .ne d e = (eqD d e).map not := by cases d <;> cases e <;> rfl
theorem z_lt (i j : Int) : cmpD .lt (.int i) (.int j) = some (decide (i < j)) := Eq.trans rfl rfl
theorem z_le (i j : Int) : cmpD .le (.int i) (.int j) = some (decide (i ≤ j)) := Eq.trans rfl rfl
theorem z_gt (i j : Int) : cmpD .gt (.int i) (.int j) = some (decide (j < i)) := Eq.trans rfl rfl
theorem z_ge (i j : Int) : cmpD .ge (.int i) (.int j) = some (decide (j ≤ i)) := Eq.trans rfl rfl
theorem z_inl (d : PyData) (ds : List PyData) : cmpD .inn d (.list ds) = inD d ds := by cases d <;> rfl
theorem z_int (d : PyData) (ds : List PyData) : cmpD .inn d (.tuple ds) = inD d ds := by cases d <;> rfl
theorem z_ninl (d : PyData) (ds : List PyData) : cmpD .nin d (.list ds) = (inD d ds).map not := by cases d <;> rfl
theorem z_nint (d : PyData) (ds : List PyData) : cmpD .nin d (.tuple ds) = (inD d ds).map not := by cases d <;> rfl
theorem z_isi_int_none : isiD .int .none = false := Eq.trans rfl rfl
theorem z_isi_int_bool (b : Bool) : isiD .int (.bool b) = true := Eq.trans rfl rfl
theorem z_isi_int_int (i : Int) : isiD .int (.int i) = true := Eq.trans rfl rfl
theorem z_isi_int_str (s : Str) : isiD .int (.str s) = false := Eq.trans rfl rfl
theorem z_isi_int_list (ds : List PyData) : isiD .int (.list ds) = false := Eq.trans rfl rfl
theorem z_isi_int_tuple (ds : List PyData) : isiD .int (.tuple ds) = false := Eq.trans rfl rfl
theorem z_isi_bool_none : isiD .bool .none = false := Eq.trans rfl rfl
theorem z_isi_bool_bool (b : Bool) : isiD .bool (.bool b) = true := Eq.trans rfl rfl
theorem z_isi_bool_int (i : Int) : isiD .bool (.int i) = false := Eq.trans rfl rfl
theorem z_isi_bool_str (s : Str) : isiD .bool (.str s) = false := Eq.trans rfl rfl
theorem z_isi_bool_list (ds : List PyData) : isiD .bool (.list ds) = false := Eq.trans rfl rfl
theorem z_isi_bool_tuple (ds : List PyData) : isiD .bool (.tuple ds) = false := Eq.trans rfl rfl
theorem z_isi_str_none : isiD .str .none = false := Eq.trans rfl rfl
theorem z_isi_str_bool (b : Bool) : isiD .str (.bool b) = false := Eq.trans rfl rfl
theorem z_isi_str_int (i : Int) : isiD .str (.int i) = false := Eq.trans rfl rfl
theorem z_isi_str_str (s : Str) : isiD .str (.str s) = true := Eq.trans rfl rfl
theorem z_isi_str_list (ds : List PyData) : isiD .str (.list ds) = false := Eq.trans rfl rfl
theorem z_isi_str_tuple (ds : List PyData) : isiD .str (.tuple ds) = false := Eq.trans rfl rfl
theorem z_isi_list_none : isiD .list .none = false := Eq.trans rfl rfl
theorem z_isi_list_bool (b : Bool) : isiD .list (.bool b) = false := Eq.trans rfl rfl
theorem z_isi_list_int (i : Int) : isiD .list (.int i) = false := Eq.trans rfl rfl
theorem z_isi_list_str (s : Str) : isiD .list (.str s) = false := Eq.trans rfl rfl
theorem z_isi_list_list (ds : List PyData) : isiD .list (.list ds) = true := Eq.trans rfl rfl
theorem z_isi_list_tuple (ds : List PyData) : isiD .list (.tuple ds) = false := Eq.trans rfl rfl
theorem z_isi_tuple_none : isiD .tuple .none = false := Eq.trans rfl rfl
theorem z_isi_tuple_bool (b : Bool) : isiD .tuple (.bool b) = false := Eq.trans rfl rfl
theorem z_isi_tuple_int (i : Int) : isiD .tuple (.int i) = false := Eq.trans rfl rfl
theorem z_isi_tuple_str (s : Str) : isiD .tuple (.str s) = false := Eq.trans rfl rfl
theorem z_isi_tuple_list (ds : List PyData) : isiD .tuple (.list ds) = false := Eq.trans rfl rfl
theorem z_isi_tuple_tuple (ds : List PyData) : isiD .tuple (.tuple ds) = true := Eq.trans rfl rfl
theorem z_out_rt (r : R) (st : Bx) : outR (some (.rt r st)) = some (r, st) := Eq.trans rfl rfl
theorem z_out_nx (env : En) (st : Bx) : outR (some (.nx env st)) = some (.dat .none, st) := Eq.trans rfl rfl
theorem z_eqi (i j : Int) : eqD (.int i) (.int j) = some (decide (i = j)) := by
  show (if (SeqAt.shaped (.int i) && SeqAt.shaped (.int j)) = true then some (PyData.eqv (.int i) (.int j)) else none) = _
  exact (if_pos rfl).trans (by show some (i == j) = some (decide (i = j)); congr 1)
theorem z_eqb (i j : Bool) : eqD (.bool i) (.bool j) = some (i == j) := by
  show (if (SeqAt.shaped (.bool i) && SeqAt.shaped (.bool j)) = true then some (PyData.eqv (.bool i) (.bool j)) else none) = _
  exact (if_pos rfl).trans (by simp [PyData.eqv])
theorem z_rng1 {j : Int} (h : rngOk j = true) : rngD [j] = some (rngItems 0 j.toNat) := if_pos h
theorem z_rng2 {i j : Int} (h : rngOk i = true) (h2 : rngOk j = true) : rngD [i, j] = some (rngItems i (j - i).toNat) := if_pos (by rw [h, h2]; rfl)
theorem z_si_l (ds : List PyData) : seqItems (.list ds) = some ds := Eq.trans rfl rfl
theorem z_si_t (ds : List PyData) : seqItems (.tuple ds) = some ds := Eq.trans rfl rfl
theorem z_bind_nm (i : Nat) (d : PyData) (env : En) : (Tg.nm i).bind d env = some (env.set i (some (.dat d))) := by simp only [Tg.bind]
theorem z_bind_tt (ts : Tgs) (ds : List PyData) (env : En) : (Tg.tp ts).bind (.tuple ds) env = ts.bind ds env := by simp only [Tg.bind]
theorem z_bind_tl (ts : Tgs) (ds : List PyData) (env : En) : (Tg.tp ts).bind (.list ds) env = ts.bind ds env := by simp only [Tg.bind]
theorem z_binds_n (env : En) : Tgs.nil.bind [] env = some env := by simp only [Tgs.bind]
theorem z_binds_c (t : Tg) (r : Tgs) (d : PyData) (ds : List PyData) (env : En) : (Tgs.cons t r).bind (d :: ds) env = (t.bind d env).bind fun env1 => r.bind ds env1 := by simp only [Tgs.bind]
theorem z_sl_l (ds : List PyData) (lo hi : Option Int) : slD (.list ds) lo hi = some (.own (cutD ds lo hi)) := Eq.trans rfl rfl
theorem z_sl_t (ds : List PyData) (lo hi : Option Int) : slD (.tuple ds) lo hi = some (.dat (.tuple (cutD ds lo hi))) := Eq.trans rfl rfl
theorem z_at0 {α : Type} (x : α) (r : List α) : atI (x :: r) 0 = some x := atI_nat (j := 0) rfl
theorem z_at1 {α : Type} (x y : α) (r : List α) : atI (x :: y :: r) 1 = some y := atI_nat (j := 1) rfl
theorem z_at2 {α : Type} (x y z : α) (r : List α) : atI (x :: y :: z :: r) 2 = some z := atI_nat (j := 2) rfl
theorem z_at3 {α : Type} (x y z u : α) (r : List α) : atI (x :: y :: z :: u :: r) 3 = some u := atI_nat (j := 3) rfl
theorem z_ixN0 {n : Nat} : ixN (n + 1) 0 = some 0 := by unfold ixN; rw [if_pos (by omega), if_pos (by omega)]; rfl
theorem z_intsn : intsOf [] = some [] := Eq.trans rfl rfl
theorem z_intsc (i : Int) (r : List PyData) : intsOf (.int i :: r) = (intsOf r).map (i :: ·) := Eq.trans rfl rfl
theorem z_boolsn : boolsOf [] = some [] := Eq.trans rfl rfl
theorem z_boolsc (i : Bool) (r : List PyData) : boolsOf (.bool i :: r) = (boolsOf r).map (i :: ·) := Eq.trans rfl rfl
/-! sizes -/
theorem log2_lt_of {n k : Nat} (hk : 0 < k) (h : n < 2 ^ k) : n.log2 < k := by
  by_cases h0 : n = 0
  · subst h0; simpa using hk
  · exact (Nat.log2_lt h0).mpr h
theorem mulOk_of {i j : Int} {a b : Nat} (ha : i.natAbs < 2 ^ a) (hb : j.natAbs < 2 ^ b) (hab : a + b ≤ 999990) : mulOk i j = true := by
  have h1 := log2_lt_of (k := a + 1) (by omega) (Nat.lt_of_lt_of_le ha (Nat.pow_le_pow_right (by decide) (by omega)))
  have h2 := log2_lt_of (k := b + 1) (by omega) (Nat.lt_of_lt_of_le hb (Nat.pow_le_pow_right (by decide) (by omega)))
  unfold mulOk
  exact decide_eq_true (by omega)
/-- both below 2^60 -/
theorem mulOk_s {i j : Int} (h1 : -(2 ^ 60) < i) (h2 : i < 2 ^ 60) (h3 : -(2 ^ 60) < j) (h4 : j < 2 ^ 60) : mulOk i j = true := mulOk_of (a := 60) (b := 60) (by omega) (by omega) (by omega)
theorem divOk_s {j : Int} (h1 : 0 < j) (h2 : j < 2 ^ 60) : divOk j = true := by
  have h := log2_lt_of (n := j.natAbs) (k := 60) (by decide) (by omega)
  unfold divOk
  exact decide_eq_true ⟨by omega, by omega⟩
theorem rngOk_s {j : Int} (h1 : -(2 ^ 60) < j) (h2 : j < 2 ^ 60) : rngOk j = true := by
  have h := log2_lt_of (n := j.natAbs) (k := 61) (by decide) (by omega)
  unfold rngOk
  exact decide_eq_true h
theorem fitsL_s {n : Nat} (h : n ≤ 100000) : fitsL n = true := by
  unfold fitsL
  exact decide_eq_true (Nat.le_trans h (by decide))
theorem atI_ints {l : List Int} {i : Int} (h : 0 ≤ i) (h2 : i < l.length) : ∃ x ∈ l, atI (l.map PyData.int) i = some (.int x) := by
  obtain ⟨n, rfl⟩ := Int.eq_ofNat_of_zero_le h
  have hn : n < l.length := by omega
  exact ⟨l[n], List.getElem_mem hn, atI_nat (by rw [List.getElem?_map, List.getElem?_eq_getElem hn]; rfl)⟩
theorem rngItems_get {lo : Int} {n j : Nat} {d : PyData} (h : (rngItems lo n)[j]? = some d) : j < n ∧ d = .int (lo + j) := by
  have hl := (List.getElem?_eq_some_iff.mp h).1
  rw [rngItems_len] at hl
  unfold rngItems at h
  rw [List.getElem?_map, List.getElem?_range hl] at h
  cases h
  exact ⟨hl, rfl⟩
/-- a for loop by an invariant that goes on -/
theorem forGo_nx {step : PyData → En → Bx → Option Out} (I : Nat → En → Bx → Prop) : ∀ (items : List PyData) (i : Nat) (env : En) (st : Bx), I i env st →
    (∀ (j : Nat) d env st, items[j]? = some d → I (i + j) env st → ∃ env1 st1, step d env st = some (.nx env1 st1) ∧ I (i + j + 1) env1 st1) →
    ∃ env1 st1, forGo step items env st = some (.nx env1 st1) ∧ I (i + items.length) env1 st1
  | [], i, env, st, h, _ => ⟨env, st, rfl, h⟩
  | d :: ds, i, env, st, h, hs => by
    obtain ⟨env1, st1, e1, h1⟩ := hs 0 d env st rfl h
    obtain ⟨env2, st2, e2, h2⟩ := forGo_nx I ds (i + 1) env1 st1 h1 fun j d env st hd hi => by
      have := hs (j + 1) d env st (by simpa using hd) (by rw [show i + (j + 1) = i + 1 + j by omega]; exact hi)
      rw [show i + (j + 1) + 1 = i + 1 + j + 1 by omega] at this
      exact this
    refine ⟨env2, st2, ?_, by rw [List.length_cons, show i + (ds.length + 1) = i + 1 + ds.length by omega]; exact h2⟩
    unfold forGo
    rw [e1]
    exact e2
/-- a while loop: enough turns -/
theorem whlN_mono {c : En → Bx → Option (Bool × Bx)} {b : En → Bx → Option Out} : ∀ {n m : Nat} {env : En} {st : Bx} {o : Out}, n ≤ m → whlN c b n env st = some o → whlN c b m env st = some o
  | 0, m, env, st, o, _, h => by cases h
  | n + 1, 0, env, st, o, hle, _ => absurd hle (by omega)
  | n + 1, m + 1, env, st, o, hle, h => by
    unfold whlN at h ⊢
    split
    · rename_i st1 e1
      rw [e1] at h
      dsimp only at h
      split
      · rename_i env2 st2 e2
        rw [e2] at h
        exact whlN_mono (by omega) h
      · rename_i e2
        split at h
        · rename_i env2 st2 e3; exact absurd e3 (e2 env2 st2)
        · exact h
    · rename_i st1 e1
      rw [e1] at h
      exact h
    · rename_i e1
      rw [e1] at h
      cases h
theorem whlD_of {c : En → Bx → Option (Bool × Bx)} {b : En → Bx → Option Out} {n : Nat} {env : En} {st : Bx} {o : Out} (h : whlN c b n env st = some o) : whlD c b env st = some o := by
  unfold whlD
  have hx : ∃ n, (whlN c b n env st).isSome = true := ⟨n, by rw [h]; rfl⟩
  rw [dif_pos hx]
  obtain ⟨o', ho⟩ := Option.isSome_iff_exists.mp hx.choose_spec
  rw [ho]
  rcases Nat.le_total n hx.choose with q | q
  · rw [whlN_mono q h] at ho; exact ho.symm
  · rw [whlN_mono q ho] at h; exact h
theorem get_set {st : Bx} {n : Nat} {y z : List PyData} (h : st[n]? = some y) : (st.set n z)[n]? = some z := List.getElem?_set_self (List.getElem?_eq_some_iff.mp h).1
/-! equality of data -/
theorem depthAll_le {n : Nat} : ∀ {ds : List PyData}, (∀ d ∈ ds, d.depth ≤ n) → PyData.depthAll ds ≤ n
  | [], _ => Nat.zero_le _
  | d :: ds, h => by
    unfold PyData.depthAll
    have h1 := h d List.mem_cons_self
    have h2 := depthAll_le (ds := ds) fun e he => h e (List.mem_cons_of_mem _ he)
    omega
theorem canAll {ds : List PyData} (h : ∀ d ∈ ds, d.canLay0 = true) : PyData.canLayAll0 ds = true := by
  induction ds with
  | nil => rfl
  | cons d ds ih =>
    unfold PyData.canLayAll0
    rw [h d List.mem_cons_self, ih fun e he => h e (List.mem_cons_of_mem _ he)]
    rfl
/-- data that may be compared, n deep -/
def Nice (n : Nat) (d : PyData) : Prop := d.canLay0 = true ∧ d.depth ≤ n
theorem nice_int (i : Int) : Nice 0 (.int i) := ⟨rfl, Nat.le_refl _⟩
theorem nice_bool (i : Bool) : Nice 0 (.bool i) := ⟨rfl, Nat.le_refl _⟩
theorem nice_none : Nice 0 .none := ⟨rfl, Nat.le_refl _⟩
theorem Nice.mono {n m : Nat} {d : PyData} (h : Nice n d) (k : n ≤ m) : Nice m d := ⟨h.1, Nat.le_trans h.2 k⟩
theorem nice_list {n : Nat} {ds : List PyData} (h : ∀ d ∈ ds, Nice n d) (hl : ds.length ≤ 100000) : Nice (n + 1) (.list ds) := by
  refine ⟨?_, ?_⟩
  · unfold PyData.canLay0
    exact canAll fun d hd => (h d hd).1
  · have := depthAll_le fun d hd => (h d hd).2
    unfold PyData.depth
    omega
theorem nice_tuple {n : Nat} {ds : List PyData} (h : ∀ d ∈ ds, Nice n d) (hl : ds.length ≤ 100000) : Nice (n + 1) (.tuple ds) := by
  refine ⟨?_, ?_⟩
  · unfold PyData.canLay0
    exact canAll fun d hd => (h d hd).1
  · have := depthAll_le fun d hd => (h d hd).2
    unfold PyData.depth
    omega
theorem eqD_of {n : Nat} {d e : PyData} (h : Nice n d) (k : Nice n e) (hn : n ≤ 64) : eqD d e = some (PyData.eqv d e) := by
  have s1 : SeqAt.shaped d = true := by unfold SeqAt.shaped; rw [h.1, decide_eq_true (Nat.le_trans h.2 hn)]; rfl
  have s2 : SeqAt.shaped e = true := by unfold SeqAt.shaped; rw [k.1, decide_eq_true (Nat.le_trans k.2 hn)]; rfl
  unfold eqD
  split
  · rename_i x y
    show some (decide (x = y)) = some (x == y)
    congr 1
  · rw [s1, s2]
    rfl
theorem eqvAll_ints : ∀ l m : List Int, PyData.eqvAll (l.map .int) (m.map .int) = decide (l = m)
  | [], [] => rfl
  | [], _ :: _ => rfl
  | _ :: _, [] => rfl
  | i :: l, j :: m => by
    show ((i == j) && PyData.eqvAll (l.map .int) (m.map .int)) = _
    rw [eqvAll_ints l m]
    by_cases h : i = j <;> by_cases k : l = m <;> simp [h, k]
theorem ints_nice (l : List Int) : ∀ d ∈ l.map PyData.int, Nice 0 d := fun d h => by
  obtain ⟨i, _, rfl⟩ := List.mem_map.mp h
  exact nice_int i
theorem eqD_ints {l m : List Int} (h : l.length ≤ 100000) (k : m.length ≤ 100000) : eqD (.list (l.map .int)) (.list (m.map .int)) = some (decide (l = m)) :=
  (eqD_of (nice_list (ints_nice l) (by rw [List.length_map]; exact h)) (nice_list (ints_nice m) (by rw [List.length_map]; exact k)) (by decide)).trans (congrArg some (eqvAll_ints l m))
theorem eqD_intt {l m : List Int} (h : l.length ≤ 100000) (k : m.length ≤ 100000) : eqD (.tuple (l.map .int)) (.tuple (m.map .int)) = some (decide (l = m)) :=
  (eqD_of (nice_tuple (ints_nice l) (by rw [List.length_map]; exact h)) (nice_tuple (ints_nice m) (by rw [List.length_map]; exact k)) (by decide)).trans (congrArg some (eqvAll_ints l m))
/-- is it the empty list? -/
theorem eqD_nil {n : Nat} {ds : List PyData} (h : ∀ d ∈ ds, Nice n d) (hl : ds.length ≤ 100000) (hn : n < 64) : eqD (.list ds) (.list []) = some ds.isEmpty := by
  rw [eqD_of (nice_list h hl) (nice_list (fun d hd => by cases hd) (by simp)) (by omega)]
  cases ds <;> rfl
/-! loops and comprehensions -/
theorem den_for {cf : Cf} {tg : Tg} {it : Itx} {b : Stms} {env : En} {st st1 : Bx} {items : List PyData} (h : it.den cf false env st = some (items, st1)) (I : Nat → En → Bx → Prop) (h0 : I 0 env st1)
    (hs : ∀ (j : Nat) d env st, items[j]? = some d → I j env st → ∃ env0 env1 st1, tg.bind d env = some env0 ∧ b.den cf env0 st = some (.nx env1 st1) ∧ I (j + 1) env1 st1) :
    ∃ env1 st2, (Stm.forr tg it b).den cf env st = some (.nx env1 st2) ∧ I items.length env1 st2 := by
  obtain ⟨env1, st2, e, q⟩ := forGo_nx (step := fun d env st => (tg.bind d env).bind fun env1 => b.den cf env1 st) I items 0 env st1 h0 fun j d env st hd hi => by
    rw [Nat.zero_add] at hi ⊢
    obtain ⟨env0, env1, st1, e1, e2, e3⟩ := hs j d env st hd hi
    exact ⟨env1, st1, by rw [e1]; exact e2, e3⟩
  rw [Nat.zero_add] at q
  exact ⟨env1, st2, by simp only [Stm.den, h]; exact e, q⟩
theorem forGo_or {step : PyData → En → Bx → Option Out} (I : Nat → En → Bx → Prop) (Q : R → Bx → Prop) : ∀ (items : List PyData) (i : Nat) (env : En) (st : Bx), I i env st →
    (∀ (j : Nat) d env st, items[j]? = some d → I (i + j) env st → (∃ env1 st1, step d env st = some (.nx env1 st1) ∧ I (i + j + 1) env1 st1) ∨ ∃ r st1, step d env st = some (.rt r st1) ∧ Q r st1) →
    (∃ env1 st1, forGo step items env st = some (.nx env1 st1) ∧ I (i + items.length) env1 st1) ∨ ∃ r st1, forGo step items env st = some (.rt r st1) ∧ Q r st1
  | [], i, env, st, h, _ => .inl ⟨env, st, rfl, h⟩
  | d :: ds, i, env, st, h, hs => by
    rcases hs 0 d env st rfl h with ⟨env1, st1, e1, h1⟩ | ⟨r, st1, e1, h1⟩
    · have := forGo_or I Q ds (i + 1) env1 st1 h1 fun j d env st hd hi => by
        have := hs (j + 1) d env st (by simpa using hd) (by rw [show i + (j + 1) = i + 1 + j by omega]; exact hi)
        rw [show i + (j + 1) + 1 = i + 1 + j + 1 by omega] at this
        exact this
      unfold forGo
      rw [e1, List.length_cons, show i + (ds.length + 1) = i + 1 + ds.length by omega]
      exact this
    · refine .inr ⟨r, st1, ?_, h1⟩
      unfold forGo
      rw [e1]
theorem den_for_or {cf : Cf} {tg : Tg} {it : Itx} {b : Stms} {env : En} {st st1 : Bx} {items : List PyData} (h : it.den cf false env st = some (items, st1)) (I : Nat → En → Bx → Prop) (Q : R → Bx → Prop) (h0 : I 0 env st1)
    (hs : ∀ (j : Nat) d env st, items[j]? = some d → I j env st → ∃ env0, tg.bind d env = some env0 ∧ ((∃ env1 st1, b.den cf env0 st = some (.nx env1 st1) ∧ I (j + 1) env1 st1) ∨ ∃ r st1, b.den cf env0 st = some (.rt r st1) ∧ Q r st1)) :
    (∃ env1 st2, (Stm.forr tg it b).den cf env st = some (.nx env1 st2) ∧ I items.length env1 st2) ∨ ∃ r st2, (Stm.forr tg it b).den cf env st = some (.rt r st2) ∧ Q r st2 := by
  have q := forGo_or (step := fun d env st => (tg.bind d env).bind fun env1 => b.den cf env1 st) I Q items 0 env st1 h0 fun j d env st hd hi => by
    rw [Nat.zero_add] at hi ⊢
    obtain ⟨env0, e1, e2⟩ := hs j d env st hd hi
    rw [e1]
    exact e2
  rw [Nat.zero_add] at q
  simp only [Stm.den, h]
  exact q
theorem whl_go {c : En → Bx → Option (Bool × Bx)} {b : En → Bx → Option Out} (I : Nat → En → Bx → Prop) (P : En → Bx → Prop)
    (hs : ∀ m env st, I m env st → ∃ d st1, c env st = some (d, st1) ∧ (d = false → P env st1) ∧ (d = true → ∃ env1 st2 m', m' < m ∧ b env st1 = some (.nx env1 st2) ∧ I m' env1 st2)) :
    ∀ (m : Nat) (env : En) (st : Bx), I m env st → ∃ n env1 st1, whlN c b n env st = some (.nx env1 st1) ∧ P env1 st1 := by
  intro m
  induction m using Nat.strongRecOn with
  | _ m ih =>
    intro env st h
    obtain ⟨d, st1, e1, hf, ht⟩ := hs m env st h
    cases d with
    | false => exact ⟨1, env, st1, by unfold whlN; rw [e1], hf rfl⟩
    | true =>
      obtain ⟨env1, st2, m', hm, e2, h2⟩ := ht rfl
      obtain ⟨n, env3, st3, e3, h3⟩ := ih m' hm env1 st2 h2
      exact ⟨n + 1, env3, st3, by unfold whlN; rw [e1]; dsimp only; rw [e2]; exact e3, h3⟩
theorem den_whl {cf : Cf} {t : Ts} {b : Stms} {env : En} {st : Bx} {m : Nat} (I : Nat → En → Bx → Prop) (P : En → Bx → Prop) (h0 : I m env st)
    (hs : ∀ m env st, I m env st → ∃ d st1, t.den cf env st = some (d, st1) ∧ (d = false → P env st1) ∧ (d = true → ∃ env1 st2 m', m' < m ∧ b.den cf env st1 = some (.nx env1 st2) ∧ I m' env1 st2)) :
    ∃ env1 st1, (Stm.whl t b).den cf env st = some (.nx env1 st1) ∧ P env1 st1 := by
  obtain ⟨n, env1, st1, e, h⟩ := whl_go I P hs m env st h0
  exact ⟨env1, st1, by simp only [Stm.den]; exact whlD_of e, h⟩
theorem lcGo_of {step : PyData → Bx → Option (Option PyData × Bx)} {F : PyData → Option PyData} {st : Bx} : ∀ {items acc : List PyData}, (∀ d ∈ items, step d st = some (F d, st)) → acc.length + items.length ≤ sizeLine → lcGo step items acc st = some (acc ++ items.filterMap F, st)
  | [], acc, _, _ => by unfold lcGo; simp
  | d :: ds, acc, h, hl => by
    rw [List.length_cons] at hl
    unfold lcGo
    rw [h d List.mem_cons_self]
    cases hF : F d with
    | none =>
      dsimp only
      rw [lcGo_of (fun e he => h e (List.mem_cons_of_mem _ he)) (by omega), List.filterMap_cons, hF]
    | some y =>
      dsimp only
      rw [if_pos (by omega), lcGo_of (fun e he => h e (List.mem_cons_of_mem _ he)) (by rw [List.length_append, List.length_singleton]; omega), List.filterMap_cons, hF]
      simp
theorem den_lc {cf : Cf} {el : Ex} {tg : Tg} {it : Itx} {cd : Tso} {ow : List Nat} {env : En} {st st1 : Bx} {items : List PyData} (h : it.den cf true env st = some (items, st1)) (F : PyData → Option PyData)
    (hs : ∀ d ∈ items, ∃ env1, tg.bind d (wipeE env ow) = some env1 ∧ ((cd.den cf env1 st1 = some (false, st1) ∧ F d = none) ∨ (cd.den cf env1 st1 = some (true, st1) ∧ ∃ r y, el.den cf env1 st1 = some (r, st1) ∧ r.cap = some y ∧ F d = some y))) (hl : items.length ≤ 100000) :
    (Ex.lc el tg it cd ow).den cf env st = some (.own (items.filterMap F), st1) := by
  simp only [Ex.den, h]
  rw [lcGo_of (F := F) (fun d hd => ?_) (by show 0 + _ ≤ _; exact Nat.le_trans (by omega) (show 100000 ≤ sizeLine by decide))]
  · rfl
  · obtain ⟨env1, e1, q⟩ := hs d hd
    rw [e1]
    dsimp only
    rcases q with ⟨e2, e3⟩ | ⟨e2, r, y, e3, e4, e5⟩
    · rw [e2, e3]
    · rw [e2]
      dsimp only
      rw [e3]
      dsimp only
      rw [e4, e5]
      rfl
end Sy

namespace Sy
open PySem L2
/-! ### more plain tools -/
theorem z_eqs (x y : Str) : eqD (.str x) (.str y) = some (decide (x = y)) := Eq.trans rfl rfl
theorem z_modf {i j : Int} (h : j ≠ 0) : binI .mod i j = some (i.fmod j) := if_neg h
theorem z_fdivf {i j : Int} (h : divOk j = true) : binI .fdiv i j = some (i.fdiv j) := if_pos h
theorem z_bin_rept {xs : List PyData} {k : Int} (h : repTOk xs.length k = true) : binD .mul (.tuple xs) (.int k) = some (.dat (.tuple (List.replicate k.toNat xs).flatten)) := if_pos ⟨rfl, h⟩
theorem z_fgn {step : PyData → En → Bx → Option Out} {env : En} {st : Bx} : forGo step [] env st = some (.nx env st) := Eq.trans rfl rfl
theorem z_fgc {step : PyData → En → Bx → Option Out} {d : PyData} {ds : List PyData} {env : En} {st : Bx} : forGo step (d :: ds) env st = (match step d env st with
    | some (.nx env1 st1) => forGo step ds env1 st1
    | o => o) := Eq.trans rfl rfl
theorem z_lcn {step : PyData → Bx → Option (Option PyData × Bx)} {acc : List PyData} {st : Bx} : lcGo step [] acc st = some (acc, st) := Eq.trans rfl rfl
theorem z_lcc {step : PyData → Bx → Option (Option PyData × Bx)} {d : PyData} {ds acc : List PyData} {st : Bx} (hl : acc.length < 100000) : lcGo step (d :: ds) acc st = (match step d st with
    | some (some y, st1) => lcGo step ds (acc ++ [y]) st1
    | some (none, st1) => lcGo step ds acc st1
    | none => none) := by
  conv => lhs; unfold lcGo
  have h' : acc.length < sizeLine := Nat.lt_of_lt_of_le hl (show 100000 ≤ sizeLine by decide)
  rcases step d st with _ | ⟨_ | y, st1⟩
  · rfl
  · rfl
  · exact if_pos h'
theorem rngItems_0 (lo : Int) : rngItems lo 0 = [] := rfl
theorem rngItems_s (lo : Int) (n : Nat) : rngItems lo (n + 1) = .int lo :: rngItems (lo + 1) n := by
  unfold rngItems
  rw [List.range_succ_eq_map, List.map_cons, List.map_map]
  refine congr (congrArg _ (by simp)) (List.map_congr_left fun k _ => ?_)
  show PyData.int _ = PyData.int _
  congr 1
  simp only [Nat.succ_eq_add_one]
  omega
theorem rng_2 : rngItems 0 2 = [.int 0, .int 1] := rfl
theorem rng_3 : rngItems 0 3 = [.int 0, .int 1, .int 2] := rfl
theorem z_en2 (a b : PyData) : enumD [a, b] = [.tuple [.int 0, a], .tuple [.int 1, b]] := rfl
theorem z_en3 (a b c : PyData) : enumD [a, b, c] = [.tuple [.int 0, a], .tuple [.int 1, b], .tuple [.int 2, c]] := rfl
theorem z_zn (l : List PyData) : zipD [] l = [] := rfl
theorem z_zn2 (a : PyData) (l : List PyData) : zipD (a :: l) [] = [] := rfl
theorem z_zc (a b : PyData) (k l : List PyData) : zipD (a :: k) (b :: l) = .tuple [a, b] :: zipD k l := rfl
section
variable {α : Type} (a b c : α)
theorem cut2_01 : cutD [a, b] (some 1) none = [b] := rfl
theorem cut2_a0 : cutD [a, b] none (some 0) = [] := rfl
theorem cut2_a1 : cutD [a, b] none (some 1) = [a] := rfl
theorem cut2_b1 : cutD [a, b] (some 1) none = [b] := rfl
theorem cut2_b2 : cutD [a, b] (some 2) none = [] := rfl
theorem cut3_b1 : cutD [a, b, c] (some 1) none = [b, c] := rfl
theorem cut3_b2 : cutD [a, b, c] (some 2) none = [c] := rfl
theorem cut3_b3 : cutD [a, b, c] (some 3) none = [] := rfl
theorem cut3_a0 : cutD [a, b, c] none (some 0) = [] := rfl
theorem cut3_a1 : cutD [a, b, c] none (some 1) = [a] := rfl
theorem cut3_a2 : cutD [a, b, c] none (some 2) = [a, b] := rfl
end
/-! sizes by powers of two -/
@[irreducible] def Bd (k : Nat) (x : Int) : Prop := x.natAbs < 2 ^ k
theorem Bd.mono {a b : Nat} {x : Int} (h : Bd a x) (k : a ≤ b) : Bd b x := by
  unfold Bd at *
  exact Nat.lt_of_lt_of_le h (Nat.pow_le_pow_right (by decide) k)
theorem bd_s {x : Int} (h1 : -(2 ^ 60) < x) (h2 : x < 2 ^ 60) : Bd 60 x := by unfold Bd; omega
theorem bd_neg {a : Nat} {x : Int} (h : Bd a x) : Bd a (-x) := by unfold Bd at *; omega
theorem bd_abs {a : Nat} {x : Int} (h : Bd a x) : Bd a (x.natAbs : Int) := by unfold Bd at *; omega
theorem bd_add {a b : Nat} {x y : Int} (h : Bd a x) (k : Bd b y) : Bd (max a b + 1) (x + y) := by
  have h' := h.mono (Nat.le_max_left a b)
  have k' := k.mono (Nat.le_max_right a b)
  unfold Bd at *
  rw [Nat.pow_succ]
  omega
theorem bd_sub {a b : Nat} {x y : Int} (h : Bd a x) (k : Bd b y) : Bd (max a b + 1) (x - y) := by
  rw [Int.sub_eq_add_neg]; exact bd_add h (bd_neg k)
theorem bd_mul {a b : Nat} {x y : Int} (h : Bd a x) (k : Bd b y) : Bd (a + b) (x * y) := by
  unfold Bd at *
  rw [Int.natAbs_mul, Nat.pow_add]
  exact Nat.mul_lt_mul'' h k
theorem bd_mod {b : Nat} {x y : Int} (h : 0 < y) (k : Bd b y) : Bd b (x % y) := by
  have h1 := Int.emod_nonneg x (show y ≠ 0 by omega)
  have h2 := Int.emod_lt_of_pos x h
  unfold Bd at *
  omega
theorem bd_max {a b : Nat} {x y : Int} (h : Bd a x) (k : Bd b y) : Bd (max a b) (max x y) := by
  have h' := h.mono (Nat.le_max_left a b)
  have k' := k.mono (Nat.le_max_right a b)
  unfold Bd at *
  omega
theorem natAbs_fdiv_le (x y : Int) : (x.fdiv y).natAbs ≤ x.natAbs := by
  rcases Int.le_total 0 y with h | h
  · rw [Int.fdiv_eq_ediv_of_nonneg x h]
    exact Int.natAbs_ediv_le_natAbs x y
  · rw [← Int.neg_fdiv_neg, Int.fdiv_eq_ediv_of_nonneg _ (by omega)]
    have := Int.natAbs_ediv_le_natAbs (-x) (-y)
    omega
theorem bd_fdiv {a : Nat} {x : Int} (y : Int) (h : Bd a x) : Bd a (x.fdiv y) := by
  unfold Bd at *
  exact Nat.lt_of_le_of_lt (natAbs_fdiv_le x y) h
theorem bd_div {a : Nat} {x : Int} (y : Int) (h : Bd a x) : Bd a (x / y) := by
  unfold Bd at *
  exact Nat.lt_of_le_of_lt (Int.natAbs_ediv_le_natAbs x y) h
theorem mulOk_bd {a b : Nat} {x y : Int} (h : Bd a x) (k : Bd b y) (hab : a + b ≤ 999990) : mulOk x y = true := by
  unfold Bd at *
  exact mulOk_of h k hab
theorem divOk_bd {a : Nat} {x : Int} (h : Bd a x) (h0 : x ≠ 0) (ha : a + 1 ≤ 9000) : divOk x = true := by
  unfold Bd at h
  have h1 := log2_lt_of (k := a + 1) (by omega) (Nat.lt_of_lt_of_le h (Nat.pow_le_pow_right (by decide) (Nat.le_succ a)))
  unfold divOk
  exact decide_eq_true ⟨h0, by omega⟩
/-! texts of data -/
/-- shown within w signs, n deep -/
def Shw (w n : Nat) (d : PyData) : Prop := d.showable = true ∧ d.shown.length ≤ w ∧ d.depth ≤ n
theorem shw_int {a : Nat} {i : Int} (h : Bd a i) (ha : a ≤ 1900) : Shw 1901 0 (.int i) := by
  have h1' := h.mono ha
  unfold Bd at h1'
  refine ⟨?_, ?_, Nat.le_refl _⟩
  · have := log2_lt_of (k := 1900) (by decide) h1'
    simp only [PyData.showable, decide_eq_true_eq]
    omega
  · have e := int_text_length_le10 (a := i) (k := 1900) (by decide) (Nat.lt_of_lt_of_le h1' (Nat.pow_le_pow_left (by decide) _))
    show (Str.ofString (toString i)).length ≤ 1901
    rw [ofString_length]; exact e
theorem shw_bool (b : Bool) : Shw 1901 0 (.bool b) := ⟨rfl, by cases b <;> decide, Nat.le_refl _⟩
theorem shw_none : Shw 1901 0 .none := ⟨rfl, by decide, Nat.le_refl _⟩
theorem Shw.mono {w n w1 n1 : Nat} {d : PyData} (h : Shw w n d) (hw : w ≤ w1) (hn : n ≤ n1) : Shw w1 n1 d := ⟨h.1, Nat.le_trans h.2.1 hw, Nat.le_trans h.2.2 hn⟩
theorem shw_all {w n : Nat} : ∀ {ds : List PyData}, (∀ d ∈ ds, Shw w n d) → PyData.showableAll ds = true ∧ ((PyData.shownAll ds).map (·.length)).sum ≤ w * ds.length ∧ (PyData.shownAll ds).length = ds.length
  | [], _ => ⟨rfl, Nat.zero_le _, rfl⟩
  | d :: ds, h => by
    obtain ⟨h1, h2, h3⟩ := h d List.mem_cons_self
    obtain ⟨k1, k2, k3⟩ := shw_all (ds := ds) fun e he => h e (List.mem_cons_of_mem _ he)
    refine ⟨?_, ?_, ?_⟩
    · unfold PyData.showableAll; rw [h1, k1]; rfl
    · rw [PyData.shownAll_cons, List.map_cons, List.sum_cons, List.length_cons, Nat.mul_add]
      omega
    · rw [PyData.shownAll_cons, List.length_cons, List.length_cons, k3]
theorem shw_tuple {w n : Nat} {ds : List PyData} (h : ∀ d ∈ ds, Shw w n d) : Shw ((w + 2) * ds.length + 3) (n + 1) (.tuple ds) := by
  obtain ⟨k1, k2, k3⟩ := shw_all h
  refine ⟨?_, ?_, ?_⟩
  · unfold PyData.showable; exact k1
  · have := tupleText_len_le (PyData.shownAll ds)
    show (tupleText (PyData.shownAll ds)).length ≤ _
    rw [Nat.add_mul]
    omega
  · have := depthAll_le fun d hd => (h d hd).2.2
    unfold PyData.depth
    omega
theorem shw_list {w n : Nat} {ds : List PyData} (h : ∀ d ∈ ds, Shw w n d) : Shw ((w + 2) * ds.length + 3) (n + 1) (.list ds) := by
  obtain ⟨k1, k2, k3⟩ := shw_all h
  refine ⟨?_, ?_, ?_⟩
  · unfold PyData.showable; exact k1
  · have := listText_len_le (PyData.shownAll ds)
    show (listText (PyData.shownAll ds)).length ≤ _
    rw [Nat.add_mul]
    omega
  · have := depthAll_le fun d hd => (h d hd).2.2
    unfold PyData.depth
    omega
theorem shw_list_le {w n m : Nat} {ds : List PyData} (h : ∀ d ∈ ds, Shw w n d) (hm : ds.length ≤ m) : Shw ((w + 2) * m + 3) (n + 1) (.list ds) := by
  refine (shw_list h).mono ?_ (Nat.le_refl _)
  have := Nat.mul_le_mul_left (w + 2) hm
  omega
theorem shw_t1 {w n : Nat} {a : PyData} (ha : Shw w n a) : Shw ((w + 2) * 1 + 3) (n + 1) (.tuple [a]) := shw_tuple (by simp; exact ha)
theorem shw_t2 {w n : Nat} {a b : PyData} (ha : Shw w n a) (hb : Shw w n b) : Shw ((w + 2) * 2 + 3) (n + 1) (.tuple [a, b]) := shw_tuple (by simp; exact ⟨ha, hb⟩)
theorem shw_t3 {w n : Nat} {a b c : PyData} (ha : Shw w n a) (hb : Shw w n b) (hc : Shw w n c) : Shw ((w + 2) * 3 + 3) (n + 1) (.tuple [a, b, c]) := shw_tuple (by simp; exact ⟨ha, hb, hc⟩)
theorem shw_l2 {w n : Nat} {a b : PyData} (ha : Shw w n a) (hb : Shw w n b) : Shw ((w + 2) * 2 + 3) (n + 1) (.list [a, b]) := shw_list (by simp; exact ⟨ha, hb⟩)
theorem reprOk_of {w n : Nat} {d : PyData} (h : Shw w n d) (hw : w ≤ 16000000) (hn : n ≤ 16) : reprOk d = true := by
  unfold reprOk
  rw [h.1, decide_eq_true (Nat.le_trans h.2.1 (Nat.le_trans hw (show 16000000 ≤ sizeLine by decide))), decide_eq_true (Nat.le_trans h.2.2 hn)]
  rfl
/-! is it None? -/
def isNn : PyData → Bool
  | .none => true
  | _ => false
theorem den_isn {cf : Cf} {e : Ex} {neg : Bool} {env : En} {st st1 : Bx} {d : PyData} (h : e.den cf env st = some (.dat d, st1)) : Ts.den cf (.isn e neg) env st = some (if isNn d then !neg else neg, st1) := by
  rw [y_t_isn, h]
  cases d <;> rfl
def isNnR : R → Bool
  | .dat d => isNn d
  | _ => false
theorem y_t_isnt {cf : Cf} {a env st} : Ts.den cf (.isn a true) env st = (match a.den cf env st with
    | some (x, st1) => some (!isNnR x, st1)
    | none => none) := by
  rw [y_t_isn]
  rcases a.den cf env st with _ | ⟨x, st1⟩
  · rfl
  · rcases x with d | _ | _ | _ | _
    · cases d <;> rfl
    all_goals rfl
theorem y_t_isnf {cf : Cf} {a env st} : Ts.den cf (.isn a false) env st = (match a.den cf env st with
    | some (x, st1) => some (isNnR x, st1)
    | none => none) := by
  rw [y_t_isn]
  rcases a.den cf env st with _ | ⟨x, st1⟩
  · rfl
  · rcases x with d | _ | _ | _ | _
    · cases d <;> rfl
    all_goals rfl
theorem z_nnr_dat (d : PyData) : isNnR (.dat d) = isNn d := Eq.trans rfl rfl
theorem z_nnr_own (d : List PyData) : isNnR (.own d) = false := Eq.trans rfl rfl
theorem z_nnr_brw (d : List PyData) : isNnR (.brw d) = false := Eq.trans rfl rfl
theorem z_nn_none : isNn .none = true := Eq.trans rfl rfl
theorem z_nn_bool (b : Bool) : isNn (.bool b) = false := Eq.trans rfl rfl
theorem z_nn_int (b : Int) : isNn (.int b) = false := Eq.trans rfl rfl
theorem z_nn_str (b : Str) : isNn (.str b) = false := Eq.trans rfl rfl
theorem z_nn_list (b : List PyData) : isNn (.list b) = false := Eq.trans rfl rfl
theorem z_nn_tuple (b : List PyData) : isNn (.tuple b) = false := Eq.trans rfl rfl
/-! comprehensions whose turns draw -/
theorem lcGo_inv {step : PyData → Bx → Option (Option PyData × Bx)} (I : Bx → Prop) (P : PyData → PyData → Prop) : ∀ (items acc : List PyData) (st : Bx), I st →
    (∀ d ∈ items, ∀ s, I s → (∃ s1, step d s = some (none, s1) ∧ I s1) ∨ ∃ y s1, step d s = some (some y, s1) ∧ P d y ∧ I s1) → acc.length + items.length ≤ sizeLine →
    ∃ ys st1, lcGo step items acc st = some (acc ++ ys, st1) ∧ (∀ y ∈ ys, ∃ d ∈ items, P d y) ∧ ys.length ≤ items.length ∧ I st1
  | [], acc, st, h, _, _ => ⟨[], st, by unfold lcGo; simp, (fun _ h => nomatch h), Nat.le_refl _, h⟩
  | d :: ds, acc, st, h, hs, hl => by
    rw [List.length_cons] at hl
    rcases hs d List.mem_cons_self st h with ⟨s1, e1, h1⟩ | ⟨y, s1, e1, p1, h1⟩
    · obtain ⟨ys, st1, e2, h2, h3, h4⟩ := lcGo_inv I P ds acc s1 h1 (fun e he => hs e (List.mem_cons_of_mem _ he)) (by omega)
      refine ⟨ys, st1, ?_, fun y hy => let ⟨d, hd, hp⟩ := h2 y hy; ⟨d, List.mem_cons_of_mem _ hd, hp⟩, by rw [List.length_cons]; omega, h4⟩
      unfold lcGo
      rw [e1]
      exact e2
    · obtain ⟨ys, st1, e2, h2, h3, h4⟩ := lcGo_inv I P ds (acc ++ [y]) s1 h1 (fun e he => hs e (List.mem_cons_of_mem _ he)) (by rw [List.length_append, List.length_singleton]; omega)
      refine ⟨y :: ys, st1, ?_, fun z hz => ?_, by rw [List.length_cons, List.length_cons]; omega, h4⟩
      · unfold lcGo
        rw [e1]
        dsimp only
        rw [if_pos (by omega), e2, List.append_assoc]
        rfl
      · rcases List.mem_cons.mp hz with rfl | hz
        · exact ⟨d, List.mem_cons_self, p1⟩
        · obtain ⟨d', hd, hp⟩ := h2 z hz
          exact ⟨d', List.mem_cons_of_mem _ hd, hp⟩
theorem den_lc_inv {cf : Cf} {el : Ex} {tg : Tg} {it : Itx} {cd : Tso} {ow : List Nat} {env : En} {st st1 : Bx} {items : List PyData} (h : it.den cf true env st = some (items, st1)) (I : Bx → Prop) (P : PyData → PyData → Prop) (h0 : I st1)
    (hs : ∀ d ∈ items, ∀ s, I s → ∃ env1, tg.bind d (wipeE env ow) = some env1 ∧ ((∃ s1, cd.den cf env1 s = some (false, s1) ∧ I s1) ∨ ∃ s1 s2 r y, cd.den cf env1 s = some (true, s1) ∧ el.den cf env1 s1 = some (r, s2) ∧ r.cap = some y ∧ P d y ∧ I s2)) (hl : items.length ≤ 100000) :
    ∃ ys st2, (Ex.lc el tg it cd ow).den cf env st = some (.own ys, st2) ∧ (∀ y ∈ ys, ∃ d ∈ items, P d y) ∧ ys.length ≤ items.length ∧ I st2 := by
  obtain ⟨step, hd, hf, ht⟩ : ∃ step, (Ex.lc el tg it cd ow).den cf env st = (match lcGo step items [] st1 with | some (acc, st2) => some (R.own acc, st2) | none => none) ∧
      (∀ d s env1 s1, tg.bind d (wipeE env ow) = some env1 → cd.den cf env1 s = some (false, s1) → step d s = some (none, s1)) ∧
      (∀ d s env1 s1 r s2 y, tg.bind d (wipeE env ow) = some env1 → cd.den cf env1 s = some (true, s1) → el.den cf env1 s1 = some (r, s2) → r.cap = some y → step d s = some (some y, s2)) := by
    refine ⟨_, by rw [y_e_lc, h] <;> (dsimp only; rfl), fun d s env1 s1 e1 e2 => ?_, fun d s env1 s1 r s2 y e1 e2 e3 e4 => ?_⟩
    · rw [e1]
      dsimp only
      rw [e2]
    · rw [e1]
      dsimp only
      rw [e2]
      dsimp only
      rw [e3]
      dsimp only
      rw [e4]
      rfl
  obtain ⟨ys, st2, e, h1, h2, h3⟩ := lcGo_inv (step := step) I P items [] st1 h0 (fun d hd s hI => by
      obtain ⟨env1, e1, q⟩ := hs d hd s hI
      rcases q with ⟨s1, e2, h2⟩ | ⟨s1, s2, r, y, e2, e3, e4, e5, e6⟩
      · exact .inl ⟨s1, hf d s env1 s1 e1 e2, h2⟩
      · exact .inr ⟨y, s2, ht d s env1 s1 r s2 y e1 e2 e3 e4, e5, e6⟩) (by show 0 + _ ≤ _; exact Nat.le_trans (by omega) (show 100000 ≤ sizeLine by decide))
  refine ⟨ys, st2, ?_, h1, h2, h3⟩
  rw [hd, e]
  rfl
end Sy
namespace Sy
open PySem L2
/-- a law's outer loop: for k in range(max(1, min(len(script), C))) -/
theorem yes_of {cf : Cf} {f : List R → Bx → Option (R × Bx)} {b : Stms} {C : Int} (N : Nat) (h0 : 0 ≤ C) (h1 : C ≤ 100)
    (hf : ∀ ns, f [.scr ns] [] = outR (Stms.den cf (.cons (.forr (.nm 1) (.rng (.cons (.blt .max (.cons (.c (.int 1)) (.cons (.blt .min (.cons (.blt .len (.cons (.v 0) .nil)) (.cons (.c (.int C)) .nil))) .nil))) .nil)) b) (.cons (.ret (.c (.bool true))) .nil)) (some (.scr ns) :: none :: List.replicate N none) []))
    (hb : ∀ (ns : List Int) (k : Nat) (xs : En) (st : Bx), xs.length = N → ∃ env1 st1, b.den cf (some (.scr ns) :: some (.dat (.int k)) :: xs) st = some (.nx env1 st1) ∧ ∃ y1 ys, env1 = some (.scr ns) :: y1 :: ys ∧ ys.length = N) : Yes f 63 := by
  intro ns hns
  rw [hf]
  have rk : rngOk (max 1 (min (ns.length : Int) C)) = true := rngOk_s (by omega) (by omega)
  obtain ⟨env1, st2, e1, y1, ys, e2, e3⟩ := den_for (cf := cf) (tg := .nm 1) (it := .rng (.cons (.blt .max (.cons (.c (.int 1)) (.cons (.blt .min (.cons (.blt .len (.cons (.v 0) .nil)) (.cons (.c (.int C)) .nil))) .nil))) .nil)) (b := b)
    (env := some (.scr ns) :: none :: List.replicate N none) (st := []) (st1 := []) (items := rngItems 0 (max 1 (min (ns.length : Int) C)).toNat) (by
      simp only [y_i_rng, y_es_cons, y_es_nil, y_e_blt, y_e_c, y_e_v, List.getElem?_cons_zero, z_read_scr, z_blt_len, z_len_scr, Option.map_some, z_blt_min, views, z_view_dat, Option.bind_some, z_d_min, z_blt_max, z_d_max, z_intsc, z_intsn, z_rng1 rk])
    (fun j env s => ∃ y1 ys, ys.length = N ∧ env = some (.scr ns) :: y1 :: ys)
    ⟨none, List.replicate N none, by simp, rfl⟩ fun j d env s hd ⟨y1, ys, hl, e⟩ => by
      obtain ⟨hj, ed⟩ := rngItems_get hd
      subst ed e
      obtain ⟨env1, s1, h3, z1, zs, rfl, h2⟩ := hb ns j ys s hl
      rw [Int.zero_add]
      exact ⟨_, _, s1, z_bind_nm _ _ _, h3, z1, zs, h2, rfl⟩
  refine ⟨st2, ?_⟩
  rw [y_ss_cons, e1]
  dsimp only
  rw [y_ss_cons, y_s_ret, y_e_c]
  dsimp only
  rw [z_hold_dat]
  rfl
end Sy
namespace Sy
open PySem L2
theorem whl_go_or {c : En → Bx → Option (Bool × Bx)} {b : En → Bx → Option Out} (I : Nat → En → Bx → Prop) (P : En → Bx → Prop) (Q : R → Bx → Prop)
    (hs : ∀ m env st, I m env st → ∃ d st1, c env st = some (d, st1) ∧ (d = false → P env st1) ∧ (d = true → (∃ env1 st2 m', m' < m ∧ b env st1 = some (.nx env1 st2) ∧ I m' env1 st2) ∨ ∃ r st2, b env st1 = some (.rt r st2) ∧ Q r st2)) :
    ∀ (m : Nat) (env : En) (st : Bx), I m env st → (∃ n env1 st1, whlN c b n env st = some (.nx env1 st1) ∧ P env1 st1) ∨ ∃ n r st1, whlN c b n env st = some (.rt r st1) ∧ Q r st1 := by
  intro m
  induction m using Nat.strongRecOn with
  | _ m ih =>
    intro env st h
    obtain ⟨d, st1, e1, hf, ht⟩ := hs m env st h
    cases d with
    | false => exact .inl ⟨1, env, st1, by unfold whlN; rw [e1], hf rfl⟩
    | true =>
      rcases ht rfl with ⟨env1, st2, m', hm, e2, h2⟩ | ⟨r, st2, e2, h2⟩
      · rcases ih m' hm env1 st2 h2 with ⟨n, env3, st3, e3, h3⟩ | ⟨n, r, st3, e3, h3⟩
        · exact .inl ⟨n + 1, env3, st3, by unfold whlN; rw [e1]; dsimp only; rw [e2]; exact e3, h3⟩
        · exact .inr ⟨n + 1, r, st3, by unfold whlN; rw [e1]; dsimp only; rw [e2]; exact e3, h3⟩
      · exact .inr ⟨1, r, st2, by unfold whlN; rw [e1]; dsimp only; rw [e2], h2⟩
theorem den_whl_or {cf : Cf} {t : Ts} {b : Stms} {env : En} {st : Bx} {m : Nat} (I : Nat → En → Bx → Prop) (P : En → Bx → Prop) (Q : R → Bx → Prop) (h0 : I m env st)
    (hs : ∀ m env st, I m env st → ∃ d st1, t.den cf env st = some (d, st1) ∧ (d = false → P env st1) ∧ (d = true → (∃ env1 st2 m', m' < m ∧ b.den cf env st1 = some (.nx env1 st2) ∧ I m' env1 st2) ∨ ∃ r st2, b.den cf env st1 = some (.rt r st2) ∧ Q r st2)) :
    (∃ env1 st1, (Stm.whl t b).den cf env st = some (.nx env1 st1) ∧ P env1 st1) ∨ ∃ r st1, (Stm.whl t b).den cf env st = some (.rt r st1) ∧ Q r st1 := by
  rcases whl_go_or I P Q hs m env st h0 with ⟨n, env1, st1, e, h⟩ | ⟨n, r, st1, e, h⟩
  · exact .inl ⟨env1, st1, by rw [y_s_whl]; exact whlD_of e, h⟩
  · exact .inr ⟨r, st1, by rw [y_s_whl]; exact whlD_of e, h⟩
theorem z_ltt (xs ys : List PyData) : cmpD .lt (.tuple xs) (.tuple ys) = (match intsOf xs, intsOf ys with
    | some a, some b => some (HT.lexLt a b)
    | _, _ => none) := Eq.trans rfl rfl
end Sy
namespace Sy
theorem bd1000 {x : Int} (h1 : -(2 ^ 60) < x) (h2 : x < 2 ^ 60) : Bd 1000 x := (bd_s h1 h2).mono (by decide)
theorem sq_nn (x : Int) : 0 ≤ x * x := by
  rcases Int.le_total 0 x with h | h
  · exact Int.mul_nonneg h h
  · rw [← Int.neg_mul_neg]; exact Int.mul_nonneg (by omega) (by omega)
theorem sq_lt {r x : Int} (hr : 0 ≤ r) (h : x * x < r * r) : -r < x ∧ x < r := by
  constructor
  · rcases Int.lt_or_le (-r) x with h1 | h1
    · exact h1
    · have := Int.mul_le_mul (show r ≤ -x by omega) (show r ≤ -x by omega) hr (by omega)
      rw [Int.neg_mul_neg] at this
      omega
  · rcases Int.lt_or_le x r with h1 | h1
    · exact h1
    · have := Int.mul_le_mul h1 h1 hr (by omega)
      omega
end Sy

namespace Sy
open PySem PySem.Spec PyProof.Rows L2
/-- a constant of the module: four whole numbers -/
theorem conK_t4 {K : PySem.W.Frag} {x : String} {a : Addr} {od : Option Addr} {n : Nat} {osl : Array (Option Value)} {i j k l : Int} {t1 t2 t3 t4 : Tok} (a1 : PySem.W.nsIn K mainGlobals (Str.ofString x) = some (some (.ref a)))
    (l1 : K.lookup a = some ⟨.type "tuple", od, .seq #[.int i t1, .int j t2, .int k t3, .int l t4] n, osl⟩) : ConK K x (.tuple [.int i, .int j, .int k, .int l]) :=
  ⟨_, .ref a, a1, rfl, fun G => .tup (xs := [.int i, .int j, .int k, .int l]) (.inr ⟨_, _, _, l1, rfl, rfl, (show 4 ≤ sizeLine by decide), .cons ⟨_, rfl⟩ (.cons ⟨_, rfl⟩ (.cons ⟨_, rfl⟩ (.cons ⟨_, rfl⟩ .nil)))⟩) (.cons (.int _) (.cons (.int _) (.cons (.int _) (.cons (.int _) .nil))))⟩
/-- two points -/
theorem conK_p2 {K : PySem.W.Frag} {x : String} {a b c : Addr} {od od2 od3 : Option Addr} {n n2 n3 : Nat} {osl osl2 osl3 : Array (Option Value)} {i j k l : Int} {t1 t2 t3 t4 : Tok} (a1 : PySem.W.nsIn K mainGlobals (Str.ofString x) = some (some (.ref a)))
    (l1 : K.lookup a = some ⟨.type "tuple", od, .seq #[.ref b, .ref c] n, osl⟩) (l2 : K.lookup b = some ⟨.type "tuple", od2, .seq #[.int i t1, .int j t2] n2, osl2⟩) (l3 : K.lookup c = some ⟨.type "tuple", od3, .seq #[.int k t3, .int l t4] n3, osl3⟩) :
    ConK K x (.tuple [.tuple [.int i, .int j], .tuple [.int k, .int l]]) :=
  ⟨_, .ref a, a1, rfl, fun G => .tup (xs := [.ref b, .ref c]) (.inr ⟨_, _, _, l1, rfl, rfl, (show 2 ≤ sizeLine by decide), .cons rfl (.cons rfl .nil)⟩)
    (.cons (.tup (xs := [.int i, .int j]) (.inr ⟨_, _, _, l2, rfl, rfl, (show 2 ≤ sizeLine by decide), .cons ⟨_, rfl⟩ (.cons ⟨_, rfl⟩ .nil)⟩) (.cons (.int _) (.cons (.int _) .nil))) (.cons (.tup (xs := [.int k, .int l]) (.inr ⟨_, _, _, l3, rfl, rfl, (show 2 ≤ sizeLine by decide), .cons ⟨_, rfl⟩ (.cons ⟨_, rfl⟩ .nil)⟩) (.cons (.int _) (.cons (.int _) .nil))) .nil))⟩
end Sy

namespace Lw
open PySem PySem.Spec L2 Sy
def tx (i : Nat) : Stmt := PySem.Challenge.pw_shortsteps_k94_whole_points_by_parts.main.body.getD i (.Pass ⟨0, 0, 0, 0⟩)
def b_is_whole : Stms :=
 (.cons (.ret (.tst (.and (.cons (.val (.isi (.v 0) .int)) (.one (.not (.val (.isi (.v 0) .bool))))))))
 .nil)
abbrev d_is_whole : Df := ⟨"is_whole", ⟨1, 1, b_is_whole⟩, ["thing"], ["thing"], tx 9⟩
def q_are_whole_1 : Ex := .lc (.call "is_whole" (.cons (.v 2) .nil)) (.nm 2) (.seq (.v 0)) .no [2]
def b_are_whole : Stms :=
 (.cons (.ret (.tst (.and (.cons (.val (.isi (.v 0) .tuple)) (.cons (.cmp .eq (.blt .len (.cons (.v 0) .nil)) (.v 1)) (.one (.val (.blt .all (.cons q_are_whole_1 .nil)))))))))
 .nil)
abbrev d_are_whole : Df := ⟨"are_whole", ⟨2, 3, b_are_whole⟩, ["thing", "many"], ["thing", "many", "one"], tx 10⟩
def b_is_point : Stms :=
 (.cons (.ret (.tst (.or (.cons (.val (.call "are_whole" (.cons (.v 0) (.cons (.c (.int 2)) .nil)))) (.one (.val (.call "are_whole" (.cons (.v 0) (.cons (.c (.int 3)) .nil)))))))))
 .nil)
abbrev d_is_point : Df := ⟨"is_point", ⟨1, 1, b_is_point⟩, ["thing"], ["thing"], tx 11⟩
def q_determinant_1 : Ex := .lc (.bin .add (.sl (.v 5) .no (.yes (.v 2))) (.sl (.v 5) (.yes (.bin .add (.v 2) (.c (.int 1)))) .no)) (.nm 5) (.seq (.sl (.v 0) (.yes (.c (.int 1))) .no)) .no [5]
def lb_determinant_1 : Stms := (.cons (.asg 4 q_determinant_1)
 (.cons (.frz 4)
 (.cons (.asg 1 (.bin .add (.v 1) (.bin .mul (.bin .mul (.bin .sub (.c (.int 1)) (.bin .mul (.c (.int 2)) (.bin .mod (.v 2) (.c (.int 2))))) (.v 3)) (.call "determinant" (.cons (.v 4) .nil)))))
 .nil)))
def l_determinant_1 : Stm := .forr (.tp (.cons (.nm 2) (.cons (.nm 3) .nil))) (.enum (.ix (.v 0) (.c (.int 0)))) lb_determinant_1
def b_determinant : Stms :=
 (.cons (.iff (.cmp .eq (.blt .len (.cons (.v 0) .nil)) (.c (.int 1))) (.cons (.ret (.ix (.ix (.v 0) (.c (.int 0))) (.c (.int 0))))
 .nil) .nil)
 (.cons (.asg 1 (.c (.int 0)))
 (.cons l_determinant_1
 (.cons (.retv 1)
 .nil))))
abbrev d_determinant : Df := ⟨"determinant", ⟨1, 6, b_determinant⟩, ["steps"], ["steps", "found", "at", "number", "rest", "step"], tx 12⟩
def q_is_steps_1 : Ex := .lc (.call "are_whole" (.cons (.v 1) (.cons (.blt .len (.cons (.v 0) .nil)) .nil))) (.nm 1) (.seq (.v 0)) .no [1]
def b_is_steps : Stms :=
 (.cons (.iff (.or (.cons (.not (.val (.isi (.v 0) .tuple))) (.one (.cmp .nin (.blt .len (.cons (.v 0) .nil)) (.tup (.cons (.c (.int 2)) (.cons (.c (.int 3)) .nil))))))) (.cons (.ret (.c (.bool false)))
 .nil) .nil)
 (.cons (.ret (.tst (.and (.cons (.val (.blt .all (.cons q_is_steps_1 .nil))) (.one (.cmp .ne (.call "determinant" (.cons (.v 0) .nil)) (.c (.int 0))))))))
 .nil))
abbrev d_is_steps : Df := ⟨"is_steps", ⟨1, 2, b_is_steps⟩, ["thing"], ["thing", "step"], tx 13⟩
def b_need_steps : Stms :=
 (.cons (.iff (.not (.val (.call "is_steps" (.cons (.v 0) .nil)))) (.cons .never
 .nil) .nil)
 .nil)
abbrev d_need_steps : Df := ⟨"need_steps", ⟨1, 1, b_need_steps⟩, ["steps"], ["steps"], tx 14⟩
def b_need_pair : Stms :=
 (.cons (.iff (.or (.cons (.not (.val (.call "is_steps" (.cons (.v 0) .nil)))) (.one (.cmp .ne (.blt .len (.cons (.v 0) .nil)) (.c (.int 2)))))) (.cons .never
 .nil) .nil)
 .nil)
abbrev d_need_pair : Df := ⟨"need_pair", ⟨1, 1, b_need_pair⟩, ["pair"], ["pair"], tx 15⟩
def q_product_of_1 : Ex := .lc (.bin .mul (.v 2) (.v 3)) (.tp (.cons (.nm 2) (.cons (.nm 3) .nil))) (.zip (.v 0) (.v 1)) .no [2, 3]
def b_product_of : Stms :=
 (.cons (.ret (.blt .sum (.cons q_product_of_1 .nil)))
 .nil)
abbrev d_product_of : Df := ⟨"product_of", ⟨2, 4, b_product_of⟩, ["one", "other"], ["one", "other", "first", "second"], tx 16⟩
def b_product : Stms :=
 (.cons (.iff (.or (.cons (.not (.val (.call "is_point" (.cons (.v 0) .nil)))) (.cons (.not (.val (.call "is_point" (.cons (.v 1) .nil)))) (.one (.cmp .ne (.blt .len (.cons (.v 0) .nil)) (.blt .len (.cons (.v 1) .nil))))))) (.cons .never
 .nil) .nil)
 (.cons (.ret (.call "product_of" (.cons (.v 0) (.cons (.v 1) .nil))))
 .nil))
abbrev d_product : Df := ⟨"product", ⟨2, 2, b_product⟩, ["one", "other"], ["one", "other"], tx 17⟩
def b_room : Stms :=
 (.cons (.exp (.call "need_steps" (.cons (.v 0) .nil)))
 (.cons (.ret (.blt .abs (.cons (.call "determinant" (.cons (.v 0) .nil)) .nil)))
 .nil))
abbrev d_room : Df := ⟨"room", ⟨1, 1, b_room⟩, ["steps"], ["steps"], tx 18⟩
def q_sum_of_1 : Ex := .lc (.bin .mul (.ix (.v 4) (.v 3)) (.v 5)) (.tp (.cons (.nm 4) (.cons (.nm 5) .nil))) (.zip (.v 0) (.v 1)) .no [4, 5]
def lb_sum_of_1 : Stms := (.cons (.app 2 (.blt .sum (.cons q_sum_of_1 .nil)))
 .nil)
def l_sum_of_1 : Stm := .forr (.nm 3) (.rng (.cons (.blt .len (.cons (.v 0) .nil)) .nil)) lb_sum_of_1
def b_sum_of : Stms :=
 (.cons (.asg 2 (.lst .nil))
 (.cons l_sum_of_1
 (.cons (.ret (.blt .tup (.cons (.v 2) .nil)))
 .nil)))
abbrev d_sum_of : Df := ⟨"sum_of", ⟨2, 6, b_sum_of⟩, ["steps", "numbers"], ["steps", "numbers", "found", "at", "step", "number"], tx 19⟩
def q_tops_of_1 : Ex := .lc (.call "determinant" (.cons (.bin .add (.bin .add (.sl (.v 0) .no (.yes (.v 2))) (.tup (.cons (.v 1) .nil))) (.sl (.v 0) (.yes (.bin .add (.v 2) (.c (.int 1)))) .no)) .nil)) (.nm 2) (.rng (.cons (.blt .len (.cons (.v 0) .nil)) .nil)) .no [2]
def b_tops_of : Stms :=
 (.cons (.ret q_tops_of_1)
 .nil)
abbrev d_tops_of : Df := ⟨"tops_of", ⟨2, 3, b_tops_of⟩, ["steps", "point"], ["steps", "point", "at"], tx 20⟩
def q_numbers_for_1 : Ex := .lc (.tst (.cmp .ne (.bin .mod (.v 4) (.v 2)) (.c (.int 0)))) (.nm 4) (.seq (.v 3)) .no [4]
def q_numbers_for_2 : Ex := .lc (.bin .fdiv (.v 4) (.v 2)) (.nm 4) (.seq (.v 3)) .no [4]
def b_numbers_for : Stms :=
 (.cons (.asg 2 (.call "determinant" (.cons (.v 0) .nil)))
 (.cons (.asg 3 (.call "tops_of" (.cons (.v 0) (.cons (.v 1) .nil))))
 (.cons (.frz 3)
 (.cons (.iff (.val (.blt .any (.cons q_numbers_for_1 .nil))) (.cons (.ret (.c .none))
 .nil) .nil)
 (.cons (.ret (.blt .tup (.cons q_numbers_for_2 .nil)))
 .nil)))))
abbrev d_numbers_for : Df := ⟨"numbers_for", ⟨2, 5, b_numbers_for⟩, ["steps", "point"], ["steps", "point", "bottom", "tops", "top"], tx 21⟩
def q_is_within_1 : Ex := .lc (.tst (.isn (.call "numbers_for" (.cons (.v 0) (.cons (.v 2) .nil))) true)) (.nm 2) (.seq (.v 1)) .no [2]
def b_is_within : Stms :=
 (.cons (.ret (.blt .all (.cons q_is_within_1 .nil)))
 .nil)
abbrev d_is_within : Df := ⟨"is_within", ⟨2, 3, b_is_within⟩, ["steps", "other"], ["steps", "other", "step"], tx 22⟩
def b_products_of : Stms :=
 (.cons (.ret (.tup (.cons (.call "product_of" (.cons (.ix (.v 0) (.c (.int 0))) (.cons (.ix (.v 0) (.c (.int 0))) .nil))) (.cons (.call "product_of" (.cons (.ix (.v 0) (.c (.int 0))) (.cons (.ix (.v 0) (.c (.int 1))) .nil))) (.cons (.call "product_of" (.cons (.ix (.v 0) (.c (.int 1))) (.cons (.ix (.v 0) (.c (.int 1))) .nil))) .nil)))))
 .nil)
abbrev d_products_of : Df := ⟨"products_of", ⟨1, 1, b_products_of⟩, ["pair"], ["pair"], tx 24⟩
def b_moved_by : Stms :=
 (.cons (.iff (.cmp .eq (.ix (.v 1) (.c (.int 0))) (.c (.str (Str.ofString "turn")))) (.cons (.ret (.tup (.cons (.ix (.v 0) (.c (.int 1))) (.cons (.ix (.v 0) (.c (.int 0))) .nil))))
 .nil) .nil)
 (.cons (.iff (.cmp .eq (.ix (.v 1) (.c (.int 0))) (.c (.str (Str.ofString "about")))) (.cons (.ret (.tup (.cons (.ix (.v 0) (.c (.int 0))) (.cons (.call "sum_of" (.cons (.v 0) (.cons (.tup (.cons (.c (.int 0)) (.cons (.neg (.c (.int 1))) .nil))) .nil))) .nil))))
 .nil) .nil)
 (.cons (.ret (.tup (.cons (.ix (.v 0) (.c (.int 0))) (.cons (.call "sum_of" (.cons (.v 0) (.cons (.tup (.cons (.bin .sub (.c (.int 0)) (.ix (.v 1) (.c (.int 1)))) (.cons (.c (.int 1)) .nil))) .nil))) .nil))))
 .nil)))
abbrev d_moved_by : Df := ⟨"moved_by", ⟨2, 2, b_moved_by⟩, ["pair", "move"], ["pair", "move"], tx 25⟩
def b_move_for : Stms :=
 (.cons (.unp (.tp (.cons (.nm 2) (.cons (.nm 3) (.cons (.nm 4) .nil)))) (.call "products_of" (.cons (.v 0) .nil)))
 (.cons (.asg 1 (.bin .fdiv (.bin .add (.bin .mul (.c (.int 2)) (.v 3)) (.v 2)) (.bin .mul (.c (.int 2)) (.v 2))))
 (.cons (.iff (.and (.cons (.cmp .ne (.v 1) (.c (.int 0))) (.one (.cmp .gt (.bin .mul (.c (.int 2)) (.blt .abs (.cons (.v 3) .nil))) (.v 2))))) (.cons (.ret (.tup (.cons (.c (.str (Str.ofString "less"))) (.cons (.v 1) .nil))))
 .nil) .nil)
 (.cons (.iff (.cmp .lt (.v 4) (.v 2)) (.cons (.ret (.tup (.cons (.c (.str (Str.ofString "turn"))) .nil)))
 .nil) .nil)
 (.cons (.ret (.ite (.cmp .lt (.v 3) (.c (.int 0))) (.tup (.cons (.c (.str (Str.ofString "about"))) .nil)) (.c .none)))
 .nil)))))
abbrev d_move_for : Df := ⟨"move_for", ⟨1, 5, b_move_for⟩, ["pair"], ["pair", "often", "first", "both", "second"], tx 26⟩
def lb_led_1 : Stms := (.cons (.app 1 (.v 2))
 (.cons (.asg 0 (.call "moved_by" (.cons (.v 0) (.cons (.v 2) .nil))))
 (.cons (.asg 2 (.call "move_for" (.cons (.v 0) .nil)))
 .nil)))
def l_led_1 : Stm := .whl (.isn (.v 2) true) lb_led_1
def b_led : Stms :=
 (.cons (.asg 1 (.lst .nil))
 (.cons (.asg 2 (.call "move_for" (.cons (.v 0) .nil)))
 (.cons l_led_1
 (.cons (.frz 1)
 (.cons (.ret (.tup (.cons (.v 1) (.cons (.v 0) .nil))))
 .nil)))))
abbrev d_led : Df := ⟨"led", ⟨1, 3, b_led⟩, ["pair"], ["pair", "found", "move"], tx 27⟩
def b_shape_of : Stms :=
 (.cons (.ret (.call "products_of" (.cons (.ix (.call "led" (.cons (.v 0) .nil)) (.c (.int 1))) .nil)))
 .nil)
abbrev d_shape_of : Df := ⟨"shape_of", ⟨1, 1, b_shape_of⟩, ["pair"], ["pair"], tx 29⟩
def b_shape : Stms :=
 (.cons (.exp (.call "need_pair" (.cons (.v 0) .nil)))
 (.cons (.ret (.call "shape_of" (.cons (.v 0) .nil)))
 .nil))
abbrev d_shape : Df := ⟨"shape", ⟨1, 1, b_shape⟩, ["pair"], ["pair"], tx 30⟩
def b_is_shape : Stms :=
 (.cons (.ret (.tst (.and (.cons (.val (.call "are_whole" (.cons (.v 0) (.cons (.c (.int 3)) .nil)))) (.cons (.chn (.c (.int 0)) (.link .le (.bin .mul (.c (.int 2)) (.ix (.v 0) (.c (.int 1)))) (.link .le (.ix (.v 0) (.c (.int 0))) (.last .le (.ix (.v 0) (.c (.int 2))))))) (.one (.cmp .ge (.ix (.v 0) (.c (.int 0))) (.c (.int 1)))))))))
 .nil)
abbrev d_is_shape : Df := ⟨"is_shape", ⟨1, 1, b_is_shape⟩, ["thing"], ["thing"], tx 31⟩
def b_by_matrix : Stms :=
 (.cons (.ret (.tup (.cons (.call "sum_of" (.cons (.v 0) (.cons (.ix (.v 1) (.c (.int 0))) .nil))) (.cons (.call "sum_of" (.cons (.v 0) (.cons (.ix (.v 1) (.c (.int 1))) .nil))) .nil))))
 .nil)
abbrev d_by_matrix : Df := ⟨"by_matrix", ⟨2, 2, b_by_matrix⟩, ["pair", "matrix"], ["pair", "matrix"], tx 32⟩
def b_need_shape : Stms :=
 (.cons (.iff (.not (.val (.call "is_shape" (.cons (.v 0) .nil)))) (.cons .never
 .nil) .nil)
 .nil)
abbrev d_need_shape : Df := ⟨"need_shape", ⟨1, 1, b_need_shape⟩, ["thing"], ["thing"], tx 33⟩
def b_room_squared : Stms :=
 (.cons (.exp (.call "need_shape" (.cons (.v 0) .nil)))
 (.cons (.ret (.bin .sub (.bin .mul (.ix (.v 0) (.c (.int 0))) (.ix (.v 0) (.c (.int 2)))) (.bin .mul (.ix (.v 0) (.c (.int 1))) (.ix (.v 0) (.c (.int 1))))))
 .nil))
abbrev d_room_squared : Df := ⟨"room_squared", ⟨1, 1, b_room_squared⟩, ["one"], ["one"], tx 34⟩
def lb_common_1 : Stms := (.cons (.par 0 1 (.v 1) (.bin .mod (.v 0) (.v 1)))
 .nil)
def l_common_1 : Stm := .whl (.cmp .ne (.v 1) (.c (.int 0))) lb_common_1
def b_common : Stms :=
 (.cons l_common_1
 (.cons (.ret (.blt .abs (.cons (.v 0) .nil)))
 .nil))
abbrev d_common : Df := ⟨"common", ⟨2, 2, b_common⟩, ["one", "other"], ["one", "other"], tx 37⟩
def lb_led_flat_1 : Stms := (.cons (.asg 2 (.bin .fdiv (.ix (.v 0) (.c (.int 0))) (.ix (.v 1) (.c (.int 0)))))
 (.cons (.par 0 1 (.v 1) (.tup (.cons (.bin .sub (.ix (.v 0) (.c (.int 0))) (.bin .mul (.v 2) (.ix (.v 1) (.c (.int 0))))) (.cons (.bin .sub (.ix (.v 0) (.c (.int 1))) (.bin .mul (.v 2) (.ix (.v 1) (.c (.int 1))))) .nil))))
 .nil))
def l_led_flat_1 : Stm := .whl (.cmp .ne (.ix (.v 1) (.c (.int 0))) (.c (.int 0))) lb_led_flat_1
def b_led_flat : Stms :=
 (.cons l_led_flat_1
 (.cons (.ret (.tup (.cons (.v 0) (.cons (.v 1) .nil))))
 .nil))
abbrev d_led_flat : Df := ⟨"led_flat", ⟨2, 3, b_led_flat⟩, ["one", "other"], ["one", "other", "often"], tx 38⟩
def lb_flat_by_1 : Stms := (.cons (.unp (.tp (.cons (.nm 1) (.cons (.nm 6) .nil))) (.call "led_flat" (.cons (.v 1) (.cons (.v 3) .nil))))
 (.cons (.asg 2 (.call "common" (.cons (.v 2) (.cons (.ix (.v 6) (.c (.int 1))) .nil))))
 .nil))
def l_flat_by_1 : Stm := .forr (.nm 3) (.seq (.v 0)) lb_flat_by_1
def b_flat_by : Stms :=
 (.cons (.asg 1 (.tup (.cons (.c (.int 0)) (.cons (.c (.int 0)) .nil))))
 (.cons (.asg 2 (.c (.int 0)))
 (.cons l_flat_by_1
 (.cons (.unp (.tp (.cons (.nm 4) (.cons (.nm 5) .nil))) (.v 1))
 (.cons (.iff (.cmp .lt (.v 4) (.c (.int 0))) (.cons (.par 4 5 (.bin .sub (.c (.int 0)) (.v 4)) (.bin .sub (.c (.int 0)) (.v 5)))
 .nil) .nil)
 (.cons (.ret (.tup (.cons (.tup (.cons (.v 4) (.cons (.bin .mod (.v 5) (.v 2)) .nil))) (.cons (.tup (.cons (.c (.int 0)) (.cons (.v 2) .nil))) .nil))))
 .nil))))))
abbrev d_flat_by : Df := ⟨"flat_by", ⟨1, 7, b_flat_by⟩, ["points"], ["points", "first", "below", "point", "across", "up", "rest"], tx 39⟩
def b_need_both : Stms :=
 (.cons (.exp (.call "need_pair" (.cons (.v 0) .nil)))
 (.cons (.exp (.call "need_pair" (.cons (.v 1) .nil)))
 .nil))
abbrev d_need_both : Df := ⟨"need_both", ⟨2, 2, b_need_both⟩, ["one", "other"], ["one", "other"], tx 40⟩
def b_times_of : Stms :=
 (.cons (.exp (.call "need_both" (.cons (.v 0) (.cons (.v 1) .nil))))
 (.cons (.iff (.not (.val (.call "is_within" (.cons (.v 1) (.cons (.v 0) .nil))))) (.cons .never
 .nil) .nil)
 (.cons (.ret (.bin .fdiv (.blt .abs (.cons (.call "determinant" (.cons (.v 0) .nil)) .nil)) (.blt .abs (.cons (.call "determinant" (.cons (.v 1) .nil)) .nil))))
 .nil)))
abbrev d_times_of : Df := ⟨"times_of", ⟨2, 2, b_times_of⟩, ["one", "other"], ["one", "other"], tx 41⟩
def q_parts_of_1 : Ex := .lc (.call "flat_by" (.cons (.call "by_matrix" (.cons (.v 0) (.cons (.tup (.cons (.tup (.cons (.v 3) (.cons (.v 5) .nil))) (.cons (.tup (.cons (.c (.int 0)) (.cons (.v 4) .nil))) .nil))) .nil))) .nil)) (.nm 5) (.rng (.cons (.v 4) .nil)) .no [5]
def lb_parts_of_1 : Stms := (.cons (.iff (.cmp .eq (.bin .mod (.v 1) (.v 3)) (.c (.int 0))) (.cons (.asg 4 (.bin .fdiv (.v 1) (.v 3)))
 (.cons (.ext 2 q_parts_of_1)
 .nil)) .nil)
 .nil)
def l_parts_of_1 : Stm := .forr (.nm 3) (.rng (.cons (.c (.int 1)) (.cons (.bin .add (.v 1) (.c (.int 1))) .nil))) lb_parts_of_1
def b_parts_of : Stms :=
 (.cons (.exp (.call "need_pair" (.cons (.v 0) .nil)))
 (.cons (.iff (.or (.cons (.not (.val (.call "is_whole" (.cons (.v 1) .nil)))) (.one (.not (.chn (.c (.int 1)) (.link .le (.v 1) (.last .le (.g "MOST_TIMES" (.int 12))))))))) (.cons .never
 .nil) .nil)
 (.cons (.asg 2 (.lst .nil))
 (.cons l_parts_of_1
 (.cons (.ret (.blt .sorted (.cons (.v 2) .nil)))
 .nil)))))
abbrev d_parts_of : Df := ⟨"parts_of", ⟨2, 6, b_parts_of⟩, ["pair", "number"], ["pair", "number", "found", "across", "down", "up"], tx 42⟩
def q_grown_1 : Ex := .lc (.tup (.cons (.bin .mul (.v 1) (.v 2)) (.cons (.bin .mul (.v 1) (.v 3)) .nil))) (.tp (.cons (.nm 2) (.cons (.nm 3) .nil))) (.seq (.v 0)) .no [2, 3]
def b_grown : Stms :=
 (.cons (.exp (.call "need_pair" (.cons (.v 0) .nil)))
 (.cons (.iff (.or (.cons (.not (.val (.call "is_whole" (.cons (.v 1) .nil)))) (.one (.not (.chn (.c (.int 1)) (.link .le (.v 1) (.last .le (.g "MOST_GROWN" (.int 9))))))))) (.cons .never
 .nil) .nil)
 (.cons (.ret (.blt .tup (.cons q_grown_1 .nil)))
 .nil)))
abbrev d_grown : Df := ⟨"grown", ⟨2, 4, b_grown⟩, ["pair", "number"], ["pair", "number", "one", "other"], tx 45⟩
def b_need_length : Stms :=
 (.cons (.iff (.or (.cons (.not (.val (.call "is_whole" (.cons (.v 0) .nil)))) (.one (.not (.chn (.c (.int 0)) (.link .le (.v 0) (.last .le (.g "MOST_LENGTH" (.int 60))))))))) (.cons .never
 .nil) .nil)
 .nil)
abbrev d_need_length : Df := ⟨"need_length", ⟨1, 1, b_need_length⟩, ["number"], ["number"], tx 48⟩
def lb_root_of_1 : Stms := (.cons (.asg 1 (.bin .add (.v 1) (.c (.int 1))))
 .nil)
def l_root_of_1 : Stm := .whl (.cmp .le (.bin .mul (.bin .add (.v 1) (.c (.int 1))) (.bin .add (.v 1) (.c (.int 1)))) (.v 0)) lb_root_of_1
def b_root_of : Stms :=
 (.cons (.asg 1 (.c (.int 0)))
 (.cons l_root_of_1
 (.cons (.retv 1)
 .nil)))
abbrev d_root_of : Df := ⟨"root_of", ⟨1, 2, b_root_of⟩, ["number"], ["number", "found"], tx 49⟩
def lb_near_points_1 : Stms := (.cons (.asg 11 (.call "sum_of" (.cons (.v 2) (.cons (.tup (.cons (.v 10) (.cons (.v 6) .nil))) .nil))))
 (.cons (.iff (.cmp .le (.call "product_of" (.cons (.v 11) (.cons (.v 11) .nil))) (.v 1)) (.cons (.app 5 (.v 11))
 .nil) .nil)
 .nil))
def l_near_points_1 : Stm := .forr (.nm 10) (.rng (.cons (.bin .sub (.c (.int 0)) (.v 4)) (.cons (.bin .add (.v 4) (.c (.int 1))) .nil))) lb_near_points_1
def lb_near_points_2 : Stms := (.cons l_near_points_1
 .nil)
def l_near_points_2 : Stm := .forr (.nm 6) (.rng (.cons (.bin .sub (.c (.int 0)) (.v 3)) (.cons (.bin .add (.v 3) (.c (.int 1))) .nil))) lb_near_points_2
def b_near_points : Stms :=
 (.cons (.asg 2 (.ix (.call "led" (.cons (.v 0) .nil)) (.c (.int 1))))
 (.cons (.unp (.tp (.cons (.nm 7) (.cons (.nm 8) (.cons (.nm 9) .nil)))) (.call "products_of" (.cons (.v 2) .nil)))
 (.cons (.asg 3 (.call "root_of" (.cons (.bin .fdiv (.bin .mul (.c (.int 4)) (.v 1)) (.bin .mul (.c (.int 3)) (.v 9))) .nil)))
 (.cons (.asg 4 (.bin .add (.bin .add (.call "root_of" (.cons (.bin .fdiv (.v 1) (.v 7)) .nil)) (.v 3)) (.c (.int 1))))
 (.cons (.asg 5 (.lst .nil))
 (.cons l_near_points_2
 (.cons (.ret (.blt .sorted (.cons (.v 5) .nil)))
 .nil)))))))
abbrev d_near_points : Df := ⟨"near_points", ⟨2, 12, b_near_points⟩, ["pair", "number"], ["pair", "number", "short", "far", "wide", "found", "two", "first", "both", "second", "one", "point"], tx 50⟩
def q_many_of_1 : Ex := .lc (.v 2) (.nm 2) (.seq (.call "near_points" (.cons (.v 0) (.cons (.v 1) .nil)))) (.yes (.cmp .eq (.call "product_of" (.cons (.v 2) (.cons (.v 2) .nil))) (.v 1))) [2]
def b_many_of : Stms :=
 (.cons (.exp (.call "need_pair" (.cons (.v 0) .nil)))
 (.cons (.exp (.call "need_length" (.cons (.v 1) .nil)))
 (.cons (.ret (.blt .len (.cons q_many_of_1 .nil)))
 .nil)))
abbrev d_many_of : Df := ⟨"many_of", ⟨2, 3, b_many_of⟩, ["pair", "number"], ["pair", "number", "point"], tx 51⟩
def b_up_to : Stms :=
 (.cons (.exp (.call "need_pair" (.cons (.v 0) .nil)))
 (.cons (.exp (.call "need_length" (.cons (.v 1) .nil)))
 (.cons (.ret (.call "near_points" (.cons (.v 0) (.cons (.v 1) .nil))))
 .nil)))
abbrev d_up_to : Df := ⟨"up_to", ⟨2, 2, b_up_to⟩, ["pair", "number"], ["pair", "number"], tx 52⟩
def b_need_between : Stms :=
 (.cons (.iff (.or (.cons (.not (.val (.call "is_whole" (.cons (.v 0) .nil)))) (.one (.not (.chn (.v 1) (.link .le (.v 0) (.last .le (.g "MOST_TAKEN" (.int 200))))))))) (.cons .never
 .nil) .nil)
 .nil)
abbrev d_need_between : Df := ⟨"need_between", ⟨2, 2, b_need_between⟩, ["number", "least"], ["number", "least"], tx 55⟩
def lb_shapes_by_1 : Stms := (.cons (.asg 4 (.bin .fdiv (.bin .add (.v 0) (.bin .mul (.v 3) (.v 3))) (.v 2)))
 (.cons (.iff (.and (.cons (.cmp .ge (.v 4) (.v 2)) (.one (.cmp .eq (.bin .sub (.bin .mul (.v 2) (.v 4)) (.bin .mul (.v 3) (.v 3))) (.v 0))))) (.cons (.app 1 (.tup (.cons (.v 2) (.cons (.v 4) (.cons (.v 3) .nil)))))
 .nil) .nil)
 .nil))
def l_shapes_by_1 : Stm := .forr (.nm 3) (.rng (.cons (.bin .add (.bin .fdiv (.v 2) (.c (.int 2))) (.c (.int 1))) .nil)) lb_shapes_by_1
def lb_shapes_by_2 : Stms := (.cons l_shapes_by_1
 (.cons (.asg 2 (.bin .add (.v 2) (.c (.int 1))))
 .nil))
def l_shapes_by_2 : Stm := .whl (.cmp .le (.bin .mul (.bin .mul (.c (.int 3)) (.v 2)) (.v 2)) (.bin .mul (.c (.int 4)) (.v 0))) lb_shapes_by_2
def q_shapes_by_1 : Ex := .lc (.tup (.cons (.v 5) (.cons (.v 3) (.cons (.v 6) .nil)))) (.tp (.cons (.nm 5) (.cons (.nm 6) (.cons (.nm 3) .nil)))) (.seq (.blt .sorted (.cons (.v 1) .nil))) .no [5, 6, 3]
def b_shapes_by : Stms :=
 (.cons (.asg 1 (.lst .nil))
 (.cons (.asg 2 (.c (.int 1)))
 (.cons l_shapes_by_2
 (.cons (.ret q_shapes_by_1)
 .nil))))
abbrev d_shapes_by : Df := ⟨"shapes_by", ⟨1, 7, b_shapes_by⟩, ["number"], ["number", "found", "first", "both", "last", "one", "other"], tx 56⟩
def b_shapes_of : Stms :=
 (.cons (.exp (.call "need_between" (.cons (.v 0) (.cons (.c (.int 1)) .nil))))
 (.cons (.ret (.call "shapes_by" (.cons (.v 0) .nil)))
 .nil))
abbrev d_shapes_of : Df := ⟨"shapes_of", ⟨1, 1, b_shapes_of⟩, ["number"], ["number"], tx 57⟩
def b__law_cell : Stms :=
 (.cons (.iff (.cmp .lt (.v 1) (.blt .len (.cons (.v 0) .nil))) (.cons (.ret (.ix (.v 0) (.v 1)))
 .nil) .nil)
 (.cons (.ret (.c (.int 0)))
 .nil))
abbrev d__law_cell : Df := ⟨"_law_cell", ⟨2, 2, b__law_cell⟩, ["_law_script", "_law_k"], ["_law_script", "_law_k"], tx 59⟩
def b__law_mix : Stms :=
 (.cons (.asg 2 (.lst (.cons (.c (.int 48271)) (.cons (.c (.int 69621)) (.cons (.c (.int 16807)) (.cons (.c (.int 39373)) (.cons (.c (.int 30269)) (.cons (.c (.int 40014)) (.cons (.c (.int 40692)) (.cons (.c (.int 50021)) (.cons (.c (.int 61687)) (.cons (.c (.int 71993)) (.cons (.c (.int 83869)) (.cons (.c (.int 95561)) (.cons (.c (.int 30307)) .nil)))))))))))))))
 (.cons (.frz 2)
 (.cons (.asg 3 (.bin .mul (.bin .add (.bin .mod (.v 0) (.c (.int 2147483647))) (.c (.int 12345))) (.ix (.v 2) (.bin .mod (.v 1) (.c (.int 13))))))
 (.cons (.asg 3 (.bin .add (.bin .add (.v 3) (.bin .mul (.c (.int 977)) (.v 1))) (.bin .mul (.c (.int 7919)) (.bin .fdiv (.v 1) (.c (.int 13))))))
 (.cons (.asg 3 (.bin .mod (.v 3) (.c (.int 1000000007))))
 (.cons (.ret (.bin .fdiv (.bin .mod (.bin .add (.bin .mul (.v 3) (.v 3)) (.bin .mul (.c (.int 48271)) (.v 1))) (.c (.int 1000000007))) (.c (.int 7))))
 .nil))))))
abbrev d__law_mix : Df := ⟨"_law_mix", ⟨2, 4, b__law_mix⟩, ["_law_cell_here", "_law_k"], ["_law_cell_here", "_law_k", "_law_some", "_law_stir"], tx 60⟩
def lb__law_box_1 : Stms := (.cons (.asg 3 (.bin .add (.bin .mul (.v 3) (.c (.int 142857143))) (.call "_law_mix" (.cons (.v 2) (.cons (.v 4) .nil)))))
 .nil)
def l__law_box_1 : Stm := .forr (.nm 4) (.rng (.cons (.c (.int 40)) .nil)) lb__law_box_1
def b__law_box : Stms :=
 (.cons (.asg 2 (.call "_law_cell" (.cons (.v 0) (.cons (.v 1) .nil))))
 (.cons (.iff (.cmp .eq (.bin .mod (.v 2) (.c (.int 2))) (.c (.int 0))) (.cons (.ret (.box (.cons (.bin .fdiv (.blt .abs (.cons (.v 2) .nil)) (.c (.int 2))) .nil)))
 .nil) .nil)
 (.cons (.asg 3 (.c (.int 0)))
 (.cons l__law_box_1
 (.cons (.ret (.box (.cons (.v 3) .nil)))
 .nil)))))
abbrev d__law_box : Df := ⟨"_law_box", ⟨2, 5, b__law_box⟩, ["_law_script", "_law_k"], ["_law_script", "_law_k", "_law_cell_here", "_law_number", "_law_j"], tx 61⟩
def b__law_take : Stms :=
 (.cons (.unp (.tp (.cons (.nm 2) (.cons (.nm 3) .nil))) (.blt .divmod (.cons (.ix (.v 0) (.c (.int 0))) (.cons (.v 1) .nil))))
 (.cons (.setB (.v 0) (.c (.int 0)) (.v 2))
 (.cons (.retv 3)
 .nil)))
abbrev d__law_take : Df := ⟨"_law_take", ⟨2, 4, b__law_take⟩, ["_law_box_here", "_law_many"], ["_law_box_here", "_law_many", "_law_left", "_law_digit"], tx 62⟩
def b__law_drawn_number : Stms :=
 (.cons (.ret (.bin .sub (.call "_law_take" (.cons (.v 0) (.cons (.bin .add (.bin .mul (.c (.int 2)) (.v 1)) (.c (.int 1))) .nil))) (.v 1)))
 .nil)
abbrev d__law_drawn_number : Df := ⟨"_law_drawn_number", ⟨2, 2, b__law_drawn_number⟩, ["_law_box_here", "_law_size"], ["_law_box_here", "_law_size"], tx 63⟩
def q__law_drawn_point_1 : Ex := .lc (.call "_law_drawn_number" (.cons (.v 0) (.cons (.v 2) .nil))) (.nm 3) (.rng (.cons (.v 1) .nil)) .no [3]
def b__law_drawn_point : Stms :=
 (.cons (.ret (.blt .tup (.cons q__law_drawn_point_1 .nil)))
 .nil)
abbrev d__law_drawn_point : Df := ⟨"_law_drawn_point", ⟨3, 4, b__law_drawn_point⟩, ["_law_box_here", "_law_width", "_law_size"], ["_law_box_here", "_law_width", "_law_size", "_law_place"], tx 64⟩
def b__law_drawn_pair : Stms :=
 (.cons (.par 3 4 (.call "_law_drawn_point" (.cons (.v 0) (.cons (.c (.int 2)) (.cons (.v 1) .nil)))) (.call "_law_drawn_point" (.cons (.v 0) (.cons (.c (.int 2)) (.cons (.v 1) .nil)))))
 (.cons (.asg 2 (.call "_law_take" (.cons (.v 0) (.cons (.c (.int 6)) .nil))))
 (.cons (.iff (.cmp .eq (.v 2) (.c (.int 0))) (.cons (.asg 4 (.tup (.cons (.bin .sub (.c (.int 0)) (.ix (.v 3) (.c (.int 1)))) (.cons (.ix (.v 3) (.c (.int 0))) .nil))))
 .nil) .nil)
 (.cons (.iff (.cmp .eq (.v 2) (.c (.int 1))) (.cons (.asg 5 (.call "_law_drawn_point" (.cons (.v 0) (.cons (.c (.int 2)) (.cons (.c (.int 2)) .nil)))))
 (.cons (.asg 4 (.tup (.cons (.bin .add (.ix (.v 3) (.c (.int 0))) (.ix (.v 5) (.c (.int 0)))) (.cons (.bin .add (.ix (.v 3) (.c (.int 1))) (.ix (.v 5) (.c (.int 1)))) .nil))))
 .nil)) .nil)
 (.cons (.iff (.cmp .eq (.bin .mul (.ix (.v 3) (.c (.int 0))) (.ix (.v 4) (.c (.int 1)))) (.bin .mul (.ix (.v 3) (.c (.int 1))) (.ix (.v 4) (.c (.int 0))))) (.cons (.par 3 4 (.tup (.cons (.bin .add (.ix (.v 3) (.c (.int 0))) (.c (.int 1))) (.cons (.c (.int 1)) .nil))) (.tup (.cons (.ix (.v 3) (.c (.int 0))) (.cons (.c (.int 1)) .nil))))
 .nil) .nil)
 (.cons (.ret (.tup (.cons (.v 3) (.cons (.v 4) .nil))))
 .nil))))))
abbrev d__law_drawn_pair : Df := ⟨"_law_drawn_pair", ⟨2, 6, b__law_drawn_pair⟩, ["_law_box_here", "_law_size"], ["_law_box_here", "_law_size", "_law_way", "_law_one", "_law_other", "_law_near"], tx 65⟩
def lb__law_lengths_1 : Stms := (.cons (.asg 5 (.ix (.v 2) (.call "_law_take" (.cons (.v 0) (.cons (.blt .len (.cons (.v 2) .nil)) .nil)))))
 (.cons (.app 3 (.call "product" (.cons (.v 5) (.cons (.v 5) .nil))))
 .nil))
def l__law_lengths_1 : Stm := .forr (.nm 4) (.rng (.cons (.c (.int 3)) .nil)) lb__law_lengths_1
def b__law_lengths : Stms :=
 (.cons (.asg 2 (.call "up_to" (.cons (.v 1) (.cons (.c (.int 60)) .nil))))
 (.cons (.frz 2)
 (.cons (.asg 3 (.lst (.cons (.call "_law_take" (.cons (.v 0) (.cons (.c (.int 61)) .nil))) (.cons (.c (.int 0)) .nil))))
 (.cons l__law_lengths_1
 (.cons (.retv 3)
 .nil)))))
abbrev d__law_lengths : Df := ⟨"_law_lengths", ⟨2, 6, b__law_lengths⟩, ["_law_box_here", "_law_pair"], ["_law_box_here", "_law_pair", "_law_some", "_law_found", "_law_turn", "_law_point"], tx 66⟩
def q_law_1 : Ex := .lc (.call "many_of" (.cons (.v 5) (.cons (.v 3) .nil))) (.nm 5) (.seq (.v 8)) .no [5]
def lb_law_1 : Stms := (.cons (.asg 10 (.bin .add (.call "many_of" (.cons (.v 6) (.cons (.v 3) .nil))) (.bin .mul (.v 7) (.call "many_of" (.cons (.v 9) (.cons (.v 3) .nil))))))
 (.cons (.iff (.cmp .ne (.blt .sum (.cons q_law_1 .nil)) (.v 10)) (.cons (.ret (.c (.bool false)))
 .nil) .nil)
 .nil))
def l_law_1 : Stm := .forr (.nm 3) (.seq (.call "_law_lengths" (.cons (.v 2) (.cons (.v 6) .nil)))) lb_law_1
def lb_law_2 : Stms := (.cons (.iff (.or (.cons (.cmp .ne (.call "times_of" (.cons (.v 5) (.cons (.v 6) .nil))) (.v 7)) (.one (.cmp .ne (.call "room" (.cons (.v 5) .nil)) (.bin .mul (.v 7) (.call "room" (.cons (.v 6) .nil))))))) (.cons (.ret (.c (.bool false)))
 .nil) .nil)
 (.cons (.iff (.cmp .ne (.call "room_squared" (.cons (.call "shape" (.cons (.v 5) .nil)) .nil)) (.v 4)) (.cons (.ret (.c (.bool false)))
 .nil) .nil)
 (.cons (.iff (.and (.cons (.cmp .le (.v 4) (.c (.int 200))) (.one (.cmp .nin (.call "shape" (.cons (.v 5) .nil)) (.call "shapes_of" (.cons (.v 4) .nil)))))) (.cons (.ret (.c (.bool false)))
 .nil) .nil)
 .nil)))
def l_law_2 : Stm := .forr (.nm 5) (.seq (.v 8)) lb_law_2
def lb_law_3 : Stms := (.cons (.asg 2 (.call "_law_box" (.cons (.v 0) (.cons (.v 1) .nil))))
 (.cons (.par 6 7 (.call "_law_drawn_pair" (.cons (.v 2) (.cons (.c (.int 4)) .nil))) (.ix (.lst (.cons (.c (.int 2)) (.cons (.c (.int 3)) (.cons (.c (.int 5)) (.cons (.c (.int 7)) .nil))))) (.call "_law_take" (.cons (.v 2) (.cons (.c (.int 4)) .nil)))))
 (.cons (.par 8 9 (.call "parts_of" (.cons (.v 6) (.cons (.v 7) .nil))) (.call "grown" (.cons (.v 6) (.cons (.v 7) .nil))))
 (.cons (.frz 8)
 (.cons (.iff (.cmp .ne (.blt .len (.cons (.v 8) .nil)) (.bin .add (.v 7) (.c (.int 1)))) (.cons (.ret (.c (.bool false)))
 .nil) .nil)
 (.cons l_law_1
 (.cons (.asg 4 (.bin .mul (.bin .mul (.v 7) (.v 7)) (.call "room_squared" (.cons (.call "shape" (.cons (.v 6) .nil)) .nil))))
 (.cons l_law_2
 .nil))))))))
def l_law_3 : Stm := .forr (.nm 1) (.rng (.cons (.blt .max (.cons (.c (.int 1)) (.cons (.blt .min (.cons (.blt .len (.cons (.v 0) .nil)) (.cons (.c (.int 3)) .nil))) .nil))) .nil)) lb_law_3
def b_law : Stms :=
 (.cons l_law_3
 (.cons (.ret (.c (.bool true)))
 .nil))
abbrev d_law : Df := ⟨"law", ⟨1, 11, b_law⟩, ["_law_script"], ["_law_script", "_law_k", "_law_box_here", "_law_length", "_law_squared", "_law_part", "_law_pair", "_law_number", "_law_parts", "_law_more", "_law_due"], tx 67⟩
def ds : List Df := [d_is_whole, d_are_whole, d_is_point, d_determinant, d_is_steps, d_need_steps, d_need_pair, d_product_of, d_product, d_room, d_sum_of, d_tops_of, d_numbers_for, d_is_within, d_products_of, d_moved_by, d_move_for, d_led, d_shape_of, d_shape, d_is_shape, d_by_matrix, d_need_shape, d_room_squared, d_common, d_led_flat, d_flat_by, d_need_both, d_times_of, d_parts_of, d_grown, d_need_length, d_root_of, d_near_points, d_many_of, d_up_to, d_need_between, d_shapes_by, d_shapes_of, d__law_cell, d__law_mix, d__law_box, d__law_take, d__law_drawn_number, d__law_drawn_point, d__law_drawn_pair, d__law_lengths, d_law]
def sg : Sg := ⟨["is_whole", "are_whole", "is_point", "determinant", "is_steps", "need_steps", "need_pair", "product_of", "product", "room", "sum_of", "tops_of", "numbers_for", "is_within", "products_of", "moved_by", "move_for", "led", "shape_of", "shape", "is_shape", "by_matrix", "need_shape", "room_squared", "common", "led_flat", "flat_by", "need_both", "times_of", "parts_of", "grown", "need_length", "root_of", "near_points", "many_of", "up_to", "need_between", "shapes_by", "shapes_of", "_law_cell", "_law_mix", "_law_box", "_law_take", "_law_drawn_number", "_law_drawn_point", "_law_drawn_pair", "_law_lengths", "law"], ["abs", "all", "any", "bool", "divmod", "enumerate", "int", "isinstance", "len", "max", "min", "range", "sorted", "sum", "tuple", "zip"], [("MOST_GROWN", (.int 9)), ("MOST_LENGTH", (.int 60)), ("MOST_TAKEN", (.int 200)), ("MOST_TIMES", (.int 12))]⟩
theorem ck_is_whole : chkD sg d_is_whole = true := by decide +kernel
theorem ck_are_whole : chkD sg d_are_whole = true := by decide +kernel
theorem ck_is_point : chkD sg d_is_point = true := by decide +kernel
theorem ck_determinant : chkD sg d_determinant = true := by decide +kernel
theorem ck_is_steps : chkD sg d_is_steps = true := by decide +kernel
theorem ck_need_steps : chkD sg d_need_steps = true := by decide +kernel
theorem ck_need_pair : chkD sg d_need_pair = true := by decide +kernel
theorem ck_product_of : chkD sg d_product_of = true := by decide +kernel
theorem ck_product : chkD sg d_product = true := by decide +kernel
theorem ck_room : chkD sg d_room = true := by decide +kernel
theorem ck_sum_of : chkD sg d_sum_of = true := by decide +kernel
theorem ck_tops_of : chkD sg d_tops_of = true := by decide +kernel
theorem ck_numbers_for : chkD sg d_numbers_for = true := by decide +kernel
theorem ck_is_within : chkD sg d_is_within = true := by decide +kernel
theorem ck_products_of : chkD sg d_products_of = true := by decide +kernel
theorem ck_moved_by : chkD sg d_moved_by = true := by decide +kernel
theorem ck_move_for : chkD sg d_move_for = true := by decide +kernel
theorem ck_led : chkD sg d_led = true := by decide +kernel
theorem ck_shape_of : chkD sg d_shape_of = true := by decide +kernel
theorem ck_shape : chkD sg d_shape = true := by decide +kernel
theorem ck_is_shape : chkD sg d_is_shape = true := by decide +kernel
theorem ck_by_matrix : chkD sg d_by_matrix = true := by decide +kernel
theorem ck_need_shape : chkD sg d_need_shape = true := by decide +kernel
theorem ck_room_squared : chkD sg d_room_squared = true := by decide +kernel
theorem ck_common : chkD sg d_common = true := by decide +kernel
theorem ck_led_flat : chkD sg d_led_flat = true := by decide +kernel
theorem ck_flat_by : chkD sg d_flat_by = true := by decide +kernel
theorem ck_need_both : chkD sg d_need_both = true := by decide +kernel
theorem ck_times_of : chkD sg d_times_of = true := by decide +kernel
theorem ck_parts_of : chkD sg d_parts_of = true := by decide +kernel
theorem ck_grown : chkD sg d_grown = true := by decide +kernel
theorem ck_need_length : chkD sg d_need_length = true := by decide +kernel
theorem ck_root_of : chkD sg d_root_of = true := by decide +kernel
theorem ck_near_points : chkD sg d_near_points = true := by decide +kernel
theorem ck_many_of : chkD sg d_many_of = true := by decide +kernel
theorem ck_up_to : chkD sg d_up_to = true := by decide +kernel
theorem ck_need_between : chkD sg d_need_between = true := by decide +kernel
theorem ck_shapes_by : chkD sg d_shapes_by = true := by decide +kernel
theorem ck_shapes_of : chkD sg d_shapes_of = true := by decide +kernel
theorem ck__law_cell : chkD sg d__law_cell = true := by decide +kernel
theorem ck__law_mix : chkD sg d__law_mix = true := by decide +kernel
theorem ck__law_box : chkD sg d__law_box = true := by decide +kernel
theorem ck__law_take : chkD sg d__law_take = true := by decide +kernel
theorem ck__law_drawn_number : chkD sg d__law_drawn_number = true := by decide +kernel
theorem ck__law_drawn_point : chkD sg d__law_drawn_point = true := by decide +kernel
theorem ck__law_drawn_pair : chkD sg d__law_drawn_pair = true := by decide +kernel
theorem ck__law_lengths : chkD sg d__law_lengths = true := by decide +kernel
theorem ck_law : chkD sg d_law = true := by decide +kernel
theorem nd : (ds.map (·.name)).Nodup := by decide +kernel
theorem ck : ∀ d ∈ ds, chkD sg d = true := by
  intro d h
  simp only [ds, List.mem_cons, List.not_mem_nil, or_false] at h
  rcases h with rfl | rfl | rfl | rfl | rfl | rfl | rfl | rfl | rfl | rfl | rfl | rfl | rfl | rfl | rfl | rfl | rfl | rfl | rfl | rfl | rfl | rfl | rfl | rfl | rfl | rfl | rfl | rfl | rfl | rfl | rfl | rfl | rfl | rfl | rfl | rfl | rfl | rfl | rfl | rfl | rfl | rfl | rfl | rfl | rfl | rfl | rfl | rfl
  · exact ck_is_whole
  · exact ck_are_whole
  · exact ck_is_point
  · exact ck_determinant
  · exact ck_is_steps
  · exact ck_need_steps
  · exact ck_need_pair
  · exact ck_product_of
  · exact ck_product
  · exact ck_room
  · exact ck_sum_of
  · exact ck_tops_of
  · exact ck_numbers_for
  · exact ck_is_within
  · exact ck_products_of
  · exact ck_moved_by
  · exact ck_move_for
  · exact ck_led
  · exact ck_shape_of
  · exact ck_shape
  · exact ck_is_shape
  · exact ck_by_matrix
  · exact ck_need_shape
  · exact ck_room_squared
  · exact ck_common
  · exact ck_led_flat
  · exact ck_flat_by
  · exact ck_need_both
  · exact ck_times_of
  · exact ck_parts_of
  · exact ck_grown
  · exact ck_need_length
  · exact ck_root_of
  · exact ck_near_points
  · exact ck_many_of
  · exact ck_up_to
  · exact ck_need_between
  · exact ck_shapes_by
  · exact ck_shapes_of
  · exact ck__law_cell
  · exact ck__law_mix
  · exact ck__law_box
  · exact ck__law_take
  · exact ck__law_drawn_number
  · exact ck__law_drawn_point
  · exact ck__law_drawn_pair
  · exact ck__law_lengths
  · exact ck_law
abbrev tb : String → Option Fn := tbOf ds
theorem t_is_whole : tb "is_whole" = some ⟨1, 1, b_is_whole⟩ := tbOf_find nd d_is_whole (by simp [ds])
theorem c_is_whole (k : Nat) (x0 : R) (st : Bx) : callF tb (k + 1) "is_whole" [x0] st = outR (b_is_whole.den (callF tb k) [some x0] st) := callF_of t_is_whole k _ st rfl
theorem t_are_whole : tb "are_whole" = some ⟨2, 3, b_are_whole⟩ := tbOf_find nd d_are_whole (by simp [ds])
theorem c_are_whole (k : Nat) (x0 x1 : R) (st : Bx) : callF tb (k + 1) "are_whole" [x0, x1] st = outR (b_are_whole.den (callF tb k) [some x0, some x1, none] st) := callF_of t_are_whole k _ st rfl
theorem t_is_point : tb "is_point" = some ⟨1, 1, b_is_point⟩ := tbOf_find nd d_is_point (by simp [ds])
theorem c_is_point (k : Nat) (x0 : R) (st : Bx) : callF tb (k + 1) "is_point" [x0] st = outR (b_is_point.den (callF tb k) [some x0] st) := callF_of t_is_point k _ st rfl
theorem t_determinant : tb "determinant" = some ⟨1, 6, b_determinant⟩ := tbOf_find nd d_determinant (by simp [ds])
theorem c_determinant (k : Nat) (x0 : R) (st : Bx) : callF tb (k + 1) "determinant" [x0] st = outR (b_determinant.den (callF tb k) [some x0, none, none, none, none, none] st) := callF_of t_determinant k _ st rfl
theorem t_is_steps : tb "is_steps" = some ⟨1, 2, b_is_steps⟩ := tbOf_find nd d_is_steps (by simp [ds])
theorem c_is_steps (k : Nat) (x0 : R) (st : Bx) : callF tb (k + 1) "is_steps" [x0] st = outR (b_is_steps.den (callF tb k) [some x0, none] st) := callF_of t_is_steps k _ st rfl
theorem t_need_steps : tb "need_steps" = some ⟨1, 1, b_need_steps⟩ := tbOf_find nd d_need_steps (by simp [ds])
theorem c_need_steps (k : Nat) (x0 : R) (st : Bx) : callF tb (k + 1) "need_steps" [x0] st = outR (b_need_steps.den (callF tb k) [some x0] st) := callF_of t_need_steps k _ st rfl
theorem t_need_pair : tb "need_pair" = some ⟨1, 1, b_need_pair⟩ := tbOf_find nd d_need_pair (by simp [ds])
theorem c_need_pair (k : Nat) (x0 : R) (st : Bx) : callF tb (k + 1) "need_pair" [x0] st = outR (b_need_pair.den (callF tb k) [some x0] st) := callF_of t_need_pair k _ st rfl
theorem t_product_of : tb "product_of" = some ⟨2, 4, b_product_of⟩ := tbOf_find nd d_product_of (by simp [ds])
theorem c_product_of (k : Nat) (x0 x1 : R) (st : Bx) : callF tb (k + 1) "product_of" [x0, x1] st = outR (b_product_of.den (callF tb k) [some x0, some x1, none, none] st) := callF_of t_product_of k _ st rfl
theorem t_product : tb "product" = some ⟨2, 2, b_product⟩ := tbOf_find nd d_product (by simp [ds])
theorem c_product (k : Nat) (x0 x1 : R) (st : Bx) : callF tb (k + 1) "product" [x0, x1] st = outR (b_product.den (callF tb k) [some x0, some x1] st) := callF_of t_product k _ st rfl
theorem t_room : tb "room" = some ⟨1, 1, b_room⟩ := tbOf_find nd d_room (by simp [ds])
theorem c_room (k : Nat) (x0 : R) (st : Bx) : callF tb (k + 1) "room" [x0] st = outR (b_room.den (callF tb k) [some x0] st) := callF_of t_room k _ st rfl
theorem t_sum_of : tb "sum_of" = some ⟨2, 6, b_sum_of⟩ := tbOf_find nd d_sum_of (by simp [ds])
theorem c_sum_of (k : Nat) (x0 x1 : R) (st : Bx) : callF tb (k + 1) "sum_of" [x0, x1] st = outR (b_sum_of.den (callF tb k) [some x0, some x1, none, none, none, none] st) := callF_of t_sum_of k _ st rfl
theorem t_tops_of : tb "tops_of" = some ⟨2, 3, b_tops_of⟩ := tbOf_find nd d_tops_of (by simp [ds])
theorem c_tops_of (k : Nat) (x0 x1 : R) (st : Bx) : callF tb (k + 1) "tops_of" [x0, x1] st = outR (b_tops_of.den (callF tb k) [some x0, some x1, none] st) := callF_of t_tops_of k _ st rfl
theorem t_numbers_for : tb "numbers_for" = some ⟨2, 5, b_numbers_for⟩ := tbOf_find nd d_numbers_for (by simp [ds])
theorem c_numbers_for (k : Nat) (x0 x1 : R) (st : Bx) : callF tb (k + 1) "numbers_for" [x0, x1] st = outR (b_numbers_for.den (callF tb k) [some x0, some x1, none, none, none] st) := callF_of t_numbers_for k _ st rfl
theorem t_is_within : tb "is_within" = some ⟨2, 3, b_is_within⟩ := tbOf_find nd d_is_within (by simp [ds])
theorem c_is_within (k : Nat) (x0 x1 : R) (st : Bx) : callF tb (k + 1) "is_within" [x0, x1] st = outR (b_is_within.den (callF tb k) [some x0, some x1, none] st) := callF_of t_is_within k _ st rfl
theorem t_products_of : tb "products_of" = some ⟨1, 1, b_products_of⟩ := tbOf_find nd d_products_of (by simp [ds])
theorem c_products_of (k : Nat) (x0 : R) (st : Bx) : callF tb (k + 1) "products_of" [x0] st = outR (b_products_of.den (callF tb k) [some x0] st) := callF_of t_products_of k _ st rfl
theorem t_moved_by : tb "moved_by" = some ⟨2, 2, b_moved_by⟩ := tbOf_find nd d_moved_by (by simp [ds])
theorem c_moved_by (k : Nat) (x0 x1 : R) (st : Bx) : callF tb (k + 1) "moved_by" [x0, x1] st = outR (b_moved_by.den (callF tb k) [some x0, some x1] st) := callF_of t_moved_by k _ st rfl
theorem t_move_for : tb "move_for" = some ⟨1, 5, b_move_for⟩ := tbOf_find nd d_move_for (by simp [ds])
theorem c_move_for (k : Nat) (x0 : R) (st : Bx) : callF tb (k + 1) "move_for" [x0] st = outR (b_move_for.den (callF tb k) [some x0, none, none, none, none] st) := callF_of t_move_for k _ st rfl
theorem t_led : tb "led" = some ⟨1, 3, b_led⟩ := tbOf_find nd d_led (by simp [ds])
theorem c_led (k : Nat) (x0 : R) (st : Bx) : callF tb (k + 1) "led" [x0] st = outR (b_led.den (callF tb k) [some x0, none, none] st) := callF_of t_led k _ st rfl
theorem t_shape_of : tb "shape_of" = some ⟨1, 1, b_shape_of⟩ := tbOf_find nd d_shape_of (by simp [ds])
theorem c_shape_of (k : Nat) (x0 : R) (st : Bx) : callF tb (k + 1) "shape_of" [x0] st = outR (b_shape_of.den (callF tb k) [some x0] st) := callF_of t_shape_of k _ st rfl
theorem t_shape : tb "shape" = some ⟨1, 1, b_shape⟩ := tbOf_find nd d_shape (by simp [ds])
theorem c_shape (k : Nat) (x0 : R) (st : Bx) : callF tb (k + 1) "shape" [x0] st = outR (b_shape.den (callF tb k) [some x0] st) := callF_of t_shape k _ st rfl
theorem t_is_shape : tb "is_shape" = some ⟨1, 1, b_is_shape⟩ := tbOf_find nd d_is_shape (by simp [ds])
theorem c_is_shape (k : Nat) (x0 : R) (st : Bx) : callF tb (k + 1) "is_shape" [x0] st = outR (b_is_shape.den (callF tb k) [some x0] st) := callF_of t_is_shape k _ st rfl
theorem t_by_matrix : tb "by_matrix" = some ⟨2, 2, b_by_matrix⟩ := tbOf_find nd d_by_matrix (by simp [ds])
theorem c_by_matrix (k : Nat) (x0 x1 : R) (st : Bx) : callF tb (k + 1) "by_matrix" [x0, x1] st = outR (b_by_matrix.den (callF tb k) [some x0, some x1] st) := callF_of t_by_matrix k _ st rfl
theorem t_need_shape : tb "need_shape" = some ⟨1, 1, b_need_shape⟩ := tbOf_find nd d_need_shape (by simp [ds])
theorem c_need_shape (k : Nat) (x0 : R) (st : Bx) : callF tb (k + 1) "need_shape" [x0] st = outR (b_need_shape.den (callF tb k) [some x0] st) := callF_of t_need_shape k _ st rfl
theorem t_room_squared : tb "room_squared" = some ⟨1, 1, b_room_squared⟩ := tbOf_find nd d_room_squared (by simp [ds])
theorem c_room_squared (k : Nat) (x0 : R) (st : Bx) : callF tb (k + 1) "room_squared" [x0] st = outR (b_room_squared.den (callF tb k) [some x0] st) := callF_of t_room_squared k _ st rfl
theorem t_common : tb "common" = some ⟨2, 2, b_common⟩ := tbOf_find nd d_common (by simp [ds])
theorem c_common (k : Nat) (x0 x1 : R) (st : Bx) : callF tb (k + 1) "common" [x0, x1] st = outR (b_common.den (callF tb k) [some x0, some x1] st) := callF_of t_common k _ st rfl
theorem t_led_flat : tb "led_flat" = some ⟨2, 3, b_led_flat⟩ := tbOf_find nd d_led_flat (by simp [ds])
theorem c_led_flat (k : Nat) (x0 x1 : R) (st : Bx) : callF tb (k + 1) "led_flat" [x0, x1] st = outR (b_led_flat.den (callF tb k) [some x0, some x1, none] st) := callF_of t_led_flat k _ st rfl
theorem t_flat_by : tb "flat_by" = some ⟨1, 7, b_flat_by⟩ := tbOf_find nd d_flat_by (by simp [ds])
theorem c_flat_by (k : Nat) (x0 : R) (st : Bx) : callF tb (k + 1) "flat_by" [x0] st = outR (b_flat_by.den (callF tb k) [some x0, none, none, none, none, none, none] st) := callF_of t_flat_by k _ st rfl
theorem t_need_both : tb "need_both" = some ⟨2, 2, b_need_both⟩ := tbOf_find nd d_need_both (by simp [ds])
theorem c_need_both (k : Nat) (x0 x1 : R) (st : Bx) : callF tb (k + 1) "need_both" [x0, x1] st = outR (b_need_both.den (callF tb k) [some x0, some x1] st) := callF_of t_need_both k _ st rfl
theorem t_times_of : tb "times_of" = some ⟨2, 2, b_times_of⟩ := tbOf_find nd d_times_of (by simp [ds])
theorem c_times_of (k : Nat) (x0 x1 : R) (st : Bx) : callF tb (k + 1) "times_of" [x0, x1] st = outR (b_times_of.den (callF tb k) [some x0, some x1] st) := callF_of t_times_of k _ st rfl
theorem t_parts_of : tb "parts_of" = some ⟨2, 6, b_parts_of⟩ := tbOf_find nd d_parts_of (by simp [ds])
theorem c_parts_of (k : Nat) (x0 x1 : R) (st : Bx) : callF tb (k + 1) "parts_of" [x0, x1] st = outR (b_parts_of.den (callF tb k) [some x0, some x1, none, none, none, none] st) := callF_of t_parts_of k _ st rfl
theorem t_grown : tb "grown" = some ⟨2, 4, b_grown⟩ := tbOf_find nd d_grown (by simp [ds])
theorem c_grown (k : Nat) (x0 x1 : R) (st : Bx) : callF tb (k + 1) "grown" [x0, x1] st = outR (b_grown.den (callF tb k) [some x0, some x1, none, none] st) := callF_of t_grown k _ st rfl
theorem t_need_length : tb "need_length" = some ⟨1, 1, b_need_length⟩ := tbOf_find nd d_need_length (by simp [ds])
theorem c_need_length (k : Nat) (x0 : R) (st : Bx) : callF tb (k + 1) "need_length" [x0] st = outR (b_need_length.den (callF tb k) [some x0] st) := callF_of t_need_length k _ st rfl
theorem t_root_of : tb "root_of" = some ⟨1, 2, b_root_of⟩ := tbOf_find nd d_root_of (by simp [ds])
theorem c_root_of (k : Nat) (x0 : R) (st : Bx) : callF tb (k + 1) "root_of" [x0] st = outR (b_root_of.den (callF tb k) [some x0, none] st) := callF_of t_root_of k _ st rfl
theorem t_near_points : tb "near_points" = some ⟨2, 12, b_near_points⟩ := tbOf_find nd d_near_points (by simp [ds])
theorem c_near_points (k : Nat) (x0 x1 : R) (st : Bx) : callF tb (k + 1) "near_points" [x0, x1] st = outR (b_near_points.den (callF tb k) [some x0, some x1, none, none, none, none, none, none, none, none, none, none] st) := callF_of t_near_points k _ st rfl
theorem t_many_of : tb "many_of" = some ⟨2, 3, b_many_of⟩ := tbOf_find nd d_many_of (by simp [ds])
theorem c_many_of (k : Nat) (x0 x1 : R) (st : Bx) : callF tb (k + 1) "many_of" [x0, x1] st = outR (b_many_of.den (callF tb k) [some x0, some x1, none] st) := callF_of t_many_of k _ st rfl
theorem t_up_to : tb "up_to" = some ⟨2, 2, b_up_to⟩ := tbOf_find nd d_up_to (by simp [ds])
theorem c_up_to (k : Nat) (x0 x1 : R) (st : Bx) : callF tb (k + 1) "up_to" [x0, x1] st = outR (b_up_to.den (callF tb k) [some x0, some x1] st) := callF_of t_up_to k _ st rfl
theorem t_need_between : tb "need_between" = some ⟨2, 2, b_need_between⟩ := tbOf_find nd d_need_between (by simp [ds])
theorem c_need_between (k : Nat) (x0 x1 : R) (st : Bx) : callF tb (k + 1) "need_between" [x0, x1] st = outR (b_need_between.den (callF tb k) [some x0, some x1] st) := callF_of t_need_between k _ st rfl
theorem t_shapes_by : tb "shapes_by" = some ⟨1, 7, b_shapes_by⟩ := tbOf_find nd d_shapes_by (by simp [ds])
theorem c_shapes_by (k : Nat) (x0 : R) (st : Bx) : callF tb (k + 1) "shapes_by" [x0] st = outR (b_shapes_by.den (callF tb k) [some x0, none, none, none, none, none, none] st) := callF_of t_shapes_by k _ st rfl
theorem t_shapes_of : tb "shapes_of" = some ⟨1, 1, b_shapes_of⟩ := tbOf_find nd d_shapes_of (by simp [ds])
theorem c_shapes_of (k : Nat) (x0 : R) (st : Bx) : callF tb (k + 1) "shapes_of" [x0] st = outR (b_shapes_of.den (callF tb k) [some x0] st) := callF_of t_shapes_of k _ st rfl
theorem t__law_cell : tb "_law_cell" = some ⟨2, 2, b__law_cell⟩ := tbOf_find nd d__law_cell (by simp [ds])
theorem c__law_cell (k : Nat) (x0 x1 : R) (st : Bx) : callF tb (k + 1) "_law_cell" [x0, x1] st = outR (b__law_cell.den (callF tb k) [some x0, some x1] st) := callF_of t__law_cell k _ st rfl
theorem t__law_mix : tb "_law_mix" = some ⟨2, 4, b__law_mix⟩ := tbOf_find nd d__law_mix (by simp [ds])
theorem c__law_mix (k : Nat) (x0 x1 : R) (st : Bx) : callF tb (k + 1) "_law_mix" [x0, x1] st = outR (b__law_mix.den (callF tb k) [some x0, some x1, none, none] st) := callF_of t__law_mix k _ st rfl
theorem t__law_box : tb "_law_box" = some ⟨2, 5, b__law_box⟩ := tbOf_find nd d__law_box (by simp [ds])
theorem c__law_box (k : Nat) (x0 x1 : R) (st : Bx) : callF tb (k + 1) "_law_box" [x0, x1] st = outR (b__law_box.den (callF tb k) [some x0, some x1, none, none, none] st) := callF_of t__law_box k _ st rfl
theorem t__law_take : tb "_law_take" = some ⟨2, 4, b__law_take⟩ := tbOf_find nd d__law_take (by simp [ds])
theorem c__law_take (k : Nat) (x0 x1 : R) (st : Bx) : callF tb (k + 1) "_law_take" [x0, x1] st = outR (b__law_take.den (callF tb k) [some x0, some x1, none, none] st) := callF_of t__law_take k _ st rfl
theorem t__law_drawn_number : tb "_law_drawn_number" = some ⟨2, 2, b__law_drawn_number⟩ := tbOf_find nd d__law_drawn_number (by simp [ds])
theorem c__law_drawn_number (k : Nat) (x0 x1 : R) (st : Bx) : callF tb (k + 1) "_law_drawn_number" [x0, x1] st = outR (b__law_drawn_number.den (callF tb k) [some x0, some x1] st) := callF_of t__law_drawn_number k _ st rfl
theorem t__law_drawn_point : tb "_law_drawn_point" = some ⟨3, 4, b__law_drawn_point⟩ := tbOf_find nd d__law_drawn_point (by simp [ds])
theorem c__law_drawn_point (k : Nat) (x0 x1 x2 : R) (st : Bx) : callF tb (k + 1) "_law_drawn_point" [x0, x1, x2] st = outR (b__law_drawn_point.den (callF tb k) [some x0, some x1, some x2, none] st) := callF_of t__law_drawn_point k _ st rfl
theorem t__law_drawn_pair : tb "_law_drawn_pair" = some ⟨2, 6, b__law_drawn_pair⟩ := tbOf_find nd d__law_drawn_pair (by simp [ds])
theorem c__law_drawn_pair (k : Nat) (x0 x1 : R) (st : Bx) : callF tb (k + 1) "_law_drawn_pair" [x0, x1] st = outR (b__law_drawn_pair.den (callF tb k) [some x0, some x1, none, none, none, none] st) := callF_of t__law_drawn_pair k _ st rfl
theorem t__law_lengths : tb "_law_lengths" = some ⟨2, 6, b__law_lengths⟩ := tbOf_find nd d__law_lengths (by simp [ds])
theorem c__law_lengths (k : Nat) (x0 x1 : R) (st : Bx) : callF tb (k + 1) "_law_lengths" [x0, x1] st = outR (b__law_lengths.den (callF tb k) [some x0, some x1, none, none, none, none] st) := callF_of t__law_lengths k _ st rfl
theorem t_law : tb "law" = some ⟨1, 11, b_law⟩ := tbOf_find nd d_law (by simp [ds])
theorem c_law (k : Nat) (x0 : R) (st : Bx) : callF tb (k + 1) "law" [x0] st = outR (b_law.den (callF tb k) [some x0, none, none, none, none, none, none, none, none, none, none] st) := callF_of t_law k _ st rfl
/-! ### the law's own small defs -/
theorem s_take (k n : Nat) (m x : Int) (st : Bx) (h : st[n]? = some [.int x]) (hm : 0 < m) (hd : m < 2 ^ 60) :
    callF tb (k + 1) "_law_take" [.ref n, .dat (.int m)] st = some (.dat (.int (x % m)), st.set n [.int (x / m)]) := by
  have hd := divOk_s hm hd
  rw [c__law_take]
  simp only [b__law_take, ↓reduceIte, Bool.not_true, Bool.not_false, decide_true, decide_false, wipeE, Bool.false_eq_true, y_e_c, y_e_v, y_e_g, y_e_never, y_e_bin, y_e_neg, y_e_tst, y_e_ite, y_e_tup, y_e_lst, y_e_box, y_e_ix, y_e_sl, y_e_rev, y_e_call, y_e_blt, y_e_isi, y_e_lc, y_es_nil, y_es_cons, y_o_no, y_o_yes, y_t_val, y_t_cmp, y_t_chn, y_t_isnt, y_t_isnf, z_nnr_dat, z_nnr_own, z_nnr_brw, z_nn_none, z_nn_bool, z_nn_int, z_nn_str, z_nn_list, z_nn_tuple, y_t_isb, y_t_and, y_t_or, y_t_not, y_h_last, y_h_link, y_al_one, y_al_cons, y_an_one, y_an_cons, y_c_no, y_c_yes, y_i_seq, y_i_rng, y_i_zip, y_i_enum, y_s_never, y_s_pass, y_s_asg, y_s_par, y_s_par3, y_s_setO, y_s_unp, y_s_setB, y_s_exp, y_s_app, y_s_ext, y_s_iff, y_s_whl, y_s_forr, y_s_ret, y_s_retv, y_s_frz, y_ss_nil, y_ss_cons, argsOf, views, caps, Option.map_some, Option.map_none, Option.bind_some, Option.bind_none, List.getElem?_cons_zero, List.getElem?_cons_succ, List.set_cons_zero, List.set_cons_succ, List.length_cons, List.length_nil, z_read_dat, z_read_ref, z_read_scr, z_read_own, z_view_own, z_view_brw, z_view_dat, z_cap_dat, z_cap_own, z_hold_dat, z_hold_ref, z_hold_scr, z_hold_own, z_arg_dat, z_arg_ref, z_arg_scr, z_arg_own, z_look_t, z_look_f, z_len_ref, z_len_scr, z_len_l, z_len_t, z_len_o, z_len_b, z_ix_ref, z_ix_scr, z_ix_l, z_ix_t, z_ix_o, z_ix_b, z_blt_len, z_blt_abs, z_blt_tup, z_blt_lst, z_blt_sum, z_blt_all, z_blt_any, z_blt_min, z_blt_max, z_blt_sorted, z_blt_repr, z_blt_str, z_blt_int, z_blt_divmod, z_d_abs, z_d_tupl, z_d_tupt, z_d_lstl, z_d_lstt, z_d_sum, z_d_all, z_d_any, z_d_minl, z_d_maxl, z_d_min, z_d_max, z_d_sorted, z_d_divmod, z_d_int, z_d_repr, z_d_str, z_bin_i, z_bin_ll, z_bin_tt, z_bin_rep, z_add, z_sub, z_mul, z_fdiv, z_mod, z_eq, z_ne, z_lt, z_le, z_gt, z_ge, z_inl, z_int, z_ninl, z_nint, z_isi_int_none, z_isi_int_bool, z_isi_int_int, z_isi_int_str, z_isi_int_list, z_isi_int_tuple, z_isi_bool_none, z_isi_bool_bool, z_isi_bool_int, z_isi_bool_str, z_isi_bool_list, z_isi_bool_tuple, z_isi_str_none, z_isi_str_bool, z_isi_str_int, z_isi_str_str, z_isi_str_list, z_isi_str_tuple, z_isi_list_none, z_isi_list_bool, z_isi_list_int, z_isi_list_str, z_isi_list_list, z_isi_list_tuple, z_isi_tuple_none, z_isi_tuple_bool, z_isi_tuple_int, z_isi_tuple_str, z_isi_tuple_list, z_isi_tuple_tuple, z_out_rt, z_out_nx, z_eqi, z_eqb, z_rng1, z_rng2, z_si_l, z_si_t, z_bind_nm, z_bind_tt, z_bind_tl, z_binds_n, z_binds_c, z_sl_l, z_sl_t, z_at0, z_at1, z_at2, z_at3, z_ixN0, z_intsn, z_intsc, z_boolsn, z_boolsc, h, hm, hd]
theorem s_cell (k : Nat) (ns : List Int) (i : Nat) (st : Bx) : ∃ c : Int, callF tb (k + 1) "_law_cell" [.scr ns, .dat (.int i)] st = some (.dat (.int c), st) := by
  rw [c__law_cell]
  by_cases hi : i < ns.length
  · refine ⟨ns[i], ?_⟩
    simp only [b__law_cell, ↓reduceIte, Bool.not_true, Bool.not_false, decide_true, decide_false, wipeE, Bool.false_eq_true, y_e_c, y_e_v, y_e_g, y_e_never, y_e_bin, y_e_neg, y_e_tst, y_e_ite, y_e_tup, y_e_lst, y_e_box, y_e_ix, y_e_sl, y_e_rev, y_e_call, y_e_blt, y_e_isi, y_e_lc, y_es_nil, y_es_cons, y_o_no, y_o_yes, y_t_val, y_t_cmp, y_t_chn, y_t_isnt, y_t_isnf, z_nnr_dat, z_nnr_own, z_nnr_brw, z_nn_none, z_nn_bool, z_nn_int, z_nn_str, z_nn_list, z_nn_tuple, y_t_isb, y_t_and, y_t_or, y_t_not, y_h_last, y_h_link, y_al_one, y_al_cons, y_an_one, y_an_cons, y_c_no, y_c_yes, y_i_seq, y_i_rng, y_i_zip, y_i_enum, y_s_never, y_s_pass, y_s_asg, y_s_par, y_s_par3, y_s_setO, y_s_unp, y_s_setB, y_s_exp, y_s_app, y_s_ext, y_s_iff, y_s_whl, y_s_forr, y_s_ret, y_s_retv, y_s_frz, y_ss_nil, y_ss_cons, argsOf, views, caps, Option.map_some, Option.map_none, Option.bind_some, Option.bind_none, List.getElem?_cons_zero, List.getElem?_cons_succ, List.set_cons_zero, List.set_cons_succ, List.length_cons, List.length_nil, z_read_dat, z_read_ref, z_read_scr, z_read_own, z_view_own, z_view_brw, z_view_dat, z_cap_dat, z_cap_own, z_hold_dat, z_hold_ref, z_hold_scr, z_hold_own, z_arg_dat, z_arg_ref, z_arg_scr, z_arg_own, z_look_t, z_look_f, z_len_ref, z_len_scr, z_len_l, z_len_t, z_len_o, z_len_b, z_ix_ref, z_ix_scr, z_ix_l, z_ix_t, z_ix_o, z_ix_b, z_blt_len, z_blt_abs, z_blt_tup, z_blt_lst, z_blt_sum, z_blt_all, z_blt_any, z_blt_min, z_blt_max, z_blt_sorted, z_blt_repr, z_blt_str, z_blt_int, z_blt_divmod, z_d_abs, z_d_tupl, z_d_tupt, z_d_lstl, z_d_lstt, z_d_sum, z_d_all, z_d_any, z_d_minl, z_d_maxl, z_d_min, z_d_max, z_d_sorted, z_d_divmod, z_d_int, z_d_repr, z_d_str, z_bin_i, z_bin_ll, z_bin_tt, z_bin_rep, z_add, z_sub, z_mul, z_fdiv, z_mod, z_eq, z_ne, z_lt, z_le, z_gt, z_ge, z_inl, z_int, z_ninl, z_nint, z_isi_int_none, z_isi_int_bool, z_isi_int_int, z_isi_int_str, z_isi_int_list, z_isi_int_tuple, z_isi_bool_none, z_isi_bool_bool, z_isi_bool_int, z_isi_bool_str, z_isi_bool_list, z_isi_bool_tuple, z_isi_str_none, z_isi_str_bool, z_isi_str_int, z_isi_str_str, z_isi_str_list, z_isi_str_tuple, z_isi_list_none, z_isi_list_bool, z_isi_list_int, z_isi_list_str, z_isi_list_list, z_isi_list_tuple, z_isi_tuple_none, z_isi_tuple_bool, z_isi_tuple_int, z_isi_tuple_str, z_isi_tuple_list, z_isi_tuple_tuple, z_out_rt, z_out_nx, z_eqi, z_eqb, z_rng1, z_rng2, z_si_l, z_si_t, z_bind_nm, z_bind_tt, z_bind_tl, z_binds_n, z_binds_c, z_sl_l, z_sl_t, z_at0, z_at1, z_at2, z_at3, z_ixN0, z_intsn, z_intsc, z_boolsn, z_boolsc, Int.ofNat_lt, hi, decide_true, atI_nat (List.getElem?_eq_getElem hi)]
  · refine ⟨0, ?_⟩
    simp only [b__law_cell, ↓reduceIte, Bool.not_true, Bool.not_false, decide_true, decide_false, wipeE, Bool.false_eq_true, y_e_c, y_e_v, y_e_g, y_e_never, y_e_bin, y_e_neg, y_e_tst, y_e_ite, y_e_tup, y_e_lst, y_e_box, y_e_ix, y_e_sl, y_e_rev, y_e_call, y_e_blt, y_e_isi, y_e_lc, y_es_nil, y_es_cons, y_o_no, y_o_yes, y_t_val, y_t_cmp, y_t_chn, y_t_isnt, y_t_isnf, z_nnr_dat, z_nnr_own, z_nnr_brw, z_nn_none, z_nn_bool, z_nn_int, z_nn_str, z_nn_list, z_nn_tuple, y_t_isb, y_t_and, y_t_or, y_t_not, y_h_last, y_h_link, y_al_one, y_al_cons, y_an_one, y_an_cons, y_c_no, y_c_yes, y_i_seq, y_i_rng, y_i_zip, y_i_enum, y_s_never, y_s_pass, y_s_asg, y_s_par, y_s_par3, y_s_setO, y_s_unp, y_s_setB, y_s_exp, y_s_app, y_s_ext, y_s_iff, y_s_whl, y_s_forr, y_s_ret, y_s_retv, y_s_frz, y_ss_nil, y_ss_cons, argsOf, views, caps, Option.map_some, Option.map_none, Option.bind_some, Option.bind_none, List.getElem?_cons_zero, List.getElem?_cons_succ, List.set_cons_zero, List.set_cons_succ, List.length_cons, List.length_nil, z_read_dat, z_read_ref, z_read_scr, z_read_own, z_view_own, z_view_brw, z_view_dat, z_cap_dat, z_cap_own, z_hold_dat, z_hold_ref, z_hold_scr, z_hold_own, z_arg_dat, z_arg_ref, z_arg_scr, z_arg_own, z_look_t, z_look_f, z_len_ref, z_len_scr, z_len_l, z_len_t, z_len_o, z_len_b, z_ix_ref, z_ix_scr, z_ix_l, z_ix_t, z_ix_o, z_ix_b, z_blt_len, z_blt_abs, z_blt_tup, z_blt_lst, z_blt_sum, z_blt_all, z_blt_any, z_blt_min, z_blt_max, z_blt_sorted, z_blt_repr, z_blt_str, z_blt_int, z_blt_divmod, z_d_abs, z_d_tupl, z_d_tupt, z_d_lstl, z_d_lstt, z_d_sum, z_d_all, z_d_any, z_d_minl, z_d_maxl, z_d_min, z_d_max, z_d_sorted, z_d_divmod, z_d_int, z_d_repr, z_d_str, z_bin_i, z_bin_ll, z_bin_tt, z_bin_rep, z_add, z_sub, z_mul, z_fdiv, z_mod, z_eq, z_ne, z_lt, z_le, z_gt, z_ge, z_inl, z_int, z_ninl, z_nint, z_isi_int_none, z_isi_int_bool, z_isi_int_int, z_isi_int_str, z_isi_int_list, z_isi_int_tuple, z_isi_bool_none, z_isi_bool_bool, z_isi_bool_int, z_isi_bool_str, z_isi_bool_list, z_isi_bool_tuple, z_isi_str_none, z_isi_str_bool, z_isi_str_int, z_isi_str_str, z_isi_str_list, z_isi_str_tuple, z_isi_list_none, z_isi_list_bool, z_isi_list_int, z_isi_list_str, z_isi_list_list, z_isi_list_tuple, z_isi_tuple_none, z_isi_tuple_bool, z_isi_tuple_int, z_isi_tuple_str, z_isi_tuple_list, z_isi_tuple_tuple, z_out_rt, z_out_nx, z_eqi, z_eqb, z_rng1, z_rng2, z_si_l, z_si_t, z_bind_nm, z_bind_tt, z_bind_tl, z_binds_n, z_binds_c, z_sl_l, z_sl_t, z_at0, z_at1, z_at2, z_at3, z_ixN0, z_intsn, z_intsc, z_boolsn, z_boolsc, Int.ofNat_lt, hi, decide_false]
theorem s_mix (k : Nat) (c j : Int) (st : Bx) (h0 : 0 ≤ j) (h1 : j < 1000) : ∃ m : Int, 0 ≤ m ∧ m < 1000000007 ∧ callF tb (k + 1) "_law_mix" [.dat (.int c), .dat (.int j)] st = some (.dat (.int m), st) := by
  rw [c__law_mix]
  have hA : ∃ x : Int, (0 ≤ x ∧ x < 100000) ∧ atI [PyData.int 48271, PyData.int 69621, PyData.int 16807, PyData.int 39373, PyData.int 30269, PyData.int 40014, PyData.int 40692, PyData.int 50021, PyData.int 61687, PyData.int 71993, PyData.int 83869, PyData.int 95561, PyData.int 30307] (j % 13) = some (.int x) := by
    obtain ⟨x, hx, e⟩ := atI_ints (l := [48271, 69621, 16807, 39373, 30269, 40014, 40692, 50021, 61687, 71993, 83869, 95561, 30307]) (i := j % 13) (by omega) (by simp only [List.length_cons, List.length_nil]; omega)
    refine ⟨x, ?_, e⟩
    have hall : ∀ x ∈ [(48271 : Int), 69621, 16807, 39373, 30269, 40014, 40692, 50021, 61687, 71993, 83869, 95561, 30307], 0 ≤ x ∧ x < 100000 := by decide
    exact hall x hx
  obtain ⟨x, ⟨hx0, hx1⟩, hx⟩ := hA
  have hm : ∃ a : Int, (c % 2147483647 + 12345) = a ∧ 0 ≤ a ∧ a < 3000000000 := ⟨_, rfl, by omega, by omega⟩
  obtain ⟨a, ea, ha0, ha1⟩ := hm
  have m1 : mulOk a x = true := mulOk_s (by omega) (by omega) (by omega) (by omega)
  have m2 : mulOk 977 j = true := mulOk_s (by omega) (by omega) (by omega) (by omega)
  have m3 : mulOk 7919 (j / 13) = true := mulOk_s (by omega) (by omega) (by omega) (by omega)
  have m4 : mulOk 48271 j = true := mulOk_s (by omega) (by omega) (by omega) (by omega)
  obtain ⟨s, es⟩ : ∃ s : Int, (a * x + 977 * j + 7919 * (j / 13)) % 1000000007 = s := ⟨_, rfl⟩
  have m5 : mulOk s s = true := mulOk_s (by omega) (by omega) (by omega) (by omega)
  refine ⟨(s * s + 48271 * j) % 1000000007 / 7, by omega, by omega, ?_⟩
  have d13 : divOk 13 = true := by decide
  have d7 : divOk 7 = true := by decide
  have f13 : fitsL 13 = true := by decide
  simp (decide := true) only [b__law_mix, ↓reduceIte, Bool.not_true, Bool.not_false, decide_true, decide_false, wipeE, Bool.false_eq_true, y_e_c, y_e_v, y_e_g, y_e_never, y_e_bin, y_e_neg, y_e_tst, y_e_ite, y_e_tup, y_e_lst, y_e_box, y_e_ix, y_e_sl, y_e_rev, y_e_call, y_e_blt, y_e_isi, y_e_lc, y_es_nil, y_es_cons, y_o_no, y_o_yes, y_t_val, y_t_cmp, y_t_chn, y_t_isnt, y_t_isnf, z_nnr_dat, z_nnr_own, z_nnr_brw, z_nn_none, z_nn_bool, z_nn_int, z_nn_str, z_nn_list, z_nn_tuple, y_t_isb, y_t_and, y_t_or, y_t_not, y_h_last, y_h_link, y_al_one, y_al_cons, y_an_one, y_an_cons, y_c_no, y_c_yes, y_i_seq, y_i_rng, y_i_zip, y_i_enum, y_s_never, y_s_pass, y_s_asg, y_s_par, y_s_par3, y_s_setO, y_s_unp, y_s_setB, y_s_exp, y_s_app, y_s_ext, y_s_iff, y_s_whl, y_s_forr, y_s_ret, y_s_retv, y_s_frz, y_ss_nil, y_ss_cons, argsOf, views, caps, Option.map_some, Option.map_none, Option.bind_some, Option.bind_none, List.getElem?_cons_zero, List.getElem?_cons_succ, List.set_cons_zero, List.set_cons_succ, List.length_cons, List.length_nil, z_read_dat, z_read_ref, z_read_scr, z_read_own, z_view_own, z_view_brw, z_view_dat, z_cap_dat, z_cap_own, z_hold_dat, z_hold_ref, z_hold_scr, z_hold_own, z_arg_dat, z_arg_ref, z_arg_scr, z_arg_own, z_look_t, z_look_f, z_len_ref, z_len_scr, z_len_l, z_len_t, z_len_o, z_len_b, z_ix_ref, z_ix_scr, z_ix_l, z_ix_t, z_ix_o, z_ix_b, z_blt_len, z_blt_abs, z_blt_tup, z_blt_lst, z_blt_sum, z_blt_all, z_blt_any, z_blt_min, z_blt_max, z_blt_sorted, z_blt_repr, z_blt_str, z_blt_int, z_blt_divmod, z_d_abs, z_d_tupl, z_d_tupt, z_d_lstl, z_d_lstt, z_d_sum, z_d_all, z_d_any, z_d_minl, z_d_maxl, z_d_min, z_d_max, z_d_sorted, z_d_divmod, z_d_int, z_d_repr, z_d_str, z_bin_i, z_bin_ll, z_bin_tt, z_bin_rep, z_add, z_sub, z_mul, z_fdiv, z_mod, z_eq, z_ne, z_lt, z_le, z_gt, z_ge, z_inl, z_int, z_ninl, z_nint, z_isi_int_none, z_isi_int_bool, z_isi_int_int, z_isi_int_str, z_isi_int_list, z_isi_int_tuple, z_isi_bool_none, z_isi_bool_bool, z_isi_bool_int, z_isi_bool_str, z_isi_bool_list, z_isi_bool_tuple, z_isi_str_none, z_isi_str_bool, z_isi_str_int, z_isi_str_str, z_isi_str_list, z_isi_str_tuple, z_isi_list_none, z_isi_list_bool, z_isi_list_int, z_isi_list_str, z_isi_list_list, z_isi_list_tuple, z_isi_tuple_none, z_isi_tuple_bool, z_isi_tuple_int, z_isi_tuple_str, z_isi_tuple_list, z_isi_tuple_tuple, z_out_rt, z_out_nx, z_eqi, z_eqb, z_rng1, z_rng2, z_si_l, z_si_t, z_bind_nm, z_bind_tt, z_bind_tl, z_binds_n, z_binds_c, z_sl_l, z_sl_t, z_at0, z_at1, z_at2, z_at3, z_ixN0, z_intsn, z_intsc, z_boolsn, z_boolsc, d13, d7, f13, hx, ea, m1, m2, m3, m4, m5, es, List.map_cons]
theorem pow_grow (j : Nat) : (2 : Nat) ^ (30 * (j + 1)) = 2 ^ (30 * j) * 1073741824 := by
  rw [Nat.mul_add, Nat.pow_add]
theorem s_box (k : Nat) (ns : List Int) (i : Nat) (st : Bx) : ∃ n : Int, 0 ≤ n ∧ callF tb (k + 2) "_law_box" [.scr ns, .dat (.int i)] st = some (.ref st.length, st ++ [[.int n]]) := by
  rw [c__law_box]
  obtain ⟨c, hc⟩ := s_cell k ns i st
  have d2 : divOk 2 = true := by decide
  have f1 : fitsL 1 = true := by decide
  by_cases he : c % 2 = 0
  · refine ⟨(c.natAbs : Int) / 2, by omega, ?_⟩
    simp (decide := true) only [b__law_box, ↓reduceIte, Bool.not_true, Bool.not_false, decide_true, decide_false, wipeE, Bool.false_eq_true, y_e_c, y_e_v, y_e_g, y_e_never, y_e_bin, y_e_neg, y_e_tst, y_e_ite, y_e_tup, y_e_lst, y_e_box, y_e_ix, y_e_sl, y_e_rev, y_e_call, y_e_blt, y_e_isi, y_e_lc, y_es_nil, y_es_cons, y_o_no, y_o_yes, y_t_val, y_t_cmp, y_t_chn, y_t_isnt, y_t_isnf, z_nnr_dat, z_nnr_own, z_nnr_brw, z_nn_none, z_nn_bool, z_nn_int, z_nn_str, z_nn_list, z_nn_tuple, y_t_isb, y_t_and, y_t_or, y_t_not, y_h_last, y_h_link, y_al_one, y_al_cons, y_an_one, y_an_cons, y_c_no, y_c_yes, y_i_seq, y_i_rng, y_i_zip, y_i_enum, y_s_never, y_s_pass, y_s_asg, y_s_par, y_s_par3, y_s_setO, y_s_unp, y_s_setB, y_s_exp, y_s_app, y_s_ext, y_s_iff, y_s_whl, y_s_forr, y_s_ret, y_s_retv, y_s_frz, y_ss_nil, y_ss_cons, argsOf, views, caps, Option.map_some, Option.map_none, Option.bind_some, Option.bind_none, List.getElem?_cons_zero, List.getElem?_cons_succ, List.set_cons_zero, List.set_cons_succ, List.length_cons, List.length_nil, z_read_dat, z_read_ref, z_read_scr, z_read_own, z_view_own, z_view_brw, z_view_dat, z_cap_dat, z_cap_own, z_hold_dat, z_hold_ref, z_hold_scr, z_hold_own, z_arg_dat, z_arg_ref, z_arg_scr, z_arg_own, z_look_t, z_look_f, z_len_ref, z_len_scr, z_len_l, z_len_t, z_len_o, z_len_b, z_ix_ref, z_ix_scr, z_ix_l, z_ix_t, z_ix_o, z_ix_b, z_blt_len, z_blt_abs, z_blt_tup, z_blt_lst, z_blt_sum, z_blt_all, z_blt_any, z_blt_min, z_blt_max, z_blt_sorted, z_blt_repr, z_blt_str, z_blt_int, z_blt_divmod, z_d_abs, z_d_tupl, z_d_tupt, z_d_lstl, z_d_lstt, z_d_sum, z_d_all, z_d_any, z_d_minl, z_d_maxl, z_d_min, z_d_max, z_d_sorted, z_d_divmod, z_d_int, z_d_repr, z_d_str, z_bin_i, z_bin_ll, z_bin_tt, z_bin_rep, z_add, z_sub, z_mul, z_fdiv, z_mod, z_eq, z_ne, z_lt, z_le, z_gt, z_ge, z_inl, z_int, z_ninl, z_nint, z_isi_int_none, z_isi_int_bool, z_isi_int_int, z_isi_int_str, z_isi_int_list, z_isi_int_tuple, z_isi_bool_none, z_isi_bool_bool, z_isi_bool_int, z_isi_bool_str, z_isi_bool_list, z_isi_bool_tuple, z_isi_str_none, z_isi_str_bool, z_isi_str_int, z_isi_str_str, z_isi_str_list, z_isi_str_tuple, z_isi_list_none, z_isi_list_bool, z_isi_list_int, z_isi_list_str, z_isi_list_list, z_isi_list_tuple, z_isi_tuple_none, z_isi_tuple_bool, z_isi_tuple_int, z_isi_tuple_str, z_isi_tuple_list, z_isi_tuple_tuple, z_out_rt, z_out_nx, z_eqi, z_eqb, z_rng1, z_rng2, z_si_l, z_si_t, z_bind_nm, z_bind_tt, z_bind_tl, z_binds_n, z_binds_c, z_sl_l, z_sl_t, z_at0, z_at1, z_at2, z_at3, z_ixN0, z_intsn, z_intsc, z_boolsn, z_boolsc, hc, d2, f1, he]
  · have r40 : rngOk 40 = true := by decide
    obtain ⟨env1, st2, e1, x, n, hn0, hn1, e2, e3⟩ := den_for (cf := callF tb (k + 1)) (tg := .nm 4) (it := .rng (.cons (.c (.int 40)) .nil)) (b := lb__law_box_1) (env := [some (.scr ns), some (.dat (.int i)), some (.dat (.int c)), some (.dat (.int 0)), none]) (st := st) (st1 := st) (items := rngItems 0 40)
      (by simp only [↓reduceIte, Bool.not_true, Bool.not_false, decide_true, decide_false, wipeE, Bool.false_eq_true, y_e_c, y_e_v, y_e_g, y_e_never, y_e_bin, y_e_neg, y_e_tst, y_e_ite, y_e_tup, y_e_lst, y_e_box, y_e_ix, y_e_sl, y_e_rev, y_e_call, y_e_blt, y_e_isi, y_e_lc, y_es_nil, y_es_cons, y_o_no, y_o_yes, y_t_val, y_t_cmp, y_t_chn, y_t_isnt, y_t_isnf, z_nnr_dat, z_nnr_own, z_nnr_brw, z_nn_none, z_nn_bool, z_nn_int, z_nn_str, z_nn_list, z_nn_tuple, y_t_isb, y_t_and, y_t_or, y_t_not, y_h_last, y_h_link, y_al_one, y_al_cons, y_an_one, y_an_cons, y_c_no, y_c_yes, y_i_seq, y_i_rng, y_i_zip, y_i_enum, y_s_never, y_s_pass, y_s_asg, y_s_par, y_s_par3, y_s_setO, y_s_unp, y_s_setB, y_s_exp, y_s_app, y_s_ext, y_s_iff, y_s_whl, y_s_forr, y_s_ret, y_s_retv, y_s_frz, y_ss_nil, y_ss_cons, argsOf, views, caps, Option.map_some, Option.map_none, Option.bind_some, Option.bind_none, List.getElem?_cons_zero, List.getElem?_cons_succ, List.set_cons_zero, List.set_cons_succ, List.length_cons, List.length_nil, z_read_dat, z_read_ref, z_read_scr, z_read_own, z_view_own, z_view_brw, z_view_dat, z_cap_dat, z_cap_own, z_hold_dat, z_hold_ref, z_hold_scr, z_hold_own, z_arg_dat, z_arg_ref, z_arg_scr, z_arg_own, z_look_t, z_look_f, z_len_ref, z_len_scr, z_len_l, z_len_t, z_len_o, z_len_b, z_ix_ref, z_ix_scr, z_ix_l, z_ix_t, z_ix_o, z_ix_b, z_blt_len, z_blt_abs, z_blt_tup, z_blt_lst, z_blt_sum, z_blt_all, z_blt_any, z_blt_min, z_blt_max, z_blt_sorted, z_blt_repr, z_blt_str, z_blt_int, z_blt_divmod, z_d_abs, z_d_tupl, z_d_tupt, z_d_lstl, z_d_lstt, z_d_sum, z_d_all, z_d_any, z_d_minl, z_d_maxl, z_d_min, z_d_max, z_d_sorted, z_d_divmod, z_d_int, z_d_repr, z_d_str, z_bin_i, z_bin_ll, z_bin_tt, z_bin_rep, z_add, z_sub, z_mul, z_fdiv, z_mod, z_eq, z_ne, z_lt, z_le, z_gt, z_ge, z_inl, z_int, z_ninl, z_nint, z_isi_int_none, z_isi_int_bool, z_isi_int_int, z_isi_int_str, z_isi_int_list, z_isi_int_tuple, z_isi_bool_none, z_isi_bool_bool, z_isi_bool_int, z_isi_bool_str, z_isi_bool_list, z_isi_bool_tuple, z_isi_str_none, z_isi_str_bool, z_isi_str_int, z_isi_str_str, z_isi_str_list, z_isi_str_tuple, z_isi_list_none, z_isi_list_bool, z_isi_list_int, z_isi_list_str, z_isi_list_list, z_isi_list_tuple, z_isi_tuple_none, z_isi_tuple_bool, z_isi_tuple_int, z_isi_tuple_str, z_isi_tuple_list, z_isi_tuple_tuple, z_out_rt, z_out_nx, z_eqi, z_eqb, z_rng1, z_rng2, z_si_l, z_si_t, z_bind_nm, z_bind_tt, z_bind_tl, z_binds_n, z_binds_c, z_sl_l, z_sl_t, z_at0, z_at1, z_at2, z_at3, z_ixN0, z_intsn, z_intsc, z_boolsn, z_boolsc, r40]; rfl)
      (fun j env s => ∃ (x : Option R) (n : Int), 0 ≤ n ∧ n.natAbs < 2 ^ (30 * j) ∧ env = [some (.scr ns), some (.dat (.int i)), some (.dat (.int c)), some (.dat (.int n)), x] ∧ s = st)
      ⟨none, 0, by omega, by decide, rfl, rfl⟩ fun j d env s hd ⟨x, n, hn0, hn1, e, es⟩ => by
        obtain ⟨hj, ed⟩ := rngItems_get hd
        subst ed e es
        obtain ⟨m, hm0, hm1, hm⟩ := s_mix k c (0 + (j : Int)) s (by omega) (by omega)
        have mo : mulOk n 142857143 = true := mulOk_of (a := 30 * j) (b := 30) hn1 (by decide) (by omega)
        refine ⟨_, [some (.scr ns), some (.dat (.int i)), some (.dat (.int c)), some (.dat (.int (n * 142857143 + m))), some (.dat (.int (0 + (j : Int))))], s, z_bind_nm _ _ _, ?_, _, _, by omega, ?_, rfl, rfl⟩
        · simp only [lb__law_box_1, ↓reduceIte, Bool.not_true, Bool.not_false, decide_true, decide_false, wipeE, Bool.false_eq_true, y_e_c, y_e_v, y_e_g, y_e_never, y_e_bin, y_e_neg, y_e_tst, y_e_ite, y_e_tup, y_e_lst, y_e_box, y_e_ix, y_e_sl, y_e_rev, y_e_call, y_e_blt, y_e_isi, y_e_lc, y_es_nil, y_es_cons, y_o_no, y_o_yes, y_t_val, y_t_cmp, y_t_chn, y_t_isnt, y_t_isnf, z_nnr_dat, z_nnr_own, z_nnr_brw, z_nn_none, z_nn_bool, z_nn_int, z_nn_str, z_nn_list, z_nn_tuple, y_t_isb, y_t_and, y_t_or, y_t_not, y_h_last, y_h_link, y_al_one, y_al_cons, y_an_one, y_an_cons, y_c_no, y_c_yes, y_i_seq, y_i_rng, y_i_zip, y_i_enum, y_s_never, y_s_pass, y_s_asg, y_s_par, y_s_par3, y_s_setO, y_s_unp, y_s_setB, y_s_exp, y_s_app, y_s_ext, y_s_iff, y_s_whl, y_s_forr, y_s_ret, y_s_retv, y_s_frz, y_ss_nil, y_ss_cons, argsOf, views, caps, Option.map_some, Option.map_none, Option.bind_some, Option.bind_none, List.getElem?_cons_zero, List.getElem?_cons_succ, List.set_cons_zero, List.set_cons_succ, List.length_cons, List.length_nil, z_read_dat, z_read_ref, z_read_scr, z_read_own, z_view_own, z_view_brw, z_view_dat, z_cap_dat, z_cap_own, z_hold_dat, z_hold_ref, z_hold_scr, z_hold_own, z_arg_dat, z_arg_ref, z_arg_scr, z_arg_own, z_look_t, z_look_f, z_len_ref, z_len_scr, z_len_l, z_len_t, z_len_o, z_len_b, z_ix_ref, z_ix_scr, z_ix_l, z_ix_t, z_ix_o, z_ix_b, z_blt_len, z_blt_abs, z_blt_tup, z_blt_lst, z_blt_sum, z_blt_all, z_blt_any, z_blt_min, z_blt_max, z_blt_sorted, z_blt_repr, z_blt_str, z_blt_int, z_blt_divmod, z_d_abs, z_d_tupl, z_d_tupt, z_d_lstl, z_d_lstt, z_d_sum, z_d_all, z_d_any, z_d_minl, z_d_maxl, z_d_min, z_d_max, z_d_sorted, z_d_divmod, z_d_int, z_d_repr, z_d_str, z_bin_i, z_bin_ll, z_bin_tt, z_bin_rep, z_add, z_sub, z_mul, z_fdiv, z_mod, z_eq, z_ne, z_lt, z_le, z_gt, z_ge, z_inl, z_int, z_ninl, z_nint, z_isi_int_none, z_isi_int_bool, z_isi_int_int, z_isi_int_str, z_isi_int_list, z_isi_int_tuple, z_isi_bool_none, z_isi_bool_bool, z_isi_bool_int, z_isi_bool_str, z_isi_bool_list, z_isi_bool_tuple, z_isi_str_none, z_isi_str_bool, z_isi_str_int, z_isi_str_str, z_isi_str_list, z_isi_str_tuple, z_isi_list_none, z_isi_list_bool, z_isi_list_int, z_isi_list_str, z_isi_list_list, z_isi_list_tuple, z_isi_tuple_none, z_isi_tuple_bool, z_isi_tuple_int, z_isi_tuple_str, z_isi_tuple_list, z_isi_tuple_tuple, z_out_rt, z_out_nx, z_eqi, z_eqb, z_rng1, z_rng2, z_si_l, z_si_t, z_bind_nm, z_bind_tt, z_bind_tl, z_binds_n, z_binds_c, z_sl_l, z_sl_t, z_at0, z_at1, z_at2, z_at3, z_ixN0, z_intsn, z_intsc, z_boolsn, z_boolsc, hm, mo]
        · rw [pow_grow]
          have : 1 ≤ 2 ^ (30 * j) := Nat.one_le_two_pow
          omega
    subst e2 e3
    refine ⟨n, hn0, ?_⟩
    have e1' : Stm.den (callF tb (k + 1)) l__law_box_1 [some (.scr ns), some (.dat (.int i)), some (.dat (.int c)), some (.dat (.int 0)), none] st2 = _ := e1
    simp (decide := true) only [b__law_box, ↓reduceIte, Bool.not_true, Bool.not_false, decide_true, decide_false, wipeE, Bool.false_eq_true, y_e_c, y_e_v, y_e_g, y_e_never, y_e_bin, y_e_neg, y_e_tst, y_e_ite, y_e_tup, y_e_lst, y_e_box, y_e_ix, y_e_sl, y_e_rev, y_e_call, y_e_blt, y_e_isi, y_e_lc, y_es_nil, y_es_cons, y_o_no, y_o_yes, y_t_val, y_t_cmp, y_t_chn, y_t_isnt, y_t_isnf, z_nnr_dat, z_nnr_own, z_nnr_brw, z_nn_none, z_nn_bool, z_nn_int, z_nn_str, z_nn_list, z_nn_tuple, y_t_isb, y_t_and, y_t_or, y_t_not, y_h_last, y_h_link, y_al_one, y_al_cons, y_an_one, y_an_cons, y_c_no, y_c_yes, y_i_seq, y_i_rng, y_i_zip, y_i_enum, y_s_never, y_s_pass, y_s_asg, y_s_par, y_s_par3, y_s_setO, y_s_unp, y_s_setB, y_s_exp, y_s_app, y_s_ext, y_s_iff, y_s_whl, y_s_forr, y_s_ret, y_s_retv, y_s_frz, y_ss_nil, y_ss_cons, argsOf, views, caps, Option.map_some, Option.map_none, Option.bind_some, Option.bind_none, List.getElem?_cons_zero, List.getElem?_cons_succ, List.set_cons_zero, List.set_cons_succ, List.length_cons, List.length_nil, z_read_dat, z_read_ref, z_read_scr, z_read_own, z_view_own, z_view_brw, z_view_dat, z_cap_dat, z_cap_own, z_hold_dat, z_hold_ref, z_hold_scr, z_hold_own, z_arg_dat, z_arg_ref, z_arg_scr, z_arg_own, z_look_t, z_look_f, z_len_ref, z_len_scr, z_len_l, z_len_t, z_len_o, z_len_b, z_ix_ref, z_ix_scr, z_ix_l, z_ix_t, z_ix_o, z_ix_b, z_blt_len, z_blt_abs, z_blt_tup, z_blt_lst, z_blt_sum, z_blt_all, z_blt_any, z_blt_min, z_blt_max, z_blt_sorted, z_blt_repr, z_blt_str, z_blt_int, z_blt_divmod, z_d_abs, z_d_tupl, z_d_tupt, z_d_lstl, z_d_lstt, z_d_sum, z_d_all, z_d_any, z_d_minl, z_d_maxl, z_d_min, z_d_max, z_d_sorted, z_d_divmod, z_d_int, z_d_repr, z_d_str, z_bin_i, z_bin_ll, z_bin_tt, z_bin_rep, z_add, z_sub, z_mul, z_fdiv, z_mod, z_eq, z_ne, z_lt, z_le, z_gt, z_ge, z_inl, z_int, z_ninl, z_nint, z_isi_int_none, z_isi_int_bool, z_isi_int_int, z_isi_int_str, z_isi_int_list, z_isi_int_tuple, z_isi_bool_none, z_isi_bool_bool, z_isi_bool_int, z_isi_bool_str, z_isi_bool_list, z_isi_bool_tuple, z_isi_str_none, z_isi_str_bool, z_isi_str_int, z_isi_str_str, z_isi_str_list, z_isi_str_tuple, z_isi_list_none, z_isi_list_bool, z_isi_list_int, z_isi_list_str, z_isi_list_list, z_isi_list_tuple, z_isi_tuple_none, z_isi_tuple_bool, z_isi_tuple_int, z_isi_tuple_str, z_isi_tuple_list, z_isi_tuple_tuple, z_out_rt, z_out_nx, z_eqi, z_eqb, z_rng1, z_rng2, z_si_l, z_si_t, z_bind_nm, z_bind_tt, z_bind_tl, z_binds_n, z_binds_c, z_sl_l, z_sl_t, z_at0, z_at1, z_at2, z_at3, z_ixN0, z_intsn, z_intsc, z_boolsn, z_boolsc, hc, d2, f1, he, e1']

/-! whole numbers -/
def isW : PyData → Bool
  | .int _ => true
  | _ => false
theorem s_is_whole (k : Nat) (d : PyData) (st : Bx) : callF tb (k + 1) "is_whole" [.dat d] st = some (.dat (.bool (isW d)), st) := by
  rw [c_is_whole]
  have z1 : ∀ (t : Ty) (x : List (PyData × PyData)), isiD t (.dict x) = false := fun t x => by cases t <;> rfl
  cases d <;> simp only [b_is_whole, ↓reduceIte, Bool.not_true, Bool.not_false, decide_true, decide_false, wipeE, Bool.false_eq_true, y_e_c, y_e_v, y_e_g, y_e_never, y_e_bin, y_e_neg, y_e_tst, y_e_ite, y_e_tup, y_e_lst, y_e_box, y_e_ix, y_e_sl, y_e_rev, y_e_call, y_e_blt, y_e_isi, y_e_lc, y_es_nil, y_es_cons, y_o_no, y_o_yes, y_t_val, y_t_cmp, y_t_chn, y_t_isnt, y_t_isnf, z_nnr_dat, z_nnr_own, z_nnr_brw, z_nn_none, z_nn_bool, z_nn_int, z_nn_str, z_nn_list, z_nn_tuple, y_t_isb, y_t_and, y_t_or, y_t_not, y_h_last, y_h_link, y_al_one, y_al_cons, y_an_one, y_an_cons, y_c_no, y_c_yes, y_i_seq, y_i_rng, y_i_zip, y_i_enum, y_s_never, y_s_pass, y_s_asg, y_s_par, y_s_par3, y_s_setO, y_s_unp, y_s_setB, y_s_exp, y_s_app, y_s_ext, y_s_iff, y_s_whl, y_s_forr, y_s_ret, y_s_retv, y_s_frz, y_ss_nil, y_ss_cons, argsOf, views, caps, Option.map_some, Option.map_none, Option.bind_some, Option.bind_none, List.getElem?_cons_zero, List.getElem?_cons_succ, List.set_cons_zero, List.set_cons_succ, List.length_cons, List.length_nil, z_read_dat, z_read_ref, z_read_scr, z_read_own, z_view_own, z_view_brw, z_view_dat, z_cap_dat, z_cap_own, z_hold_dat, z_hold_ref, z_hold_scr, z_hold_own, z_arg_dat, z_arg_ref, z_arg_scr, z_arg_own, z_look_t, z_look_f, z_len_ref, z_len_scr, z_len_l, z_len_t, z_len_o, z_len_b, z_ix_ref, z_ix_scr, z_ix_l, z_ix_t, z_ix_o, z_ix_b, z_blt_len, z_blt_abs, z_blt_tup, z_blt_lst, z_blt_sum, z_blt_all, z_blt_any, z_blt_min, z_blt_max, z_blt_sorted, z_blt_repr, z_blt_str, z_blt_int, z_blt_divmod, z_d_abs, z_d_tupl, z_d_tupt, z_d_lstl, z_d_lstt, z_d_sum, z_d_all, z_d_any, z_d_minl, z_d_maxl, z_d_min, z_d_max, z_d_sorted, z_d_divmod, z_d_int, z_d_repr, z_d_str, z_bin_i, z_bin_ll, z_bin_tt, z_bin_rep, z_add, z_sub, z_mul, z_fdiv, z_mod, z_eq, z_ne, z_lt, z_le, z_gt, z_ge, z_inl, z_int, z_ninl, z_nint, z_isi_int_none, z_isi_int_bool, z_isi_int_int, z_isi_int_str, z_isi_int_list, z_isi_int_tuple, z_isi_bool_none, z_isi_bool_bool, z_isi_bool_int, z_isi_bool_str, z_isi_bool_list, z_isi_bool_tuple, z_isi_str_none, z_isi_str_bool, z_isi_str_int, z_isi_str_str, z_isi_str_list, z_isi_str_tuple, z_isi_list_none, z_isi_list_bool, z_isi_list_int, z_isi_list_str, z_isi_list_list, z_isi_list_tuple, z_isi_tuple_none, z_isi_tuple_bool, z_isi_tuple_int, z_isi_tuple_str, z_isi_tuple_list, z_isi_tuple_tuple, z_out_rt, z_out_nx, z_eqi, z_eqb, z_rng1, z_rng2, z_si_l, z_si_t, z_bind_nm, z_bind_tt, z_bind_tl, z_binds_n, z_binds_c, z_sl_l, z_sl_t, z_at0, z_at1, z_at2, z_at3, z_ixN0, z_intsn, z_intsc, z_boolsn, z_boolsc, isW, z1, Bool.not_true, Bool.not_false]
theorem bools_map (f : PyData → Bool) : ∀ ds : List PyData, boolsOf (ds.filterMap fun d => some (.bool (f d))) = some (ds.map f)
  | [] => rfl
  | d :: ds => by
    rw [List.filterMap_cons]
    simp only [z_boolsc, bools_map f ds, Option.map_some, List.map_cons]
theorem s_are_whole (k : Nat) (ds : List PyData) (m : Int) (st : Bx) (hl : ds.length ≤ 100000) :
    callF tb (k + 2) "are_whole" [.dat (.tuple ds), .dat (.int m)] st = some (.dat (.bool (decide ((ds.length : Int) = m) && ds.all isW)), st) := by
  rw [c_are_whole]
  have hq : ∀ x : Option R, Ex.den (callF tb (k + 1)) q_are_whole_1 [some (.dat (.tuple ds)), some (.dat (.int m)), x] st = some (.own (ds.filterMap fun d => some (.bool (isW d))), st) := fun x =>
    den_lc (by simp only [↓reduceIte, Bool.not_true, Bool.not_false, decide_true, decide_false, wipeE, Bool.false_eq_true, y_e_c, y_e_v, y_e_g, y_e_never, y_e_bin, y_e_neg, y_e_tst, y_e_ite, y_e_tup, y_e_lst, y_e_box, y_e_ix, y_e_sl, y_e_rev, y_e_call, y_e_blt, y_e_isi, y_e_lc, y_es_nil, y_es_cons, y_o_no, y_o_yes, y_t_val, y_t_cmp, y_t_chn, y_t_isnt, y_t_isnf, z_nnr_dat, z_nnr_own, z_nnr_brw, z_nn_none, z_nn_bool, z_nn_int, z_nn_str, z_nn_list, z_nn_tuple, y_t_isb, y_t_and, y_t_or, y_t_not, y_h_last, y_h_link, y_al_one, y_al_cons, y_an_one, y_an_cons, y_c_no, y_c_yes, y_i_seq, y_i_rng, y_i_zip, y_i_enum, y_s_never, y_s_pass, y_s_asg, y_s_par, y_s_par3, y_s_setO, y_s_unp, y_s_setB, y_s_exp, y_s_app, y_s_ext, y_s_iff, y_s_whl, y_s_forr, y_s_ret, y_s_retv, y_s_frz, y_ss_nil, y_ss_cons, argsOf, views, caps, Option.map_some, Option.map_none, Option.bind_some, Option.bind_none, List.getElem?_cons_zero, List.getElem?_cons_succ, List.set_cons_zero, List.set_cons_succ, List.length_cons, List.length_nil, z_read_dat, z_read_ref, z_read_scr, z_read_own, z_view_own, z_view_brw, z_view_dat, z_cap_dat, z_cap_own, z_hold_dat, z_hold_ref, z_hold_scr, z_hold_own, z_arg_dat, z_arg_ref, z_arg_scr, z_arg_own, z_look_t, z_look_f, z_len_ref, z_len_scr, z_len_l, z_len_t, z_len_o, z_len_b, z_ix_ref, z_ix_scr, z_ix_l, z_ix_t, z_ix_o, z_ix_b, z_blt_len, z_blt_abs, z_blt_tup, z_blt_lst, z_blt_sum, z_blt_all, z_blt_any, z_blt_min, z_blt_max, z_blt_sorted, z_blt_repr, z_blt_str, z_blt_int, z_blt_divmod, z_d_abs, z_d_tupl, z_d_tupt, z_d_lstl, z_d_lstt, z_d_sum, z_d_all, z_d_any, z_d_minl, z_d_maxl, z_d_min, z_d_max, z_d_sorted, z_d_divmod, z_d_int, z_d_repr, z_d_str, z_bin_i, z_bin_ll, z_bin_tt, z_bin_rep, z_add, z_sub, z_mul, z_fdiv, z_mod, z_eq, z_ne, z_lt, z_le, z_gt, z_ge, z_inl, z_int, z_ninl, z_nint, z_isi_int_none, z_isi_int_bool, z_isi_int_int, z_isi_int_str, z_isi_int_list, z_isi_int_tuple, z_isi_bool_none, z_isi_bool_bool, z_isi_bool_int, z_isi_bool_str, z_isi_bool_list, z_isi_bool_tuple, z_isi_str_none, z_isi_str_bool, z_isi_str_int, z_isi_str_str, z_isi_str_list, z_isi_str_tuple, z_isi_list_none, z_isi_list_bool, z_isi_list_int, z_isi_list_str, z_isi_list_list, z_isi_list_tuple, z_isi_tuple_none, z_isi_tuple_bool, z_isi_tuple_int, z_isi_tuple_str, z_isi_tuple_list, z_isi_tuple_tuple, z_out_rt, z_out_nx, z_eqi, z_eqb, z_rng1, z_rng2, z_si_l, z_si_t, z_bind_nm, z_bind_tt, z_bind_tl, z_binds_n, z_binds_c, z_sl_l, z_sl_t, z_at0, z_at1, z_at2, z_at3, z_ixN0, z_intsn, z_intsc, z_boolsn, z_boolsc]) _ (fun d hd => ⟨[some (.dat (.tuple ds)), some (.dat (.int m)), some (.dat d)], by simp only [↓reduceIte, Bool.not_true, Bool.not_false, decide_true, decide_false, wipeE, Bool.false_eq_true, y_e_c, y_e_v, y_e_g, y_e_never, y_e_bin, y_e_neg, y_e_tst, y_e_ite, y_e_tup, y_e_lst, y_e_box, y_e_ix, y_e_sl, y_e_rev, y_e_call, y_e_blt, y_e_isi, y_e_lc, y_es_nil, y_es_cons, y_o_no, y_o_yes, y_t_val, y_t_cmp, y_t_chn, y_t_isnt, y_t_isnf, z_nnr_dat, z_nnr_own, z_nnr_brw, z_nn_none, z_nn_bool, z_nn_int, z_nn_str, z_nn_list, z_nn_tuple, y_t_isb, y_t_and, y_t_or, y_t_not, y_h_last, y_h_link, y_al_one, y_al_cons, y_an_one, y_an_cons, y_c_no, y_c_yes, y_i_seq, y_i_rng, y_i_zip, y_i_enum, y_s_never, y_s_pass, y_s_asg, y_s_par, y_s_par3, y_s_setO, y_s_unp, y_s_setB, y_s_exp, y_s_app, y_s_ext, y_s_iff, y_s_whl, y_s_forr, y_s_ret, y_s_retv, y_s_frz, y_ss_nil, y_ss_cons, argsOf, views, caps, Option.map_some, Option.map_none, Option.bind_some, Option.bind_none, List.getElem?_cons_zero, List.getElem?_cons_succ, List.set_cons_zero, List.set_cons_succ, List.length_cons, List.length_nil, z_read_dat, z_read_ref, z_read_scr, z_read_own, z_view_own, z_view_brw, z_view_dat, z_cap_dat, z_cap_own, z_hold_dat, z_hold_ref, z_hold_scr, z_hold_own, z_arg_dat, z_arg_ref, z_arg_scr, z_arg_own, z_look_t, z_look_f, z_len_ref, z_len_scr, z_len_l, z_len_t, z_len_o, z_len_b, z_ix_ref, z_ix_scr, z_ix_l, z_ix_t, z_ix_o, z_ix_b, z_blt_len, z_blt_abs, z_blt_tup, z_blt_lst, z_blt_sum, z_blt_all, z_blt_any, z_blt_min, z_blt_max, z_blt_sorted, z_blt_repr, z_blt_str, z_blt_int, z_blt_divmod, z_d_abs, z_d_tupl, z_d_tupt, z_d_lstl, z_d_lstt, z_d_sum, z_d_all, z_d_any, z_d_minl, z_d_maxl, z_d_min, z_d_max, z_d_sorted, z_d_divmod, z_d_int, z_d_repr, z_d_str, z_bin_i, z_bin_ll, z_bin_tt, z_bin_rep, z_add, z_sub, z_mul, z_fdiv, z_mod, z_eq, z_ne, z_lt, z_le, z_gt, z_ge, z_inl, z_int, z_ninl, z_nint, z_isi_int_none, z_isi_int_bool, z_isi_int_int, z_isi_int_str, z_isi_int_list, z_isi_int_tuple, z_isi_bool_none, z_isi_bool_bool, z_isi_bool_int, z_isi_bool_str, z_isi_bool_list, z_isi_bool_tuple, z_isi_str_none, z_isi_str_bool, z_isi_str_int, z_isi_str_str, z_isi_str_list, z_isi_str_tuple, z_isi_list_none, z_isi_list_bool, z_isi_list_int, z_isi_list_str, z_isi_list_list, z_isi_list_tuple, z_isi_tuple_none, z_isi_tuple_bool, z_isi_tuple_int, z_isi_tuple_str, z_isi_tuple_list, z_isi_tuple_tuple, z_out_rt, z_out_nx, z_eqi, z_eqb, z_rng1, z_rng2, z_si_l, z_si_t, z_bind_nm, z_bind_tt, z_bind_tl, z_binds_n, z_binds_c, z_sl_l, z_sl_t, z_at0, z_at1, z_at2, z_at3, z_ixN0, z_intsn, z_intsc, z_boolsn, z_boolsc], .inr ⟨by simp only [↓reduceIte, Bool.not_true, Bool.not_false, decide_true, decide_false, wipeE, Bool.false_eq_true, y_e_c, y_e_v, y_e_g, y_e_never, y_e_bin, y_e_neg, y_e_tst, y_e_ite, y_e_tup, y_e_lst, y_e_box, y_e_ix, y_e_sl, y_e_rev, y_e_call, y_e_blt, y_e_isi, y_e_lc, y_es_nil, y_es_cons, y_o_no, y_o_yes, y_t_val, y_t_cmp, y_t_chn, y_t_isnt, y_t_isnf, z_nnr_dat, z_nnr_own, z_nnr_brw, z_nn_none, z_nn_bool, z_nn_int, z_nn_str, z_nn_list, z_nn_tuple, y_t_isb, y_t_and, y_t_or, y_t_not, y_h_last, y_h_link, y_al_one, y_al_cons, y_an_one, y_an_cons, y_c_no, y_c_yes, y_i_seq, y_i_rng, y_i_zip, y_i_enum, y_s_never, y_s_pass, y_s_asg, y_s_par, y_s_par3, y_s_setO, y_s_unp, y_s_setB, y_s_exp, y_s_app, y_s_ext, y_s_iff, y_s_whl, y_s_forr, y_s_ret, y_s_retv, y_s_frz, y_ss_nil, y_ss_cons, argsOf, views, caps, Option.map_some, Option.map_none, Option.bind_some, Option.bind_none, List.getElem?_cons_zero, List.getElem?_cons_succ, List.set_cons_zero, List.set_cons_succ, List.length_cons, List.length_nil, z_read_dat, z_read_ref, z_read_scr, z_read_own, z_view_own, z_view_brw, z_view_dat, z_cap_dat, z_cap_own, z_hold_dat, z_hold_ref, z_hold_scr, z_hold_own, z_arg_dat, z_arg_ref, z_arg_scr, z_arg_own, z_look_t, z_look_f, z_len_ref, z_len_scr, z_len_l, z_len_t, z_len_o, z_len_b, z_ix_ref, z_ix_scr, z_ix_l, z_ix_t, z_ix_o, z_ix_b, z_blt_len, z_blt_abs, z_blt_tup, z_blt_lst, z_blt_sum, z_blt_all, z_blt_any, z_blt_min, z_blt_max, z_blt_sorted, z_blt_repr, z_blt_str, z_blt_int, z_blt_divmod, z_d_abs, z_d_tupl, z_d_tupt, z_d_lstl, z_d_lstt, z_d_sum, z_d_all, z_d_any, z_d_minl, z_d_maxl, z_d_min, z_d_max, z_d_sorted, z_d_divmod, z_d_int, z_d_repr, z_d_str, z_bin_i, z_bin_ll, z_bin_tt, z_bin_rep, z_add, z_sub, z_mul, z_fdiv, z_mod, z_eq, z_ne, z_lt, z_le, z_gt, z_ge, z_inl, z_int, z_ninl, z_nint, z_isi_int_none, z_isi_int_bool, z_isi_int_int, z_isi_int_str, z_isi_int_list, z_isi_int_tuple, z_isi_bool_none, z_isi_bool_bool, z_isi_bool_int, z_isi_bool_str, z_isi_bool_list, z_isi_bool_tuple, z_isi_str_none, z_isi_str_bool, z_isi_str_int, z_isi_str_str, z_isi_str_list, z_isi_str_tuple, z_isi_list_none, z_isi_list_bool, z_isi_list_int, z_isi_list_str, z_isi_list_list, z_isi_list_tuple, z_isi_tuple_none, z_isi_tuple_bool, z_isi_tuple_int, z_isi_tuple_str, z_isi_tuple_list, z_isi_tuple_tuple, z_out_rt, z_out_nx, z_eqi, z_eqb, z_rng1, z_rng2, z_si_l, z_si_t, z_bind_nm, z_bind_tt, z_bind_tl, z_binds_n, z_binds_c, z_sl_l, z_sl_t, z_at0, z_at1, z_at2, z_at3, z_ixN0, z_intsn, z_intsc, z_boolsn, z_boolsc], .dat (.bool (isW d)), .bool (isW d), by simp only [↓reduceIte, Bool.not_true, Bool.not_false, decide_true, decide_false, wipeE, Bool.false_eq_true, y_e_c, y_e_v, y_e_g, y_e_never, y_e_bin, y_e_neg, y_e_tst, y_e_ite, y_e_tup, y_e_lst, y_e_box, y_e_ix, y_e_sl, y_e_rev, y_e_call, y_e_blt, y_e_isi, y_e_lc, y_es_nil, y_es_cons, y_o_no, y_o_yes, y_t_val, y_t_cmp, y_t_chn, y_t_isnt, y_t_isnf, z_nnr_dat, z_nnr_own, z_nnr_brw, z_nn_none, z_nn_bool, z_nn_int, z_nn_str, z_nn_list, z_nn_tuple, y_t_isb, y_t_and, y_t_or, y_t_not, y_h_last, y_h_link, y_al_one, y_al_cons, y_an_one, y_an_cons, y_c_no, y_c_yes, y_i_seq, y_i_rng, y_i_zip, y_i_enum, y_s_never, y_s_pass, y_s_asg, y_s_par, y_s_par3, y_s_setO, y_s_unp, y_s_setB, y_s_exp, y_s_app, y_s_ext, y_s_iff, y_s_whl, y_s_forr, y_s_ret, y_s_retv, y_s_frz, y_ss_nil, y_ss_cons, argsOf, views, caps, Option.map_some, Option.map_none, Option.bind_some, Option.bind_none, List.getElem?_cons_zero, List.getElem?_cons_succ, List.set_cons_zero, List.set_cons_succ, List.length_cons, List.length_nil, z_read_dat, z_read_ref, z_read_scr, z_read_own, z_view_own, z_view_brw, z_view_dat, z_cap_dat, z_cap_own, z_hold_dat, z_hold_ref, z_hold_scr, z_hold_own, z_arg_dat, z_arg_ref, z_arg_scr, z_arg_own, z_look_t, z_look_f, z_len_ref, z_len_scr, z_len_l, z_len_t, z_len_o, z_len_b, z_ix_ref, z_ix_scr, z_ix_l, z_ix_t, z_ix_o, z_ix_b, z_blt_len, z_blt_abs, z_blt_tup, z_blt_lst, z_blt_sum, z_blt_all, z_blt_any, z_blt_min, z_blt_max, z_blt_sorted, z_blt_repr, z_blt_str, z_blt_int, z_blt_divmod, z_d_abs, z_d_tupl, z_d_tupt, z_d_lstl, z_d_lstt, z_d_sum, z_d_all, z_d_any, z_d_minl, z_d_maxl, z_d_min, z_d_max, z_d_sorted, z_d_divmod, z_d_int, z_d_repr, z_d_str, z_bin_i, z_bin_ll, z_bin_tt, z_bin_rep, z_add, z_sub, z_mul, z_fdiv, z_mod, z_eq, z_ne, z_lt, z_le, z_gt, z_ge, z_inl, z_int, z_ninl, z_nint, z_isi_int_none, z_isi_int_bool, z_isi_int_int, z_isi_int_str, z_isi_int_list, z_isi_int_tuple, z_isi_bool_none, z_isi_bool_bool, z_isi_bool_int, z_isi_bool_str, z_isi_bool_list, z_isi_bool_tuple, z_isi_str_none, z_isi_str_bool, z_isi_str_int, z_isi_str_str, z_isi_str_list, z_isi_str_tuple, z_isi_list_none, z_isi_list_bool, z_isi_list_int, z_isi_list_str, z_isi_list_list, z_isi_list_tuple, z_isi_tuple_none, z_isi_tuple_bool, z_isi_tuple_int, z_isi_tuple_str, z_isi_tuple_list, z_isi_tuple_tuple, z_out_rt, z_out_nx, z_eqi, z_eqb, z_rng1, z_rng2, z_si_l, z_si_t, z_bind_nm, z_bind_tt, z_bind_tl, z_binds_n, z_binds_c, z_sl_l, z_sl_t, z_at0, z_at1, z_at2, z_at3, z_ixN0, z_intsn, z_intsc, z_boolsn, z_boolsc, s_is_whole k d st], rfl, rfl⟩⟩) hl
  by_cases h : (ds.length : Int) = m
  · simp only [b_are_whole, ↓reduceIte, Bool.not_true, Bool.not_false, decide_true, decide_false, wipeE, Bool.false_eq_true, y_e_c, y_e_v, y_e_g, y_e_never, y_e_bin, y_e_neg, y_e_tst, y_e_ite, y_e_tup, y_e_lst, y_e_box, y_e_ix, y_e_sl, y_e_rev, y_e_call, y_e_blt, y_e_isi, y_e_lc, y_es_nil, y_es_cons, y_o_no, y_o_yes, y_t_val, y_t_cmp, y_t_chn, y_t_isnt, y_t_isnf, z_nnr_dat, z_nnr_own, z_nnr_brw, z_nn_none, z_nn_bool, z_nn_int, z_nn_str, z_nn_list, z_nn_tuple, y_t_isb, y_t_and, y_t_or, y_t_not, y_h_last, y_h_link, y_al_one, y_al_cons, y_an_one, y_an_cons, y_c_no, y_c_yes, y_i_seq, y_i_rng, y_i_zip, y_i_enum, y_s_never, y_s_pass, y_s_asg, y_s_par, y_s_par3, y_s_setO, y_s_unp, y_s_setB, y_s_exp, y_s_app, y_s_ext, y_s_iff, y_s_whl, y_s_forr, y_s_ret, y_s_retv, y_s_frz, y_ss_nil, y_ss_cons, argsOf, views, caps, Option.map_some, Option.map_none, Option.bind_some, Option.bind_none, List.getElem?_cons_zero, List.getElem?_cons_succ, List.set_cons_zero, List.set_cons_succ, List.length_cons, List.length_nil, z_read_dat, z_read_ref, z_read_scr, z_read_own, z_view_own, z_view_brw, z_view_dat, z_cap_dat, z_cap_own, z_hold_dat, z_hold_ref, z_hold_scr, z_hold_own, z_arg_dat, z_arg_ref, z_arg_scr, z_arg_own, z_look_t, z_look_f, z_len_ref, z_len_scr, z_len_l, z_len_t, z_len_o, z_len_b, z_ix_ref, z_ix_scr, z_ix_l, z_ix_t, z_ix_o, z_ix_b, z_blt_len, z_blt_abs, z_blt_tup, z_blt_lst, z_blt_sum, z_blt_all, z_blt_any, z_blt_min, z_blt_max, z_blt_sorted, z_blt_repr, z_blt_str, z_blt_int, z_blt_divmod, z_d_abs, z_d_tupl, z_d_tupt, z_d_lstl, z_d_lstt, z_d_sum, z_d_all, z_d_any, z_d_minl, z_d_maxl, z_d_min, z_d_max, z_d_sorted, z_d_divmod, z_d_int, z_d_repr, z_d_str, z_bin_i, z_bin_ll, z_bin_tt, z_bin_rep, z_add, z_sub, z_mul, z_fdiv, z_mod, z_eq, z_ne, z_lt, z_le, z_gt, z_ge, z_inl, z_int, z_ninl, z_nint, z_isi_int_none, z_isi_int_bool, z_isi_int_int, z_isi_int_str, z_isi_int_list, z_isi_int_tuple, z_isi_bool_none, z_isi_bool_bool, z_isi_bool_int, z_isi_bool_str, z_isi_bool_list, z_isi_bool_tuple, z_isi_str_none, z_isi_str_bool, z_isi_str_int, z_isi_str_str, z_isi_str_list, z_isi_str_tuple, z_isi_list_none, z_isi_list_bool, z_isi_list_int, z_isi_list_str, z_isi_list_list, z_isi_list_tuple, z_isi_tuple_none, z_isi_tuple_bool, z_isi_tuple_int, z_isi_tuple_str, z_isi_tuple_list, z_isi_tuple_tuple, z_out_rt, z_out_nx, z_eqi, z_eqb, z_rng1, z_rng2, z_si_l, z_si_t, z_bind_nm, z_bind_tt, z_bind_tl, z_binds_n, z_binds_c, z_sl_l, z_sl_t, z_at0, z_at1, z_at2, z_at3, z_ixN0, z_intsn, z_intsc, z_boolsn, z_boolsc, hq, h, bools_map, Bool.true_and, List.all_map, Function.id_comp]
  · simp only [b_are_whole, ↓reduceIte, Bool.not_true, Bool.not_false, decide_true, decide_false, wipeE, Bool.false_eq_true, y_e_c, y_e_v, y_e_g, y_e_never, y_e_bin, y_e_neg, y_e_tst, y_e_ite, y_e_tup, y_e_lst, y_e_box, y_e_ix, y_e_sl, y_e_rev, y_e_call, y_e_blt, y_e_isi, y_e_lc, y_es_nil, y_es_cons, y_o_no, y_o_yes, y_t_val, y_t_cmp, y_t_chn, y_t_isnt, y_t_isnf, z_nnr_dat, z_nnr_own, z_nnr_brw, z_nn_none, z_nn_bool, z_nn_int, z_nn_str, z_nn_list, z_nn_tuple, y_t_isb, y_t_and, y_t_or, y_t_not, y_h_last, y_h_link, y_al_one, y_al_cons, y_an_one, y_an_cons, y_c_no, y_c_yes, y_i_seq, y_i_rng, y_i_zip, y_i_enum, y_s_never, y_s_pass, y_s_asg, y_s_par, y_s_par3, y_s_setO, y_s_unp, y_s_setB, y_s_exp, y_s_app, y_s_ext, y_s_iff, y_s_whl, y_s_forr, y_s_ret, y_s_retv, y_s_frz, y_ss_nil, y_ss_cons, argsOf, views, caps, Option.map_some, Option.map_none, Option.bind_some, Option.bind_none, List.getElem?_cons_zero, List.getElem?_cons_succ, List.set_cons_zero, List.set_cons_succ, List.length_cons, List.length_nil, z_read_dat, z_read_ref, z_read_scr, z_read_own, z_view_own, z_view_brw, z_view_dat, z_cap_dat, z_cap_own, z_hold_dat, z_hold_ref, z_hold_scr, z_hold_own, z_arg_dat, z_arg_ref, z_arg_scr, z_arg_own, z_look_t, z_look_f, z_len_ref, z_len_scr, z_len_l, z_len_t, z_len_o, z_len_b, z_ix_ref, z_ix_scr, z_ix_l, z_ix_t, z_ix_o, z_ix_b, z_blt_len, z_blt_abs, z_blt_tup, z_blt_lst, z_blt_sum, z_blt_all, z_blt_any, z_blt_min, z_blt_max, z_blt_sorted, z_blt_repr, z_blt_str, z_blt_int, z_blt_divmod, z_d_abs, z_d_tupl, z_d_tupt, z_d_lstl, z_d_lstt, z_d_sum, z_d_all, z_d_any, z_d_minl, z_d_maxl, z_d_min, z_d_max, z_d_sorted, z_d_divmod, z_d_int, z_d_repr, z_d_str, z_bin_i, z_bin_ll, z_bin_tt, z_bin_rep, z_add, z_sub, z_mul, z_fdiv, z_mod, z_eq, z_ne, z_lt, z_le, z_gt, z_ge, z_inl, z_int, z_ninl, z_nint, z_isi_int_none, z_isi_int_bool, z_isi_int_int, z_isi_int_str, z_isi_int_list, z_isi_int_tuple, z_isi_bool_none, z_isi_bool_bool, z_isi_bool_int, z_isi_bool_str, z_isi_bool_list, z_isi_bool_tuple, z_isi_str_none, z_isi_str_bool, z_isi_str_int, z_isi_str_str, z_isi_str_list, z_isi_str_tuple, z_isi_list_none, z_isi_list_bool, z_isi_list_int, z_isi_list_str, z_isi_list_list, z_isi_list_tuple, z_isi_tuple_none, z_isi_tuple_bool, z_isi_tuple_int, z_isi_tuple_str, z_isi_tuple_list, z_isi_tuple_tuple, z_out_rt, z_out_nx, z_eqi, z_eqb, z_rng1, z_rng2, z_si_l, z_si_t, z_bind_nm, z_bind_tt, z_bind_tl, z_binds_n, z_binds_c, z_sl_l, z_sl_t, z_at0, z_at1, z_at2, z_at3, z_ixN0, z_intsn, z_intsc, z_boolsn, z_boolsc, hq, h, Bool.false_and]

/-! determinants and pairs of steps; every number within 2^1000 -/
theorem s_det1 (k : Nat) (x : Int) (st : Bx) : callF tb (k + 1) "determinant" [.dat (.list [.tuple [.int x]])] st = some (.dat (.int x), st) := by
  rw [c_determinant]
  simp (decide := true) only [b_determinant, ↓reduceIte, Bool.not_true, Bool.not_false, decide_true, decide_false, wipeE, Bool.false_eq_true, y_e_c, y_e_v, y_e_g, y_e_never, y_e_bin, y_e_neg, y_e_tst, y_e_ite, y_e_tup, y_e_lst, y_e_box, y_e_ix, y_e_sl, y_e_rev, y_e_call, y_e_blt, y_e_isi, y_e_lc, y_es_nil, y_es_cons, y_o_no, y_o_yes, y_t_val, y_t_cmp, y_t_chn, y_t_isnt, y_t_isnf, z_nnr_dat, z_nnr_own, z_nnr_brw, z_nn_none, z_nn_bool, z_nn_int, z_nn_str, z_nn_list, z_nn_tuple, y_t_isb, y_t_and, y_t_or, y_t_not, y_h_last, y_h_link, y_al_one, y_al_cons, y_an_one, y_an_cons, y_c_no, y_c_yes, y_i_seq, y_i_rng, y_i_zip, y_i_enum, y_s_never, y_s_pass, y_s_asg, y_s_par, y_s_par3, y_s_setO, y_s_unp, y_s_setB, y_s_exp, y_s_app, y_s_ext, y_s_iff, y_s_whl, y_s_forr, y_s_ret, y_s_retv, y_s_frz, y_ss_nil, y_ss_cons, argsOf, views, caps, Option.map_some, Option.map_none, Option.bind_some, Option.bind_none, List.getElem?_cons_zero, List.getElem?_cons_succ, List.set_cons_zero, List.set_cons_succ, List.length_cons, List.length_nil, z_read_dat, z_read_ref, z_read_scr, z_read_own, z_view_own, z_view_brw, z_view_dat, z_cap_dat, z_cap_own, z_hold_dat, z_hold_ref, z_hold_scr, z_hold_own, z_arg_dat, z_arg_ref, z_arg_scr, z_arg_own, z_look_t, z_look_f, z_len_ref, z_len_scr, z_len_l, z_len_t, z_len_o, z_len_b, z_ix_ref, z_ix_scr, z_ix_l, z_ix_t, z_ix_o, z_ix_b, z_blt_len, z_blt_abs, z_blt_tup, z_blt_lst, z_blt_sum, z_blt_all, z_blt_any, z_blt_min, z_blt_max, z_blt_sorted, z_blt_repr, z_blt_str, z_blt_int, z_blt_divmod, z_d_abs, z_d_tupl, z_d_tupt, z_d_lstl, z_d_lstt, z_d_sum, z_d_all, z_d_any, z_d_minl, z_d_maxl, z_d_min, z_d_max, z_d_sorted, z_d_divmod, z_d_int, z_d_repr, z_d_str, z_bin_i, z_bin_ll, z_bin_tt, z_bin_rep, z_add, z_sub, z_mul, z_fdiv, z_mod, z_eq, z_ne, z_lt, z_le, z_gt, z_ge, z_inl, z_int, z_ninl, z_nint, z_isi_int_none, z_isi_int_bool, z_isi_int_int, z_isi_int_str, z_isi_int_list, z_isi_int_tuple, z_isi_bool_none, z_isi_bool_bool, z_isi_bool_int, z_isi_bool_str, z_isi_bool_list, z_isi_bool_tuple, z_isi_str_none, z_isi_str_bool, z_isi_str_int, z_isi_str_str, z_isi_str_list, z_isi_str_tuple, z_isi_list_none, z_isi_list_bool, z_isi_list_int, z_isi_list_str, z_isi_list_list, z_isi_list_tuple, z_isi_tuple_none, z_isi_tuple_bool, z_isi_tuple_int, z_isi_tuple_str, z_isi_tuple_list, z_isi_tuple_tuple, z_out_rt, z_out_nx, z_eqi, z_eqb, z_rng1, z_rng2, z_si_l, z_si_t, z_bind_nm, z_bind_tt, z_bind_tl, z_binds_n, z_binds_c, z_sl_l, z_sl_t, z_at0, z_at1, z_at2, z_at3, z_ixN0, z_intsn, z_intsc, z_boolsn, z_boolsc, z_eqs, z_fgn, z_fgc, z_lcn, z_lcc, rng_2, rng_3, z_en2, z_en3, z_zn, z_zn2, z_zc, cut2_a0, cut2_a1, cut2_b1, cut2_b2, cut3_a0, cut3_a1, cut3_a2, cut3_b1, cut3_b2, cut3_b3, List.nil_append, List.cons_append, Int.reduceAdd, Int.reduceSub, Int.reduceMul, Int.reduceMod, Int.reduceNeg, Int.reduceToNat, Nat.reduceAdd, Int.cast_ofNat_Int, Int.natCast_add]
theorem bd1000 {x : Int} (h1 : -(2 ^ 60) < x) (h2 : x < 2 ^ 60) : Bd 1000 x := (bd_s h1 h2).mono (by decide)
theorem s_det2 (k : Nat) (a b c d : Int) (st : Bx) (ha : Bd 1000 a) (hb : Bd 1000 b) (hc : Bd 1000 c) (hd : Bd 1000 d) :
    callF tb (k + 2) "determinant" [.dat (.tuple [.tuple [.int a, .int b], .tuple [.int c, .int d]])] st = some (.dat (.int (a * d - b * c)), st) := by
  rw [c_determinant]
  have m0 : mulOk 2 0 = true := by decide
  have m1 : mulOk 2 1 = true := by decide
  have m2 : mulOk 1 a = true := by exact Sy.mulOk_bd (by repeat' (first | assumption | apply Sy.bd_mul | apply Sy.bd_add | apply Sy.bd_sub | apply Sy.bd_neg | apply Sy.bd_abs | (exact Sy.bd_s (by decide) (by decide)) | (exact Sy.bd_s (by omega) (by omega)))) (by repeat' (first | assumption | apply Sy.bd_mul | apply Sy.bd_add | apply Sy.bd_sub | apply Sy.bd_neg | apply Sy.bd_abs | (exact Sy.bd_s (by decide) (by decide)) | (exact Sy.bd_s (by omega) (by omega)))) (by decide)
  have m3 : mulOk (-1) b = true := by exact Sy.mulOk_bd (by repeat' (first | assumption | apply Sy.bd_mul | apply Sy.bd_add | apply Sy.bd_sub | apply Sy.bd_neg | apply Sy.bd_abs | (exact Sy.bd_s (by decide) (by decide)) | (exact Sy.bd_s (by omega) (by omega)))) (by repeat' (first | assumption | apply Sy.bd_mul | apply Sy.bd_add | apply Sy.bd_sub | apply Sy.bd_neg | apply Sy.bd_abs | (exact Sy.bd_s (by decide) (by decide)) | (exact Sy.bd_s (by omega) (by omega)))) (by decide)
  have m4 : mulOk (1 * a) d = true := by exact Sy.mulOk_bd (by repeat' (first | assumption | apply Sy.bd_mul | apply Sy.bd_add | apply Sy.bd_sub | apply Sy.bd_neg | apply Sy.bd_abs | (exact Sy.bd_s (by decide) (by decide)) | (exact Sy.bd_s (by omega) (by omega)))) (by repeat' (first | assumption | apply Sy.bd_mul | apply Sy.bd_add | apply Sy.bd_sub | apply Sy.bd_neg | apply Sy.bd_abs | (exact Sy.bd_s (by decide) (by decide)) | (exact Sy.bd_s (by omega) (by omega)))) (by decide)
  have m5 : mulOk (-1 * b) c = true := by exact Sy.mulOk_bd (by repeat' (first | assumption | apply Sy.bd_mul | apply Sy.bd_add | apply Sy.bd_sub | apply Sy.bd_neg | apply Sy.bd_abs | (exact Sy.bd_s (by decide) (by decide)) | (exact Sy.bd_s (by omega) (by omega)))) (by repeat' (first | assumption | apply Sy.bd_mul | apply Sy.bd_add | apply Sy.bd_sub | apply Sy.bd_neg | apply Sy.bd_abs | (exact Sy.bd_s (by decide) (by decide)) | (exact Sy.bd_s (by omega) (by omega)))) (by decide)
  have f1 : fitsL 1 = true := by decide
  have e : 0 + 1 * a * d + -1 * b * c = a * d - b * c := by grind
  simp (decide := true) only [b_determinant, l_determinant_1, lb_determinant_1, q_determinant_1, ↓reduceIte, Bool.not_true, Bool.not_false, decide_true, decide_false, wipeE, Bool.false_eq_true, y_e_c, y_e_v, y_e_g, y_e_never, y_e_bin, y_e_neg, y_e_tst, y_e_ite, y_e_tup, y_e_lst, y_e_box, y_e_ix, y_e_sl, y_e_rev, y_e_call, y_e_blt, y_e_isi, y_e_lc, y_es_nil, y_es_cons, y_o_no, y_o_yes, y_t_val, y_t_cmp, y_t_chn, y_t_isnt, y_t_isnf, z_nnr_dat, z_nnr_own, z_nnr_brw, z_nn_none, z_nn_bool, z_nn_int, z_nn_str, z_nn_list, z_nn_tuple, y_t_isb, y_t_and, y_t_or, y_t_not, y_h_last, y_h_link, y_al_one, y_al_cons, y_an_one, y_an_cons, y_c_no, y_c_yes, y_i_seq, y_i_rng, y_i_zip, y_i_enum, y_s_never, y_s_pass, y_s_asg, y_s_par, y_s_par3, y_s_setO, y_s_unp, y_s_setB, y_s_exp, y_s_app, y_s_ext, y_s_iff, y_s_whl, y_s_forr, y_s_ret, y_s_retv, y_s_frz, y_ss_nil, y_ss_cons, argsOf, views, caps, Option.map_some, Option.map_none, Option.bind_some, Option.bind_none, List.getElem?_cons_zero, List.getElem?_cons_succ, List.set_cons_zero, List.set_cons_succ, List.length_cons, List.length_nil, z_read_dat, z_read_ref, z_read_scr, z_read_own, z_view_own, z_view_brw, z_view_dat, z_cap_dat, z_cap_own, z_hold_dat, z_hold_ref, z_hold_scr, z_hold_own, z_arg_dat, z_arg_ref, z_arg_scr, z_arg_own, z_look_t, z_look_f, z_len_ref, z_len_scr, z_len_l, z_len_t, z_len_o, z_len_b, z_ix_ref, z_ix_scr, z_ix_l, z_ix_t, z_ix_o, z_ix_b, z_blt_len, z_blt_abs, z_blt_tup, z_blt_lst, z_blt_sum, z_blt_all, z_blt_any, z_blt_min, z_blt_max, z_blt_sorted, z_blt_repr, z_blt_str, z_blt_int, z_blt_divmod, z_d_abs, z_d_tupl, z_d_tupt, z_d_lstl, z_d_lstt, z_d_sum, z_d_all, z_d_any, z_d_minl, z_d_maxl, z_d_min, z_d_max, z_d_sorted, z_d_divmod, z_d_int, z_d_repr, z_d_str, z_bin_i, z_bin_ll, z_bin_tt, z_bin_rep, z_add, z_sub, z_mul, z_fdiv, z_mod, z_eq, z_ne, z_lt, z_le, z_gt, z_ge, z_inl, z_int, z_ninl, z_nint, z_isi_int_none, z_isi_int_bool, z_isi_int_int, z_isi_int_str, z_isi_int_list, z_isi_int_tuple, z_isi_bool_none, z_isi_bool_bool, z_isi_bool_int, z_isi_bool_str, z_isi_bool_list, z_isi_bool_tuple, z_isi_str_none, z_isi_str_bool, z_isi_str_int, z_isi_str_str, z_isi_str_list, z_isi_str_tuple, z_isi_list_none, z_isi_list_bool, z_isi_list_int, z_isi_list_str, z_isi_list_list, z_isi_list_tuple, z_isi_tuple_none, z_isi_tuple_bool, z_isi_tuple_int, z_isi_tuple_str, z_isi_tuple_list, z_isi_tuple_tuple, z_out_rt, z_out_nx, z_eqi, z_eqb, z_rng1, z_rng2, z_si_l, z_si_t, z_bind_nm, z_bind_tt, z_bind_tl, z_binds_n, z_binds_c, z_sl_l, z_sl_t, z_at0, z_at1, z_at2, z_at3, z_ixN0, z_intsn, z_intsc, z_boolsn, z_boolsc, z_eqs, z_fgn, z_fgc, z_lcn, z_lcc, rng_2, rng_3, z_en2, z_en3, z_zn, z_zn2, z_zc, cut2_a0, cut2_a1, cut2_b1, cut2_b2, cut3_a0, cut3_a1, cut3_a2, cut3_b1, cut3_b2, cut3_b3, List.nil_append, List.cons_append, Int.reduceAdd, Int.reduceSub, Int.reduceMul, Int.reduceMod, Int.reduceNeg, Int.reduceToNat, Nat.reduceAdd, Int.cast_ofNat_Int, Int.natCast_add, s_det1, m0, m1, m2, m3, m4, m5, f1, e]
theorem s_is_steps2 (k : Nat) (a b c d : Int) (st : Bx) (ha : Bd 1000 a) (hb : Bd 1000 b) (hc : Bd 1000 c) (hd : Bd 1000 d) :
    callF tb (k + 3) "is_steps" [.dat (.tuple [.tuple [.int a, .int b], .tuple [.int c, .int d]])] st = some (.dat (.bool (decide (a * d - b * c ≠ 0))), st) := by
  rw [c_is_steps]
  have hin : inD (.int 2) [.int 2, .int 3] = some true := by decide
  have f2 : fitsL 2 = true := by decide
  have h1 : callF tb (k + 2) "are_whole" [.dat (.tuple [.int a, .int b]), .dat (.int 2)] st = some (.dat (.bool true), st) := s_are_whole k [.int a, .int b] 2 st (by simp)
  have h2 : callF tb (k + 2) "are_whole" [.dat (.tuple [.int c, .int d]), .dat (.int 2)] st = some (.dat (.bool true), st) := s_are_whole k [.int c, .int d] 2 st (by simp)
  by_cases h : a * d - b * c = 0 <;>
    simp (decide := true) only [b_is_steps, q_is_steps_1, ↓reduceIte, Bool.not_true, Bool.not_false, decide_true, decide_false, wipeE, Bool.false_eq_true, y_e_c, y_e_v, y_e_g, y_e_never, y_e_bin, y_e_neg, y_e_tst, y_e_ite, y_e_tup, y_e_lst, y_e_box, y_e_ix, y_e_sl, y_e_rev, y_e_call, y_e_blt, y_e_isi, y_e_lc, y_es_nil, y_es_cons, y_o_no, y_o_yes, y_t_val, y_t_cmp, y_t_chn, y_t_isnt, y_t_isnf, z_nnr_dat, z_nnr_own, z_nnr_brw, z_nn_none, z_nn_bool, z_nn_int, z_nn_str, z_nn_list, z_nn_tuple, y_t_isb, y_t_and, y_t_or, y_t_not, y_h_last, y_h_link, y_al_one, y_al_cons, y_an_one, y_an_cons, y_c_no, y_c_yes, y_i_seq, y_i_rng, y_i_zip, y_i_enum, y_s_never, y_s_pass, y_s_asg, y_s_par, y_s_par3, y_s_setO, y_s_unp, y_s_setB, y_s_exp, y_s_app, y_s_ext, y_s_iff, y_s_whl, y_s_forr, y_s_ret, y_s_retv, y_s_frz, y_ss_nil, y_ss_cons, argsOf, views, caps, Option.map_some, Option.map_none, Option.bind_some, Option.bind_none, List.getElem?_cons_zero, List.getElem?_cons_succ, List.set_cons_zero, List.set_cons_succ, List.length_cons, List.length_nil, z_read_dat, z_read_ref, z_read_scr, z_read_own, z_view_own, z_view_brw, z_view_dat, z_cap_dat, z_cap_own, z_hold_dat, z_hold_ref, z_hold_scr, z_hold_own, z_arg_dat, z_arg_ref, z_arg_scr, z_arg_own, z_look_t, z_look_f, z_len_ref, z_len_scr, z_len_l, z_len_t, z_len_o, z_len_b, z_ix_ref, z_ix_scr, z_ix_l, z_ix_t, z_ix_o, z_ix_b, z_blt_len, z_blt_abs, z_blt_tup, z_blt_lst, z_blt_sum, z_blt_all, z_blt_any, z_blt_min, z_blt_max, z_blt_sorted, z_blt_repr, z_blt_str, z_blt_int, z_blt_divmod, z_d_abs, z_d_tupl, z_d_tupt, z_d_lstl, z_d_lstt, z_d_sum, z_d_all, z_d_any, z_d_minl, z_d_maxl, z_d_min, z_d_max, z_d_sorted, z_d_divmod, z_d_int, z_d_repr, z_d_str, z_bin_i, z_bin_ll, z_bin_tt, z_bin_rep, z_add, z_sub, z_mul, z_fdiv, z_mod, z_eq, z_ne, z_lt, z_le, z_gt, z_ge, z_inl, z_int, z_ninl, z_nint, z_isi_int_none, z_isi_int_bool, z_isi_int_int, z_isi_int_str, z_isi_int_list, z_isi_int_tuple, z_isi_bool_none, z_isi_bool_bool, z_isi_bool_int, z_isi_bool_str, z_isi_bool_list, z_isi_bool_tuple, z_isi_str_none, z_isi_str_bool, z_isi_str_int, z_isi_str_str, z_isi_str_list, z_isi_str_tuple, z_isi_list_none, z_isi_list_bool, z_isi_list_int, z_isi_list_str, z_isi_list_list, z_isi_list_tuple, z_isi_tuple_none, z_isi_tuple_bool, z_isi_tuple_int, z_isi_tuple_str, z_isi_tuple_list, z_isi_tuple_tuple, z_out_rt, z_out_nx, z_eqi, z_eqb, z_rng1, z_rng2, z_si_l, z_si_t, z_bind_nm, z_bind_tt, z_bind_tl, z_binds_n, z_binds_c, z_sl_l, z_sl_t, z_at0, z_at1, z_at2, z_at3, z_ixN0, z_intsn, z_intsc, z_boolsn, z_boolsc, z_eqs, z_fgn, z_fgc, z_lcn, z_lcc, rng_2, rng_3, z_en2, z_en3, z_zn, z_zn2, z_zc, cut2_a0, cut2_a1, cut2_b1, cut2_b2, cut3_a0, cut3_a1, cut3_a2, cut3_b1, cut3_b2, cut3_b3, List.nil_append, List.cons_append, Int.reduceAdd, Int.reduceSub, Int.reduceMul, Int.reduceMod, Int.reduceNeg, Int.reduceToNat, Nat.reduceAdd, Int.cast_ofNat_Int, Int.natCast_add, hin, f2, h1, h2, h, s_det2 k a b c d st ha hb hc hd, ne_eq, not_true_eq_false, not_false_eq_true, Bool.not_true, Bool.not_false, List.all_cons, List.all_nil, id, Bool.and_self]
theorem s_need_pair (k : Nat) (a b c d : Int) (st : Bx) (ha : Bd 1000 a) (hb : Bd 1000 b) (hc : Bd 1000 c) (hd : Bd 1000 d) (h : a * d - b * c ≠ 0) :
    callF tb (k + 4) "need_pair" [.dat (.tuple [.tuple [.int a, .int b], .tuple [.int c, .int d]])] st = some (.dat .none, st) := by
  rw [c_need_pair]
  have h1 := s_is_steps2 k a b c d st ha hb hc hd
  rw [decide_eq_true h] at h1
  simp (decide := true) only [b_need_pair, ↓reduceIte, Bool.not_true, Bool.not_false, decide_true, decide_false, wipeE, Bool.false_eq_true, y_e_c, y_e_v, y_e_g, y_e_never, y_e_bin, y_e_neg, y_e_tst, y_e_ite, y_e_tup, y_e_lst, y_e_box, y_e_ix, y_e_sl, y_e_rev, y_e_call, y_e_blt, y_e_isi, y_e_lc, y_es_nil, y_es_cons, y_o_no, y_o_yes, y_t_val, y_t_cmp, y_t_chn, y_t_isnt, y_t_isnf, z_nnr_dat, z_nnr_own, z_nnr_brw, z_nn_none, z_nn_bool, z_nn_int, z_nn_str, z_nn_list, z_nn_tuple, y_t_isb, y_t_and, y_t_or, y_t_not, y_h_last, y_h_link, y_al_one, y_al_cons, y_an_one, y_an_cons, y_c_no, y_c_yes, y_i_seq, y_i_rng, y_i_zip, y_i_enum, y_s_never, y_s_pass, y_s_asg, y_s_par, y_s_par3, y_s_setO, y_s_unp, y_s_setB, y_s_exp, y_s_app, y_s_ext, y_s_iff, y_s_whl, y_s_forr, y_s_ret, y_s_retv, y_s_frz, y_ss_nil, y_ss_cons, argsOf, views, caps, Option.map_some, Option.map_none, Option.bind_some, Option.bind_none, List.getElem?_cons_zero, List.getElem?_cons_succ, List.set_cons_zero, List.set_cons_succ, List.length_cons, List.length_nil, z_read_dat, z_read_ref, z_read_scr, z_read_own, z_view_own, z_view_brw, z_view_dat, z_cap_dat, z_cap_own, z_hold_dat, z_hold_ref, z_hold_scr, z_hold_own, z_arg_dat, z_arg_ref, z_arg_scr, z_arg_own, z_look_t, z_look_f, z_len_ref, z_len_scr, z_len_l, z_len_t, z_len_o, z_len_b, z_ix_ref, z_ix_scr, z_ix_l, z_ix_t, z_ix_o, z_ix_b, z_blt_len, z_blt_abs, z_blt_tup, z_blt_lst, z_blt_sum, z_blt_all, z_blt_any, z_blt_min, z_blt_max, z_blt_sorted, z_blt_repr, z_blt_str, z_blt_int, z_blt_divmod, z_d_abs, z_d_tupl, z_d_tupt, z_d_lstl, z_d_lstt, z_d_sum, z_d_all, z_d_any, z_d_minl, z_d_maxl, z_d_min, z_d_max, z_d_sorted, z_d_divmod, z_d_int, z_d_repr, z_d_str, z_bin_i, z_bin_ll, z_bin_tt, z_bin_rep, z_add, z_sub, z_mul, z_fdiv, z_mod, z_eq, z_ne, z_lt, z_le, z_gt, z_ge, z_inl, z_int, z_ninl, z_nint, z_isi_int_none, z_isi_int_bool, z_isi_int_int, z_isi_int_str, z_isi_int_list, z_isi_int_tuple, z_isi_bool_none, z_isi_bool_bool, z_isi_bool_int, z_isi_bool_str, z_isi_bool_list, z_isi_bool_tuple, z_isi_str_none, z_isi_str_bool, z_isi_str_int, z_isi_str_str, z_isi_str_list, z_isi_str_tuple, z_isi_list_none, z_isi_list_bool, z_isi_list_int, z_isi_list_str, z_isi_list_list, z_isi_list_tuple, z_isi_tuple_none, z_isi_tuple_bool, z_isi_tuple_int, z_isi_tuple_str, z_isi_tuple_list, z_isi_tuple_tuple, z_out_rt, z_out_nx, z_eqi, z_eqb, z_rng1, z_rng2, z_si_l, z_si_t, z_bind_nm, z_bind_tt, z_bind_tl, z_binds_n, z_binds_c, z_sl_l, z_sl_t, z_at0, z_at1, z_at2, z_at3, z_ixN0, z_intsn, z_intsc, z_boolsn, z_boolsc, z_eqs, z_fgn, z_fgc, z_lcn, z_lcc, rng_2, rng_3, z_en2, z_en3, z_zn, z_zn2, z_zc, cut2_a0, cut2_a1, cut2_b1, cut2_b2, cut3_a0, cut3_a1, cut3_a2, cut3_b1, cut3_b2, cut3_b3, List.nil_append, List.cons_append, Int.reduceAdd, Int.reduceSub, Int.reduceMul, Int.reduceMod, Int.reduceNeg, Int.reduceToNat, Nat.reduceAdd, Int.cast_ofNat_Int, Int.natCast_add, h1, Bool.not_true]

/-! drawn numbers, points, pairs -/
theorem s_num (k n : Nat) (x s : Int) (st : Bx) (h : st[n]? = some [.int x]) (hs : 0 ≤ s) (hs2 : s < 2 ^ 58) :
    ∃ v y, -s ≤ v ∧ v ≤ s ∧ callF tb (k + 2) "_law_drawn_number" [.ref n, .dat (.int s)] st = some (.dat (.int v), st.set n [.int y]) := by
  rw [c__law_drawn_number]
  have t := s_take k n (2 * s + 1) x st h (by omega) (by omega)
  have m : mulOk 2 s = true := mulOk_s (by decide) (by decide) (by omega) (by omega)
  have h1 := Int.emod_nonneg x (show 2 * s + 1 ≠ 0 by omega)
  have h2 := Int.emod_lt_of_pos x (show 0 < 2 * s + 1 by omega)
  refine ⟨x % (2 * s + 1) - s, x / (2 * s + 1), by omega, by omega, ?_⟩
  simp (decide := true) only [b__law_drawn_number, ↓reduceIte, Bool.not_true, Bool.not_false, decide_true, decide_false, wipeE, Bool.false_eq_true, y_e_c, y_e_v, y_e_g, y_e_never, y_e_bin, y_e_neg, y_e_tst, y_e_ite, y_e_tup, y_e_lst, y_e_box, y_e_ix, y_e_sl, y_e_rev, y_e_call, y_e_blt, y_e_isi, y_e_lc, y_es_nil, y_es_cons, y_o_no, y_o_yes, y_t_val, y_t_cmp, y_t_chn, y_t_isnt, y_t_isnf, z_nnr_dat, z_nnr_own, z_nnr_brw, z_nn_none, z_nn_bool, z_nn_int, z_nn_str, z_nn_list, z_nn_tuple, y_t_isb, y_t_and, y_t_or, y_t_not, y_h_last, y_h_link, y_al_one, y_al_cons, y_an_one, y_an_cons, y_c_no, y_c_yes, y_i_seq, y_i_rng, y_i_zip, y_i_enum, y_s_never, y_s_pass, y_s_asg, y_s_par, y_s_par3, y_s_setO, y_s_unp, y_s_setB, y_s_exp, y_s_app, y_s_ext, y_s_iff, y_s_whl, y_s_forr, y_s_ret, y_s_retv, y_s_frz, y_ss_nil, y_ss_cons, argsOf, views, caps, Option.map_some, Option.map_none, Option.bind_some, Option.bind_none, List.getElem?_cons_zero, List.getElem?_cons_succ, List.set_cons_zero, List.set_cons_succ, List.length_cons, List.length_nil, z_read_dat, z_read_ref, z_read_scr, z_read_own, z_view_own, z_view_brw, z_view_dat, z_cap_dat, z_cap_own, z_hold_dat, z_hold_ref, z_hold_scr, z_hold_own, z_arg_dat, z_arg_ref, z_arg_scr, z_arg_own, z_look_t, z_look_f, z_len_ref, z_len_scr, z_len_l, z_len_t, z_len_o, z_len_b, z_ix_ref, z_ix_scr, z_ix_l, z_ix_t, z_ix_o, z_ix_b, z_blt_len, z_blt_abs, z_blt_tup, z_blt_lst, z_blt_sum, z_blt_all, z_blt_any, z_blt_min, z_blt_max, z_blt_sorted, z_blt_repr, z_blt_str, z_blt_int, z_blt_divmod, z_d_abs, z_d_tupl, z_d_tupt, z_d_lstl, z_d_lstt, z_d_sum, z_d_all, z_d_any, z_d_minl, z_d_maxl, z_d_min, z_d_max, z_d_sorted, z_d_divmod, z_d_int, z_d_repr, z_d_str, z_bin_i, z_bin_ll, z_bin_tt, z_bin_rep, z_add, z_sub, z_mul, z_fdiv, z_mod, z_eq, z_ne, z_lt, z_le, z_gt, z_ge, z_inl, z_int, z_ninl, z_nint, z_isi_int_none, z_isi_int_bool, z_isi_int_int, z_isi_int_str, z_isi_int_list, z_isi_int_tuple, z_isi_bool_none, z_isi_bool_bool, z_isi_bool_int, z_isi_bool_str, z_isi_bool_list, z_isi_bool_tuple, z_isi_str_none, z_isi_str_bool, z_isi_str_int, z_isi_str_str, z_isi_str_list, z_isi_str_tuple, z_isi_list_none, z_isi_list_bool, z_isi_list_int, z_isi_list_str, z_isi_list_list, z_isi_list_tuple, z_isi_tuple_none, z_isi_tuple_bool, z_isi_tuple_int, z_isi_tuple_str, z_isi_tuple_list, z_isi_tuple_tuple, z_out_rt, z_out_nx, z_eqi, z_eqb, z_rng1, z_rng2, z_si_l, z_si_t, z_bind_nm, z_bind_tt, z_bind_tl, z_binds_n, z_binds_c, z_sl_l, z_sl_t, z_at0, z_at1, z_at2, z_at3, z_ixN0, z_intsn, z_intsc, z_boolsn, z_boolsc, m, t]
theorem s_point2 (k n : Nat) (x s : Int) (st : Bx) (h : st[n]? = some [.int x]) (hs : 0 ≤ s) (hs2 : s < 2 ^ 58) :
    ∃ u v y, -s ≤ u ∧ u ≤ s ∧ -s ≤ v ∧ v ≤ s ∧ callF tb (k + 3) "_law_drawn_point" [.ref n, .dat (.int 2), .dat (.int s)] st = some (.dat (.tuple [.int u, .int v]), st.set n [.int y]) := by
  rw [c__law_drawn_point]
  obtain ⟨u, y1, u1, u2, e1⟩ := s_num k n x s st h hs hs2
  obtain ⟨v, y2, v1, v2, e2⟩ := s_num k n y1 s _ (get_set h (z := [.int y1])) hs hs2
  rw [List.set_set] at e2
  have r2 : rngOk 2 = true := by decide
  refine ⟨u, v, y2, u1, u2, v1, v2, ?_⟩
  simp (decide := true) only [b__law_drawn_point, q__law_drawn_point_1, ↓reduceIte, Bool.not_true, Bool.not_false, decide_true, decide_false, wipeE, Bool.false_eq_true, y_e_c, y_e_v, y_e_g, y_e_never, y_e_bin, y_e_neg, y_e_tst, y_e_ite, y_e_tup, y_e_lst, y_e_box, y_e_ix, y_e_sl, y_e_rev, y_e_call, y_e_blt, y_e_isi, y_e_lc, y_es_nil, y_es_cons, y_o_no, y_o_yes, y_t_val, y_t_cmp, y_t_chn, y_t_isnt, y_t_isnf, z_nnr_dat, z_nnr_own, z_nnr_brw, z_nn_none, z_nn_bool, z_nn_int, z_nn_str, z_nn_list, z_nn_tuple, y_t_isb, y_t_and, y_t_or, y_t_not, y_h_last, y_h_link, y_al_one, y_al_cons, y_an_one, y_an_cons, y_c_no, y_c_yes, y_i_seq, y_i_rng, y_i_zip, y_i_enum, y_s_never, y_s_pass, y_s_asg, y_s_par, y_s_par3, y_s_setO, y_s_unp, y_s_setB, y_s_exp, y_s_app, y_s_ext, y_s_iff, y_s_whl, y_s_forr, y_s_ret, y_s_retv, y_s_frz, y_ss_nil, y_ss_cons, argsOf, views, caps, Option.map_some, Option.map_none, Option.bind_some, Option.bind_none, List.getElem?_cons_zero, List.getElem?_cons_succ, List.set_cons_zero, List.set_cons_succ, List.length_cons, List.length_nil, z_read_dat, z_read_ref, z_read_scr, z_read_own, z_view_own, z_view_brw, z_view_dat, z_cap_dat, z_cap_own, z_hold_dat, z_hold_ref, z_hold_scr, z_hold_own, z_arg_dat, z_arg_ref, z_arg_scr, z_arg_own, z_look_t, z_look_f, z_len_ref, z_len_scr, z_len_l, z_len_t, z_len_o, z_len_b, z_ix_ref, z_ix_scr, z_ix_l, z_ix_t, z_ix_o, z_ix_b, z_blt_len, z_blt_abs, z_blt_tup, z_blt_lst, z_blt_sum, z_blt_all, z_blt_any, z_blt_min, z_blt_max, z_blt_sorted, z_blt_repr, z_blt_str, z_blt_int, z_blt_divmod, z_d_abs, z_d_tupl, z_d_tupt, z_d_lstl, z_d_lstt, z_d_sum, z_d_all, z_d_any, z_d_minl, z_d_maxl, z_d_min, z_d_max, z_d_sorted, z_d_divmod, z_d_int, z_d_repr, z_d_str, z_bin_i, z_bin_ll, z_bin_tt, z_bin_rep, z_add, z_sub, z_mul, z_fdiv, z_mod, z_eq, z_ne, z_lt, z_le, z_gt, z_ge, z_inl, z_int, z_ninl, z_nint, z_isi_int_none, z_isi_int_bool, z_isi_int_int, z_isi_int_str, z_isi_int_list, z_isi_int_tuple, z_isi_bool_none, z_isi_bool_bool, z_isi_bool_int, z_isi_bool_str, z_isi_bool_list, z_isi_bool_tuple, z_isi_str_none, z_isi_str_bool, z_isi_str_int, z_isi_str_str, z_isi_str_list, z_isi_str_tuple, z_isi_list_none, z_isi_list_bool, z_isi_list_int, z_isi_list_str, z_isi_list_list, z_isi_list_tuple, z_isi_tuple_none, z_isi_tuple_bool, z_isi_tuple_int, z_isi_tuple_str, z_isi_tuple_list, z_isi_tuple_tuple, z_out_rt, z_out_nx, z_eqi, z_eqb, z_rng1, z_rng2, z_si_l, z_si_t, z_bind_nm, z_bind_tt, z_bind_tl, z_binds_n, z_binds_c, z_sl_l, z_sl_t, z_at0, z_at1, z_at2, z_at3, z_ixN0, z_intsn, z_intsc, z_boolsn, z_boolsc, z_eqs, z_fgn, z_fgc, z_lcn, z_lcc, rng_2, rng_3, z_en2, z_en3, z_zn, z_zn2, z_zc, cut2_a0, cut2_a1, cut2_b1, cut2_b2, cut3_a0, cut3_a1, cut3_a2, cut3_b1, cut3_b2, cut3_b3, List.nil_append, List.cons_append, Int.reduceAdd, Int.reduceSub, Int.reduceMul, Int.reduceMod, Int.reduceNeg, Int.reduceToNat, Nat.reduceAdd, Int.cast_ofNat_Int, Int.natCast_add, r2, e1, e2]
theorem s_pair (k n : Nat) (x s : Int) (st : Bx) (h : st[n]? = some [.int x]) (hs : 0 ≤ s) (hs2 : s < 2 ^ 58) :
    ∃ a b c d y, (-(s + 2) ≤ a ∧ a ≤ s + 2) ∧ (-(s + 2) ≤ b ∧ b ≤ s + 2) ∧ (-(s + 2) ≤ c ∧ c ≤ s + 2) ∧ (-(s + 2) ≤ d ∧ d ≤ s + 2) ∧ a * d - b * c ≠ 0 ∧
      callF tb (k + 4) "_law_drawn_pair" [.ref n, .dat (.int s)] st = some (.dat (.tuple [.tuple [.int a, .int b], .tuple [.int c, .int d]]), st.set n [.int y]) := by
  rw [c__law_drawn_pair]
  obtain ⟨a, b, y1, a1, a2, b1, b2, e1⟩ := s_point2 k n x s st h hs hs2
  obtain ⟨c, d, y2, c1, c2, d1, d2, e2⟩ := s_point2 k n y1 s _ (get_set h (z := [.int y1])) hs hs2
  rw [List.set_set] at e2
  have t := s_take (k + 2) n 6 y2 _ (get_set h (z := [.int y2])) (by decide) (by decide)
  rw [List.set_set] at t
  obtain ⟨u, v, y4, u1, u2, v1, v2, e4⟩ := s_point2 k n (y2 / 6) 2 _ (get_set h (z := [.int (y2 / 6)])) (by decide) (by decide)
  rw [List.set_set] at e4
  have f2 : fitsL 2 = true := by decide
  -- the end: the two steps as they stand
  have fin : ∀ (c d y : Int), (-(s + 2) ≤ c ∧ c ≤ s + 2) → (-(s + 2) ≤ d ∧ d ≤ s + 2) →
      ∃ a' b' c' d' y, (-(s + 2) ≤ a' ∧ a' ≤ s + 2) ∧ (-(s + 2) ≤ b' ∧ b' ≤ s + 2) ∧ (-(s + 2) ≤ c' ∧ c' ≤ s + 2) ∧ (-(s + 2) ≤ d' ∧ d' ≤ s + 2) ∧ a' * d' - b' * c' ≠ 0 ∧
        (if a * d - b * c = 0 then (PyData.tuple [.tuple [.int (a + 1), .int 1], .tuple [.int a, .int 1]]) else .tuple [.tuple [.int a, .int b], .tuple [.int c, .int d]]) = .tuple [.tuple [.int a', .int b'], .tuple [.int c', .int d']] := fun c d y hc hd => by
    by_cases h0 : a * d - b * c = 0
    · exact ⟨a + 1, 1, a, 1, 0, by omega, by omega, by omega, by omega, by omega, by rw [if_pos h0]⟩
    · exact ⟨a, b, c, d, 0, by omega, by omega, by omega, by omega, h0, by rw [if_neg h0]⟩
  by_cases w0 : y2 % 6 = 0
  · obtain ⟨a', b', c', d', -, p1, p2, p3, p4, p5, p6⟩ := fin (0 - b) a 0 (by omega) (by omega)
    refine ⟨a', b', c', d', y2 / 6, p1, p2, p3, p4, p5, ?_⟩
    rw [← p6]
    have hd1 : mulOk a a = true := mulOk_s (by omega) (by omega) (by omega) (by omega)
    have hd2 : mulOk b (0 - b) = true := mulOk_s (by omega) (by omega) (by omega) (by omega)
    have he : (a * a = b * (0 - b)) ↔ a * a - b * (0 - b) = 0 := by omega
    by_cases h0 : a * a - b * (0 - b) = 0 <;>
      simp (decide := true) only [b__law_drawn_pair, ↓reduceIte, Bool.not_true, Bool.not_false, decide_true, decide_false, wipeE, Bool.false_eq_true, y_e_c, y_e_v, y_e_g, y_e_never, y_e_bin, y_e_neg, y_e_tst, y_e_ite, y_e_tup, y_e_lst, y_e_box, y_e_ix, y_e_sl, y_e_rev, y_e_call, y_e_blt, y_e_isi, y_e_lc, y_es_nil, y_es_cons, y_o_no, y_o_yes, y_t_val, y_t_cmp, y_t_chn, y_t_isnt, y_t_isnf, z_nnr_dat, z_nnr_own, z_nnr_brw, z_nn_none, z_nn_bool, z_nn_int, z_nn_str, z_nn_list, z_nn_tuple, y_t_isb, y_t_and, y_t_or, y_t_not, y_h_last, y_h_link, y_al_one, y_al_cons, y_an_one, y_an_cons, y_c_no, y_c_yes, y_i_seq, y_i_rng, y_i_zip, y_i_enum, y_s_never, y_s_pass, y_s_asg, y_s_par, y_s_par3, y_s_setO, y_s_unp, y_s_setB, y_s_exp, y_s_app, y_s_ext, y_s_iff, y_s_whl, y_s_forr, y_s_ret, y_s_retv, y_s_frz, y_ss_nil, y_ss_cons, argsOf, views, caps, Option.map_some, Option.map_none, Option.bind_some, Option.bind_none, List.getElem?_cons_zero, List.getElem?_cons_succ, List.set_cons_zero, List.set_cons_succ, List.length_cons, List.length_nil, z_read_dat, z_read_ref, z_read_scr, z_read_own, z_view_own, z_view_brw, z_view_dat, z_cap_dat, z_cap_own, z_hold_dat, z_hold_ref, z_hold_scr, z_hold_own, z_arg_dat, z_arg_ref, z_arg_scr, z_arg_own, z_look_t, z_look_f, z_len_ref, z_len_scr, z_len_l, z_len_t, z_len_o, z_len_b, z_ix_ref, z_ix_scr, z_ix_l, z_ix_t, z_ix_o, z_ix_b, z_blt_len, z_blt_abs, z_blt_tup, z_blt_lst, z_blt_sum, z_blt_all, z_blt_any, z_blt_min, z_blt_max, z_blt_sorted, z_blt_repr, z_blt_str, z_blt_int, z_blt_divmod, z_d_abs, z_d_tupl, z_d_tupt, z_d_lstl, z_d_lstt, z_d_sum, z_d_all, z_d_any, z_d_minl, z_d_maxl, z_d_min, z_d_max, z_d_sorted, z_d_divmod, z_d_int, z_d_repr, z_d_str, z_bin_i, z_bin_ll, z_bin_tt, z_bin_rep, z_add, z_sub, z_mul, z_fdiv, z_mod, z_eq, z_ne, z_lt, z_le, z_gt, z_ge, z_inl, z_int, z_ninl, z_nint, z_isi_int_none, z_isi_int_bool, z_isi_int_int, z_isi_int_str, z_isi_int_list, z_isi_int_tuple, z_isi_bool_none, z_isi_bool_bool, z_isi_bool_int, z_isi_bool_str, z_isi_bool_list, z_isi_bool_tuple, z_isi_str_none, z_isi_str_bool, z_isi_str_int, z_isi_str_str, z_isi_str_list, z_isi_str_tuple, z_isi_list_none, z_isi_list_bool, z_isi_list_int, z_isi_list_str, z_isi_list_list, z_isi_list_tuple, z_isi_tuple_none, z_isi_tuple_bool, z_isi_tuple_int, z_isi_tuple_str, z_isi_tuple_list, z_isi_tuple_tuple, z_out_rt, z_out_nx, z_eqi, z_eqb, z_rng1, z_rng2, z_si_l, z_si_t, z_bind_nm, z_bind_tt, z_bind_tl, z_binds_n, z_binds_c, z_sl_l, z_sl_t, z_at0, z_at1, z_at2, z_at3, z_ixN0, z_intsn, z_intsc, z_boolsn, z_boolsc, z_eqs, z_fgn, z_fgc, z_lcn, z_lcc, rng_2, rng_3, z_en2, z_en3, z_zn, z_zn2, z_zc, cut2_a0, cut2_a1, cut2_b1, cut2_b2, cut3_a0, cut3_a1, cut3_a2, cut3_b1, cut3_b2, cut3_b3, List.nil_append, List.cons_append, Int.reduceAdd, Int.reduceSub, Int.reduceMul, Int.reduceMod, Int.reduceNeg, Int.reduceToNat, Nat.reduceAdd, Int.cast_ofNat_Int, Int.natCast_add, e1, e2, t, w0, f2, hd1, hd2, he, h0]
  · by_cases w1 : y2 % 6 = 1
    · obtain ⟨a', b', c', d', -, p1, p2, p3, p4, p5, p6⟩ := fin (a + u) (b + v) 0 (by omega) (by omega)
      refine ⟨a', b', c', d', y4, p1, p2, p3, p4, p5, ?_⟩
      rw [← p6]
      have hd1 : mulOk a (b + v) = true := mulOk_s (by omega) (by omega) (by omega) (by omega)
      have hd2 : mulOk b (a + u) = true := mulOk_s (by omega) (by omega) (by omega) (by omega)
      have he : (a * (b + v) = b * (a + u)) ↔ a * (b + v) - b * (a + u) = 0 := by omega
      by_cases h0 : a * (b + v) - b * (a + u) = 0 <;>
        simp (decide := true) only [b__law_drawn_pair, ↓reduceIte, Bool.not_true, Bool.not_false, decide_true, decide_false, wipeE, Bool.false_eq_true, y_e_c, y_e_v, y_e_g, y_e_never, y_e_bin, y_e_neg, y_e_tst, y_e_ite, y_e_tup, y_e_lst, y_e_box, y_e_ix, y_e_sl, y_e_rev, y_e_call, y_e_blt, y_e_isi, y_e_lc, y_es_nil, y_es_cons, y_o_no, y_o_yes, y_t_val, y_t_cmp, y_t_chn, y_t_isnt, y_t_isnf, z_nnr_dat, z_nnr_own, z_nnr_brw, z_nn_none, z_nn_bool, z_nn_int, z_nn_str, z_nn_list, z_nn_tuple, y_t_isb, y_t_and, y_t_or, y_t_not, y_h_last, y_h_link, y_al_one, y_al_cons, y_an_one, y_an_cons, y_c_no, y_c_yes, y_i_seq, y_i_rng, y_i_zip, y_i_enum, y_s_never, y_s_pass, y_s_asg, y_s_par, y_s_par3, y_s_setO, y_s_unp, y_s_setB, y_s_exp, y_s_app, y_s_ext, y_s_iff, y_s_whl, y_s_forr, y_s_ret, y_s_retv, y_s_frz, y_ss_nil, y_ss_cons, argsOf, views, caps, Option.map_some, Option.map_none, Option.bind_some, Option.bind_none, List.getElem?_cons_zero, List.getElem?_cons_succ, List.set_cons_zero, List.set_cons_succ, List.length_cons, List.length_nil, z_read_dat, z_read_ref, z_read_scr, z_read_own, z_view_own, z_view_brw, z_view_dat, z_cap_dat, z_cap_own, z_hold_dat, z_hold_ref, z_hold_scr, z_hold_own, z_arg_dat, z_arg_ref, z_arg_scr, z_arg_own, z_look_t, z_look_f, z_len_ref, z_len_scr, z_len_l, z_len_t, z_len_o, z_len_b, z_ix_ref, z_ix_scr, z_ix_l, z_ix_t, z_ix_o, z_ix_b, z_blt_len, z_blt_abs, z_blt_tup, z_blt_lst, z_blt_sum, z_blt_all, z_blt_any, z_blt_min, z_blt_max, z_blt_sorted, z_blt_repr, z_blt_str, z_blt_int, z_blt_divmod, z_d_abs, z_d_tupl, z_d_tupt, z_d_lstl, z_d_lstt, z_d_sum, z_d_all, z_d_any, z_d_minl, z_d_maxl, z_d_min, z_d_max, z_d_sorted, z_d_divmod, z_d_int, z_d_repr, z_d_str, z_bin_i, z_bin_ll, z_bin_tt, z_bin_rep, z_add, z_sub, z_mul, z_fdiv, z_mod, z_eq, z_ne, z_lt, z_le, z_gt, z_ge, z_inl, z_int, z_ninl, z_nint, z_isi_int_none, z_isi_int_bool, z_isi_int_int, z_isi_int_str, z_isi_int_list, z_isi_int_tuple, z_isi_bool_none, z_isi_bool_bool, z_isi_bool_int, z_isi_bool_str, z_isi_bool_list, z_isi_bool_tuple, z_isi_str_none, z_isi_str_bool, z_isi_str_int, z_isi_str_str, z_isi_str_list, z_isi_str_tuple, z_isi_list_none, z_isi_list_bool, z_isi_list_int, z_isi_list_str, z_isi_list_list, z_isi_list_tuple, z_isi_tuple_none, z_isi_tuple_bool, z_isi_tuple_int, z_isi_tuple_str, z_isi_tuple_list, z_isi_tuple_tuple, z_out_rt, z_out_nx, z_eqi, z_eqb, z_rng1, z_rng2, z_si_l, z_si_t, z_bind_nm, z_bind_tt, z_bind_tl, z_binds_n, z_binds_c, z_sl_l, z_sl_t, z_at0, z_at1, z_at2, z_at3, z_ixN0, z_intsn, z_intsc, z_boolsn, z_boolsc, z_eqs, z_fgn, z_fgc, z_lcn, z_lcc, rng_2, rng_3, z_en2, z_en3, z_zn, z_zn2, z_zc, cut2_a0, cut2_a1, cut2_b1, cut2_b2, cut3_a0, cut3_a1, cut3_a2, cut3_b1, cut3_b2, cut3_b3, List.nil_append, List.cons_append, Int.reduceAdd, Int.reduceSub, Int.reduceMul, Int.reduceMod, Int.reduceNeg, Int.reduceToNat, Nat.reduceAdd, Int.cast_ofNat_Int, Int.natCast_add, e1, e2, t, w1, e4, f2, hd1, hd2, he, h0]
    · obtain ⟨a', b', c', d', -, p1, p2, p3, p4, p5, p6⟩ := fin c d 0 (by omega) (by omega)
      refine ⟨a', b', c', d', y2 / 6, p1, p2, p3, p4, p5, ?_⟩
      rw [← p6]
      have hd1 : mulOk a d = true := mulOk_s (by omega) (by omega) (by omega) (by omega)
      have hd2 : mulOk b c = true := mulOk_s (by omega) (by omega) (by omega) (by omega)
      have he : (a * d = b * c) ↔ a * d - b * c = 0 := by omega
      by_cases h0 : a * d - b * c = 0 <;>
        simp (decide := true) only [b__law_drawn_pair, ↓reduceIte, Bool.not_true, Bool.not_false, decide_true, decide_false, wipeE, Bool.false_eq_true, y_e_c, y_e_v, y_e_g, y_e_never, y_e_bin, y_e_neg, y_e_tst, y_e_ite, y_e_tup, y_e_lst, y_e_box, y_e_ix, y_e_sl, y_e_rev, y_e_call, y_e_blt, y_e_isi, y_e_lc, y_es_nil, y_es_cons, y_o_no, y_o_yes, y_t_val, y_t_cmp, y_t_chn, y_t_isnt, y_t_isnf, z_nnr_dat, z_nnr_own, z_nnr_brw, z_nn_none, z_nn_bool, z_nn_int, z_nn_str, z_nn_list, z_nn_tuple, y_t_isb, y_t_and, y_t_or, y_t_not, y_h_last, y_h_link, y_al_one, y_al_cons, y_an_one, y_an_cons, y_c_no, y_c_yes, y_i_seq, y_i_rng, y_i_zip, y_i_enum, y_s_never, y_s_pass, y_s_asg, y_s_par, y_s_par3, y_s_setO, y_s_unp, y_s_setB, y_s_exp, y_s_app, y_s_ext, y_s_iff, y_s_whl, y_s_forr, y_s_ret, y_s_retv, y_s_frz, y_ss_nil, y_ss_cons, argsOf, views, caps, Option.map_some, Option.map_none, Option.bind_some, Option.bind_none, List.getElem?_cons_zero, List.getElem?_cons_succ, List.set_cons_zero, List.set_cons_succ, List.length_cons, List.length_nil, z_read_dat, z_read_ref, z_read_scr, z_read_own, z_view_own, z_view_brw, z_view_dat, z_cap_dat, z_cap_own, z_hold_dat, z_hold_ref, z_hold_scr, z_hold_own, z_arg_dat, z_arg_ref, z_arg_scr, z_arg_own, z_look_t, z_look_f, z_len_ref, z_len_scr, z_len_l, z_len_t, z_len_o, z_len_b, z_ix_ref, z_ix_scr, z_ix_l, z_ix_t, z_ix_o, z_ix_b, z_blt_len, z_blt_abs, z_blt_tup, z_blt_lst, z_blt_sum, z_blt_all, z_blt_any, z_blt_min, z_blt_max, z_blt_sorted, z_blt_repr, z_blt_str, z_blt_int, z_blt_divmod, z_d_abs, z_d_tupl, z_d_tupt, z_d_lstl, z_d_lstt, z_d_sum, z_d_all, z_d_any, z_d_minl, z_d_maxl, z_d_min, z_d_max, z_d_sorted, z_d_divmod, z_d_int, z_d_repr, z_d_str, z_bin_i, z_bin_ll, z_bin_tt, z_bin_rep, z_add, z_sub, z_mul, z_fdiv, z_mod, z_eq, z_ne, z_lt, z_le, z_gt, z_ge, z_inl, z_int, z_ninl, z_nint, z_isi_int_none, z_isi_int_bool, z_isi_int_int, z_isi_int_str, z_isi_int_list, z_isi_int_tuple, z_isi_bool_none, z_isi_bool_bool, z_isi_bool_int, z_isi_bool_str, z_isi_bool_list, z_isi_bool_tuple, z_isi_str_none, z_isi_str_bool, z_isi_str_int, z_isi_str_str, z_isi_str_list, z_isi_str_tuple, z_isi_list_none, z_isi_list_bool, z_isi_list_int, z_isi_list_str, z_isi_list_list, z_isi_list_tuple, z_isi_tuple_none, z_isi_tuple_bool, z_isi_tuple_int, z_isi_tuple_str, z_isi_tuple_list, z_isi_tuple_tuple, z_out_rt, z_out_nx, z_eqi, z_eqb, z_rng1, z_rng2, z_si_l, z_si_t, z_bind_nm, z_bind_tt, z_bind_tl, z_binds_n, z_binds_c, z_sl_l, z_sl_t, z_at0, z_at1, z_at2, z_at3, z_ixN0, z_intsn, z_intsc, z_boolsn, z_boolsc, z_eqs, z_fgn, z_fgc, z_lcn, z_lcc, rng_2, rng_3, z_en2, z_en3, z_zn, z_zn2, z_zc, cut2_a0, cut2_a1, cut2_b1, cut2_b2, cut3_a0, cut3_a1, cut3_a2, cut3_b1, cut3_b2, cut3_b3, List.nil_append, List.cons_append, Int.reduceAdd, Int.reduceSub, Int.reduceMul, Int.reduceMod, Int.reduceNeg, Int.reduceToNat, Nat.reduceAdd, Int.cast_ofNat_Int, Int.natCast_add, e1, e2, t, w0, w1, f2, hd1, hd2, he, h0]

/-! pairs of one grid -/
/-- the one pair comes of the other by whole numbers of determinant one or less one -/
def Uni (a b c d a' b' c' d' : Int) : Prop := ∃ p q r s : Int, (p * s - q * r = 1 ∨ p * s - q * r = -1) ∧ a' = p * a + q * c ∧ b' = p * b + q * d ∧ c' = r * a + s * c ∧ d' = r * b + s * d
theorem Uni.refl (a b c d : Int) : Uni a b c d a b c d := ⟨1, 0, 0, 1, .inl (by decide), by omega, by omega, by omega, by omega⟩
theorem Uni.trans {a b c d a' b' c' d' a2 b2 c2 d2 : Int} (h : Uni a b c d a' b' c' d') (k : Uni a' b' c' d' a2 b2 c2 d2) : Uni a b c d a2 b2 c2 d2 := by
  obtain ⟨p, q, r, s, h0, rfl, rfl, rfl, rfl⟩ := h
  obtain ⟨p', q', r', s', k0, rfl, rfl, rfl, rfl⟩ := k
  refine ⟨p' * p + q' * r, p' * q + q' * s, r' * p + s' * r, r' * q + s' * s, ?_, by grind, by grind, by grind, by grind⟩
  have e : (p' * p + q' * r) * (r' * q + s' * s) - (p' * q + q' * s) * (r' * p + s' * r) = (p' * s' - q' * r') * (p * s - q * r) := by grind
  rw [e]
  rcases h0 with h0 | h0 <;> rcases k0 with k0 | k0 <;> rw [h0, k0] <;> decide
theorem Uni.det {a b c d a' b' c' d' : Int} (h : Uni a b c d a' b' c' d') : a' * d' - b' * c' = a * d - b * c ∨ a' * d' - b' * c' = -(a * d - b * c) := by
  obtain ⟨p, q, r, s, h0, rfl, rfl, rfl, rfl⟩ := h
  have e : (p * a + q * c) * (r * b + s * d) - (p * b + q * d) * (r * a + s * c) = (p * s - q * r) * (a * d - b * c) := by grind
  rw [e]
  rcases h0 with h0 | h0 <;> rw [h0] <;> omega
theorem Uni.nz {a b c d a' b' c' d' : Int} (h : Uni a b c d a' b' c' d') (hn : a * d - b * c ≠ 0) : a' * d' - b' * c' ≠ 0 := by
  rcases h.det with e | e <;> omega
theorem uni_less (a b c d t : Int) : Uni a b c d a b (t * a + 1 * c) (t * b + 1 * d) := ⟨1, 0, t, 1, .inl (by omega), by omega, by omega, rfl, rfl⟩
theorem uni_turn (a b c d : Int) : Uni a b c d c d a b := ⟨0, 1, 1, 0, .inr (by decide), by omega, by omega, by omega, by omega⟩
theorem uni_about (a b c d : Int) : Uni a b c d a b (0 - c) (0 - d) := ⟨1, 0, 0, -1, .inr (by decide), by omega, by omega, by omega, by omega⟩
theorem norm_pos {a b c d : Int} (h : a * d - b * c ≠ 0) : 0 < a * a + b * b := by
  have h1 := sq_nn a
  have h2 := sq_nn b
  rcases Int.lt_or_eq_of_le (show 0 ≤ a * a + b * b by omega) with q | q
  · exact q
  · exfalso
    apply h
    have ha : a * a = 0 := by omega
    have hb : b * b = 0 := by omega
    have ha' : a = 0 := by rcases Int.mul_eq_zero.mp ha with q | q <;> exact q
    have hb' : b = 0 := by rcases Int.mul_eq_zero.mp hb with q | q <;> exact q
    rw [ha', hb']; omega
theorem bd_of_sq {B : Nat} {a n : Int} (h0 : 0 ≤ n) (h : Bd B (a * a + n)) : Bd B a := by
  unfold Bd at *
  have h1 : a.natAbs ≤ a.natAbs * a.natAbs := by
    rcases Nat.eq_zero_or_pos a.natAbs with e | e
    · omega
    · exact Nat.le_mul_of_pos_left _ e
  have h2 : (a * a).natAbs = a.natAbs * a.natAbs := Int.natAbs_mul a a
  have h3 := sq_nn a
  omega
/-- a short pair: its products -/
def Short (a b c d : Int) : Prop := 0 ≤ a * c + b * d ∧ 2 * (a * c + b * d) ≤ a * a + b * b ∧ a * a + b * b ≤ c * c + d * d ∧ 0 < a * a + b * b
theorem lagr (a b c d : Int) : (a * a + b * b) * (c * c + d * d) - (a * c + b * d) * (a * c + b * d) = (a * d - b * c) * (a * d - b * c) := by grind

/-! and back -/
theorem Uni.symm {a b c d a' b' c' d' : Int} (h : Uni a b c d a' b' c' d') : Uni a' b' c' d' a b c d := by
  obtain ⟨p, q, r, s, h0, rfl, rfl, rfl, rfl⟩ := h
  rcases h0 with h0 | h0
  · refine ⟨s, -q, -r, p, .inl (by grind), ?_, ?_, ?_, ?_⟩
    · have e : s * (p * a + q * c) + -q * (r * a + s * c) = (p * s - q * r) * a := by grind
      rw [e, h0]; omega
    · have e : s * (p * b + q * d) + -q * (r * b + s * d) = (p * s - q * r) * b := by grind
      rw [e, h0]; omega
    · have e : -r * (p * a + q * c) + p * (r * a + s * c) = (p * s - q * r) * c := by grind
      rw [e, h0]; omega
    · have e : -r * (p * b + q * d) + p * (r * b + s * d) = (p * s - q * r) * d := by grind
      rw [e, h0]; omega
  · refine ⟨-s, q, r, -p, .inr (by grind), ?_, ?_, ?_, ?_⟩
    · have e : -s * (p * a + q * c) + q * (r * a + s * c) = -((p * s - q * r) * a) := by grind
      rw [e, h0]; omega
    · have e : -s * (p * b + q * d) + q * (r * b + s * d) = -((p * s - q * r) * b) := by grind
      rw [e, h0]; omega
    · have e : r * (p * a + q * c) + -p * (r * a + s * c) = -((p * s - q * r) * c) := by grind
      rw [e, h0]; omega
    · have e : r * (p * b + q * d) + -p * (r * b + s * d) = -((p * s - q * r) * d) := by grind
      rw [e, h0]; omega

/-! numbers taken by a form -/
/-- what f tells of lo, lo + 1 .., n of them -/
def fm {α : Type} (f : Int → List α) (lo : Int) (n : Nat) : List α := (List.range n).flatMap fun (k : Nat) => f (lo + (k : Int))
theorem fm_zero {α : Type} (f : Int → List α) (lo : Int) : fm f lo 0 = [] := rfl
theorem fm_succ {α : Type} (f : Int → List α) (lo : Int) (n : Nat) : fm f lo (n + 1) = fm f lo n ++ f (lo + n) := by
  unfold fm
  rw [List.range_succ, List.flatMap_append, List.flatMap_singleton]
theorem fm_add {α : Type} (f : Int → List α) (lo : Int) (a : Nat) : ∀ b : Nat, fm f lo (a + b) = fm f lo a ++ fm f (lo + a) b
  | 0 => by simp [fm]
  | b + 1 => by
    rw [← Nat.add_assoc, fm_succ, fm_succ, fm_add f lo a b, List.append_assoc]
    congr 3
    omega
theorem fm_nil {α : Type} {f : Int → List α} {lo : Int} : ∀ {n : Nat}, (∀ k : Nat, k < n → f (lo + (k : Int)) = []) → fm f lo n = []
  | 0, _ => rfl
  | n + 1, h => by rw [fm_succ, h n (by omega), fm_nil fun k hk => h k (by omega)]; rfl
theorem fm_ext {α : Type} {f : Int → List α} {lo L : Int} {n N : Nat} (h : ∀ z, f z ≠ [] → lo ≤ z ∧ z < lo + n) (h1 : L ≤ lo) (h2 : lo + n ≤ L + N) : fm f lo n = fm f L N := by
  obtain ⟨a, ha⟩ := Int.eq_ofNat_of_zero_le (show 0 ≤ lo - L by omega)
  obtain ⟨b, hb⟩ := Int.eq_ofNat_of_zero_le (show 0 ≤ L + N - (lo + n) by omega)
  have e : N = a + n + b := by omega
  rw [e, fm_add, fm_add, fm_nil (n := a), fm_nil (n := b), List.append_nil, List.nil_append]
  · congr 1
    omega
  · intro k hk
    by_cases q : f (L + ((a + n : Nat) : Int) + k) = []
    · exact q
    · have := h _ q; omega
  · intro k hk
    by_cases q : f (L + (k : Int)) = []
    · exact q
    · have := h _ q; omega
theorem fm_congr {α : Type} {f g : Int → List α} {lo : Int} : ∀ {n : Nat}, (∀ z, lo ≤ z → z < lo + n → f z = g z) → fm f lo n = fm g lo n
  | 0, _ => rfl
  | n + 1, h => by rw [fm_succ, fm_succ, h (lo + n) (by omega) (by omega), fm_congr fun z h1 h2 => h z h1 (by omega)]
theorem fm_mem {α : Type} {f : Int → List α} {lo : Int} {n : Nat} {d : α} : d ∈ fm f lo n ↔ ∃ k : Nat, k < n ∧ d ∈ f (lo + k) := by
  unfold fm
  rw [List.mem_flatMap]
  constructor
  · rintro ⟨k, hk, h⟩; exact ⟨k, List.mem_range.mp hk, h⟩
  · rintro ⟨k, hk, h⟩; exact ⟨k, List.mem_range.mpr hk, h⟩
theorem fm_len {α : Type} {f : Int → List α} {lo : Int} {B : Nat} (h : ∀ z, (f z).length ≤ B) : ∀ n : Nat, (fm f lo n).length ≤ n * B
  | 0 => Nat.zero_le _
  | n + 1 => by
    have := fm_len (lo := lo) h n
    have := h (lo + n)
    rw [fm_succ, List.length_append, Nat.succ_mul]
    omega

/-! sorted points -/
abbrev Pt2 := Int × Int
def Pt2.v (p : Pt2) : PyData := (PyData.tuple [PyData.int (p.1), PyData.int (p.2)])
def pv (l : List Pt2) : List PyData := l.map Pt2.v
theorem Pt2.v_inj {p q : Pt2} (h : Pt2.v p = Pt2.v q) : p = q := by
  unfold Pt2.v at h
  injection h with h
  injection h with h1 h2
  injection h1 with h1
  injection h2 with h2 h3
  injection h2 with h2
  exact Prod.ext h1 h2
theorem toks_v (p : Pt2) : PySem.W.keyToks (Pt2.v p) = [.inl 1, .inl p.1, .inl 1, .inl p.2, .inl 0] := by
  unfold Pt2.v
  simp only [PySem.W.keyToks, PySem.W.keyToksAll, List.cons_append, List.nil_append]
theorem le_anti {p q : Pt2} (h1 : PySem.W.dataLe false id (Pt2.v p) (Pt2.v q) = true) (h2 : PySem.W.dataLe false id (Pt2.v q) (Pt2.v p) = true) : p = q := by
  have h1' : (!(PyProof.Rows.listOrd PyProof.Rows.itemOrd).blt (PySem.W.keyToks (Pt2.v q)) (PySem.W.keyToks (Pt2.v p))) = true := h1
  have h2' : (!(PyProof.Rows.listOrd PyProof.Rows.itemOrd).blt (PySem.W.keyToks (Pt2.v p)) (PySem.W.keyToks (Pt2.v q))) = true := h2
  rw [Bool.not_eq_true'] at h1' h2'
  have e := (PyProof.Rows.listOrd PyProof.Rows.itemOrd).total (PySem.W.keyToks (Pt2.v p)) (PySem.W.keyToks (Pt2.v q)) h2' h1'
  rw [toks_v, toks_v] at e
  injection e with _ e
  injection e with e1 e
  injection e with _ e
  injection e with e2 _
  injection e1 with e1
  injection e2 with e2
  exact Prod.ext e1 e2
theorem sortD_perm {l m : List Pt2} (h : l.Perm m) : sortD (pv l) = sortD (pv m) := by
  have T := PySem.W.sortLe_total (PyProof.Rows.listOrd PyProof.Rows.itemOrd) false (fun b : PyData => PySem.W.keyToks (id b))
  have tot : ∀ a b : PyData, (PySem.W.dataLe false id a b || PySem.W.dataLe false id b a) = true := fun a b => by
    rw [Bool.or_eq_true]; exact T.total a b
  have tr : ∀ a b c : PyData, PySem.W.dataLe false id a b = true → PySem.W.dataLe false id b c = true → PySem.W.dataLe false id a c = true := T.trans
  have pm : (pv l).Perm (pv m) := h.map _
  refine List.Perm.eq_of_pairwise (le := fun a b => PySem.W.dataLe false id a b = true) (fun a b ha hb h1 h2 => ?_) (List.pairwise_mergeSort tr tot _) (List.pairwise_mergeSort tr tot _) ((List.mergeSort_perm _ _).trans (pm.trans (List.mergeSort_perm _ _).symm))
  obtain ⟨p, _, rfl⟩ := List.mem_map.mp (List.mem_mergeSort.mp ha)
  obtain ⟨q, _, rfl⟩ := List.mem_map.mp (List.mem_mergeSort.mp hb)
  rw [le_anti h1 h2]
theorem sortD_set {l m : List Pt2} (h1 : l.Nodup) (h2 : m.Nodup) (h : ∀ p, p ∈ l ↔ p ∈ m) : sortD (pv l) = sortD (pv m) := sortD_perm ((List.perm_ext_iff_of_nodup h1 h2).mpr h)
theorem pv_sort {l : List Pt2} (hl : l.length ≤ 100000) : sortOk (pv l) = true := by
  have hf : fitsL (pv l).length = true := fitsL_s (by unfold pv; rw [List.length_map]; exact hl)
  unfold sortOk
  simp only [Bool.and_eq_true, Bool.or_eq_true, List.all_eq_true]
  refine ⟨⟨⟨fun d hd e he => ?_, .inl fun d hd => ?_⟩, hf⟩, fun d hd => ?_⟩
  · obtain ⟨p, _, rfl⟩ := List.mem_map.mp hd
    obtain ⟨q, _, rfl⟩ := List.mem_map.mp he
    rfl
  · obtain ⟨p, _, rfl⟩ := List.mem_map.mp hd
    rfl
  · obtain ⟨p, _, rfl⟩ := List.mem_map.mp hd
    simp [Pt2.v, PyData.depth, PyData.depthAll]
theorem sort_len (ds : List PyData) : (sortD ds).length = ds.length := List.length_mergeSort _
theorem sort_mem {ds : List PyData} {d : PyData} (h : d ∈ sortD ds) : d ∈ ds := List.mem_mergeSort.mp h
theorem pv_repr {l : List Pt2} (hl : l.length ≤ 4000) (hb : ∀ p ∈ l, Bd 1900 p.1 ∧ Bd 1900 p.2) : reprOk (.list (sortD (pv l))) = true := by
  refine reprOk_of (shw_list_le (w := (1901 + 2) * 2 + 3) (n := 1) (m := 4000) (fun d hd => ?_) (by rw [sort_len]; unfold pv; rw [List.length_map]; exact hl)) (by decide) (by decide)
  obtain ⟨p, hp, rfl⟩ := List.mem_map.mp (sort_mem hd)
  exact shw_t2 (shw_int (hb p hp).1 (by decide)) (shw_int (hb p hp).2 (by decide))
/-- a comprehension over points -/
theorem pts_map {β : Type} (g : Pt2 → β) (l : List Pt2) (F : PyData → Option β) (h : ∀ t ∈ l, F (Pt2.v t) = some (g t)) : (pv l).filterMap F = l.map g := by
  unfold pv
  rw [List.filterMap_map]
  induction l with
  | nil => rfl
  | cons a l ih =>
    rw [List.filterMap_cons, List.map_cons, Function.comp_apply, h a List.mem_cons_self]
    exact congrArg _ (ih fun t ht => h t (List.mem_cons_of_mem _ ht))
theorem pts_filter (c : Pt2 → Bool) (l : List Pt2) (F : PyData → Option PyData) (h : ∀ t ∈ l, F (Pt2.v t) = if c t then some (Pt2.v t) else none) : (pv l).filterMap F = pv (l.filter c) := by
  unfold pv
  rw [List.filterMap_map]
  induction l with
  | nil => rfl
  | cons a l ih =>
    rw [List.filterMap_cons, Function.comp_apply, h a List.mem_cons_self]
    have := ih fun t ht => h t (List.mem_cons_of_mem _ ht)
    by_cases hc : c a = true
    · rw [if_pos hc, List.filter_cons_of_pos hc, List.map_cons, ← this]
    · rw [if_neg hc, List.filter_cons_of_neg hc, ← this]
/-! least of a list -/
theorem minL_mem : ∀ {l : List Int}, l ≠ [] → minL l ∈ l ∧ ∀ x ∈ l, minL l ≤ x
  | [], h => absurd rfl h
  | [x], _ => ⟨by simp [minL], fun y hy => by simp at hy; subst hy; simp [minL]⟩
  | x :: y :: r, _ => by
    obtain ⟨h1, h2⟩ := minL_mem (l := y :: r) (by simp)
    have e : minL (x :: y :: r) = min x (minL (y :: r)) := rfl
    rw [e]
    refine ⟨?_, fun z hz => ?_⟩
    · rcases Int.le_total x (minL (y :: r)) with q | q
      · rw [Int.min_eq_left q]; exact List.mem_cons_self
      · rw [Int.min_eq_right q]; exact List.mem_cons_of_mem _ h1
    · rcases List.mem_cons.mp hz with rfl | hz
      · exact Int.min_le_left _ _
      · exact Int.le_trans (Int.min_le_right _ _) (h2 z hz)
theorem minL_eq {l : List Int} {a : Int} (h : a ∈ l) (h2 : ∀ x ∈ l, a ≤ x) : minL l = a := by
  obtain ⟨h3, h4⟩ := minL_mem (l := l) (List.ne_nil_of_mem h)
  exact Int.le_antisymm (h4 a h) (h2 _ h3)
theorem ints_some : ∀ l : List Int, intsOf (l.map PyData.int) = some l
  | [] => rfl
  | i :: l => by rw [List.map_cons, z_intsc, ints_some l]; rfl

/-! a form -/
def Wf (a b c x y : Int) : Int := a * x * x + 2 * b * x * y + c * y * y
/-! the bounds of a reduced form -/
theorem wf_y {a b c x y N : Int} (h0 : 0 ≤ 2 * b) (h1 : 2 * b ≤ a) (h2 : a ≤ c) (h3 : 1 ≤ a) (h : Wf a b c x y = N) : 3 * c * (y * y) ≤ 4 * N := by
  subst h
  unfold Wf
  have hy := sq_nn y
  have hx := sq_nn x
  have e : 4 * (a * x * x + 2 * b * x * y + c * y * y) - 3 * c * (y * y) = 4 * (a * (x * x)) + 8 * (b * (x * y)) + c * (y * y) := by grind
  have p1 : 0 ≤ a * (x * x) := Int.mul_nonneg (by omega) hx
  have p2 : a * (y * y) ≤ c * (y * y) := Int.mul_le_mul_of_nonneg_right h2 hy
  have p3 : 0 ≤ a * (y * y) := Int.mul_nonneg (by omega) hy
  rcases Int.le_total 0 (x * y) with hs | hs
  · have p4 : 0 ≤ b * (x * y) := Int.mul_nonneg (by omega) hs
    omega
  · have p4 : 2 * b * (-(x * y)) ≤ a * (-(x * y)) := Int.mul_le_mul_of_nonneg_right h1 (by omega)
    have p5 : 0 ≤ a * ((2 * x + y) * (2 * x + y)) := Int.mul_nonneg (by omega) (sq_nn _)
    have e2 : a * ((2 * x + y) * (2 * x + y)) = 4 * (a * (x * x)) + 4 * (a * (x * y)) + a * (y * y) := by grind
    have e3 : 2 * b * (-(x * y)) = -(2 * (b * (x * y))) := by grind
    have e4 : a * (-(x * y)) = -(a * (x * y)) := by grind
    omega
theorem wf_x {a b c x y N : Int} (h0 : 0 ≤ 2 * b) (h1 : 2 * b ≤ a) (h2 : a ≤ c) (h3 : 1 ≤ a) (h : Wf a b c x y = N) : 3 * a * (x * x) ≤ 4 * N := by
  subst h
  unfold Wf
  have hy := sq_nn y
  have hx := sq_nn x
  have e : 4 * (a * x * x + 2 * b * x * y + c * y * y) - 3 * a * (x * x) = a * (x * x) + 8 * (b * (x * y)) + 4 * (c * (y * y)) := by grind
  have p1 : 0 ≤ a * (x * x) := Int.mul_nonneg (by omega) hx
  have p2 : a * (y * y) ≤ c * (y * y) := Int.mul_le_mul_of_nonneg_right h2 hy
  have p3 : 0 ≤ a * (y * y) := Int.mul_nonneg (by omega) hy
  rcases Int.le_total 0 (x * y) with hs | hs
  · have p4 : 0 ≤ b * (x * y) := Int.mul_nonneg (by omega) hs
    omega
  · have p4 : 2 * b * (-(x * y)) ≤ a * (-(x * y)) := Int.mul_le_mul_of_nonneg_right h1 (by omega)
    have p5 : 0 ≤ a * ((x + 2 * y) * (x + 2 * y)) := Int.mul_nonneg (by omega) (sq_nn _)
    have e2 : a * ((x + 2 * y) * (x + 2 * y)) = a * (x * x) + 4 * (a * (x * y)) + 4 * (a * (y * y)) := by grind
    have e3 : 2 * b * (-(x * y)) = -(2 * (b * (x * y))) := by grind
    have e4 : a * (-(x * y)) = -(a * (x * y)) := by grind
    omega
/-- no farther than a root -/
theorem le_root {m q y : Int} {r : Nat} (hm : 0 < m) (h : m * (y * y) ≤ q) (hr : q / m < ((r : Int) + 1) * ((r : Int) + 1)) : -(r : Int) ≤ y ∧ y ≤ r := by
  have h1 : y * y ≤ q / m := by
    rw [Int.le_ediv_iff_mul_le hm, Int.mul_comm]
    exact h
  have := sq_lt (r := (r : Int) + 1) (by omega) (x := y) (by omega)
  omega
theorem wf_wide {a b c x y N : Int} {r f : Nat} (h0 : 0 ≤ 2 * b) (h1 : 2 * b ≤ a) (h2 : a ≤ c) (h3 : 1 ≤ a) (h : Wf a b c x y = N) (hr : N / a < ((r : Int) + 1) * ((r : Int) + 1)) (hf : -(f : Int) ≤ y ∧ y ≤ f) :
    -((r : Int) + f + 1) ≤ x ∧ x ≤ (r : Int) + f + 1 := by
  have hy := sq_nn y
  have hN : N < a * (((r : Int) + 1) * ((r : Int) + 1)) := by
    have := Int.lt_mul_of_ediv_lt (show 0 < a by omega) hr
    rw [Int.mul_comm]; exact this
  have e : a * N = (a * x + b * y) * (a * x + b * y) + (a * c - b * b) * (y * y) := by subst h; unfold Wf; grind
  have hd : 0 ≤ a * c - b * b := by
    have q1 : b * b ≤ a * b := Int.mul_le_mul_of_nonneg_right (by omega) (by omega)
    have q2 : a * b ≤ a * c := Int.mul_le_mul_of_nonneg_left (by omega) (by omega)
    omega
  have p1 : 0 ≤ (a * c - b * b) * (y * y) := Int.mul_nonneg hd hy
  have p2 : a * N < a * (a * (((r : Int) + 1) * ((r : Int) + 1))) := Int.mul_lt_mul_of_pos_left hN (by omega)
  have e2 : a * (a * (((r : Int) + 1) * ((r : Int) + 1))) = (a * ((r : Int) + 1)) * (a * ((r : Int) + 1)) := by grind
  have hb' : 0 ≤ b := by omega
  have hlt := sq_lt (r := a * ((r : Int) + 1)) (Int.mul_nonneg (by omega) (by omega)) (x := a * x + b * y) (by omega)
  have b1 : b * y ≤ a * f := by
    have q1 : b * y ≤ b * f := Int.mul_le_mul_of_nonneg_left hf.2 hb'
    have q2 : b * (f : Int) ≤ a * f := Int.mul_le_mul_of_nonneg_right (by omega) (by omega)
    omega
  have b2 : -(a * f) ≤ b * y := by
    have q1 : b * (-(f : Int)) ≤ b * y := Int.mul_le_mul_of_nonneg_left hf.1 hb'
    have q2 : b * (f : Int) ≤ a * f := Int.mul_le_mul_of_nonneg_right (by omega) (by omega)
    have e4 : b * (-(f : Int)) = -(b * f) := by grind
    omega
  have e5 : a * ((r : Int) + 1) + a * f = a * ((r : Int) + f + 1) := by grind
  constructor
  · have : a * (-((r : Int) + f + 1)) < a * x := by
      have e6 : a * (-((r : Int) + f + 1)) = -(a * ((r : Int) + f + 1)) := by grind
      omega
    exact Int.le_of_lt (Int.lt_of_mul_lt_mul_left this (by omega))
  · have : a * x < a * ((r : Int) + f + 1) := by omega
    exact Int.le_of_lt (Int.lt_of_mul_lt_mul_left this (by omega))

/-! how often each step is taken (width two) -/
def nums2 (a b c d p q : Int) : PyData :=
  if (p * d - q * c).fmod (a * d - b * c) = 0 ∧ (a * q - b * p).fmod (a * d - b * c) = 0 then .tuple [.int ((p * d - q * c).fdiv (a * d - b * c)), .int ((a * q - b * p).fdiv (a * d - b * c))] else .none
def inG (a b c d p q : Int) : Bool := decide ((p * d - q * c).fmod (a * d - b * c) = 0 ∧ (a * q - b * p).fmod (a * d - b * c) = 0)
theorem nums2_nn (a b c d p q : Int) : isNn (nums2 a b c d p q) = !inG a b c d p q := by
  unfold nums2 inG
  split
  · rename_i h; rw [decide_eq_true h]; rfl
  · rename_i h; rw [decide_eq_false h]; rfl

theorem s_numbers_for2 (k : Nat) (a b c d p q : Int) (st : Bx) (ha : Bd 1000 a) (hb : Bd 1000 b) (hc : Bd 1000 c) (hd : Bd 1000 d) (hp : Bd 1000 p) (hq : Bd 1000 q) (hn : a * d - b * c ≠ 0) :
    callF tb (k + 4) "numbers_for" [.dat (.tuple [.tuple [.int a, .int b], .tuple [.int c, .int d]]), .dat (.tuple [.int p, .int q])] st = some (.dat (nums2 a b c d p q), st) := by
  rw [c_numbers_for]
  have f1 : fitsL 1 = true := by decide
  have f2 : fitsL 2 = true := by decide
  have f0 : fitsL 0 = true := by decide
  have r2 : rngOk 2 = true := by decide
  have e0 := s_det2 (k + 1) a b c d st ha hb hc hd
  have e1 := s_det2 k p q c d st hp hq hc hd
  have e2 := s_det2 k a b p q st ha hb hp hq
  have ht : callF tb (k + 3) "tops_of" [.dat (.tuple [.tuple [.int a, .int b], .tuple [.int c, .int d]]), .dat (.tuple [.int p, .int q])] st = some (.own [.int (p * d - q * c), .int (a * q - b * p)], st) := by
    rw [c_tops_of]
    simp (decide := true) only [b_tops_of, q_tops_of_1, ↓reduceIte, Bool.not_true, Bool.not_false, decide_true, decide_false, wipeE, Bool.false_eq_true, y_e_c, y_e_v, y_e_g, y_e_never, y_e_bin, y_e_neg, y_e_tst, y_e_ite, y_e_tup, y_e_lst, y_e_box, y_e_ix, y_e_sl, y_e_rev, y_e_call, y_e_blt, y_e_isi, y_e_lc, y_es_nil, y_es_cons, y_o_no, y_o_yes, y_t_val, y_t_cmp, y_t_chn, y_t_isnt, y_t_isnf, z_nnr_dat, z_nnr_own, z_nnr_brw, z_nn_none, z_nn_bool, z_nn_int, z_nn_str, z_nn_list, z_nn_tuple, y_t_isb, y_t_and, y_t_or, y_t_not, y_h_last, y_h_link, y_al_one, y_al_cons, y_an_one, y_an_cons, y_c_no, y_c_yes, y_i_seq, y_i_rng, y_i_zip, y_i_enum, y_s_never, y_s_pass, y_s_asg, y_s_par, y_s_par3, y_s_setO, y_s_unp, y_s_setB, y_s_exp, y_s_app, y_s_ext, y_s_iff, y_s_whl, y_s_forr, y_s_ret, y_s_retv, y_s_frz, y_ss_nil, y_ss_cons, argsOf, views, caps, Option.map_some, Option.map_none, Option.bind_some, Option.bind_none, List.getElem?_cons_zero, List.getElem?_cons_succ, List.set_cons_zero, List.set_cons_succ, List.length_cons, List.length_nil, z_read_dat, z_read_ref, z_read_scr, z_read_own, z_view_own, z_view_brw, z_view_dat, z_cap_dat, z_cap_own, z_hold_dat, z_hold_ref, z_hold_scr, z_hold_own, z_arg_dat, z_arg_ref, z_arg_scr, z_arg_own, z_look_t, z_look_f, z_len_ref, z_len_scr, z_len_l, z_len_t, z_len_o, z_len_b, z_ix_ref, z_ix_scr, z_ix_l, z_ix_t, z_ix_o, z_ix_b, z_blt_len, z_blt_abs, z_blt_tup, z_blt_lst, z_blt_sum, z_blt_all, z_blt_any, z_blt_min, z_blt_max, z_blt_sorted, z_blt_repr, z_blt_str, z_blt_int, z_blt_divmod, z_d_abs, z_d_tupl, z_d_tupt, z_d_lstl, z_d_lstt, z_d_sum, z_d_all, z_d_any, z_d_minl, z_d_maxl, z_d_min, z_d_max, z_d_sorted, z_d_divmod, z_d_int, z_d_repr, z_d_str, z_bin_i, z_bin_ll, z_bin_tt, z_bin_rep, z_add, z_sub, z_mul, z_fdiv, z_mod, z_eq, z_ne, z_lt, z_le, z_gt, z_ge, z_inl, z_int, z_ninl, z_nint, z_isi_int_none, z_isi_int_bool, z_isi_int_int, z_isi_int_str, z_isi_int_list, z_isi_int_tuple, z_isi_bool_none, z_isi_bool_bool, z_isi_bool_int, z_isi_bool_str, z_isi_bool_list, z_isi_bool_tuple, z_isi_str_none, z_isi_str_bool, z_isi_str_int, z_isi_str_str, z_isi_str_list, z_isi_str_tuple, z_isi_list_none, z_isi_list_bool, z_isi_list_int, z_isi_list_str, z_isi_list_list, z_isi_list_tuple, z_isi_tuple_none, z_isi_tuple_bool, z_isi_tuple_int, z_isi_tuple_str, z_isi_tuple_list, z_isi_tuple_tuple, z_out_rt, z_out_nx, z_eqi, z_eqb, z_rng1, z_rng2, z_si_l, z_si_t, z_bind_nm, z_bind_tt, z_bind_tl, z_binds_n, z_binds_c, z_sl_l, z_sl_t, z_at0, z_at1, z_at2, z_at3, z_ixN0, z_intsn, z_intsc, z_boolsn, z_boolsc, z_eqs, z_fgn, z_fgc, z_lcn, z_lcc, rng_2, rng_3, z_en2, z_en3, z_zn, z_zn2, z_zc, cut2_a0, cut2_a1, cut2_b1, cut2_b2, cut3_a0, cut3_a1, cut3_a2, cut3_b1, cut3_b2, cut3_b3, List.nil_append, List.cons_append, Int.reduceAdd, Int.reduceSub, Int.reduceMul, Int.reduceMod, Int.reduceNeg, Int.reduceToNat, Nat.reduceAdd, Int.cast_ofNat_Int, Int.natCast_add, f0, f1, f2, r2, e1, e2]
  have hB : Bd 2001 (a * d - b * c) := bd_sub (bd_mul ha hd) (bd_mul hb hc)
  have dv : divOk (a * d - b * c) = true := divOk_bd hB hn (by decide)
  unfold nums2
  by_cases h1 : (p * d - q * c).fmod (a * d - b * c) = 0 <;> by_cases h2 : (a * q - b * p).fmod (a * d - b * c) = 0 <;>
    simp (decide := true) only [b_numbers_for, q_numbers_for_1, q_numbers_for_2, ↓reduceIte, Bool.not_true, Bool.not_false, decide_true, decide_false, wipeE, Bool.false_eq_true, y_e_c, y_e_v, y_e_g, y_e_never, y_e_bin, y_e_neg, y_e_tst, y_e_ite, y_e_tup, y_e_lst, y_e_box, y_e_ix, y_e_sl, y_e_rev, y_e_call, y_e_blt, y_e_isi, y_e_lc, y_es_nil, y_es_cons, y_o_no, y_o_yes, y_t_val, y_t_cmp, y_t_chn, y_t_isnt, y_t_isnf, z_nnr_dat, z_nnr_own, z_nnr_brw, z_nn_none, z_nn_bool, z_nn_int, z_nn_str, z_nn_list, z_nn_tuple, y_t_isb, y_t_and, y_t_or, y_t_not, y_h_last, y_h_link, y_al_one, y_al_cons, y_an_one, y_an_cons, y_c_no, y_c_yes, y_i_seq, y_i_rng, y_i_zip, y_i_enum, y_s_never, y_s_pass, y_s_asg, y_s_par, y_s_par3, y_s_setO, y_s_unp, y_s_setB, y_s_exp, y_s_app, y_s_ext, y_s_iff, y_s_whl, y_s_forr, y_s_ret, y_s_retv, y_s_frz, y_ss_nil, y_ss_cons, argsOf, views, caps, Option.map_some, Option.map_none, Option.bind_some, Option.bind_none, List.getElem?_cons_zero, List.getElem?_cons_succ, List.set_cons_zero, List.set_cons_succ, List.length_cons, List.length_nil, z_read_dat, z_read_ref, z_read_scr, z_read_own, z_view_own, z_view_brw, z_view_dat, z_cap_dat, z_cap_own, z_hold_dat, z_hold_ref, z_hold_scr, z_hold_own, z_arg_dat, z_arg_ref, z_arg_scr, z_arg_own, z_look_t, z_look_f, z_len_ref, z_len_scr, z_len_l, z_len_t, z_len_o, z_len_b, z_ix_ref, z_ix_scr, z_ix_l, z_ix_t, z_ix_o, z_ix_b, z_blt_len, z_blt_abs, z_blt_tup, z_blt_lst, z_blt_sum, z_blt_all, z_blt_any, z_blt_min, z_blt_max, z_blt_sorted, z_blt_repr, z_blt_str, z_blt_int, z_blt_divmod, z_d_abs, z_d_tupl, z_d_tupt, z_d_lstl, z_d_lstt, z_d_sum, z_d_all, z_d_any, z_d_minl, z_d_maxl, z_d_min, z_d_max, z_d_sorted, z_d_divmod, z_d_int, z_d_repr, z_d_str, z_bin_i, z_bin_ll, z_bin_tt, z_bin_rep, z_add, z_sub, z_mul, z_fdiv, z_mod, z_eq, z_ne, z_lt, z_le, z_gt, z_ge, z_inl, z_int, z_ninl, z_nint, z_isi_int_none, z_isi_int_bool, z_isi_int_int, z_isi_int_str, z_isi_int_list, z_isi_int_tuple, z_isi_bool_none, z_isi_bool_bool, z_isi_bool_int, z_isi_bool_str, z_isi_bool_list, z_isi_bool_tuple, z_isi_str_none, z_isi_str_bool, z_isi_str_int, z_isi_str_str, z_isi_str_list, z_isi_str_tuple, z_isi_list_none, z_isi_list_bool, z_isi_list_int, z_isi_list_str, z_isi_list_list, z_isi_list_tuple, z_isi_tuple_none, z_isi_tuple_bool, z_isi_tuple_int, z_isi_tuple_str, z_isi_tuple_list, z_isi_tuple_tuple, z_out_rt, z_out_nx, z_eqi, z_eqb, z_rng1, z_rng2, z_si_l, z_si_t, z_bind_nm, z_bind_tt, z_bind_tl, z_binds_n, z_binds_c, z_sl_l, z_sl_t, z_at0, z_at1, z_at2, z_at3, z_ixN0, z_intsn, z_intsc, z_boolsn, z_boolsc, z_eqs, z_fgn, z_fgc, z_lcn, z_lcc, rng_2, rng_3, z_en2, z_en3, z_zn, z_zn2, z_zc, cut2_a0, cut2_a1, cut2_b1, cut2_b2, cut3_a0, cut3_a1, cut3_a2, cut3_b1, cut3_b2, cut3_b3, List.nil_append, List.cons_append, Int.reduceAdd, Int.reduceSub, Int.reduceMul, Int.reduceMod, Int.reduceNeg, Int.reduceToNat, Nat.reduceAdd, Int.cast_ofNat_Int, Int.natCast_add, e0, ht, z_modf hn, z_fdivf dv, h1, h2, Bool.not_true, Bool.not_false, List.any_cons, List.any_nil, id, Bool.or_false, Bool.or_true, Bool.or_self, Bool.true_or, Bool.false_or, and_self, and_true, true_and, and_false, false_and]

theorem s_is_within2 (k : Nat) (a b c d p q r s : Int) (st : Bx) (ha : Bd 1000 a) (hb : Bd 1000 b) (hc : Bd 1000 c) (hd : Bd 1000 d) (hp : Bd 1000 p) (hq : Bd 1000 q) (hr : Bd 1000 r) (hs : Bd 1000 s) (hn : a * d - b * c ≠ 0) :
    callF tb (k + 5) "is_within" [.dat (PyData.tuple [PyData.tuple [PyData.int (a), PyData.int (b)], PyData.tuple [PyData.int (c), PyData.int (d)]]), .dat (PyData.tuple [PyData.tuple [PyData.int (p), PyData.int (q)], PyData.tuple [PyData.int (r), PyData.int (s)]])] st = some (.dat (.bool (inG a b c d p q && inG a b c d r s)), st) := by
  rw [c_is_within]
  have e1 := s_numbers_for2 k a b c d p q st ha hb hc hd hp hq hn
  have e2 := s_numbers_for2 k a b c d r s st ha hb hc hd hr hs hn
  simp (decide := true) only [b_is_within, q_is_within_1, ↓reduceIte, Bool.not_true, Bool.not_false, decide_true, decide_false, wipeE, Bool.false_eq_true, y_e_c, y_e_v, y_e_g, y_e_never, y_e_bin, y_e_neg, y_e_tst, y_e_ite, y_e_tup, y_e_lst, y_e_box, y_e_ix, y_e_sl, y_e_rev, y_e_call, y_e_blt, y_e_isi, y_e_lc, y_es_nil, y_es_cons, y_o_no, y_o_yes, y_t_val, y_t_cmp, y_t_chn, y_t_isnt, y_t_isnf, z_nnr_dat, z_nnr_own, z_nnr_brw, z_nn_none, z_nn_bool, z_nn_int, z_nn_str, z_nn_list, z_nn_tuple, y_t_isb, y_t_and, y_t_or, y_t_not, y_h_last, y_h_link, y_al_one, y_al_cons, y_an_one, y_an_cons, y_c_no, y_c_yes, y_i_seq, y_i_rng, y_i_zip, y_i_enum, y_s_never, y_s_pass, y_s_asg, y_s_par, y_s_par3, y_s_setO, y_s_unp, y_s_setB, y_s_exp, y_s_app, y_s_ext, y_s_iff, y_s_whl, y_s_forr, y_s_ret, y_s_retv, y_s_frz, y_ss_nil, y_ss_cons, argsOf, views, caps, Option.map_some, Option.map_none, Option.bind_some, Option.bind_none, List.getElem?_cons_zero, List.getElem?_cons_succ, List.set_cons_zero, List.set_cons_succ, List.length_cons, List.length_nil, z_read_dat, z_read_ref, z_read_scr, z_read_own, z_view_own, z_view_brw, z_view_dat, z_cap_dat, z_cap_own, z_hold_dat, z_hold_ref, z_hold_scr, z_hold_own, z_arg_dat, z_arg_ref, z_arg_scr, z_arg_own, z_look_t, z_look_f, z_len_ref, z_len_scr, z_len_l, z_len_t, z_len_o, z_len_b, z_ix_ref, z_ix_scr, z_ix_l, z_ix_t, z_ix_o, z_ix_b, z_blt_len, z_blt_abs, z_blt_tup, z_blt_lst, z_blt_sum, z_blt_all, z_blt_any, z_blt_min, z_blt_max, z_blt_sorted, z_blt_repr, z_blt_str, z_blt_int, z_blt_divmod, z_d_abs, z_d_tupl, z_d_tupt, z_d_lstl, z_d_lstt, z_d_sum, z_d_all, z_d_any, z_d_minl, z_d_maxl, z_d_min, z_d_max, z_d_sorted, z_d_divmod, z_d_int, z_d_repr, z_d_str, z_bin_i, z_bin_ll, z_bin_tt, z_bin_rep, z_add, z_sub, z_mul, z_fdiv, z_mod, z_eq, z_ne, z_lt, z_le, z_gt, z_ge, z_inl, z_int, z_ninl, z_nint, z_isi_int_none, z_isi_int_bool, z_isi_int_int, z_isi_int_str, z_isi_int_list, z_isi_int_tuple, z_isi_bool_none, z_isi_bool_bool, z_isi_bool_int, z_isi_bool_str, z_isi_bool_list, z_isi_bool_tuple, z_isi_str_none, z_isi_str_bool, z_isi_str_int, z_isi_str_str, z_isi_str_list, z_isi_str_tuple, z_isi_list_none, z_isi_list_bool, z_isi_list_int, z_isi_list_str, z_isi_list_list, z_isi_list_tuple, z_isi_tuple_none, z_isi_tuple_bool, z_isi_tuple_int, z_isi_tuple_str, z_isi_tuple_list, z_isi_tuple_tuple, z_out_rt, z_out_nx, z_eqi, z_eqb, z_rng1, z_rng2, z_si_l, z_si_t, z_bind_nm, z_bind_tt, z_bind_tl, z_binds_n, z_binds_c, z_sl_l, z_sl_t, z_at0, z_at1, z_at2, z_at3, z_ixN0, z_intsn, z_intsc, z_boolsn, z_boolsc, z_eqs, z_fgn, z_fgc, z_lcn, z_lcc, rng_2, rng_3, z_en2, z_en3, z_zn, z_zn2, z_zc, cut2_a0, cut2_a1, cut2_b1, cut2_b2, cut3_a0, cut3_a1, cut3_a2, cut3_b1, cut3_b2, cut3_b3, List.nil_append, List.cons_append, Int.reduceAdd, Int.reduceSub, Int.reduceMul, Int.reduceMod, Int.reduceNeg, Int.reduceToNat, Nat.reduceAdd, Int.cast_ofNat_Int, Int.natCast_add, e1, e2, nums2_nn, Bool.not_not, List.all_cons, List.all_nil, id, Bool.and_true]

/-! short pairs have the least points -/
theorem nr_form (a b c d x y : Int) : (x * a + y * c) * (x * a + y * c) + (x * b + y * d) * (x * b + y * d) = Wf (a * a + b * b) (a * c + b * d) (c * c + d * d) x y := by unfold Wf; grind
theorem one_sq {x : Int} (h : x * x ≤ 1) : x = -1 ∨ x = 0 ∨ x = 1 := by
  have := sq_lt (r := 2) (by decide) (x := x) (by omega)
  omega
theorem sq_small {m x : Int} (hm : 0 < m) (h : 3 * m * (x * x) ≤ 4 * m) : x = -1 ∨ x = 0 ∨ x = 1 := by
  apply one_sq
  rcases Int.lt_or_le (x * x) 2 with q | q
  · omega
  · have := Int.mul_le_mul_of_nonneg_left q (show 0 ≤ 3 * m by omega)
    omega
theorem wf_min {a b c x y : Int} (h0 : 0 ≤ 2 * b) (h1 : 2 * b ≤ a) (h2 : a ≤ c) (h3 : 1 ≤ a) (h : ¬ (x = 0 ∧ y = 0)) : a ≤ Wf a b c x y := by
  rcases Int.lt_or_le (Wf a b c x y) a with q | q
  · exfalso
    have hx := wf_x h0 h1 h2 h3 (x := x) (y := y) rfl
    have hy := wf_y h0 h1 h2 h3 (x := x) (y := y) rfl
    have ex := sq_small (m := a) (x := x) (by omega) (by omega)
    have ey := sq_small (m := c) (x := y) (by omega) (by omega)
    unfold Wf at q
    rcases ex with rfl | rfl | rfl <;> rcases ey with rfl | rfl | rfl <;> omega
  · exact q
theorem wf_eq {a b c x y : Int} (h0 : 0 ≤ 2 * b) (h1 : 2 * b ≤ a) (h2 : a ≤ c) (h3 : 1 ≤ a) (h : Wf a b c x y = a) : (x = -1 ∨ x = 0 ∨ x = 1) ∧ (y = -1 ∨ y = 0 ∨ y = 1) := by
  have hx := wf_x h0 h1 h2 h3 h
  have hy := wf_y h0 h1 h2 h3 h
  exact ⟨sq_small (m := a) (by omega) (by omega), sq_small (m := c) (by omega) (by omega)⟩
/-- in the grid: made by whole numbers -/
theorem inG_iff {a b c d p q : Int} (hn : a * d - b * c ≠ 0) : inG a b c d p q = true ↔ ∃ x y : Int, p = x * a + y * c ∧ q = x * b + y * d := by
  unfold inG
  rw [decide_eq_true_eq]
  constructor
  · rintro ⟨h1, h2⟩
    obtain ⟨x, hx⟩ := Int.dvd_of_fmod_eq_zero h1
    obtain ⟨y, hy⟩ := Int.dvd_of_fmod_eq_zero h2
    refine ⟨x, y, ?_, ?_⟩
    · have e : (a * d - b * c) * p = (a * d - b * c) * (x * a + y * c) := by
        have e1 : (a * d - b * c) * (x * a + y * c) = ((a * d - b * c) * x) * a + ((a * d - b * c) * y) * c := by grind
        rw [e1, ← hx, ← hy]
        grind
      exact Int.eq_of_mul_eq_mul_left hn e
    · have e : (a * d - b * c) * q = (a * d - b * c) * (x * b + y * d) := by
        have e1 : (a * d - b * c) * (x * b + y * d) = ((a * d - b * c) * x) * b + ((a * d - b * c) * y) * d := by grind
        rw [e1, ← hx, ← hy]
        grind
      exact Int.eq_of_mul_eq_mul_left hn e
  · rintro ⟨x, y, rfl, rfl⟩
    have e1 : (x * a + y * c) * d - (x * b + y * d) * c = x * (a * d - b * c) := by grind
    have e2 : a * (x * b + y * d) - b * (x * a + y * c) = y * (a * d - b * c) := by grind
    rw [e1, e2]
    exact ⟨Int.mul_fmod_left x _, Int.mul_fmod_left y _⟩
/-- points of one grid -/
theorem uni_pts {a b c d a' b' c' d' : Int} (h : Uni a b c d a' b' c' d') (p q : Int) : (∃ x y : Int, p = x * a + y * c ∧ q = x * b + y * d) ↔ ∃ x y : Int, p = x * a' + y * c' ∧ q = x * b' + y * d' := by
  obtain ⟨k, l, r, s, h0, rfl, rfl, rfl, rfl⟩ := h
  constructor
  · rintro ⟨x, y, rfl, rfl⟩
    rcases h0 with h0 | h0
    · refine ⟨x * s - y * r, y * k - x * l, ?_, ?_⟩
      · have e : (x * s - y * r) * (k * a + l * c) + (y * k - x * l) * (r * a + s * c) = (k * s - l * r) * (x * a + y * c) := by grind
        rw [e, h0]; omega
      · have e : (x * s - y * r) * (k * b + l * d) + (y * k - x * l) * (r * b + s * d) = (k * s - l * r) * (x * b + y * d) := by grind
        rw [e, h0]; omega
    · refine ⟨-(x * s - y * r), -(y * k - x * l), ?_, ?_⟩
      · have e : -(x * s - y * r) * (k * a + l * c) + -(y * k - x * l) * (r * a + s * c) = -((k * s - l * r) * (x * a + y * c)) := by grind
        rw [e, h0]; omega
      · have e : -(x * s - y * r) * (k * b + l * d) + -(y * k - x * l) * (r * b + s * d) = -((k * s - l * r) * (x * b + y * d)) := by grind
        rw [e, h0]; omega
  · rintro ⟨x, y, rfl, rfl⟩
    exact ⟨x * k + y * r, x * l + y * s, by grind, by grind⟩
/-- only one way -/
theorem pts_inj {a b c d x y x' y' : Int} (hn : a * d - b * c ≠ 0) (h1 : x * a + y * c = x' * a + y' * c) (h2 : x * b + y * d = x' * b + y' * d) : x = x' ∧ y = y' := by
  constructor
  · have e : (a * d - b * c) * x = (a * d - b * c) * x' := by
      have e1 : (a * d - b * c) * x = (x * a + y * c) * d - (x * b + y * d) * c := by grind
      have e2 : (a * d - b * c) * x' = (x' * a + y' * c) * d - (x' * b + y' * d) * c := by grind
      rw [e1, e2, h1, h2]
    exact Int.eq_of_mul_eq_mul_left hn e
  · have e : (a * d - b * c) * y = (a * d - b * c) * y' := by
      have e1 : (a * d - b * c) * y = a * (x * b + y * d) - b * (x * a + y * c) := by grind
      have e2 : (a * d - b * c) * y' = a * (x' * b + y' * d) - b * (x' * a + y' * c) := by grind
      rw [e1, e2, h1, h2]
    exact Int.eq_of_mul_eq_mul_left hn e

/-! flat pairs -/
theorem whlD_some {c : En → Bx → Option (Bool × Bx)} {b : En → Bx → Option Out} {env : En} {st : Bx} {o : Out} (h : whlD c b env st = some o) : ∃ n, whlN c b n env st = some o := by
  unfold whlD at h
  split at h
  · exact ⟨_, h⟩
  · cases h
theorem whl_stop {cf : Cf} {t : Ts} {b : Stms} {env : En} {st st1 : Bx} (h : t.den cf env st = some (false, st1)) : (Stm.whl t b).den cf env st = some (.nx env st1) := by
  rw [y_s_whl]
  exact whlD_of (n := 1) (by unfold whlN; rw [h])
theorem whl_step {cf : Cf} {t : Ts} {b : Stms} {env env2 : En} {st st1 st2 : Bx} {o : Out} (h : t.den cf env st = some (true, st1)) (hb : b.den cf env st1 = some (.nx env2 st2)) (hw : (Stm.whl t b).den cf env2 st2 = some o) : (Stm.whl t b).den cf env st = some o := by
  rw [y_s_whl] at hw ⊢
  obtain ⟨n, hn⟩ := whlD_some hw
  exact whlD_of (n := n + 1) (by unfold whlN; rw [h]; dsimp only; rw [hb]; exact hn)
theorem fmod_small {a c : Int} (hc : c ≠ 0) : (a.fmod c).natAbs < c.natAbs := by
  rcases Int.lt_or_le c 0 with h | h
  · have e : a.fmod c = -((-a).fmod (-c)) := by rw [Int.neg_fmod_neg, Int.neg_neg]
    rw [e, Int.fmod_eq_emod_of_nonneg _ (by omega)]
    have h1 := Int.emod_nonneg (-a) (show -c ≠ 0 by omega)
    have h2 := Int.emod_lt_of_pos (-a) (show 0 < -c by omega)
    omega
  · rw [Int.fmod_eq_emod_of_nonneg _ h]
    have h1 := Int.emod_nonneg a hc
    have h2 := Int.emod_lt_of_pos a (show 0 < c by omega)
    omega
theorem fsub {a c : Int} : a - a.fdiv c * c = a.fmod c := by rw [Int.fmod_def, Int.mul_comm]
/-- the second number grows but slowly -/
theorem grow {a b c d q : Int} {D : Nat} (hc : c ≠ 0) (hD : (a * d - b * c).natAbs ≤ D) (hs : (a - q * c).natAbs < c.natAbs) : (b - q * d).natAbs ≤ d.natAbs + D := by
  have e : c * (b - q * d) = (a - q * c) * d - (a * d - b * c) := by grind
  have h1 : (c * (b - q * d)).natAbs ≤ ((a - q * c) * d).natAbs + (a * d - b * c).natAbs := by rw [e]; omega
  rw [Int.natAbs_mul, Int.natAbs_mul] at h1
  have h2 : (a - q * c).natAbs * d.natAbs ≤ c.natAbs * d.natAbs := Nat.mul_le_mul_right _ (by omega)
  have h3 : 1 * D ≤ c.natAbs * D := Nat.mul_le_mul_right _ (by omega)
  have h4 : c.natAbs * (b - q * d).natAbs ≤ c.natAbs * (d.natAbs + D) := by rw [Nat.mul_add]; omega
  exact Nat.le_of_mul_le_mul_left h4 (by omega)
theorem bd_nat {B : Nat} {x : Int} {K : Nat} (h : x.natAbs ≤ K) (hK : K < 2 ^ B) : Bd B x := by unfold Bd; omega
/-- the Euclidean way -/
theorem s_led_loop (cf : Cf) (K D : Nat) (st : Bx) (hK : K < 2 ^ 400) : ∀ (n : Nat) (a b c d : Int) (x : Option R), c.natAbs = n → (a * d - b * c).natAbs ≤ D → Bd 400 a → Bd 400 c → b.natAbs + c.natAbs * D ≤ K → d.natAbs + c.natAbs * D ≤ K →
    ∃ a' b' d' y, Uni a b c d a' b' 0 d' ∧ b'.natAbs ≤ K ∧ d'.natAbs ≤ K ∧ Bd 400 a' ∧ Stm.den cf l_led_flat_1 [some (.dat (PyData.tuple [PyData.int (a), PyData.int (b)])), some (.dat (PyData.tuple [PyData.int (c), PyData.int (d)])), x] st = some (.nx [some (.dat (PyData.tuple [PyData.int (a'), PyData.int (b')])), some (.dat (PyData.tuple [PyData.int (0), PyData.int (d')])), y] st) := by
  intro n
  induction n using Nat.strongRecOn with
  | _ n ih =>
    intro a b c d x hn hD ba bc hb hd
    by_cases hc : c = 0
    · subst hc
      exact ⟨a, b, d, x, Uni.refl _ _ _ _, by omega, by omega, ba, whl_stop (by simp (decide := true) only [↓reduceIte, Bool.not_true, Bool.not_false, decide_true, decide_false, wipeE, Bool.false_eq_true, y_e_c, y_e_v, y_e_g, y_e_never, y_e_bin, y_e_neg, y_e_tst, y_e_ite, y_e_tup, y_e_lst, y_e_box, y_e_ix, y_e_sl, y_e_rev, y_e_call, y_e_blt, y_e_isi, y_e_lc, y_es_nil, y_es_cons, y_o_no, y_o_yes, y_t_val, y_t_cmp, y_t_chn, y_t_isnt, y_t_isnf, z_nnr_dat, z_nnr_own, z_nnr_brw, z_nn_none, z_nn_bool, z_nn_int, z_nn_str, z_nn_list, z_nn_tuple, y_t_isb, y_t_and, y_t_or, y_t_not, y_h_last, y_h_link, y_al_one, y_al_cons, y_an_one, y_an_cons, y_c_no, y_c_yes, y_i_seq, y_i_rng, y_i_zip, y_i_enum, y_s_never, y_s_pass, y_s_asg, y_s_par, y_s_par3, y_s_setO, y_s_unp, y_s_setB, y_s_exp, y_s_app, y_s_ext, y_s_iff, y_s_whl, y_s_forr, y_s_ret, y_s_retv, y_s_frz, y_ss_nil, y_ss_cons, argsOf, views, caps, Option.map_some, Option.map_none, Option.bind_some, Option.bind_none, List.getElem?_cons_zero, List.getElem?_cons_succ, List.set_cons_zero, List.set_cons_succ, List.length_cons, List.length_nil, z_read_dat, z_read_ref, z_read_scr, z_read_own, z_view_own, z_view_brw, z_view_dat, z_cap_dat, z_cap_own, z_hold_dat, z_hold_ref, z_hold_scr, z_hold_own, z_arg_dat, z_arg_ref, z_arg_scr, z_arg_own, z_look_t, z_look_f, z_len_ref, z_len_scr, z_len_l, z_len_t, z_len_o, z_len_b, z_ix_ref, z_ix_scr, z_ix_l, z_ix_t, z_ix_o, z_ix_b, z_blt_len, z_blt_abs, z_blt_tup, z_blt_lst, z_blt_sum, z_blt_all, z_blt_any, z_blt_min, z_blt_max, z_blt_sorted, z_blt_repr, z_blt_str, z_blt_int, z_blt_divmod, z_d_abs, z_d_tupl, z_d_tupt, z_d_lstl, z_d_lstt, z_d_sum, z_d_all, z_d_any, z_d_minl, z_d_maxl, z_d_min, z_d_max, z_d_sorted, z_d_divmod, z_d_int, z_d_repr, z_d_str, z_bin_i, z_bin_ll, z_bin_tt, z_bin_rep, z_add, z_sub, z_mul, z_fdiv, z_mod, z_eq, z_ne, z_lt, z_le, z_gt, z_ge, z_inl, z_int, z_ninl, z_nint, z_isi_int_none, z_isi_int_bool, z_isi_int_int, z_isi_int_str, z_isi_int_list, z_isi_int_tuple, z_isi_bool_none, z_isi_bool_bool, z_isi_bool_int, z_isi_bool_str, z_isi_bool_list, z_isi_bool_tuple, z_isi_str_none, z_isi_str_bool, z_isi_str_int, z_isi_str_str, z_isi_str_list, z_isi_str_tuple, z_isi_list_none, z_isi_list_bool, z_isi_list_int, z_isi_list_str, z_isi_list_list, z_isi_list_tuple, z_isi_tuple_none, z_isi_tuple_bool, z_isi_tuple_int, z_isi_tuple_str, z_isi_tuple_list, z_isi_tuple_tuple, z_out_rt, z_out_nx, z_eqi, z_eqb, z_rng1, z_rng2, z_si_l, z_si_t, z_bind_nm, z_bind_tt, z_bind_tl, z_binds_n, z_binds_c, z_sl_l, z_sl_t, z_at0, z_at1, z_at2, z_at3, z_ixN0, z_intsn, z_intsc, z_boolsn, z_boolsc])⟩
    · have f2 : fitsL 2 = true := by decide
      have bb : Bd 400 b := bd_nat (by omega) hK
      have bd' : Bd 400 d := bd_nat (by omega) hK
      have dv : divOk c = true := divOk_bd bc hc (by decide)
      obtain ⟨q, eq⟩ : ∃ q, a.fdiv c = q := ⟨_, rfl⟩
      have bq : Bd 400 q := by rw [← eq]; exact bd_fdiv c ba
      have m1 : mulOk q c = true := by exact Sy.mulOk_bd (by repeat' (first | assumption | apply Sy.bd_mul | apply Sy.bd_add | apply Sy.bd_sub | apply Sy.bd_neg | apply Sy.bd_abs | (exact Sy.bd_s (by decide) (by decide)) | (exact Sy.bd_s (by omega) (by omega)))) (by repeat' (first | assumption | apply Sy.bd_mul | apply Sy.bd_add | apply Sy.bd_sub | apply Sy.bd_neg | apply Sy.bd_abs | (exact Sy.bd_s (by decide) (by decide)) | (exact Sy.bd_s (by omega) (by omega)))) (by decide)
      have m2 : mulOk q d = true := by exact Sy.mulOk_bd (by repeat' (first | assumption | apply Sy.bd_mul | apply Sy.bd_add | apply Sy.bd_sub | apply Sy.bd_neg | apply Sy.bd_abs | (exact Sy.bd_s (by decide) (by decide)) | (exact Sy.bd_s (by omega) (by omega)))) (by repeat' (first | assumption | apply Sy.bd_mul | apply Sy.bd_add | apply Sy.bd_sub | apply Sy.bd_neg | apply Sy.bd_abs | (exact Sy.bd_s (by decide) (by decide)) | (exact Sy.bd_s (by omega) (by omega)))) (by decide)
      have hs : (a - q * c).natAbs < c.natAbs := by rw [← eq, fsub]; exact fmod_small hc
      have hg := grow (b := b) (d := d) hc hD hs
      have hu : Uni a b c d c d (a - q * c) (b - q * d) := ⟨0, 1, 1, -q, .inr (by grind), by grind, by grind, by grind, by grind⟩
      have hD2 : (c * (b - q * d) - d * (a - q * c)).natAbs ≤ D := by
        have e : c * (b - q * d) - d * (a - q * c) = -(a * d - b * c) := by grind
        rw [e, Int.natAbs_neg]; exact hD
      have hm : (a - q * c).natAbs * D ≤ (c.natAbs - 1) * D := Nat.mul_le_mul_right _ (by omega)
      have hm2 : (c.natAbs - 1) * D + D = c.natAbs * D := by
        have : c.natAbs = c.natAbs - 1 + 1 := by omega
        conv => rhs; rw [this, Nat.add_mul, Nat.one_mul]
      obtain ⟨a', b', d', y, u2, g1, g2, g3, e⟩ := ih (a - q * c).natAbs (by omega) c d (a - q * c) (b - q * d) (some (.dat (.int q))) rfl hD2 bc (by unfold Bd at bc ⊢; omega) (by omega) (by omega)
      exact ⟨a', b', d', y, hu.trans u2, g1, g2, g3, whl_step (st1 := st) (st2 := st) (by simp (decide := true) only [↓reduceIte, Bool.not_true, Bool.not_false, decide_true, decide_false, wipeE, Bool.false_eq_true, y_e_c, y_e_v, y_e_g, y_e_never, y_e_bin, y_e_neg, y_e_tst, y_e_ite, y_e_tup, y_e_lst, y_e_box, y_e_ix, y_e_sl, y_e_rev, y_e_call, y_e_blt, y_e_isi, y_e_lc, y_es_nil, y_es_cons, y_o_no, y_o_yes, y_t_val, y_t_cmp, y_t_chn, y_t_isnt, y_t_isnf, z_nnr_dat, z_nnr_own, z_nnr_brw, z_nn_none, z_nn_bool, z_nn_int, z_nn_str, z_nn_list, z_nn_tuple, y_t_isb, y_t_and, y_t_or, y_t_not, y_h_last, y_h_link, y_al_one, y_al_cons, y_an_one, y_an_cons, y_c_no, y_c_yes, y_i_seq, y_i_rng, y_i_zip, y_i_enum, y_s_never, y_s_pass, y_s_asg, y_s_par, y_s_par3, y_s_setO, y_s_unp, y_s_setB, y_s_exp, y_s_app, y_s_ext, y_s_iff, y_s_whl, y_s_forr, y_s_ret, y_s_retv, y_s_frz, y_ss_nil, y_ss_cons, argsOf, views, caps, Option.map_some, Option.map_none, Option.bind_some, Option.bind_none, List.getElem?_cons_zero, List.getElem?_cons_succ, List.set_cons_zero, List.set_cons_succ, List.length_cons, List.length_nil, z_read_dat, z_read_ref, z_read_scr, z_read_own, z_view_own, z_view_brw, z_view_dat, z_cap_dat, z_cap_own, z_hold_dat, z_hold_ref, z_hold_scr, z_hold_own, z_arg_dat, z_arg_ref, z_arg_scr, z_arg_own, z_look_t, z_look_f, z_len_ref, z_len_scr, z_len_l, z_len_t, z_len_o, z_len_b, z_ix_ref, z_ix_scr, z_ix_l, z_ix_t, z_ix_o, z_ix_b, z_blt_len, z_blt_abs, z_blt_tup, z_blt_lst, z_blt_sum, z_blt_all, z_blt_any, z_blt_min, z_blt_max, z_blt_sorted, z_blt_repr, z_blt_str, z_blt_int, z_blt_divmod, z_d_abs, z_d_tupl, z_d_tupt, z_d_lstl, z_d_lstt, z_d_sum, z_d_all, z_d_any, z_d_minl, z_d_maxl, z_d_min, z_d_max, z_d_sorted, z_d_divmod, z_d_int, z_d_repr, z_d_str, z_bin_i, z_bin_ll, z_bin_tt, z_bin_rep, z_add, z_sub, z_mul, z_fdiv, z_mod, z_eq, z_ne, z_lt, z_le, z_gt, z_ge, z_inl, z_int, z_ninl, z_nint, z_isi_int_none, z_isi_int_bool, z_isi_int_int, z_isi_int_str, z_isi_int_list, z_isi_int_tuple, z_isi_bool_none, z_isi_bool_bool, z_isi_bool_int, z_isi_bool_str, z_isi_bool_list, z_isi_bool_tuple, z_isi_str_none, z_isi_str_bool, z_isi_str_int, z_isi_str_str, z_isi_str_list, z_isi_str_tuple, z_isi_list_none, z_isi_list_bool, z_isi_list_int, z_isi_list_str, z_isi_list_list, z_isi_list_tuple, z_isi_tuple_none, z_isi_tuple_bool, z_isi_tuple_int, z_isi_tuple_str, z_isi_tuple_list, z_isi_tuple_tuple, z_out_rt, z_out_nx, z_eqi, z_eqb, z_rng1, z_rng2, z_si_l, z_si_t, z_bind_nm, z_bind_tt, z_bind_tl, z_binds_n, z_binds_c, z_sl_l, z_sl_t, z_at0, z_at1, z_at2, z_at3, z_ixN0, z_intsn, z_intsc, z_boolsn, z_boolsc, hc]) (by simp (decide := true) only [lb_led_flat_1, ↓reduceIte, Bool.not_true, Bool.not_false, decide_true, decide_false, wipeE, Bool.false_eq_true, y_e_c, y_e_v, y_e_g, y_e_never, y_e_bin, y_e_neg, y_e_tst, y_e_ite, y_e_tup, y_e_lst, y_e_box, y_e_ix, y_e_sl, y_e_rev, y_e_call, y_e_blt, y_e_isi, y_e_lc, y_es_nil, y_es_cons, y_o_no, y_o_yes, y_t_val, y_t_cmp, y_t_chn, y_t_isnt, y_t_isnf, z_nnr_dat, z_nnr_own, z_nnr_brw, z_nn_none, z_nn_bool, z_nn_int, z_nn_str, z_nn_list, z_nn_tuple, y_t_isb, y_t_and, y_t_or, y_t_not, y_h_last, y_h_link, y_al_one, y_al_cons, y_an_one, y_an_cons, y_c_no, y_c_yes, y_i_seq, y_i_rng, y_i_zip, y_i_enum, y_s_never, y_s_pass, y_s_asg, y_s_par, y_s_par3, y_s_setO, y_s_unp, y_s_setB, y_s_exp, y_s_app, y_s_ext, y_s_iff, y_s_whl, y_s_forr, y_s_ret, y_s_retv, y_s_frz, y_ss_nil, y_ss_cons, argsOf, views, caps, Option.map_some, Option.map_none, Option.bind_some, Option.bind_none, List.getElem?_cons_zero, List.getElem?_cons_succ, List.set_cons_zero, List.set_cons_succ, List.length_cons, List.length_nil, z_read_dat, z_read_ref, z_read_scr, z_read_own, z_view_own, z_view_brw, z_view_dat, z_cap_dat, z_cap_own, z_hold_dat, z_hold_ref, z_hold_scr, z_hold_own, z_arg_dat, z_arg_ref, z_arg_scr, z_arg_own, z_look_t, z_look_f, z_len_ref, z_len_scr, z_len_l, z_len_t, z_len_o, z_len_b, z_ix_ref, z_ix_scr, z_ix_l, z_ix_t, z_ix_o, z_ix_b, z_blt_len, z_blt_abs, z_blt_tup, z_blt_lst, z_blt_sum, z_blt_all, z_blt_any, z_blt_min, z_blt_max, z_blt_sorted, z_blt_repr, z_blt_str, z_blt_int, z_blt_divmod, z_d_abs, z_d_tupl, z_d_tupt, z_d_lstl, z_d_lstt, z_d_sum, z_d_all, z_d_any, z_d_minl, z_d_maxl, z_d_min, z_d_max, z_d_sorted, z_d_divmod, z_d_int, z_d_repr, z_d_str, z_bin_i, z_bin_ll, z_bin_tt, z_bin_rep, z_add, z_sub, z_mul, z_fdiv, z_mod, z_eq, z_ne, z_lt, z_le, z_gt, z_ge, z_inl, z_int, z_ninl, z_nint, z_isi_int_none, z_isi_int_bool, z_isi_int_int, z_isi_int_str, z_isi_int_list, z_isi_int_tuple, z_isi_bool_none, z_isi_bool_bool, z_isi_bool_int, z_isi_bool_str, z_isi_bool_list, z_isi_bool_tuple, z_isi_str_none, z_isi_str_bool, z_isi_str_int, z_isi_str_str, z_isi_str_list, z_isi_str_tuple, z_isi_list_none, z_isi_list_bool, z_isi_list_int, z_isi_list_str, z_isi_list_list, z_isi_list_tuple, z_isi_tuple_none, z_isi_tuple_bool, z_isi_tuple_int, z_isi_tuple_str, z_isi_tuple_list, z_isi_tuple_tuple, z_out_rt, z_out_nx, z_eqi, z_eqb, z_rng1, z_rng2, z_si_l, z_si_t, z_bind_nm, z_bind_tt, z_bind_tl, z_binds_n, z_binds_c, z_sl_l, z_sl_t, z_at0, z_at1, z_at2, z_at3, z_ixN0, z_intsn, z_intsc, z_boolsn, z_boolsc, z_eqs, z_fgn, z_fgc, z_lcn, z_lcc, rng_2, rng_3, z_en2, z_en3, z_zn, z_zn2, z_zc, cut2_a0, cut2_a1, cut2_b1, cut2_b2, cut3_a0, cut3_a1, cut3_a2, cut3_b1, cut3_b2, cut3_b3, List.nil_append, List.cons_append, Int.reduceAdd, Int.reduceSub, Int.reduceMul, Int.reduceMod, Int.reduceNeg, Int.reduceToNat, Nat.reduceAdd, Int.cast_ofNat_Int, Int.natCast_add, z_fdivf dv, eq, m1, m2, f2]) e⟩
theorem s_led_flat (k : Nat) (a b c d : Int) (st : Bx) (ha : Bd 130 a) (hb : Bd 130 b) (hc : Bd 130 c) (hd : Bd 130 d) :
    ∃ a' b' d', Uni a b c d a' b' 0 d' ∧ Bd 400 a' ∧ Bd 400 b' ∧ Bd 400 d' ∧ callF tb (k + 1) "led_flat" [.dat (PyData.tuple [PyData.int (a), PyData.int (b)]), .dat (PyData.tuple [PyData.int (c), PyData.int (d)])] st = some (.dat (PyData.tuple [PyData.tuple [PyData.int (a'), PyData.int (b')], PyData.tuple [PyData.int (0), PyData.int (d')]]), st) := by
  rw [c_led_flat]
  have hD : Bd 261 (a * d - b * c) := bd_sub (bd_mul ha hd) (bd_mul hb hc)
  have f2 : fitsL 2 = true := by decide
  obtain ⟨K, eK⟩ : ∃ K : Nat, b.natAbs + d.natAbs + c.natAbs * (a * d - b * c).natAbs = K := ⟨_, rfl⟩
  have hKi : Bd 400 (K : Int) := by
    rw [← eK]
    simp only [Int.natCast_add, Int.natCast_mul]
    exact (bd_add (bd_add (bd_abs hb) (bd_abs hd)) (bd_mul (bd_abs hc) (bd_abs hD))).mono (by decide)
  have hK : K < 2 ^ 400 := by unfold Bd at hKi; omega
  obtain ⟨a', b', d', y, hu, h1, h2, h3, e⟩ := s_led_loop (callF tb k) K (a * d - b * c).natAbs st hK _ a b c d none rfl (Nat.le_refl _) (ha.mono (by decide)) (hc.mono (by decide)) (by omega) (by omega)
  exact ⟨a', b', d', hu, h3, bd_nat h1 hK, bd_nat h2 hK, by simp (decide := true) only [b_led_flat, ↓reduceIte, Bool.not_true, Bool.not_false, decide_true, decide_false, wipeE, Bool.false_eq_true, y_e_c, y_e_v, y_e_g, y_e_never, y_e_bin, y_e_neg, y_e_tst, y_e_ite, y_e_tup, y_e_lst, y_e_box, y_e_ix, y_e_sl, y_e_rev, y_e_call, y_e_blt, y_e_isi, y_e_lc, y_es_nil, y_es_cons, y_o_no, y_o_yes, y_t_val, y_t_cmp, y_t_chn, y_t_isnt, y_t_isnf, z_nnr_dat, z_nnr_own, z_nnr_brw, z_nn_none, z_nn_bool, z_nn_int, z_nn_str, z_nn_list, z_nn_tuple, y_t_isb, y_t_and, y_t_or, y_t_not, y_h_last, y_h_link, y_al_one, y_al_cons, y_an_one, y_an_cons, y_c_no, y_c_yes, y_i_seq, y_i_rng, y_i_zip, y_i_enum, y_s_never, y_s_pass, y_s_asg, y_s_par, y_s_par3, y_s_setO, y_s_unp, y_s_setB, y_s_exp, y_s_app, y_s_ext, y_s_iff, y_s_whl, y_s_forr, y_s_ret, y_s_retv, y_s_frz, y_ss_nil, y_ss_cons, argsOf, views, caps, Option.map_some, Option.map_none, Option.bind_some, Option.bind_none, List.getElem?_cons_zero, List.getElem?_cons_succ, List.set_cons_zero, List.set_cons_succ, List.length_cons, List.length_nil, z_read_dat, z_read_ref, z_read_scr, z_read_own, z_view_own, z_view_brw, z_view_dat, z_cap_dat, z_cap_own, z_hold_dat, z_hold_ref, z_hold_scr, z_hold_own, z_arg_dat, z_arg_ref, z_arg_scr, z_arg_own, z_look_t, z_look_f, z_len_ref, z_len_scr, z_len_l, z_len_t, z_len_o, z_len_b, z_ix_ref, z_ix_scr, z_ix_l, z_ix_t, z_ix_o, z_ix_b, z_blt_len, z_blt_abs, z_blt_tup, z_blt_lst, z_blt_sum, z_blt_all, z_blt_any, z_blt_min, z_blt_max, z_blt_sorted, z_blt_repr, z_blt_str, z_blt_int, z_blt_divmod, z_d_abs, z_d_tupl, z_d_tupt, z_d_lstl, z_d_lstt, z_d_sum, z_d_all, z_d_any, z_d_minl, z_d_maxl, z_d_min, z_d_max, z_d_sorted, z_d_divmod, z_d_int, z_d_repr, z_d_str, z_bin_i, z_bin_ll, z_bin_tt, z_bin_rep, z_add, z_sub, z_mul, z_fdiv, z_mod, z_eq, z_ne, z_lt, z_le, z_gt, z_ge, z_inl, z_int, z_ninl, z_nint, z_isi_int_none, z_isi_int_bool, z_isi_int_int, z_isi_int_str, z_isi_int_list, z_isi_int_tuple, z_isi_bool_none, z_isi_bool_bool, z_isi_bool_int, z_isi_bool_str, z_isi_bool_list, z_isi_bool_tuple, z_isi_str_none, z_isi_str_bool, z_isi_str_int, z_isi_str_str, z_isi_str_list, z_isi_str_tuple, z_isi_list_none, z_isi_list_bool, z_isi_list_int, z_isi_list_str, z_isi_list_list, z_isi_list_tuple, z_isi_tuple_none, z_isi_tuple_bool, z_isi_tuple_int, z_isi_tuple_str, z_isi_tuple_list, z_isi_tuple_tuple, z_out_rt, z_out_nx, z_eqi, z_eqb, z_rng1, z_rng2, z_si_l, z_si_t, z_bind_nm, z_bind_tt, z_bind_tl, z_binds_n, z_binds_c, z_sl_l, z_sl_t, z_at0, z_at1, z_at2, z_at3, z_ixN0, z_intsn, z_intsc, z_boolsn, z_boolsc, e, f2]⟩
/-- from nought -/
theorem s_led_flat0 (k : Nat) (c d : Int) (st : Bx) (hc : c ≠ 0) (bc : Bd 130 c) (bd' : Bd 130 d) : callF tb (k + 1) "led_flat" [.dat (PyData.tuple [PyData.int (0), PyData.int (0)]), .dat (PyData.tuple [PyData.int (c), PyData.int (d)])] st = some (.dat (PyData.tuple [PyData.tuple [PyData.int (c), PyData.int (d)], PyData.tuple [PyData.int (0), PyData.int (0)]]), st) := by
  rw [c_led_flat]
  have f2 : fitsL 2 = true := by decide
  have dv : divOk c = true := divOk_bd bc hc (by decide)
  have m1 : mulOk 0 c = true := by exact Sy.mulOk_bd (by repeat' (first | assumption | apply Sy.bd_mul | apply Sy.bd_add | apply Sy.bd_sub | apply Sy.bd_neg | apply Sy.bd_abs | (exact Sy.bd_s (by decide) (by decide)) | (exact Sy.bd_s (by omega) (by omega)))) (by repeat' (first | assumption | apply Sy.bd_mul | apply Sy.bd_add | apply Sy.bd_sub | apply Sy.bd_neg | apply Sy.bd_abs | (exact Sy.bd_s (by decide) (by decide)) | (exact Sy.bd_s (by omega) (by omega)))) (by decide)
  have m2 : mulOk 0 d = true := by exact Sy.mulOk_bd (by repeat' (first | assumption | apply Sy.bd_mul | apply Sy.bd_add | apply Sy.bd_sub | apply Sy.bd_neg | apply Sy.bd_abs | (exact Sy.bd_s (by decide) (by decide)) | (exact Sy.bd_s (by omega) (by omega)))) (by repeat' (first | assumption | apply Sy.bd_mul | apply Sy.bd_add | apply Sy.bd_sub | apply Sy.bd_neg | apply Sy.bd_abs | (exact Sy.bd_s (by decide) (by decide)) | (exact Sy.bd_s (by omega) (by omega)))) (by decide)
  have e : Stm.den (callF tb k) l_led_flat_1 [some (.dat (PyData.tuple [PyData.int (0), PyData.int (0)])), some (.dat (PyData.tuple [PyData.int (c), PyData.int (d)])), none] st = some (.nx [some (.dat (PyData.tuple [PyData.int (c), PyData.int (d)])), some (.dat (PyData.tuple [PyData.int (0), PyData.int (0)])), some (.dat (.int 0))] st) :=
    whl_step (st1 := st) (st2 := st) (env2 := [some (.dat (PyData.tuple [PyData.int (c), PyData.int (d)])), some (.dat (PyData.tuple [PyData.int (0), PyData.int (0)])), some (.dat (.int 0))]) (by simp (decide := true) only [↓reduceIte, Bool.not_true, Bool.not_false, decide_true, decide_false, wipeE, Bool.false_eq_true, y_e_c, y_e_v, y_e_g, y_e_never, y_e_bin, y_e_neg, y_e_tst, y_e_ite, y_e_tup, y_e_lst, y_e_box, y_e_ix, y_e_sl, y_e_rev, y_e_call, y_e_blt, y_e_isi, y_e_lc, y_es_nil, y_es_cons, y_o_no, y_o_yes, y_t_val, y_t_cmp, y_t_chn, y_t_isnt, y_t_isnf, z_nnr_dat, z_nnr_own, z_nnr_brw, z_nn_none, z_nn_bool, z_nn_int, z_nn_str, z_nn_list, z_nn_tuple, y_t_isb, y_t_and, y_t_or, y_t_not, y_h_last, y_h_link, y_al_one, y_al_cons, y_an_one, y_an_cons, y_c_no, y_c_yes, y_i_seq, y_i_rng, y_i_zip, y_i_enum, y_s_never, y_s_pass, y_s_asg, y_s_par, y_s_par3, y_s_setO, y_s_unp, y_s_setB, y_s_exp, y_s_app, y_s_ext, y_s_iff, y_s_whl, y_s_forr, y_s_ret, y_s_retv, y_s_frz, y_ss_nil, y_ss_cons, argsOf, views, caps, Option.map_some, Option.map_none, Option.bind_some, Option.bind_none, List.getElem?_cons_zero, List.getElem?_cons_succ, List.set_cons_zero, List.set_cons_succ, List.length_cons, List.length_nil, z_read_dat, z_read_ref, z_read_scr, z_read_own, z_view_own, z_view_brw, z_view_dat, z_cap_dat, z_cap_own, z_hold_dat, z_hold_ref, z_hold_scr, z_hold_own, z_arg_dat, z_arg_ref, z_arg_scr, z_arg_own, z_look_t, z_look_f, z_len_ref, z_len_scr, z_len_l, z_len_t, z_len_o, z_len_b, z_ix_ref, z_ix_scr, z_ix_l, z_ix_t, z_ix_o, z_ix_b, z_blt_len, z_blt_abs, z_blt_tup, z_blt_lst, z_blt_sum, z_blt_all, z_blt_any, z_blt_min, z_blt_max, z_blt_sorted, z_blt_repr, z_blt_str, z_blt_int, z_blt_divmod, z_d_abs, z_d_tupl, z_d_tupt, z_d_lstl, z_d_lstt, z_d_sum, z_d_all, z_d_any, z_d_minl, z_d_maxl, z_d_min, z_d_max, z_d_sorted, z_d_divmod, z_d_int, z_d_repr, z_d_str, z_bin_i, z_bin_ll, z_bin_tt, z_bin_rep, z_add, z_sub, z_mul, z_fdiv, z_mod, z_eq, z_ne, z_lt, z_le, z_gt, z_ge, z_inl, z_int, z_ninl, z_nint, z_isi_int_none, z_isi_int_bool, z_isi_int_int, z_isi_int_str, z_isi_int_list, z_isi_int_tuple, z_isi_bool_none, z_isi_bool_bool, z_isi_bool_int, z_isi_bool_str, z_isi_bool_list, z_isi_bool_tuple, z_isi_str_none, z_isi_str_bool, z_isi_str_int, z_isi_str_str, z_isi_str_list, z_isi_str_tuple, z_isi_list_none, z_isi_list_bool, z_isi_list_int, z_isi_list_str, z_isi_list_list, z_isi_list_tuple, z_isi_tuple_none, z_isi_tuple_bool, z_isi_tuple_int, z_isi_tuple_str, z_isi_tuple_list, z_isi_tuple_tuple, z_out_rt, z_out_nx, z_eqi, z_eqb, z_rng1, z_rng2, z_si_l, z_si_t, z_bind_nm, z_bind_tt, z_bind_tl, z_binds_n, z_binds_c, z_sl_l, z_sl_t, z_at0, z_at1, z_at2, z_at3, z_ixN0, z_intsn, z_intsc, z_boolsn, z_boolsc, hc]) (by simp (decide := true) only [lb_led_flat_1, ↓reduceIte, Bool.not_true, Bool.not_false, decide_true, decide_false, wipeE, Bool.false_eq_true, y_e_c, y_e_v, y_e_g, y_e_never, y_e_bin, y_e_neg, y_e_tst, y_e_ite, y_e_tup, y_e_lst, y_e_box, y_e_ix, y_e_sl, y_e_rev, y_e_call, y_e_blt, y_e_isi, y_e_lc, y_es_nil, y_es_cons, y_o_no, y_o_yes, y_t_val, y_t_cmp, y_t_chn, y_t_isnt, y_t_isnf, z_nnr_dat, z_nnr_own, z_nnr_brw, z_nn_none, z_nn_bool, z_nn_int, z_nn_str, z_nn_list, z_nn_tuple, y_t_isb, y_t_and, y_t_or, y_t_not, y_h_last, y_h_link, y_al_one, y_al_cons, y_an_one, y_an_cons, y_c_no, y_c_yes, y_i_seq, y_i_rng, y_i_zip, y_i_enum, y_s_never, y_s_pass, y_s_asg, y_s_par, y_s_par3, y_s_setO, y_s_unp, y_s_setB, y_s_exp, y_s_app, y_s_ext, y_s_iff, y_s_whl, y_s_forr, y_s_ret, y_s_retv, y_s_frz, y_ss_nil, y_ss_cons, argsOf, views, caps, Option.map_some, Option.map_none, Option.bind_some, Option.bind_none, List.getElem?_cons_zero, List.getElem?_cons_succ, List.set_cons_zero, List.set_cons_succ, List.length_cons, List.length_nil, z_read_dat, z_read_ref, z_read_scr, z_read_own, z_view_own, z_view_brw, z_view_dat, z_cap_dat, z_cap_own, z_hold_dat, z_hold_ref, z_hold_scr, z_hold_own, z_arg_dat, z_arg_ref, z_arg_scr, z_arg_own, z_look_t, z_look_f, z_len_ref, z_len_scr, z_len_l, z_len_t, z_len_o, z_len_b, z_ix_ref, z_ix_scr, z_ix_l, z_ix_t, z_ix_o, z_ix_b, z_blt_len, z_blt_abs, z_blt_tup, z_blt_lst, z_blt_sum, z_blt_all, z_blt_any, z_blt_min, z_blt_max, z_blt_sorted, z_blt_repr, z_blt_str, z_blt_int, z_blt_divmod, z_d_abs, z_d_tupl, z_d_tupt, z_d_lstl, z_d_lstt, z_d_sum, z_d_all, z_d_any, z_d_minl, z_d_maxl, z_d_min, z_d_max, z_d_sorted, z_d_divmod, z_d_int, z_d_repr, z_d_str, z_bin_i, z_bin_ll, z_bin_tt, z_bin_rep, z_add, z_sub, z_mul, z_fdiv, z_mod, z_eq, z_ne, z_lt, z_le, z_gt, z_ge, z_inl, z_int, z_ninl, z_nint, z_isi_int_none, z_isi_int_bool, z_isi_int_int, z_isi_int_str, z_isi_int_list, z_isi_int_tuple, z_isi_bool_none, z_isi_bool_bool, z_isi_bool_int, z_isi_bool_str, z_isi_bool_list, z_isi_bool_tuple, z_isi_str_none, z_isi_str_bool, z_isi_str_int, z_isi_str_str, z_isi_str_list, z_isi_str_tuple, z_isi_list_none, z_isi_list_bool, z_isi_list_int, z_isi_list_str, z_isi_list_list, z_isi_list_tuple, z_isi_tuple_none, z_isi_tuple_bool, z_isi_tuple_int, z_isi_tuple_str, z_isi_tuple_list, z_isi_tuple_tuple, z_out_rt, z_out_nx, z_eqi, z_eqb, z_rng1, z_rng2, z_si_l, z_si_t, z_bind_nm, z_bind_tt, z_bind_tl, z_binds_n, z_binds_c, z_sl_l, z_sl_t, z_at0, z_at1, z_at2, z_at3, z_ixN0, z_intsn, z_intsc, z_boolsn, z_boolsc, z_eqs, z_fgn, z_fgc, z_lcn, z_lcc, rng_2, rng_3, z_en2, z_en3, z_zn, z_zn2, z_zc, cut2_a0, cut2_a1, cut2_b1, cut2_b2, cut3_a0, cut3_a1, cut3_a2, cut3_b1, cut3_b2, cut3_b3, List.nil_append, List.cons_append, Int.reduceAdd, Int.reduceSub, Int.reduceMul, Int.reduceMod, Int.reduceNeg, Int.reduceToNat, Nat.reduceAdd, Int.cast_ofNat_Int, Int.natCast_add, z_fdivf dv, Int.zero_fdiv, m1, m2, f2, Int.zero_mul]) (whl_stop (by simp (decide := true) only [↓reduceIte, Bool.not_true, Bool.not_false, decide_true, decide_false, wipeE, Bool.false_eq_true, y_e_c, y_e_v, y_e_g, y_e_never, y_e_bin, y_e_neg, y_e_tst, y_e_ite, y_e_tup, y_e_lst, y_e_box, y_e_ix, y_e_sl, y_e_rev, y_e_call, y_e_blt, y_e_isi, y_e_lc, y_es_nil, y_es_cons, y_o_no, y_o_yes, y_t_val, y_t_cmp, y_t_chn, y_t_isnt, y_t_isnf, z_nnr_dat, z_nnr_own, z_nnr_brw, z_nn_none, z_nn_bool, z_nn_int, z_nn_str, z_nn_list, z_nn_tuple, y_t_isb, y_t_and, y_t_or, y_t_not, y_h_last, y_h_link, y_al_one, y_al_cons, y_an_one, y_an_cons, y_c_no, y_c_yes, y_i_seq, y_i_rng, y_i_zip, y_i_enum, y_s_never, y_s_pass, y_s_asg, y_s_par, y_s_par3, y_s_setO, y_s_unp, y_s_setB, y_s_exp, y_s_app, y_s_ext, y_s_iff, y_s_whl, y_s_forr, y_s_ret, y_s_retv, y_s_frz, y_ss_nil, y_ss_cons, argsOf, views, caps, Option.map_some, Option.map_none, Option.bind_some, Option.bind_none, List.getElem?_cons_zero, List.getElem?_cons_succ, List.set_cons_zero, List.set_cons_succ, List.length_cons, List.length_nil, z_read_dat, z_read_ref, z_read_scr, z_read_own, z_view_own, z_view_brw, z_view_dat, z_cap_dat, z_cap_own, z_hold_dat, z_hold_ref, z_hold_scr, z_hold_own, z_arg_dat, z_arg_ref, z_arg_scr, z_arg_own, z_look_t, z_look_f, z_len_ref, z_len_scr, z_len_l, z_len_t, z_len_o, z_len_b, z_ix_ref, z_ix_scr, z_ix_l, z_ix_t, z_ix_o, z_ix_b, z_blt_len, z_blt_abs, z_blt_tup, z_blt_lst, z_blt_sum, z_blt_all, z_blt_any, z_blt_min, z_blt_max, z_blt_sorted, z_blt_repr, z_blt_str, z_blt_int, z_blt_divmod, z_d_abs, z_d_tupl, z_d_tupt, z_d_lstl, z_d_lstt, z_d_sum, z_d_all, z_d_any, z_d_minl, z_d_maxl, z_d_min, z_d_max, z_d_sorted, z_d_divmod, z_d_int, z_d_repr, z_d_str, z_bin_i, z_bin_ll, z_bin_tt, z_bin_rep, z_add, z_sub, z_mul, z_fdiv, z_mod, z_eq, z_ne, z_lt, z_le, z_gt, z_ge, z_inl, z_int, z_ninl, z_nint, z_isi_int_none, z_isi_int_bool, z_isi_int_int, z_isi_int_str, z_isi_int_list, z_isi_int_tuple, z_isi_bool_none, z_isi_bool_bool, z_isi_bool_int, z_isi_bool_str, z_isi_bool_list, z_isi_bool_tuple, z_isi_str_none, z_isi_str_bool, z_isi_str_int, z_isi_str_str, z_isi_str_list, z_isi_str_tuple, z_isi_list_none, z_isi_list_bool, z_isi_list_int, z_isi_list_str, z_isi_list_list, z_isi_list_tuple, z_isi_tuple_none, z_isi_tuple_bool, z_isi_tuple_int, z_isi_tuple_str, z_isi_tuple_list, z_isi_tuple_tuple, z_out_rt, z_out_nx, z_eqi, z_eqb, z_rng1, z_rng2, z_si_l, z_si_t, z_bind_nm, z_bind_tt, z_bind_tl, z_binds_n, z_binds_c, z_sl_l, z_sl_t, z_at0, z_at1, z_at2, z_at3, z_ixN0, z_intsn, z_intsc, z_boolsn, z_boolsc]))
  simp (decide := true) only [b_led_flat, ↓reduceIte, Bool.not_true, Bool.not_false, decide_true, decide_false, wipeE, Bool.false_eq_true, y_e_c, y_e_v, y_e_g, y_e_never, y_e_bin, y_e_neg, y_e_tst, y_e_ite, y_e_tup, y_e_lst, y_e_box, y_e_ix, y_e_sl, y_e_rev, y_e_call, y_e_blt, y_e_isi, y_e_lc, y_es_nil, y_es_cons, y_o_no, y_o_yes, y_t_val, y_t_cmp, y_t_chn, y_t_isnt, y_t_isnf, z_nnr_dat, z_nnr_own, z_nnr_brw, z_nn_none, z_nn_bool, z_nn_int, z_nn_str, z_nn_list, z_nn_tuple, y_t_isb, y_t_and, y_t_or, y_t_not, y_h_last, y_h_link, y_al_one, y_al_cons, y_an_one, y_an_cons, y_c_no, y_c_yes, y_i_seq, y_i_rng, y_i_zip, y_i_enum, y_s_never, y_s_pass, y_s_asg, y_s_par, y_s_par3, y_s_setO, y_s_unp, y_s_setB, y_s_exp, y_s_app, y_s_ext, y_s_iff, y_s_whl, y_s_forr, y_s_ret, y_s_retv, y_s_frz, y_ss_nil, y_ss_cons, argsOf, views, caps, Option.map_some, Option.map_none, Option.bind_some, Option.bind_none, List.getElem?_cons_zero, List.getElem?_cons_succ, List.set_cons_zero, List.set_cons_succ, List.length_cons, List.length_nil, z_read_dat, z_read_ref, z_read_scr, z_read_own, z_view_own, z_view_brw, z_view_dat, z_cap_dat, z_cap_own, z_hold_dat, z_hold_ref, z_hold_scr, z_hold_own, z_arg_dat, z_arg_ref, z_arg_scr, z_arg_own, z_look_t, z_look_f, z_len_ref, z_len_scr, z_len_l, z_len_t, z_len_o, z_len_b, z_ix_ref, z_ix_scr, z_ix_l, z_ix_t, z_ix_o, z_ix_b, z_blt_len, z_blt_abs, z_blt_tup, z_blt_lst, z_blt_sum, z_blt_all, z_blt_any, z_blt_min, z_blt_max, z_blt_sorted, z_blt_repr, z_blt_str, z_blt_int, z_blt_divmod, z_d_abs, z_d_tupl, z_d_tupt, z_d_lstl, z_d_lstt, z_d_sum, z_d_all, z_d_any, z_d_minl, z_d_maxl, z_d_min, z_d_max, z_d_sorted, z_d_divmod, z_d_int, z_d_repr, z_d_str, z_bin_i, z_bin_ll, z_bin_tt, z_bin_rep, z_add, z_sub, z_mul, z_fdiv, z_mod, z_eq, z_ne, z_lt, z_le, z_gt, z_ge, z_inl, z_int, z_ninl, z_nint, z_isi_int_none, z_isi_int_bool, z_isi_int_int, z_isi_int_str, z_isi_int_list, z_isi_int_tuple, z_isi_bool_none, z_isi_bool_bool, z_isi_bool_int, z_isi_bool_str, z_isi_bool_list, z_isi_bool_tuple, z_isi_str_none, z_isi_str_bool, z_isi_str_int, z_isi_str_str, z_isi_str_list, z_isi_str_tuple, z_isi_list_none, z_isi_list_bool, z_isi_list_int, z_isi_list_str, z_isi_list_list, z_isi_list_tuple, z_isi_tuple_none, z_isi_tuple_bool, z_isi_tuple_int, z_isi_tuple_str, z_isi_tuple_list, z_isi_tuple_tuple, z_out_rt, z_out_nx, z_eqi, z_eqb, z_rng1, z_rng2, z_si_l, z_si_t, z_bind_nm, z_bind_tt, z_bind_tl, z_binds_n, z_binds_c, z_sl_l, z_sl_t, z_at0, z_at1, z_at2, z_at3, z_ixN0, z_intsn, z_intsc, z_boolsn, z_boolsc, e, f2]
theorem s_led_flat1 (k : Nat) (b : Int) (st : Bx) : callF tb (k + 1) "led_flat" [.dat (PyData.tuple [PyData.int (0), PyData.int (0)]), .dat (PyData.tuple [PyData.int (0), PyData.int (b)])] st = some (.dat (PyData.tuple [PyData.tuple [PyData.int (0), PyData.int (0)], PyData.tuple [PyData.int (0), PyData.int (b)]]), st) := by
  rw [c_led_flat]
  have f2 : fitsL 2 = true := by decide
  have e : Stm.den (callF tb k) l_led_flat_1 [some (.dat (PyData.tuple [PyData.int (0), PyData.int (0)])), some (.dat (PyData.tuple [PyData.int (0), PyData.int (b)])), none] st = some (.nx [some (.dat (PyData.tuple [PyData.int (0), PyData.int (0)])), some (.dat (PyData.tuple [PyData.int (0), PyData.int (b)])), none] st) :=
    whl_stop (by simp (decide := true) only [↓reduceIte, Bool.not_true, Bool.not_false, decide_true, decide_false, wipeE, Bool.false_eq_true, y_e_c, y_e_v, y_e_g, y_e_never, y_e_bin, y_e_neg, y_e_tst, y_e_ite, y_e_tup, y_e_lst, y_e_box, y_e_ix, y_e_sl, y_e_rev, y_e_call, y_e_blt, y_e_isi, y_e_lc, y_es_nil, y_es_cons, y_o_no, y_o_yes, y_t_val, y_t_cmp, y_t_chn, y_t_isnt, y_t_isnf, z_nnr_dat, z_nnr_own, z_nnr_brw, z_nn_none, z_nn_bool, z_nn_int, z_nn_str, z_nn_list, z_nn_tuple, y_t_isb, y_t_and, y_t_or, y_t_not, y_h_last, y_h_link, y_al_one, y_al_cons, y_an_one, y_an_cons, y_c_no, y_c_yes, y_i_seq, y_i_rng, y_i_zip, y_i_enum, y_s_never, y_s_pass, y_s_asg, y_s_par, y_s_par3, y_s_setO, y_s_unp, y_s_setB, y_s_exp, y_s_app, y_s_ext, y_s_iff, y_s_whl, y_s_forr, y_s_ret, y_s_retv, y_s_frz, y_ss_nil, y_ss_cons, argsOf, views, caps, Option.map_some, Option.map_none, Option.bind_some, Option.bind_none, List.getElem?_cons_zero, List.getElem?_cons_succ, List.set_cons_zero, List.set_cons_succ, List.length_cons, List.length_nil, z_read_dat, z_read_ref, z_read_scr, z_read_own, z_view_own, z_view_brw, z_view_dat, z_cap_dat, z_cap_own, z_hold_dat, z_hold_ref, z_hold_scr, z_hold_own, z_arg_dat, z_arg_ref, z_arg_scr, z_arg_own, z_look_t, z_look_f, z_len_ref, z_len_scr, z_len_l, z_len_t, z_len_o, z_len_b, z_ix_ref, z_ix_scr, z_ix_l, z_ix_t, z_ix_o, z_ix_b, z_blt_len, z_blt_abs, z_blt_tup, z_blt_lst, z_blt_sum, z_blt_all, z_blt_any, z_blt_min, z_blt_max, z_blt_sorted, z_blt_repr, z_blt_str, z_blt_int, z_blt_divmod, z_d_abs, z_d_tupl, z_d_tupt, z_d_lstl, z_d_lstt, z_d_sum, z_d_all, z_d_any, z_d_minl, z_d_maxl, z_d_min, z_d_max, z_d_sorted, z_d_divmod, z_d_int, z_d_repr, z_d_str, z_bin_i, z_bin_ll, z_bin_tt, z_bin_rep, z_add, z_sub, z_mul, z_fdiv, z_mod, z_eq, z_ne, z_lt, z_le, z_gt, z_ge, z_inl, z_int, z_ninl, z_nint, z_isi_int_none, z_isi_int_bool, z_isi_int_int, z_isi_int_str, z_isi_int_list, z_isi_int_tuple, z_isi_bool_none, z_isi_bool_bool, z_isi_bool_int, z_isi_bool_str, z_isi_bool_list, z_isi_bool_tuple, z_isi_str_none, z_isi_str_bool, z_isi_str_int, z_isi_str_str, z_isi_str_list, z_isi_str_tuple, z_isi_list_none, z_isi_list_bool, z_isi_list_int, z_isi_list_str, z_isi_list_list, z_isi_list_tuple, z_isi_tuple_none, z_isi_tuple_bool, z_isi_tuple_int, z_isi_tuple_str, z_isi_tuple_list, z_isi_tuple_tuple, z_out_rt, z_out_nx, z_eqi, z_eqb, z_rng1, z_rng2, z_si_l, z_si_t, z_bind_nm, z_bind_tt, z_bind_tl, z_binds_n, z_binds_c, z_sl_l, z_sl_t, z_at0, z_at1, z_at2, z_at3, z_ixN0, z_intsn, z_intsc, z_boolsn, z_boolsc])
  simp (decide := true) only [b_led_flat, ↓reduceIte, Bool.not_true, Bool.not_false, decide_true, decide_false, wipeE, Bool.false_eq_true, y_e_c, y_e_v, y_e_g, y_e_never, y_e_bin, y_e_neg, y_e_tst, y_e_ite, y_e_tup, y_e_lst, y_e_box, y_e_ix, y_e_sl, y_e_rev, y_e_call, y_e_blt, y_e_isi, y_e_lc, y_es_nil, y_es_cons, y_o_no, y_o_yes, y_t_val, y_t_cmp, y_t_chn, y_t_isnt, y_t_isnf, z_nnr_dat, z_nnr_own, z_nnr_brw, z_nn_none, z_nn_bool, z_nn_int, z_nn_str, z_nn_list, z_nn_tuple, y_t_isb, y_t_and, y_t_or, y_t_not, y_h_last, y_h_link, y_al_one, y_al_cons, y_an_one, y_an_cons, y_c_no, y_c_yes, y_i_seq, y_i_rng, y_i_zip, y_i_enum, y_s_never, y_s_pass, y_s_asg, y_s_par, y_s_par3, y_s_setO, y_s_unp, y_s_setB, y_s_exp, y_s_app, y_s_ext, y_s_iff, y_s_whl, y_s_forr, y_s_ret, y_s_retv, y_s_frz, y_ss_nil, y_ss_cons, argsOf, views, caps, Option.map_some, Option.map_none, Option.bind_some, Option.bind_none, List.getElem?_cons_zero, List.getElem?_cons_succ, List.set_cons_zero, List.set_cons_succ, List.length_cons, List.length_nil, z_read_dat, z_read_ref, z_read_scr, z_read_own, z_view_own, z_view_brw, z_view_dat, z_cap_dat, z_cap_own, z_hold_dat, z_hold_ref, z_hold_scr, z_hold_own, z_arg_dat, z_arg_ref, z_arg_scr, z_arg_own, z_look_t, z_look_f, z_len_ref, z_len_scr, z_len_l, z_len_t, z_len_o, z_len_b, z_ix_ref, z_ix_scr, z_ix_l, z_ix_t, z_ix_o, z_ix_b, z_blt_len, z_blt_abs, z_blt_tup, z_blt_lst, z_blt_sum, z_blt_all, z_blt_any, z_blt_min, z_blt_max, z_blt_sorted, z_blt_repr, z_blt_str, z_blt_int, z_blt_divmod, z_d_abs, z_d_tupl, z_d_tupt, z_d_lstl, z_d_lstt, z_d_sum, z_d_all, z_d_any, z_d_minl, z_d_maxl, z_d_min, z_d_max, z_d_sorted, z_d_divmod, z_d_int, z_d_repr, z_d_str, z_bin_i, z_bin_ll, z_bin_tt, z_bin_rep, z_add, z_sub, z_mul, z_fdiv, z_mod, z_eq, z_ne, z_lt, z_le, z_gt, z_ge, z_inl, z_int, z_ninl, z_nint, z_isi_int_none, z_isi_int_bool, z_isi_int_int, z_isi_int_str, z_isi_int_list, z_isi_int_tuple, z_isi_bool_none, z_isi_bool_bool, z_isi_bool_int, z_isi_bool_str, z_isi_bool_list, z_isi_bool_tuple, z_isi_str_none, z_isi_str_bool, z_isi_str_int, z_isi_str_str, z_isi_str_list, z_isi_str_tuple, z_isi_list_none, z_isi_list_bool, z_isi_list_int, z_isi_list_str, z_isi_list_list, z_isi_list_tuple, z_isi_tuple_none, z_isi_tuple_bool, z_isi_tuple_int, z_isi_tuple_str, z_isi_tuple_list, z_isi_tuple_tuple, z_out_rt, z_out_nx, z_eqi, z_eqb, z_rng1, z_rng2, z_si_l, z_si_t, z_bind_nm, z_bind_tt, z_bind_tl, z_binds_n, z_binds_c, z_sl_l, z_sl_t, z_at0, z_at1, z_at2, z_at3, z_ixN0, z_intsn, z_intsc, z_boolsn, z_boolsc, e, f2]
theorem s_common0 (k : Nat) (a : Int) (st : Bx) : callF tb (k + 1) "common" [.dat (.int a), .dat (.int 0)] st = some (.dat (.int (a.natAbs : Int)), st) := by
  rw [c_common]
  have e : Stm.den (callF tb k) l_common_1 [some (.dat (.int a)), some (.dat (.int 0))] st = some (.nx [some (.dat (.int a)), some (.dat (.int 0))] st) := whl_stop (by simp (decide := true) only [↓reduceIte, Bool.not_true, Bool.not_false, decide_true, decide_false, wipeE, Bool.false_eq_true, y_e_c, y_e_v, y_e_g, y_e_never, y_e_bin, y_e_neg, y_e_tst, y_e_ite, y_e_tup, y_e_lst, y_e_box, y_e_ix, y_e_sl, y_e_rev, y_e_call, y_e_blt, y_e_isi, y_e_lc, y_es_nil, y_es_cons, y_o_no, y_o_yes, y_t_val, y_t_cmp, y_t_chn, y_t_isnt, y_t_isnf, z_nnr_dat, z_nnr_own, z_nnr_brw, z_nn_none, z_nn_bool, z_nn_int, z_nn_str, z_nn_list, z_nn_tuple, y_t_isb, y_t_and, y_t_or, y_t_not, y_h_last, y_h_link, y_al_one, y_al_cons, y_an_one, y_an_cons, y_c_no, y_c_yes, y_i_seq, y_i_rng, y_i_zip, y_i_enum, y_s_never, y_s_pass, y_s_asg, y_s_par, y_s_par3, y_s_setO, y_s_unp, y_s_setB, y_s_exp, y_s_app, y_s_ext, y_s_iff, y_s_whl, y_s_forr, y_s_ret, y_s_retv, y_s_frz, y_ss_nil, y_ss_cons, argsOf, views, caps, Option.map_some, Option.map_none, Option.bind_some, Option.bind_none, List.getElem?_cons_zero, List.getElem?_cons_succ, List.set_cons_zero, List.set_cons_succ, List.length_cons, List.length_nil, z_read_dat, z_read_ref, z_read_scr, z_read_own, z_view_own, z_view_brw, z_view_dat, z_cap_dat, z_cap_own, z_hold_dat, z_hold_ref, z_hold_scr, z_hold_own, z_arg_dat, z_arg_ref, z_arg_scr, z_arg_own, z_look_t, z_look_f, z_len_ref, z_len_scr, z_len_l, z_len_t, z_len_o, z_len_b, z_ix_ref, z_ix_scr, z_ix_l, z_ix_t, z_ix_o, z_ix_b, z_blt_len, z_blt_abs, z_blt_tup, z_blt_lst, z_blt_sum, z_blt_all, z_blt_any, z_blt_min, z_blt_max, z_blt_sorted, z_blt_repr, z_blt_str, z_blt_int, z_blt_divmod, z_d_abs, z_d_tupl, z_d_tupt, z_d_lstl, z_d_lstt, z_d_sum, z_d_all, z_d_any, z_d_minl, z_d_maxl, z_d_min, z_d_max, z_d_sorted, z_d_divmod, z_d_int, z_d_repr, z_d_str, z_bin_i, z_bin_ll, z_bin_tt, z_bin_rep, z_add, z_sub, z_mul, z_fdiv, z_mod, z_eq, z_ne, z_lt, z_le, z_gt, z_ge, z_inl, z_int, z_ninl, z_nint, z_isi_int_none, z_isi_int_bool, z_isi_int_int, z_isi_int_str, z_isi_int_list, z_isi_int_tuple, z_isi_bool_none, z_isi_bool_bool, z_isi_bool_int, z_isi_bool_str, z_isi_bool_list, z_isi_bool_tuple, z_isi_str_none, z_isi_str_bool, z_isi_str_int, z_isi_str_str, z_isi_str_list, z_isi_str_tuple, z_isi_list_none, z_isi_list_bool, z_isi_list_int, z_isi_list_str, z_isi_list_list, z_isi_list_tuple, z_isi_tuple_none, z_isi_tuple_bool, z_isi_tuple_int, z_isi_tuple_str, z_isi_tuple_list, z_isi_tuple_tuple, z_out_rt, z_out_nx, z_eqi, z_eqb, z_rng1, z_rng2, z_si_l, z_si_t, z_bind_nm, z_bind_tt, z_bind_tl, z_binds_n, z_binds_c, z_sl_l, z_sl_t, z_at0, z_at1, z_at2, z_at3, z_ixN0, z_intsn, z_intsc, z_boolsn, z_boolsc])
  simp (decide := true) only [b_common, ↓reduceIte, Bool.not_true, Bool.not_false, decide_true, decide_false, wipeE, Bool.false_eq_true, y_e_c, y_e_v, y_e_g, y_e_never, y_e_bin, y_e_neg, y_e_tst, y_e_ite, y_e_tup, y_e_lst, y_e_box, y_e_ix, y_e_sl, y_e_rev, y_e_call, y_e_blt, y_e_isi, y_e_lc, y_es_nil, y_es_cons, y_o_no, y_o_yes, y_t_val, y_t_cmp, y_t_chn, y_t_isnt, y_t_isnf, z_nnr_dat, z_nnr_own, z_nnr_brw, z_nn_none, z_nn_bool, z_nn_int, z_nn_str, z_nn_list, z_nn_tuple, y_t_isb, y_t_and, y_t_or, y_t_not, y_h_last, y_h_link, y_al_one, y_al_cons, y_an_one, y_an_cons, y_c_no, y_c_yes, y_i_seq, y_i_rng, y_i_zip, y_i_enum, y_s_never, y_s_pass, y_s_asg, y_s_par, y_s_par3, y_s_setO, y_s_unp, y_s_setB, y_s_exp, y_s_app, y_s_ext, y_s_iff, y_s_whl, y_s_forr, y_s_ret, y_s_retv, y_s_frz, y_ss_nil, y_ss_cons, argsOf, views, caps, Option.map_some, Option.map_none, Option.bind_some, Option.bind_none, List.getElem?_cons_zero, List.getElem?_cons_succ, List.set_cons_zero, List.set_cons_succ, List.length_cons, List.length_nil, z_read_dat, z_read_ref, z_read_scr, z_read_own, z_view_own, z_view_brw, z_view_dat, z_cap_dat, z_cap_own, z_hold_dat, z_hold_ref, z_hold_scr, z_hold_own, z_arg_dat, z_arg_ref, z_arg_scr, z_arg_own, z_look_t, z_look_f, z_len_ref, z_len_scr, z_len_l, z_len_t, z_len_o, z_len_b, z_ix_ref, z_ix_scr, z_ix_l, z_ix_t, z_ix_o, z_ix_b, z_blt_len, z_blt_abs, z_blt_tup, z_blt_lst, z_blt_sum, z_blt_all, z_blt_any, z_blt_min, z_blt_max, z_blt_sorted, z_blt_repr, z_blt_str, z_blt_int, z_blt_divmod, z_d_abs, z_d_tupl, z_d_tupt, z_d_lstl, z_d_lstt, z_d_sum, z_d_all, z_d_any, z_d_minl, z_d_maxl, z_d_min, z_d_max, z_d_sorted, z_d_divmod, z_d_int, z_d_repr, z_d_str, z_bin_i, z_bin_ll, z_bin_tt, z_bin_rep, z_add, z_sub, z_mul, z_fdiv, z_mod, z_eq, z_ne, z_lt, z_le, z_gt, z_ge, z_inl, z_int, z_ninl, z_nint, z_isi_int_none, z_isi_int_bool, z_isi_int_int, z_isi_int_str, z_isi_int_list, z_isi_int_tuple, z_isi_bool_none, z_isi_bool_bool, z_isi_bool_int, z_isi_bool_str, z_isi_bool_list, z_isi_bool_tuple, z_isi_str_none, z_isi_str_bool, z_isi_str_int, z_isi_str_str, z_isi_str_list, z_isi_str_tuple, z_isi_list_none, z_isi_list_bool, z_isi_list_int, z_isi_list_str, z_isi_list_list, z_isi_list_tuple, z_isi_tuple_none, z_isi_tuple_bool, z_isi_tuple_int, z_isi_tuple_str, z_isi_tuple_list, z_isi_tuple_tuple, z_out_rt, z_out_nx, z_eqi, z_eqb, z_rng1, z_rng2, z_si_l, z_si_t, z_bind_nm, z_bind_tt, z_bind_tl, z_binds_n, z_binds_c, z_sl_l, z_sl_t, z_at0, z_at1, z_at2, z_at3, z_ixN0, z_intsn, z_intsc, z_boolsn, z_boolsc, e]
theorem s_common1 (k : Nat) (b : Int) (st : Bx) (hb : b ≠ 0) : callF tb (k + 1) "common" [.dat (.int 0), .dat (.int b)] st = some (.dat (.int (b.natAbs : Int)), st) := by
  rw [c_common]
  have e : Stm.den (callF tb k) l_common_1 [some (.dat (.int 0)), some (.dat (.int b))] st = some (.nx [some (.dat (.int b)), some (.dat (.int 0))] st) :=
    whl_step (st1 := st) (st2 := st) (env2 := [some (.dat (.int b)), some (.dat (.int 0))]) (by simp (decide := true) only [↓reduceIte, Bool.not_true, Bool.not_false, decide_true, decide_false, wipeE, Bool.false_eq_true, y_e_c, y_e_v, y_e_g, y_e_never, y_e_bin, y_e_neg, y_e_tst, y_e_ite, y_e_tup, y_e_lst, y_e_box, y_e_ix, y_e_sl, y_e_rev, y_e_call, y_e_blt, y_e_isi, y_e_lc, y_es_nil, y_es_cons, y_o_no, y_o_yes, y_t_val, y_t_cmp, y_t_chn, y_t_isnt, y_t_isnf, z_nnr_dat, z_nnr_own, z_nnr_brw, z_nn_none, z_nn_bool, z_nn_int, z_nn_str, z_nn_list, z_nn_tuple, y_t_isb, y_t_and, y_t_or, y_t_not, y_h_last, y_h_link, y_al_one, y_al_cons, y_an_one, y_an_cons, y_c_no, y_c_yes, y_i_seq, y_i_rng, y_i_zip, y_i_enum, y_s_never, y_s_pass, y_s_asg, y_s_par, y_s_par3, y_s_setO, y_s_unp, y_s_setB, y_s_exp, y_s_app, y_s_ext, y_s_iff, y_s_whl, y_s_forr, y_s_ret, y_s_retv, y_s_frz, y_ss_nil, y_ss_cons, argsOf, views, caps, Option.map_some, Option.map_none, Option.bind_some, Option.bind_none, List.getElem?_cons_zero, List.getElem?_cons_succ, List.set_cons_zero, List.set_cons_succ, List.length_cons, List.length_nil, z_read_dat, z_read_ref, z_read_scr, z_read_own, z_view_own, z_view_brw, z_view_dat, z_cap_dat, z_cap_own, z_hold_dat, z_hold_ref, z_hold_scr, z_hold_own, z_arg_dat, z_arg_ref, z_arg_scr, z_arg_own, z_look_t, z_look_f, z_len_ref, z_len_scr, z_len_l, z_len_t, z_len_o, z_len_b, z_ix_ref, z_ix_scr, z_ix_l, z_ix_t, z_ix_o, z_ix_b, z_blt_len, z_blt_abs, z_blt_tup, z_blt_lst, z_blt_sum, z_blt_all, z_blt_any, z_blt_min, z_blt_max, z_blt_sorted, z_blt_repr, z_blt_str, z_blt_int, z_blt_divmod, z_d_abs, z_d_tupl, z_d_tupt, z_d_lstl, z_d_lstt, z_d_sum, z_d_all, z_d_any, z_d_minl, z_d_maxl, z_d_min, z_d_max, z_d_sorted, z_d_divmod, z_d_int, z_d_repr, z_d_str, z_bin_i, z_bin_ll, z_bin_tt, z_bin_rep, z_add, z_sub, z_mul, z_fdiv, z_mod, z_eq, z_ne, z_lt, z_le, z_gt, z_ge, z_inl, z_int, z_ninl, z_nint, z_isi_int_none, z_isi_int_bool, z_isi_int_int, z_isi_int_str, z_isi_int_list, z_isi_int_tuple, z_isi_bool_none, z_isi_bool_bool, z_isi_bool_int, z_isi_bool_str, z_isi_bool_list, z_isi_bool_tuple, z_isi_str_none, z_isi_str_bool, z_isi_str_int, z_isi_str_str, z_isi_str_list, z_isi_str_tuple, z_isi_list_none, z_isi_list_bool, z_isi_list_int, z_isi_list_str, z_isi_list_list, z_isi_list_tuple, z_isi_tuple_none, z_isi_tuple_bool, z_isi_tuple_int, z_isi_tuple_str, z_isi_tuple_list, z_isi_tuple_tuple, z_out_rt, z_out_nx, z_eqi, z_eqb, z_rng1, z_rng2, z_si_l, z_si_t, z_bind_nm, z_bind_tt, z_bind_tl, z_binds_n, z_binds_c, z_sl_l, z_sl_t, z_at0, z_at1, z_at2, z_at3, z_ixN0, z_intsn, z_intsc, z_boolsn, z_boolsc, hb]) (by simp (decide := true) only [lb_common_1, ↓reduceIte, Bool.not_true, Bool.not_false, decide_true, decide_false, wipeE, Bool.false_eq_true, y_e_c, y_e_v, y_e_g, y_e_never, y_e_bin, y_e_neg, y_e_tst, y_e_ite, y_e_tup, y_e_lst, y_e_box, y_e_ix, y_e_sl, y_e_rev, y_e_call, y_e_blt, y_e_isi, y_e_lc, y_es_nil, y_es_cons, y_o_no, y_o_yes, y_t_val, y_t_cmp, y_t_chn, y_t_isnt, y_t_isnf, z_nnr_dat, z_nnr_own, z_nnr_brw, z_nn_none, z_nn_bool, z_nn_int, z_nn_str, z_nn_list, z_nn_tuple, y_t_isb, y_t_and, y_t_or, y_t_not, y_h_last, y_h_link, y_al_one, y_al_cons, y_an_one, y_an_cons, y_c_no, y_c_yes, y_i_seq, y_i_rng, y_i_zip, y_i_enum, y_s_never, y_s_pass, y_s_asg, y_s_par, y_s_par3, y_s_setO, y_s_unp, y_s_setB, y_s_exp, y_s_app, y_s_ext, y_s_iff, y_s_whl, y_s_forr, y_s_ret, y_s_retv, y_s_frz, y_ss_nil, y_ss_cons, argsOf, views, caps, Option.map_some, Option.map_none, Option.bind_some, Option.bind_none, List.getElem?_cons_zero, List.getElem?_cons_succ, List.set_cons_zero, List.set_cons_succ, List.length_cons, List.length_nil, z_read_dat, z_read_ref, z_read_scr, z_read_own, z_view_own, z_view_brw, z_view_dat, z_cap_dat, z_cap_own, z_hold_dat, z_hold_ref, z_hold_scr, z_hold_own, z_arg_dat, z_arg_ref, z_arg_scr, z_arg_own, z_look_t, z_look_f, z_len_ref, z_len_scr, z_len_l, z_len_t, z_len_o, z_len_b, z_ix_ref, z_ix_scr, z_ix_l, z_ix_t, z_ix_o, z_ix_b, z_blt_len, z_blt_abs, z_blt_tup, z_blt_lst, z_blt_sum, z_blt_all, z_blt_any, z_blt_min, z_blt_max, z_blt_sorted, z_blt_repr, z_blt_str, z_blt_int, z_blt_divmod, z_d_abs, z_d_tupl, z_d_tupt, z_d_lstl, z_d_lstt, z_d_sum, z_d_all, z_d_any, z_d_minl, z_d_maxl, z_d_min, z_d_max, z_d_sorted, z_d_divmod, z_d_int, z_d_repr, z_d_str, z_bin_i, z_bin_ll, z_bin_tt, z_bin_rep, z_add, z_sub, z_mul, z_fdiv, z_mod, z_eq, z_ne, z_lt, z_le, z_gt, z_ge, z_inl, z_int, z_ninl, z_nint, z_isi_int_none, z_isi_int_bool, z_isi_int_int, z_isi_int_str, z_isi_int_list, z_isi_int_tuple, z_isi_bool_none, z_isi_bool_bool, z_isi_bool_int, z_isi_bool_str, z_isi_bool_list, z_isi_bool_tuple, z_isi_str_none, z_isi_str_bool, z_isi_str_int, z_isi_str_str, z_isi_str_list, z_isi_str_tuple, z_isi_list_none, z_isi_list_bool, z_isi_list_int, z_isi_list_str, z_isi_list_list, z_isi_list_tuple, z_isi_tuple_none, z_isi_tuple_bool, z_isi_tuple_int, z_isi_tuple_str, z_isi_tuple_list, z_isi_tuple_tuple, z_out_rt, z_out_nx, z_eqi, z_eqb, z_rng1, z_rng2, z_si_l, z_si_t, z_bind_nm, z_bind_tt, z_bind_tl, z_binds_n, z_binds_c, z_sl_l, z_sl_t, z_at0, z_at1, z_at2, z_at3, z_ixN0, z_intsn, z_intsc, z_boolsn, z_boolsc, z_modf hb, Int.zero_fmod]) (whl_stop (by simp (decide := true) only [↓reduceIte, Bool.not_true, Bool.not_false, decide_true, decide_false, wipeE, Bool.false_eq_true, y_e_c, y_e_v, y_e_g, y_e_never, y_e_bin, y_e_neg, y_e_tst, y_e_ite, y_e_tup, y_e_lst, y_e_box, y_e_ix, y_e_sl, y_e_rev, y_e_call, y_e_blt, y_e_isi, y_e_lc, y_es_nil, y_es_cons, y_o_no, y_o_yes, y_t_val, y_t_cmp, y_t_chn, y_t_isnt, y_t_isnf, z_nnr_dat, z_nnr_own, z_nnr_brw, z_nn_none, z_nn_bool, z_nn_int, z_nn_str, z_nn_list, z_nn_tuple, y_t_isb, y_t_and, y_t_or, y_t_not, y_h_last, y_h_link, y_al_one, y_al_cons, y_an_one, y_an_cons, y_c_no, y_c_yes, y_i_seq, y_i_rng, y_i_zip, y_i_enum, y_s_never, y_s_pass, y_s_asg, y_s_par, y_s_par3, y_s_setO, y_s_unp, y_s_setB, y_s_exp, y_s_app, y_s_ext, y_s_iff, y_s_whl, y_s_forr, y_s_ret, y_s_retv, y_s_frz, y_ss_nil, y_ss_cons, argsOf, views, caps, Option.map_some, Option.map_none, Option.bind_some, Option.bind_none, List.getElem?_cons_zero, List.getElem?_cons_succ, List.set_cons_zero, List.set_cons_succ, List.length_cons, List.length_nil, z_read_dat, z_read_ref, z_read_scr, z_read_own, z_view_own, z_view_brw, z_view_dat, z_cap_dat, z_cap_own, z_hold_dat, z_hold_ref, z_hold_scr, z_hold_own, z_arg_dat, z_arg_ref, z_arg_scr, z_arg_own, z_look_t, z_look_f, z_len_ref, z_len_scr, z_len_l, z_len_t, z_len_o, z_len_b, z_ix_ref, z_ix_scr, z_ix_l, z_ix_t, z_ix_o, z_ix_b, z_blt_len, z_blt_abs, z_blt_tup, z_blt_lst, z_blt_sum, z_blt_all, z_blt_any, z_blt_min, z_blt_max, z_blt_sorted, z_blt_repr, z_blt_str, z_blt_int, z_blt_divmod, z_d_abs, z_d_tupl, z_d_tupt, z_d_lstl, z_d_lstt, z_d_sum, z_d_all, z_d_any, z_d_minl, z_d_maxl, z_d_min, z_d_max, z_d_sorted, z_d_divmod, z_d_int, z_d_repr, z_d_str, z_bin_i, z_bin_ll, z_bin_tt, z_bin_rep, z_add, z_sub, z_mul, z_fdiv, z_mod, z_eq, z_ne, z_lt, z_le, z_gt, z_ge, z_inl, z_int, z_ninl, z_nint, z_isi_int_none, z_isi_int_bool, z_isi_int_int, z_isi_int_str, z_isi_int_list, z_isi_int_tuple, z_isi_bool_none, z_isi_bool_bool, z_isi_bool_int, z_isi_bool_str, z_isi_bool_list, z_isi_bool_tuple, z_isi_str_none, z_isi_str_bool, z_isi_str_int, z_isi_str_str, z_isi_str_list, z_isi_str_tuple, z_isi_list_none, z_isi_list_bool, z_isi_list_int, z_isi_list_str, z_isi_list_list, z_isi_list_tuple, z_isi_tuple_none, z_isi_tuple_bool, z_isi_tuple_int, z_isi_tuple_str, z_isi_tuple_list, z_isi_tuple_tuple, z_out_rt, z_out_nx, z_eqi, z_eqb, z_rng1, z_rng2, z_si_l, z_si_t, z_bind_nm, z_bind_tt, z_bind_tl, z_binds_n, z_binds_c, z_sl_l, z_sl_t, z_at0, z_at1, z_at2, z_at3, z_ixN0, z_intsn, z_intsc, z_boolsn, z_boolsc]))
  simp (decide := true) only [b_common, ↓reduceIte, Bool.not_true, Bool.not_false, decide_true, decide_false, wipeE, Bool.false_eq_true, y_e_c, y_e_v, y_e_g, y_e_never, y_e_bin, y_e_neg, y_e_tst, y_e_ite, y_e_tup, y_e_lst, y_e_box, y_e_ix, y_e_sl, y_e_rev, y_e_call, y_e_blt, y_e_isi, y_e_lc, y_es_nil, y_es_cons, y_o_no, y_o_yes, y_t_val, y_t_cmp, y_t_chn, y_t_isnt, y_t_isnf, z_nnr_dat, z_nnr_own, z_nnr_brw, z_nn_none, z_nn_bool, z_nn_int, z_nn_str, z_nn_list, z_nn_tuple, y_t_isb, y_t_and, y_t_or, y_t_not, y_h_last, y_h_link, y_al_one, y_al_cons, y_an_one, y_an_cons, y_c_no, y_c_yes, y_i_seq, y_i_rng, y_i_zip, y_i_enum, y_s_never, y_s_pass, y_s_asg, y_s_par, y_s_par3, y_s_setO, y_s_unp, y_s_setB, y_s_exp, y_s_app, y_s_ext, y_s_iff, y_s_whl, y_s_forr, y_s_ret, y_s_retv, y_s_frz, y_ss_nil, y_ss_cons, argsOf, views, caps, Option.map_some, Option.map_none, Option.bind_some, Option.bind_none, List.getElem?_cons_zero, List.getElem?_cons_succ, List.set_cons_zero, List.set_cons_succ, List.length_cons, List.length_nil, z_read_dat, z_read_ref, z_read_scr, z_read_own, z_view_own, z_view_brw, z_view_dat, z_cap_dat, z_cap_own, z_hold_dat, z_hold_ref, z_hold_scr, z_hold_own, z_arg_dat, z_arg_ref, z_arg_scr, z_arg_own, z_look_t, z_look_f, z_len_ref, z_len_scr, z_len_l, z_len_t, z_len_o, z_len_b, z_ix_ref, z_ix_scr, z_ix_l, z_ix_t, z_ix_o, z_ix_b, z_blt_len, z_blt_abs, z_blt_tup, z_blt_lst, z_blt_sum, z_blt_all, z_blt_any, z_blt_min, z_blt_max, z_blt_sorted, z_blt_repr, z_blt_str, z_blt_int, z_blt_divmod, z_d_abs, z_d_tupl, z_d_tupt, z_d_lstl, z_d_lstt, z_d_sum, z_d_all, z_d_any, z_d_minl, z_d_maxl, z_d_min, z_d_max, z_d_sorted, z_d_divmod, z_d_int, z_d_repr, z_d_str, z_bin_i, z_bin_ll, z_bin_tt, z_bin_rep, z_add, z_sub, z_mul, z_fdiv, z_mod, z_eq, z_ne, z_lt, z_le, z_gt, z_ge, z_inl, z_int, z_ninl, z_nint, z_isi_int_none, z_isi_int_bool, z_isi_int_int, z_isi_int_str, z_isi_int_list, z_isi_int_tuple, z_isi_bool_none, z_isi_bool_bool, z_isi_bool_int, z_isi_bool_str, z_isi_bool_list, z_isi_bool_tuple, z_isi_str_none, z_isi_str_bool, z_isi_str_int, z_isi_str_str, z_isi_str_list, z_isi_str_tuple, z_isi_list_none, z_isi_list_bool, z_isi_list_int, z_isi_list_str, z_isi_list_list, z_isi_list_tuple, z_isi_tuple_none, z_isi_tuple_bool, z_isi_tuple_int, z_isi_tuple_str, z_isi_tuple_list, z_isi_tuple_tuple, z_out_rt, z_out_nx, z_eqi, z_eqb, z_rng1, z_rng2, z_si_l, z_si_t, z_bind_nm, z_bind_tt, z_bind_tl, z_binds_n, z_binds_c, z_sl_l, z_sl_t, z_at0, z_at1, z_at2, z_at3, z_ixN0, z_intsn, z_intsc, z_boolsn, z_boolsc, e]
/-- the flat form of a pair -/
structure Flat (a b c d A B D : Int) : Prop where
  uni : Uni a b c d A B 0 D
  pos : 0 < A
  low : 0 < D
theorem flat_of {a b c d a' b' d' : Int} (hn : a * d - b * c ≠ 0) (hu : Uni a b c d a' b' 0 d') : a' ≠ 0 ∧ d' ≠ 0 ∧ Flat a b c d (a'.natAbs : Int) (if a' < 0 then 0 - b' else b') (d'.natAbs : Int) := by
  have h := hu.nz hn
  have ha : a' ≠ 0 := by rintro rfl; apply h; omega
  have hd : d' ≠ 0 := by rintro rfl; apply h; omega
  refine ⟨ha, hd, ⟨?_, by omega, by omega⟩⟩
  refine hu.trans ?_
  by_cases h1 : a' < 0 <;> by_cases h2 : d' < 0
  · rw [if_pos h1]; exact ⟨-1, 0, 0, -1, .inl (by decide), by omega, by omega, by omega, by omega⟩
  · rw [if_pos h1]; exact ⟨-1, 0, 0, 1, .inr (by decide), by omega, by omega, by omega, by omega⟩
  · rw [if_neg h1]; exact ⟨1, 0, 0, -1, .inr (by decide), by omega, by omega, by omega, by omega⟩
  · rw [if_neg h1]; exact ⟨1, 0, 0, 1, .inl (by decide), by omega, by omega, by omega, by omega⟩
theorem flat_uniq {A B D A' B' D' : Int} (hu : Uni A B 0 D A' B' 0 D') (h1 : 0 < A) (h2 : 0 < D) (h3 : 0 < A') (h4 : 0 < D') : A = A' ∧ D = D' ∧ B % D = B' % D' := by
  obtain ⟨p, q, r, s, h0, e1, e2, e3, e4⟩ := hu
  have hr : r * A = 0 := by omega
  have hr0 : r = 0 := by
    rcases Int.mul_eq_zero.mp hr with h | h
    · exact h
    · omega
  subst hr0
  have hps : p * s = 1 ∨ p * s = -1 := by omega
  have hA : A' = p * A := by omega
  have hD : D' = s * D := by omega
  have hp0 : 0 < p := by
    rcases Int.lt_or_le 0 p with h | h
    · exact h
    · exfalso
      have := Int.mul_le_mul_of_nonneg_right h (show 0 ≤ A by omega)
      omega
  have hs0 : 0 < s := by
    rcases Int.lt_or_le 0 s with h | h
    · exact h
    · exfalso
      have := Int.mul_le_mul_of_nonneg_right h (show 0 ≤ D by omega)
      omega
  have hpos : 0 < p * s := Int.mul_pos hp0 hs0
  have h1' : p * s = 1 := by omega
  have hp1 : p = 1 := by
    have := Int.mul_le_mul_of_nonneg_left (show 1 ≤ s by omega) (show 0 ≤ p by omega)
    omega
  subst hp1
  have hs1 : s = 1 := by omega
  subst hs1
  refine ⟨by omega, by omega, ?_⟩
  have e5 : D' = D := by omega
  rw [e5, e2]
  rw [show 1 * B + q * D = B + D * q by grind, Int.add_mul_emod_self_left]
theorem s_flat_by (k : Nat) (a b c d : Int) (st : Bx) (ha : Bd 130 a) (hb : Bd 130 b) (hc : Bd 130 c) (hd : Bd 130 d) (hn : a * d - b * c ≠ 0) :
    ∃ A B D, Flat a b c d A B D ∧ Bd 500 A ∧ Bd 500 B ∧ Bd 500 D ∧ callF tb (k + 2) "flat_by" [.dat (PyData.tuple [PyData.tuple [PyData.int (a), PyData.int (b)], PyData.tuple [PyData.int (c), PyData.int (d)]])] st = some (.dat (PyData.tuple [PyData.tuple [PyData.int (A), PyData.int (B % D)], PyData.tuple [PyData.int (0), PyData.int (D)]]), st) := by
  have f2 : fitsL 2 = true := by decide
  have z4 : ∀ {x : Int}, Bd 400 x → Bd 500 (0 - x) := fun h => by rw [Int.zero_sub]; exact (bd_neg h).mono (by decide)
  by_cases h0 : a = 0
  · subst h0
    have hc0 : c ≠ 0 := by rintro rfl; apply hn; omega
    have hb0 : b ≠ 0 := by rintro rfl; apply hn; omega
    obtain ⟨-, -, hF⟩ := flat_of (a' := c) (b' := d) (d' := b) hn (uni_turn 0 b c d)
    have e1 := s_led_flat1 k b st
    have e2 := s_common1 k b st hb0
    have e3 := s_led_flat0 k c d st hc0 hc hd
    have e4 := s_common0 k (b.natAbs : Int) st
    have hp : (0 : Int) < b.natAbs := by omega
    rw [show (((b.natAbs : Int).natAbs : Nat) : Int) = (b.natAbs : Int) by omega] at e4
    refine ⟨_, _, _, hF, (bd_abs hc).mono (by decide), ?_, (bd_abs hb).mono (by decide), ?_⟩
    · split
      · exact z4 (hd.mono (by decide))
      · exact hd.mono (by decide)
    · rw [c_flat_by]
      by_cases hs : c < 0
      · rw [if_pos hs, show (c.natAbs : Int) = 0 - c by omega]
        simp (decide := true) only [b_flat_by, l_flat_by_1, lb_flat_by_1, ↓reduceIte, Bool.not_true, Bool.not_false, decide_true, decide_false, wipeE, Bool.false_eq_true, y_e_c, y_e_v, y_e_g, y_e_never, y_e_bin, y_e_neg, y_e_tst, y_e_ite, y_e_tup, y_e_lst, y_e_box, y_e_ix, y_e_sl, y_e_rev, y_e_call, y_e_blt, y_e_isi, y_e_lc, y_es_nil, y_es_cons, y_o_no, y_o_yes, y_t_val, y_t_cmp, y_t_chn, y_t_isnt, y_t_isnf, z_nnr_dat, z_nnr_own, z_nnr_brw, z_nn_none, z_nn_bool, z_nn_int, z_nn_str, z_nn_list, z_nn_tuple, y_t_isb, y_t_and, y_t_or, y_t_not, y_h_last, y_h_link, y_al_one, y_al_cons, y_an_one, y_an_cons, y_c_no, y_c_yes, y_i_seq, y_i_rng, y_i_zip, y_i_enum, y_s_never, y_s_pass, y_s_asg, y_s_par, y_s_par3, y_s_setO, y_s_unp, y_s_setB, y_s_exp, y_s_app, y_s_ext, y_s_iff, y_s_whl, y_s_forr, y_s_ret, y_s_retv, y_s_frz, y_ss_nil, y_ss_cons, argsOf, views, caps, Option.map_some, Option.map_none, Option.bind_some, Option.bind_none, List.getElem?_cons_zero, List.getElem?_cons_succ, List.set_cons_zero, List.set_cons_succ, List.length_cons, List.length_nil, z_read_dat, z_read_ref, z_read_scr, z_read_own, z_view_own, z_view_brw, z_view_dat, z_cap_dat, z_cap_own, z_hold_dat, z_hold_ref, z_hold_scr, z_hold_own, z_arg_dat, z_arg_ref, z_arg_scr, z_arg_own, z_look_t, z_look_f, z_len_ref, z_len_scr, z_len_l, z_len_t, z_len_o, z_len_b, z_ix_ref, z_ix_scr, z_ix_l, z_ix_t, z_ix_o, z_ix_b, z_blt_len, z_blt_abs, z_blt_tup, z_blt_lst, z_blt_sum, z_blt_all, z_blt_any, z_blt_min, z_blt_max, z_blt_sorted, z_blt_repr, z_blt_str, z_blt_int, z_blt_divmod, z_d_abs, z_d_tupl, z_d_tupt, z_d_lstl, z_d_lstt, z_d_sum, z_d_all, z_d_any, z_d_minl, z_d_maxl, z_d_min, z_d_max, z_d_sorted, z_d_divmod, z_d_int, z_d_repr, z_d_str, z_bin_i, z_bin_ll, z_bin_tt, z_bin_rep, z_add, z_sub, z_mul, z_fdiv, z_mod, z_eq, z_ne, z_lt, z_le, z_gt, z_ge, z_inl, z_int, z_ninl, z_nint, z_isi_int_none, z_isi_int_bool, z_isi_int_int, z_isi_int_str, z_isi_int_list, z_isi_int_tuple, z_isi_bool_none, z_isi_bool_bool, z_isi_bool_int, z_isi_bool_str, z_isi_bool_list, z_isi_bool_tuple, z_isi_str_none, z_isi_str_bool, z_isi_str_int, z_isi_str_str, z_isi_str_list, z_isi_str_tuple, z_isi_list_none, z_isi_list_bool, z_isi_list_int, z_isi_list_str, z_isi_list_list, z_isi_list_tuple, z_isi_tuple_none, z_isi_tuple_bool, z_isi_tuple_int, z_isi_tuple_str, z_isi_tuple_list, z_isi_tuple_tuple, z_out_rt, z_out_nx, z_eqi, z_eqb, z_rng1, z_rng2, z_si_l, z_si_t, z_bind_nm, z_bind_tt, z_bind_tl, z_binds_n, z_binds_c, z_sl_l, z_sl_t, z_at0, z_at1, z_at2, z_at3, z_ixN0, z_intsn, z_intsc, z_boolsn, z_boolsc, z_eqs, z_fgn, z_fgc, z_lcn, z_lcc, rng_2, rng_3, z_en2, z_en3, z_zn, z_zn2, z_zc, cut2_a0, cut2_a1, cut2_b1, cut2_b2, cut3_a0, cut3_a1, cut3_a2, cut3_b1, cut3_b2, cut3_b3, List.nil_append, List.cons_append, Int.reduceAdd, Int.reduceSub, Int.reduceMul, Int.reduceMod, Int.reduceNeg, Int.reduceToNat, Nat.reduceAdd, Int.cast_ofNat_Int, Int.natCast_add, f2, e1, e2, e3, e4, hs, hp]
      · rw [if_neg hs, show (c.natAbs : Int) = c by omega]
        simp (decide := true) only [b_flat_by, l_flat_by_1, lb_flat_by_1, ↓reduceIte, Bool.not_true, Bool.not_false, decide_true, decide_false, wipeE, Bool.false_eq_true, y_e_c, y_e_v, y_e_g, y_e_never, y_e_bin, y_e_neg, y_e_tst, y_e_ite, y_e_tup, y_e_lst, y_e_box, y_e_ix, y_e_sl, y_e_rev, y_e_call, y_e_blt, y_e_isi, y_e_lc, y_es_nil, y_es_cons, y_o_no, y_o_yes, y_t_val, y_t_cmp, y_t_chn, y_t_isnt, y_t_isnf, z_nnr_dat, z_nnr_own, z_nnr_brw, z_nn_none, z_nn_bool, z_nn_int, z_nn_str, z_nn_list, z_nn_tuple, y_t_isb, y_t_and, y_t_or, y_t_not, y_h_last, y_h_link, y_al_one, y_al_cons, y_an_one, y_an_cons, y_c_no, y_c_yes, y_i_seq, y_i_rng, y_i_zip, y_i_enum, y_s_never, y_s_pass, y_s_asg, y_s_par, y_s_par3, y_s_setO, y_s_unp, y_s_setB, y_s_exp, y_s_app, y_s_ext, y_s_iff, y_s_whl, y_s_forr, y_s_ret, y_s_retv, y_s_frz, y_ss_nil, y_ss_cons, argsOf, views, caps, Option.map_some, Option.map_none, Option.bind_some, Option.bind_none, List.getElem?_cons_zero, List.getElem?_cons_succ, List.set_cons_zero, List.set_cons_succ, List.length_cons, List.length_nil, z_read_dat, z_read_ref, z_read_scr, z_read_own, z_view_own, z_view_brw, z_view_dat, z_cap_dat, z_cap_own, z_hold_dat, z_hold_ref, z_hold_scr, z_hold_own, z_arg_dat, z_arg_ref, z_arg_scr, z_arg_own, z_look_t, z_look_f, z_len_ref, z_len_scr, z_len_l, z_len_t, z_len_o, z_len_b, z_ix_ref, z_ix_scr, z_ix_l, z_ix_t, z_ix_o, z_ix_b, z_blt_len, z_blt_abs, z_blt_tup, z_blt_lst, z_blt_sum, z_blt_all, z_blt_any, z_blt_min, z_blt_max, z_blt_sorted, z_blt_repr, z_blt_str, z_blt_int, z_blt_divmod, z_d_abs, z_d_tupl, z_d_tupt, z_d_lstl, z_d_lstt, z_d_sum, z_d_all, z_d_any, z_d_minl, z_d_maxl, z_d_min, z_d_max, z_d_sorted, z_d_divmod, z_d_int, z_d_repr, z_d_str, z_bin_i, z_bin_ll, z_bin_tt, z_bin_rep, z_add, z_sub, z_mul, z_fdiv, z_mod, z_eq, z_ne, z_lt, z_le, z_gt, z_ge, z_inl, z_int, z_ninl, z_nint, z_isi_int_none, z_isi_int_bool, z_isi_int_int, z_isi_int_str, z_isi_int_list, z_isi_int_tuple, z_isi_bool_none, z_isi_bool_bool, z_isi_bool_int, z_isi_bool_str, z_isi_bool_list, z_isi_bool_tuple, z_isi_str_none, z_isi_str_bool, z_isi_str_int, z_isi_str_str, z_isi_str_list, z_isi_str_tuple, z_isi_list_none, z_isi_list_bool, z_isi_list_int, z_isi_list_str, z_isi_list_list, z_isi_list_tuple, z_isi_tuple_none, z_isi_tuple_bool, z_isi_tuple_int, z_isi_tuple_str, z_isi_tuple_list, z_isi_tuple_tuple, z_out_rt, z_out_nx, z_eqi, z_eqb, z_rng1, z_rng2, z_si_l, z_si_t, z_bind_nm, z_bind_tt, z_bind_tl, z_binds_n, z_binds_c, z_sl_l, z_sl_t, z_at0, z_at1, z_at2, z_at3, z_ixN0, z_intsn, z_intsc, z_boolsn, z_boolsc, z_eqs, z_fgn, z_fgc, z_lcn, z_lcc, rng_2, rng_3, z_en2, z_en3, z_zn, z_zn2, z_zc, cut2_a0, cut2_a1, cut2_b1, cut2_b2, cut3_a0, cut3_a1, cut3_a2, cut3_b1, cut3_b2, cut3_b3, List.nil_append, List.cons_append, Int.reduceAdd, Int.reduceSub, Int.reduceMul, Int.reduceMod, Int.reduceNeg, Int.reduceToNat, Nat.reduceAdd, Int.cast_ofNat_Int, Int.natCast_add, f2, e1, e2, e3, e4, hs, hp]
  · obtain ⟨a', b', d', hu, g1, g2, g3, e3⟩ := s_led_flat k a b c d st ha hb hc hd
    obtain ⟨ha', hd', hF⟩ := flat_of hn hu
    have e1 := s_led_flat0 k a b st h0 ha hb
    have e2 : callF tb (k + 1) "common" [.dat (.int 0), .dat (.int 0)] st = some (.dat (.int 0), st) := s_common0 k 0 st
    have e4 := s_common1 k d' st hd'
    have hp : (0 : Int) < d'.natAbs := by omega
    refine ⟨_, _, _, hF, (bd_abs g1).mono (by decide), ?_, (bd_abs g3).mono (by decide), ?_⟩
    · split
      · exact z4 g2
      · exact g2.mono (by decide)
    · rw [c_flat_by]
      by_cases hs : a' < 0
      · rw [if_pos hs, show (a'.natAbs : Int) = 0 - a' by omega]
        simp (decide := true) only [b_flat_by, l_flat_by_1, lb_flat_by_1, ↓reduceIte, Bool.not_true, Bool.not_false, decide_true, decide_false, wipeE, Bool.false_eq_true, y_e_c, y_e_v, y_e_g, y_e_never, y_e_bin, y_e_neg, y_e_tst, y_e_ite, y_e_tup, y_e_lst, y_e_box, y_e_ix, y_e_sl, y_e_rev, y_e_call, y_e_blt, y_e_isi, y_e_lc, y_es_nil, y_es_cons, y_o_no, y_o_yes, y_t_val, y_t_cmp, y_t_chn, y_t_isnt, y_t_isnf, z_nnr_dat, z_nnr_own, z_nnr_brw, z_nn_none, z_nn_bool, z_nn_int, z_nn_str, z_nn_list, z_nn_tuple, y_t_isb, y_t_and, y_t_or, y_t_not, y_h_last, y_h_link, y_al_one, y_al_cons, y_an_one, y_an_cons, y_c_no, y_c_yes, y_i_seq, y_i_rng, y_i_zip, y_i_enum, y_s_never, y_s_pass, y_s_asg, y_s_par, y_s_par3, y_s_setO, y_s_unp, y_s_setB, y_s_exp, y_s_app, y_s_ext, y_s_iff, y_s_whl, y_s_forr, y_s_ret, y_s_retv, y_s_frz, y_ss_nil, y_ss_cons, argsOf, views, caps, Option.map_some, Option.map_none, Option.bind_some, Option.bind_none, List.getElem?_cons_zero, List.getElem?_cons_succ, List.set_cons_zero, List.set_cons_succ, List.length_cons, List.length_nil, z_read_dat, z_read_ref, z_read_scr, z_read_own, z_view_own, z_view_brw, z_view_dat, z_cap_dat, z_cap_own, z_hold_dat, z_hold_ref, z_hold_scr, z_hold_own, z_arg_dat, z_arg_ref, z_arg_scr, z_arg_own, z_look_t, z_look_f, z_len_ref, z_len_scr, z_len_l, z_len_t, z_len_o, z_len_b, z_ix_ref, z_ix_scr, z_ix_l, z_ix_t, z_ix_o, z_ix_b, z_blt_len, z_blt_abs, z_blt_tup, z_blt_lst, z_blt_sum, z_blt_all, z_blt_any, z_blt_min, z_blt_max, z_blt_sorted, z_blt_repr, z_blt_str, z_blt_int, z_blt_divmod, z_d_abs, z_d_tupl, z_d_tupt, z_d_lstl, z_d_lstt, z_d_sum, z_d_all, z_d_any, z_d_minl, z_d_maxl, z_d_min, z_d_max, z_d_sorted, z_d_divmod, z_d_int, z_d_repr, z_d_str, z_bin_i, z_bin_ll, z_bin_tt, z_bin_rep, z_add, z_sub, z_mul, z_fdiv, z_mod, z_eq, z_ne, z_lt, z_le, z_gt, z_ge, z_inl, z_int, z_ninl, z_nint, z_isi_int_none, z_isi_int_bool, z_isi_int_int, z_isi_int_str, z_isi_int_list, z_isi_int_tuple, z_isi_bool_none, z_isi_bool_bool, z_isi_bool_int, z_isi_bool_str, z_isi_bool_list, z_isi_bool_tuple, z_isi_str_none, z_isi_str_bool, z_isi_str_int, z_isi_str_str, z_isi_str_list, z_isi_str_tuple, z_isi_list_none, z_isi_list_bool, z_isi_list_int, z_isi_list_str, z_isi_list_list, z_isi_list_tuple, z_isi_tuple_none, z_isi_tuple_bool, z_isi_tuple_int, z_isi_tuple_str, z_isi_tuple_list, z_isi_tuple_tuple, z_out_rt, z_out_nx, z_eqi, z_eqb, z_rng1, z_rng2, z_si_l, z_si_t, z_bind_nm, z_bind_tt, z_bind_tl, z_binds_n, z_binds_c, z_sl_l, z_sl_t, z_at0, z_at1, z_at2, z_at3, z_ixN0, z_intsn, z_intsc, z_boolsn, z_boolsc, z_eqs, z_fgn, z_fgc, z_lcn, z_lcc, rng_2, rng_3, z_en2, z_en3, z_zn, z_zn2, z_zc, cut2_a0, cut2_a1, cut2_b1, cut2_b2, cut3_a0, cut3_a1, cut3_a2, cut3_b1, cut3_b2, cut3_b3, List.nil_append, List.cons_append, Int.reduceAdd, Int.reduceSub, Int.reduceMul, Int.reduceMod, Int.reduceNeg, Int.reduceToNat, Nat.reduceAdd, Int.cast_ofNat_Int, Int.natCast_add, f2, e1, e2, e3, e4, hs, hp]
      · rw [if_neg hs, show (a'.natAbs : Int) = a' by omega]
        simp (decide := true) only [b_flat_by, l_flat_by_1, lb_flat_by_1, ↓reduceIte, Bool.not_true, Bool.not_false, decide_true, decide_false, wipeE, Bool.false_eq_true, y_e_c, y_e_v, y_e_g, y_e_never, y_e_bin, y_e_neg, y_e_tst, y_e_ite, y_e_tup, y_e_lst, y_e_box, y_e_ix, y_e_sl, y_e_rev, y_e_call, y_e_blt, y_e_isi, y_e_lc, y_es_nil, y_es_cons, y_o_no, y_o_yes, y_t_val, y_t_cmp, y_t_chn, y_t_isnt, y_t_isnf, z_nnr_dat, z_nnr_own, z_nnr_brw, z_nn_none, z_nn_bool, z_nn_int, z_nn_str, z_nn_list, z_nn_tuple, y_t_isb, y_t_and, y_t_or, y_t_not, y_h_last, y_h_link, y_al_one, y_al_cons, y_an_one, y_an_cons, y_c_no, y_c_yes, y_i_seq, y_i_rng, y_i_zip, y_i_enum, y_s_never, y_s_pass, y_s_asg, y_s_par, y_s_par3, y_s_setO, y_s_unp, y_s_setB, y_s_exp, y_s_app, y_s_ext, y_s_iff, y_s_whl, y_s_forr, y_s_ret, y_s_retv, y_s_frz, y_ss_nil, y_ss_cons, argsOf, views, caps, Option.map_some, Option.map_none, Option.bind_some, Option.bind_none, List.getElem?_cons_zero, List.getElem?_cons_succ, List.set_cons_zero, List.set_cons_succ, List.length_cons, List.length_nil, z_read_dat, z_read_ref, z_read_scr, z_read_own, z_view_own, z_view_brw, z_view_dat, z_cap_dat, z_cap_own, z_hold_dat, z_hold_ref, z_hold_scr, z_hold_own, z_arg_dat, z_arg_ref, z_arg_scr, z_arg_own, z_look_t, z_look_f, z_len_ref, z_len_scr, z_len_l, z_len_t, z_len_o, z_len_b, z_ix_ref, z_ix_scr, z_ix_l, z_ix_t, z_ix_o, z_ix_b, z_blt_len, z_blt_abs, z_blt_tup, z_blt_lst, z_blt_sum, z_blt_all, z_blt_any, z_blt_min, z_blt_max, z_blt_sorted, z_blt_repr, z_blt_str, z_blt_int, z_blt_divmod, z_d_abs, z_d_tupl, z_d_tupt, z_d_lstl, z_d_lstt, z_d_sum, z_d_all, z_d_any, z_d_minl, z_d_maxl, z_d_min, z_d_max, z_d_sorted, z_d_divmod, z_d_int, z_d_repr, z_d_str, z_bin_i, z_bin_ll, z_bin_tt, z_bin_rep, z_add, z_sub, z_mul, z_fdiv, z_mod, z_eq, z_ne, z_lt, z_le, z_gt, z_ge, z_inl, z_int, z_ninl, z_nint, z_isi_int_none, z_isi_int_bool, z_isi_int_int, z_isi_int_str, z_isi_int_list, z_isi_int_tuple, z_isi_bool_none, z_isi_bool_bool, z_isi_bool_int, z_isi_bool_str, z_isi_bool_list, z_isi_bool_tuple, z_isi_str_none, z_isi_str_bool, z_isi_str_int, z_isi_str_str, z_isi_str_list, z_isi_str_tuple, z_isi_list_none, z_isi_list_bool, z_isi_list_int, z_isi_list_str, z_isi_list_list, z_isi_list_tuple, z_isi_tuple_none, z_isi_tuple_bool, z_isi_tuple_int, z_isi_tuple_str, z_isi_tuple_list, z_isi_tuple_tuple, z_out_rt, z_out_nx, z_eqi, z_eqb, z_rng1, z_rng2, z_si_l, z_si_t, z_bind_nm, z_bind_tt, z_bind_tl, z_binds_n, z_binds_c, z_sl_l, z_sl_t, z_at0, z_at1, z_at2, z_at3, z_ixN0, z_intsn, z_intsc, z_boolsn, z_boolsc, z_eqs, z_fgn, z_fgc, z_lcn, z_lcc, rng_2, rng_3, z_en2, z_en3, z_zn, z_zn2, z_zc, cut2_a0, cut2_a1, cut2_b1, cut2_b2, cut3_a0, cut3_a1, cut3_a2, cut3_b1, cut3_b2, cut3_b3, List.nil_append, List.cons_append, Int.reduceAdd, Int.reduceSub, Int.reduceMul, Int.reduceMod, Int.reduceNeg, Int.reduceToNat, Nat.reduceAdd, Int.cast_ofNat_Int, Int.natCast_add, f2, e1, e2, e3, e4, hs, hp]
/-- the flat forms of one grid are one -/
theorem flat_same {a b c d A B D a' b' c' d' A' B' D' : Int} (hu : Uni a b c d a' b' c' d') (hs : Uni a' b' c' d' a b c d) (h : Flat a b c d A B D) (h' : Flat a' b' c' d' A' B' D') (hA : Uni A B 0 D a b c d) : A = A' ∧ D = D' ∧ B % D = B' % D' :=
  flat_uniq (hA.trans (hu.trans h'.uni)) h.pos h.low h'.pos h'.low

/-! the flat form as a function -/
open Classical in
noncomputable def flatD (a b c d : Int) : PyData := if h : ∃ t : Int × Int × Int, Flat a b c d t.1 t.2.1 t.2.2 then (PyData.tuple [PyData.tuple [PyData.int (h.choose.1), PyData.int (h.choose.2.1 % h.choose.2.2)], PyData.tuple [PyData.int (0), PyData.int (h.choose.2.2)]]) else .none
theorem flatD_eq {a b c d A B D : Int} (h : Flat a b c d A B D) : (PyData.tuple [PyData.tuple [PyData.int (A), PyData.int (B % D)], PyData.tuple [PyData.int (0), PyData.int (D)]]) = flatD a b c d := by
  unfold flatD
  have hx : ∃ t : Int × Int × Int, Flat a b c d t.1 t.2.1 t.2.2 := ⟨(A, B, D), h⟩
  rw [dif_pos hx]
  have h2 := hx.choose_spec
  obtain ⟨e1, e2, e3⟩ := flat_uniq (h.uni.symm.trans h2.uni) h.pos h.low h2.pos h2.low
  rw [← e1, ← e2, e3, ← e2]
theorem s_flat_byD (k : Nat) (a b c d : Int) (st : Bx) (ha : Bd 130 a) (hb : Bd 130 b) (hc : Bd 130 c) (hd : Bd 130 d) (hn : a * d - b * c ≠ 0) :
    callF tb (k + 2) "flat_by" [.dat (PyData.tuple [PyData.tuple [PyData.int (a), PyData.int (b)], PyData.tuple [PyData.int (c), PyData.int (d)]])] st = some (.dat (flatD a b c d), st) := by
  obtain ⟨A, B, D, h, -, -, -, e⟩ := s_flat_by k a b c d st ha hb hc hd hn
  rw [e, flatD_eq h]
/-- a flat form of bounded numbers -/
def FlatOk (t : PyData) : Prop := ∃ A B D : Int, t = (PyData.tuple [PyData.tuple [PyData.int (A), PyData.int (B)], PyData.tuple [PyData.int (0), PyData.int (D)]]) ∧ Bd 500 A ∧ Bd 500 B ∧ Bd 500 D
theorem flatD_ok {a b c d : Int} (ha : Bd 130 a) (hb : Bd 130 b) (hc : Bd 130 c) (hd : Bd 130 d) (hn : a * d - b * c ≠ 0) : FlatOk (flatD a b c d) := by
  obtain ⟨A, B, D, h, g1, g2, g3, -⟩ := s_flat_by 0 a b c d [] ha hb hc hd hn
  exact ⟨A, B % D, D, (flatD_eq h).symm, g1, bd_mod h.low g3, g3⟩
theorem flats_sort {l : List PyData} (h : ∀ t ∈ l, FlatOk t) (hl : l.length ≤ 1000) : sortOk l = true := by
  unfold sortOk
  simp only [Bool.and_eq_true, Bool.or_eq_true, List.all_eq_true]
  refine ⟨⟨⟨fun x hx y hy => ?_, .inl fun x hx => ?_⟩, fitsL_s (by omega)⟩, fun x hx => ?_⟩
  · obtain ⟨A, B, D, rfl, -⟩ := h x hx
    obtain ⟨A', B', D', rfl, -⟩ := h y hy
    rfl
  · obtain ⟨A, B, D, rfl, -⟩ := h x hx
    rfl
  · obtain ⟨A, B, D, rfl, -⟩ := h x hx
    simp [PyData.depth, PyData.depthAll]
theorem flats_repr {l : List PyData} (h : ∀ t ∈ l, FlatOk t) (hl : l.length ≤ 1000) : reprOk (.list (sortD l)) = true := by
  refine reprOk_of (shw_list_le (w := ((1901 + 2) * 2 + 3 + 2) * 2 + 3) (n := 2) (m := 1000) (fun d hd => ?_) (by show (l.mergeSort _).length ≤ 1000; rw [List.length_mergeSort]; exact hl)) (by decide) (by decide)
  obtain ⟨A, B, D, rfl, g1, g2, g3⟩ := h d (List.mem_mergeSort.mp hd)
  exact shw_t2 (shw_t2 (shw_int g1 (by decide)) (shw_int g2 (by decide))) (shw_t2 (shw_int (bd_s (by decide) (by decide)) (by decide)) (shw_int g3 (by decide)))

/-! led to a short pair -/
inductive Mv where
  | less (q : Int)
  | turn
  | about
def Mv.d : Mv → PyData
  | .less q => .tuple [.str (Str.ofString "less"), .int q]
  | .turn => .tuple [.str (Str.ofString "turn")]
  | .about => .tuple [.str (Str.ofString "about")]
structure Qd where
  a : Int
  b : Int
  c : Int
  d : Int
  deriving DecidableEq
def Qd.go (x : Qd) : Mv → Qd
  | .less q => ⟨x.a, x.b, (0 - q) * x.a + 1 * x.c, (0 - q) * x.b + 1 * x.d⟩
  | .turn => ⟨x.c, x.d, x.a, x.b⟩
  | .about => ⟨x.a, x.b, 0 - x.c, 0 - x.d⟩
def Qd.gos (x : Qd) (ms : List Mv) : Qd := ms.foldl Qd.go x
def Qd.n1 (x : Qd) : Int := x.a * x.a + x.b * x.b
def Qd.m (x : Qd) : Int := x.a * x.c + x.b * x.d
def Qd.n2 (x : Qd) : Int := x.c * x.c + x.d * x.d
def Qd.det (x : Qd) : Int := x.a * x.d - x.b * x.c
def Qd.p (x : Qd) : PyData := (PyData.tuple [PyData.tuple [PyData.int (x.a), PyData.int (x.b)], PyData.tuple [PyData.int (x.c), PyData.int (x.d)]])
def Qd.Bdd (x : Qd) : Prop := Bd 300 x.n1 ∧ Bd 300 x.n2
theorem Qd.bds {x : Qd} (h : x.Bdd) : Bd 300 x.a ∧ Bd 300 x.b ∧ Bd 300 x.c ∧ Bd 300 x.d := by
  obtain ⟨h1, h2⟩ := h
  unfold Qd.n1 at h1
  unfold Qd.n2 at h2
  exact ⟨bd_of_sq (sq_nn _) h1, bd_of_sq (sq_nn _) (by rw [Int.add_comm]; exact h1), bd_of_sq (sq_nn _) h2, bd_of_sq (sq_nn _) (by rw [Int.add_comm]; exact h2)⟩
theorem uni_go (x : Qd) (mv : Mv) : Uni x.a x.b x.c x.d (x.go mv).a (x.go mv).b (x.go mv).c (x.go mv).d := by
  cases mv with
  | less q => exact uni_less _ _ _ _ _
  | turn => exact uni_turn _ _ _ _
  | about => exact uni_about _ _ _ _
theorem n_less (x : Qd) (q : Int) : (x.go (.less q)).n1 = x.n1 ∧ (x.go (.less q)).m = x.m - q * x.n1 ∧ (x.go (.less q)).n2 = x.n2 - 2 * (q * x.m) + q * (q * x.n1) := by
  unfold Qd.n1 Qd.m Qd.n2 Qd.go
  exact ⟨rfl, by grind, by grind⟩
theorem n_turn (x : Qd) : (x.go .turn).n1 = x.n2 ∧ (x.go .turn).m = x.m ∧ (x.go .turn).n2 = x.n1 := by
  unfold Qd.n1 Qd.m Qd.n2 Qd.go
  exact ⟨rfl, by grind, rfl⟩
theorem n_about (x : Qd) : (x.go .about).n1 = x.n1 ∧ (x.go .about).m = -x.m ∧ (x.go .about).n2 = x.n2 := by
  unfold Qd.n1 Qd.m Qd.n2 Qd.go
  exact ⟨rfl, by grind, by grind⟩
/-- what the program moves by -/
def Qd.often (x : Qd) : Int := (2 * x.m + x.n1) / (2 * x.n1)
def Qd.next (x : Qd) : Option Mv := if x.n1 < 2 * x.m.natAbs then some (.less x.often) else if x.n2 < x.n1 then some .turn else if x.m < 0 then some .about else none
def mvD : Option Mv → PyData
  | some mv => mv.d
  | none => .none
theorem often_z {x : Qd} (hp : 0 < x.n1) (h : x.n1 < 2 * x.m.natAbs) : x.often ≠ 0 := by
  unfold Qd.often
  intro e
  have h1 := Int.emod_add_mul_ediv (2 * x.m + x.n1) (2 * x.n1)
  have h2 := Int.emod_nonneg (2 * x.m + x.n1) (show 2 * x.n1 ≠ 0 by omega)
  have h3 := Int.emod_lt_of_pos (2 * x.m + x.n1) (show 0 < 2 * x.n1 by omega)
  rw [e] at h1
  omega
theorem bd_m {x : Qd} (h : x.Bdd) : Bd 601 x.m := by
  obtain ⟨ha, hb, hc, hd⟩ := x.bds h
  exact bd_add (bd_mul ha hc) (bd_mul hb hd)
theorem bd_often {x : Qd} (h : x.Bdd) : Bd 662 x.often := by
  unfold Qd.often
  exact bd_div _ ((bd_add (bd_mul (bd_s (by decide) (by decide) : Bd 60 2) (bd_m h)) h.1).mono (by decide))
/-! the loop ends soon -/
theorem less_facts {x : Qd} (hp : 0 < x.n1) : -x.n1 ≤ 2 * (x.m - x.often * x.n1) ∧ 2 * (x.m - x.often * x.n1) < x.n1 ∧ x.n2 - 2 * (x.often * x.m) + x.often * (x.often * x.n1) ≤ x.n2 := by
  have h1 := Int.emod_add_mul_ediv (2 * x.m + x.n1) (2 * x.n1)
  have h2 := Int.emod_nonneg (2 * x.m + x.n1) (show 2 * x.n1 ≠ 0 by omega)
  have h3 := Int.emod_lt_of_pos (2 * x.m + x.n1) (show 0 < 2 * x.n1 by omega)
  have eo : (2 * x.m + x.n1) / (2 * x.n1) = x.often := rfl
  rw [eo] at h1
  generalize x.often = q at *
  generalize x.n1 = a at *
  generalize x.m = m at *
  have e1 : 2 * a * q = 2 * (q * a) := by grind
  refine ⟨by omega, by omega, ?_⟩
  have e2 : 2 * (q * m) - q * (q * a) = q * (2 * m - q * a) := by grind
  have hk : 0 ≤ q * (2 * m - q * a) := by
    rcases Int.lt_trichotomy q 0 with hq | hq | hq
    · have h4 : (q + 1) * a ≤ 0 * a := Int.mul_le_mul_of_nonneg_right (by omega) (by omega)
      have e3 : (q + 1) * a = q * a + a := by grind
      rw [← Int.neg_mul_neg]
      exact Int.mul_nonneg (by omega) (by omega)
    · rw [hq]; omega
    · have h4 : 0 * a ≤ (q - 1) * a := Int.mul_le_mul_of_nonneg_right (by omega) (by omega)
      have e3 : (q - 1) * a = q * a - a := by grind
      exact Int.mul_nonneg (by omega) (by omega)
  omega
/-- after a turn the next short one is three times shorter, or the last -/
theorem less_three {x : Qd} (hp : 0 < x.n1) (h1 : 2 * (x.m.natAbs : Int) ≤ x.n2) (h2 : x.n2 - 2 * (x.often * x.m) + x.often * (x.often * x.n1) < x.n1) (hl : x.n1 < 2 * x.m.natAbs) : 3 * x.n1 < x.n2 := by
  have g1 := Int.emod_add_mul_ediv (2 * x.m + x.n1) (2 * x.n1)
  have g2 := Int.emod_nonneg (2 * x.m + x.n1) (show 2 * x.n1 ≠ 0 by omega)
  have g3 := Int.emod_lt_of_pos (2 * x.m + x.n1) (show 0 < 2 * x.n1 by omega)
  have eo : (2 * x.m + x.n1) / (2 * x.n1) = x.often := rfl
  have ho := often_z hp hl
  rw [eo] at g1
  generalize x.often = q at *
  generalize x.n1 = a at *
  generalize x.m = m at *
  generalize x.n2 = c at *
  have e1 : 2 * a * q = 2 * (q * a) := by grind
  rcases Int.lt_or_le (3 * a) c with h | h
  · exact h
  · exfalso
    by_cases q1 : q = 1
    · subst q1; omega
    · by_cases q2 : q = -1
      · subst q2; omega
      · by_cases q3 : q = 2
        · subst q3; omega
        · rcases Int.lt_or_le 2 q with h3 | h3
          · have := Int.mul_le_mul_of_nonneg_right (show 3 ≤ q by omega) (show 0 ≤ a by omega)
            omega
          · have := Int.mul_le_mul_of_nonneg_right (show q ≤ -2 by omega) (show 0 ≤ a by omega)
            omega
/-- how far the loop has come -/
def Kd (len : Nat) (x : Qd) : Prop :=
  len = 0 ∨ (len ≤ 1 ∧ 2 * (x.m.natAbs : Int) ≤ x.n1) ∨
  (∃ L : Nat, len + 2 * L + 3 ≤ 800 ∧ 2 * (x.m.natAbs : Int) ≤ x.n2 ∧ x.n1 < x.n2 ∧ x.n2 < 3 ^ L) ∨
  (∃ L : Nat, len + 2 * L + 2 ≤ 800 ∧ 2 * (x.m.natAbs : Int) ≤ x.n1 ∧ (x.n2 < x.n1 → 3 * x.n1 < 3 ^ L)) ∨
  (len ≤ 800 ∧ 0 ≤ x.m ∧ 2 * x.m ≤ x.n1 ∧ x.n1 ≤ x.n2)
theorem Kd.le {len : Nat} {x : Qd} (h : Kd len x) : len ≤ 800 := by
  rcases h with h | h | ⟨L, h, _⟩ | ⟨L, h, _⟩ | h <;> omega
theorem kd_less {len : Nat} {x : Qd} (h : Kd len x) (hp : 0 < x.n1) (hl : x.n1 < 2 * x.m.natAbs) : Kd (len + 1) (x.go (.less x.often)) := by
  obtain ⟨e1, e2, e3⟩ := n_less x x.often
  obtain ⟨f1, f2, f3⟩ := less_facts hp
  unfold Kd
  rw [e1, e2, e3]
  rcases h with h | h | ⟨L, h, h1, h2, h3⟩ | ⟨L, h, h1, _⟩ | h
  · exact .inr (.inl ⟨by omega, by omega⟩)
  · omega
  · refine .inr (.inr (.inr (.inl ⟨L, by omega, by omega, fun hq => ?_⟩)))
    have := less_three hp h1 hq hl
    omega
  · omega
  · omega
theorem pow300 : (2 : Int) ^ 300 < 3 ^ 200 := by decide
theorem kd_turn {len : Nat} {x : Qd} (h : Kd len x) (hb : x.Bdd) (hp : 0 < x.n1) (hl : ¬ x.n1 < 2 * x.m.natAbs) (ht : x.n2 < x.n1) : Kd (len + 1) (x.go .turn) := by
  obtain ⟨e1, e2, e3⟩ := n_turn x
  have h300 : x.n1 < 3 ^ 200 := by
    have h1 : x.n1.natAbs < 2 ^ 300 := by have := hb.1; unfold Bd at this; exact this
    have h2 : x.n1 < 2 ^ 300 := by omega
    exact Int.lt_trans h2 pow300
  unfold Kd
  rw [e1, e2, e3]
  rcases h with h | h | ⟨L, h, h1, h2, h3⟩ | ⟨L, h, h1, h2⟩ | h
  · exact .inr (.inr (.inl ⟨200, by omega, by omega, ht, h300⟩))
  · exact .inr (.inr (.inl ⟨200, by omega, by omega, ht, h300⟩))
  · omega
  · have h3 := h2 ht
    cases L with
    | zero => simp at h3; omega
    | succ L =>
      rw [Int.pow_succ] at h3
      exact .inr (.inr (.inl ⟨L, by omega, by omega, ht, by omega⟩))
  · omega
theorem kd_about {len : Nat} {x : Qd} (h : Kd len x) (hl : ¬ x.n1 < 2 * x.m.natAbs) (ht : ¬ x.n2 < x.n1) (hn : x.m < 0) : Kd (len + 1) (x.go .about) := by
  obtain ⟨e1, e2, e3⟩ := n_about x
  unfold Kd
  rw [e1, e2, e3]
  have : len + 1 ≤ 800 := by
    rcases h with h | h | ⟨L, h, _⟩ | ⟨L, h, _⟩ | h <;> omega
  exact .inr (.inr (.inr (.inr ⟨this, by omega, by omega, by omega⟩)))
theorem bdd_go {x : Qd} {mv : Mv} (h : x.Bdd) (hp : 0 < x.n1) (hm : x.next = some mv) : (x.go mv).Bdd := by
  obtain ⟨h1, h2⟩ := h
  unfold Qd.next at hm
  split at hm
  · cases hm
    obtain ⟨e1, e2, e3⟩ := n_less x x.often
    obtain ⟨f1, f2, f3⟩ := less_facts hp
    refine ⟨by rw [e1]; exact h1, ?_⟩
    have hn : 0 ≤ (x.go (.less x.often)).n2 := by
      have q1 := sq_nn (x.go (.less x.often)).c
      have q2 := sq_nn (x.go (.less x.often)).d
      unfold Qd.n2
      omega
    rw [← e3] at f3
    unfold Bd at h2 ⊢
    omega
  · split at hm
    · cases hm
      obtain ⟨e1, e2, e3⟩ := n_turn x
      exact ⟨by rw [e1]; exact h2, by rw [e3]; exact h1⟩
    · split at hm
      · cases hm
        obtain ⟨e1, e2, e3⟩ := n_about x
        exact ⟨by rw [e1]; exact h1, by rw [e3]; exact h2⟩
      · cases hm
theorem kd_go {len : Nat} {x : Qd} {mv : Mv} (h : Kd len x) (hb : x.Bdd) (hp : 0 < x.n1) (hm : x.next = some mv) : Kd (len + 1) (x.go mv) := by
  unfold Qd.next at hm
  split at hm
  · rename_i hl
    cases hm
    exact kd_less h hp hl
  · rename_i hl
    split at hm
    · rename_i ht
      cases hm
      exact kd_turn h hb hp hl ht
    · rename_i ht
      split at hm
      · rename_i hn
        cases hm
        exact kd_about h hl ht hn
      · cases hm
theorem next_none {x : Qd} (hp : 0 < x.n1) (h : x.next = none) : Short x.a x.b x.c x.d := by
  unfold Qd.next at h
  split at h
  · cases h
  · split at h
    · cases h
    · split at h
      · cases h
      · unfold Short
        unfold Qd.n1 Qd.m Qd.n2 at *
        omega
theorem next_bd {x : Qd} {mv : Mv} (h : x.Bdd) (hm : x.next = some mv) : ∀ q, mv = .less q → Bd 990 q := fun q e => by
  subst e
  unfold Qd.next at hm
  split at hm
  · cases hm
    exact (bd_often h).mono (by decide)
  · split at hm
    · cases hm
    · split at hm <;> cases hm
theorem Qd.uni_det {x y : Qd} (h : Uni x.a x.b x.c x.d y.a y.b y.c y.d) (hn : x.det ≠ 0) : y.det ≠ 0 := h.nz hn
theorem isNn_mv (mv : Option Mv) : isNn (mvD mv) = mv.isNone := by
  cases mv with
  | none => rfl
  | some mv => cases mv <;> rfl
theorem gos_snoc (x : Qd) (ms : List Mv) (mv : Mv) : x.gos (ms ++ [mv]) = (x.gos ms).go mv := by
  unfold Qd.gos
  rw [List.foldl_append]
  rfl
/-- the numbers on the way are not great -/
def MvOk (x : Qd) (ms : List Mv) : Prop := (∀ q, Mv.less q ∈ ms → Bd 990 q) ∧ ∀ i : Nat, (x.gos (ms.take i)).Bdd
/-- the moves that are led by -/
def Run : Qd → List Mv → Prop
  | x, [] => x.next = none
  | x, mv :: r => x.next = some mv ∧ Run (x.go mv) r
theorem run_uniq : ∀ {ms ns : List Mv} {x : Qd}, Run x ms → Run x ns → ms = ns
  | [], [], _, _, _ => rfl
  | [], n :: ns, x, h, k => by
    have h' : x.next = none := h
    have k' : x.next = some n := k.1
    rw [h'] at k'; cases k'
  | m :: ms, [], x, h, k => by
    have k' : x.next = none := k
    have h' : x.next = some m := h.1
    rw [h'] at k'; cases k'
  | m :: ms, n :: ns, x, h, k => by
    have e : some m = some n := h.1.symm.trans k.1
    injection e with e
    subst e
    rw [run_uniq h.2 k.2]

theorem s_prod (k : Nat) (a b c d : Int) (st : Bx) (ha : Bd 2000 a) (hb : Bd 2000 b) (hc : Bd 2000 c) (hd : Bd 2000 d) : callF tb (k + 1) "product_of" [.dat (PyData.tuple [PyData.int (a), PyData.int (b)]), .dat (PyData.tuple [PyData.int (c), PyData.int (d)])] st = some (.dat (.int (a * c + b * d)), st) := by
  rw [c_product_of]
  have m1 : mulOk a c = true := by exact Sy.mulOk_bd (by repeat' (first | assumption | apply Sy.bd_mul | apply Sy.bd_add | apply Sy.bd_sub | apply Sy.bd_neg | apply Sy.bd_abs | (exact Sy.bd_s (by decide) (by decide)) | (exact Sy.bd_s (by omega) (by omega)))) (by repeat' (first | assumption | apply Sy.bd_mul | apply Sy.bd_add | apply Sy.bd_sub | apply Sy.bd_neg | apply Sy.bd_abs | (exact Sy.bd_s (by decide) (by decide)) | (exact Sy.bd_s (by omega) (by omega)))) (by decide)
  have m2 : mulOk b d = true := by exact Sy.mulOk_bd (by repeat' (first | assumption | apply Sy.bd_mul | apply Sy.bd_add | apply Sy.bd_sub | apply Sy.bd_neg | apply Sy.bd_abs | (exact Sy.bd_s (by decide) (by decide)) | (exact Sy.bd_s (by omega) (by omega)))) (by repeat' (first | assumption | apply Sy.bd_mul | apply Sy.bd_add | apply Sy.bd_sub | apply Sy.bd_neg | apply Sy.bd_abs | (exact Sy.bd_s (by decide) (by decide)) | (exact Sy.bd_s (by omega) (by omega)))) (by decide)
  simp (decide := true) only [b_product_of, q_product_of_1, ↓reduceIte, Bool.not_true, Bool.not_false, decide_true, decide_false, wipeE, Bool.false_eq_true, y_e_c, y_e_v, y_e_g, y_e_never, y_e_bin, y_e_neg, y_e_tst, y_e_ite, y_e_tup, y_e_lst, y_e_box, y_e_ix, y_e_sl, y_e_rev, y_e_call, y_e_blt, y_e_isi, y_e_lc, y_es_nil, y_es_cons, y_o_no, y_o_yes, y_t_val, y_t_cmp, y_t_chn, y_t_isnt, y_t_isnf, z_nnr_dat, z_nnr_own, z_nnr_brw, z_nn_none, z_nn_bool, z_nn_int, z_nn_str, z_nn_list, z_nn_tuple, y_t_isb, y_t_and, y_t_or, y_t_not, y_h_last, y_h_link, y_al_one, y_al_cons, y_an_one, y_an_cons, y_c_no, y_c_yes, y_i_seq, y_i_rng, y_i_zip, y_i_enum, y_s_never, y_s_pass, y_s_asg, y_s_par, y_s_par3, y_s_setO, y_s_unp, y_s_setB, y_s_exp, y_s_app, y_s_ext, y_s_iff, y_s_whl, y_s_forr, y_s_ret, y_s_retv, y_s_frz, y_ss_nil, y_ss_cons, argsOf, views, caps, Option.map_some, Option.map_none, Option.bind_some, Option.bind_none, List.getElem?_cons_zero, List.getElem?_cons_succ, List.set_cons_zero, List.set_cons_succ, List.length_cons, List.length_nil, z_read_dat, z_read_ref, z_read_scr, z_read_own, z_view_own, z_view_brw, z_view_dat, z_cap_dat, z_cap_own, z_hold_dat, z_hold_ref, z_hold_scr, z_hold_own, z_arg_dat, z_arg_ref, z_arg_scr, z_arg_own, z_look_t, z_look_f, z_len_ref, z_len_scr, z_len_l, z_len_t, z_len_o, z_len_b, z_ix_ref, z_ix_scr, z_ix_l, z_ix_t, z_ix_o, z_ix_b, z_blt_len, z_blt_abs, z_blt_tup, z_blt_lst, z_blt_sum, z_blt_all, z_blt_any, z_blt_min, z_blt_max, z_blt_sorted, z_blt_repr, z_blt_str, z_blt_int, z_blt_divmod, z_d_abs, z_d_tupl, z_d_tupt, z_d_lstl, z_d_lstt, z_d_sum, z_d_all, z_d_any, z_d_minl, z_d_maxl, z_d_min, z_d_max, z_d_sorted, z_d_divmod, z_d_int, z_d_repr, z_d_str, z_bin_i, z_bin_ll, z_bin_tt, z_bin_rep, z_add, z_sub, z_mul, z_fdiv, z_mod, z_eq, z_ne, z_lt, z_le, z_gt, z_ge, z_inl, z_int, z_ninl, z_nint, z_isi_int_none, z_isi_int_bool, z_isi_int_int, z_isi_int_str, z_isi_int_list, z_isi_int_tuple, z_isi_bool_none, z_isi_bool_bool, z_isi_bool_int, z_isi_bool_str, z_isi_bool_list, z_isi_bool_tuple, z_isi_str_none, z_isi_str_bool, z_isi_str_int, z_isi_str_str, z_isi_str_list, z_isi_str_tuple, z_isi_list_none, z_isi_list_bool, z_isi_list_int, z_isi_list_str, z_isi_list_list, z_isi_list_tuple, z_isi_tuple_none, z_isi_tuple_bool, z_isi_tuple_int, z_isi_tuple_str, z_isi_tuple_list, z_isi_tuple_tuple, z_out_rt, z_out_nx, z_eqi, z_eqb, z_rng1, z_rng2, z_si_l, z_si_t, z_bind_nm, z_bind_tt, z_bind_tl, z_binds_n, z_binds_c, z_sl_l, z_sl_t, z_at0, z_at1, z_at2, z_at3, z_ixN0, z_intsn, z_intsc, z_boolsn, z_boolsc, z_eqs, z_fgn, z_fgc, z_lcn, z_lcc, rng_2, rng_3, z_en2, z_en3, z_zn, z_zn2, z_zc, cut2_a0, cut2_a1, cut2_b1, cut2_b2, cut3_a0, cut3_a1, cut3_a2, cut3_b1, cut3_b2, cut3_b3, List.nil_append, List.cons_append, Int.reduceAdd, Int.reduceSub, Int.reduceMul, Int.reduceMod, Int.reduceNeg, Int.reduceToNat, Nat.reduceAdd, Int.cast_ofNat_Int, Int.natCast_add, m1, m2, List.sum_cons, List.sum_nil, Int.add_zero]
theorem s_sum_of2 (k : Nat) (a b c d m n : Int) (st : Bx) (ha : Bd 1000 a) (hb : Bd 1000 b) (hc : Bd 1000 c) (hd : Bd 1000 d) (hm : Bd 1000 m) (hn : Bd 1000 n) :
    callF tb (k + 1) "sum_of" [.dat (PyData.tuple [PyData.tuple [PyData.int (a), PyData.int (b)], PyData.tuple [PyData.int (c), PyData.int (d)]]), .dat (PyData.tuple [PyData.int (m), PyData.int (n)])] st = some (.dat (PyData.tuple [PyData.int (m * a + n * c), PyData.int (m * b + n * d)]), st) := by
  rw [c_sum_of]
  have f0 : fitsL 0 = true := by decide
  have r2 : rngOk 2 = true := by decide
  have l0 : 0 < sizeLine := by decide
  have l1 : 1 < sizeLine := by decide
  have m1 : mulOk a m = true := by exact Sy.mulOk_bd (by repeat' (first | assumption | apply Sy.bd_mul | apply Sy.bd_add | apply Sy.bd_sub | apply Sy.bd_neg | apply Sy.bd_abs | (exact Sy.bd_s (by decide) (by decide)) | (exact Sy.bd_s (by omega) (by omega)))) (by repeat' (first | assumption | apply Sy.bd_mul | apply Sy.bd_add | apply Sy.bd_sub | apply Sy.bd_neg | apply Sy.bd_abs | (exact Sy.bd_s (by decide) (by decide)) | (exact Sy.bd_s (by omega) (by omega)))) (by decide)
  have m2 : mulOk b m = true := by exact Sy.mulOk_bd (by repeat' (first | assumption | apply Sy.bd_mul | apply Sy.bd_add | apply Sy.bd_sub | apply Sy.bd_neg | apply Sy.bd_abs | (exact Sy.bd_s (by decide) (by decide)) | (exact Sy.bd_s (by omega) (by omega)))) (by repeat' (first | assumption | apply Sy.bd_mul | apply Sy.bd_add | apply Sy.bd_sub | apply Sy.bd_neg | apply Sy.bd_abs | (exact Sy.bd_s (by decide) (by decide)) | (exact Sy.bd_s (by omega) (by omega)))) (by decide)
  have m3 : mulOk c n = true := by exact Sy.mulOk_bd (by repeat' (first | assumption | apply Sy.bd_mul | apply Sy.bd_add | apply Sy.bd_sub | apply Sy.bd_neg | apply Sy.bd_abs | (exact Sy.bd_s (by decide) (by decide)) | (exact Sy.bd_s (by omega) (by omega)))) (by repeat' (first | assumption | apply Sy.bd_mul | apply Sy.bd_add | apply Sy.bd_sub | apply Sy.bd_neg | apply Sy.bd_abs | (exact Sy.bd_s (by decide) (by decide)) | (exact Sy.bd_s (by omega) (by omega)))) (by decide)
  have m4 : mulOk d n = true := by exact Sy.mulOk_bd (by repeat' (first | assumption | apply Sy.bd_mul | apply Sy.bd_add | apply Sy.bd_sub | apply Sy.bd_neg | apply Sy.bd_abs | (exact Sy.bd_s (by decide) (by decide)) | (exact Sy.bd_s (by omega) (by omega)))) (by repeat' (first | assumption | apply Sy.bd_mul | apply Sy.bd_add | apply Sy.bd_sub | apply Sy.bd_neg | apply Sy.bd_abs | (exact Sy.bd_s (by decide) (by decide)) | (exact Sy.bd_s (by omega) (by omega)))) (by decide)
  simp (decide := true) only [b_sum_of, l_sum_of_1, lb_sum_of_1, q_sum_of_1, ↓reduceIte, Bool.not_true, Bool.not_false, decide_true, decide_false, wipeE, Bool.false_eq_true, y_e_c, y_e_v, y_e_g, y_e_never, y_e_bin, y_e_neg, y_e_tst, y_e_ite, y_e_tup, y_e_lst, y_e_box, y_e_ix, y_e_sl, y_e_rev, y_e_call, y_e_blt, y_e_isi, y_e_lc, y_es_nil, y_es_cons, y_o_no, y_o_yes, y_t_val, y_t_cmp, y_t_chn, y_t_isnt, y_t_isnf, z_nnr_dat, z_nnr_own, z_nnr_brw, z_nn_none, z_nn_bool, z_nn_int, z_nn_str, z_nn_list, z_nn_tuple, y_t_isb, y_t_and, y_t_or, y_t_not, y_h_last, y_h_link, y_al_one, y_al_cons, y_an_one, y_an_cons, y_c_no, y_c_yes, y_i_seq, y_i_rng, y_i_zip, y_i_enum, y_s_never, y_s_pass, y_s_asg, y_s_par, y_s_par3, y_s_setO, y_s_unp, y_s_setB, y_s_exp, y_s_app, y_s_ext, y_s_iff, y_s_whl, y_s_forr, y_s_ret, y_s_retv, y_s_frz, y_ss_nil, y_ss_cons, argsOf, views, caps, Option.map_some, Option.map_none, Option.bind_some, Option.bind_none, List.getElem?_cons_zero, List.getElem?_cons_succ, List.set_cons_zero, List.set_cons_succ, List.length_cons, List.length_nil, z_read_dat, z_read_ref, z_read_scr, z_read_own, z_view_own, z_view_brw, z_view_dat, z_cap_dat, z_cap_own, z_hold_dat, z_hold_ref, z_hold_scr, z_hold_own, z_arg_dat, z_arg_ref, z_arg_scr, z_arg_own, z_look_t, z_look_f, z_len_ref, z_len_scr, z_len_l, z_len_t, z_len_o, z_len_b, z_ix_ref, z_ix_scr, z_ix_l, z_ix_t, z_ix_o, z_ix_b, z_blt_len, z_blt_abs, z_blt_tup, z_blt_lst, z_blt_sum, z_blt_all, z_blt_any, z_blt_min, z_blt_max, z_blt_sorted, z_blt_repr, z_blt_str, z_blt_int, z_blt_divmod, z_d_abs, z_d_tupl, z_d_tupt, z_d_lstl, z_d_lstt, z_d_sum, z_d_all, z_d_any, z_d_minl, z_d_maxl, z_d_min, z_d_max, z_d_sorted, z_d_divmod, z_d_int, z_d_repr, z_d_str, z_bin_i, z_bin_ll, z_bin_tt, z_bin_rep, z_add, z_sub, z_mul, z_fdiv, z_mod, z_eq, z_ne, z_lt, z_le, z_gt, z_ge, z_inl, z_int, z_ninl, z_nint, z_isi_int_none, z_isi_int_bool, z_isi_int_int, z_isi_int_str, z_isi_int_list, z_isi_int_tuple, z_isi_bool_none, z_isi_bool_bool, z_isi_bool_int, z_isi_bool_str, z_isi_bool_list, z_isi_bool_tuple, z_isi_str_none, z_isi_str_bool, z_isi_str_int, z_isi_str_str, z_isi_str_list, z_isi_str_tuple, z_isi_list_none, z_isi_list_bool, z_isi_list_int, z_isi_list_str, z_isi_list_list, z_isi_list_tuple, z_isi_tuple_none, z_isi_tuple_bool, z_isi_tuple_int, z_isi_tuple_str, z_isi_tuple_list, z_isi_tuple_tuple, z_out_rt, z_out_nx, z_eqi, z_eqb, z_rng1, z_rng2, z_si_l, z_si_t, z_bind_nm, z_bind_tt, z_bind_tl, z_binds_n, z_binds_c, z_sl_l, z_sl_t, z_at0, z_at1, z_at2, z_at3, z_ixN0, z_intsn, z_intsc, z_boolsn, z_boolsc, z_eqs, z_fgn, z_fgc, z_lcn, z_lcc, rng_2, rng_3, z_en2, z_en3, z_zn, z_zn2, z_zc, cut2_a0, cut2_a1, cut2_b1, cut2_b2, cut3_a0, cut3_a1, cut3_a2, cut3_b1, cut3_b2, cut3_b3, List.nil_append, List.cons_append, Int.reduceAdd, Int.reduceSub, Int.reduceMul, Int.reduceMod, Int.reduceNeg, Int.reduceToNat, Nat.reduceAdd, Int.cast_ofNat_Int, Int.natCast_add, f0, r2, m1, m2, m3, m4, l0, l1, List.sum_cons, List.sum_nil, Int.add_zero, Int.mul_comm m, Int.mul_comm n]
theorem s_products_of (k : Nat) (x : Qd) (st : Bx) (h : x.Bdd) : callF tb (k + 2) "products_of" [.dat x.p] st = some (.dat (PyData.tuple [PyData.int (x.n1), PyData.int (x.m), PyData.int (x.n2)]), st) := by
  rw [c_products_of]
  obtain ⟨ha, hb, hc, hd⟩ := x.bds h
  have u : ∀ {x : Int}, Bd 300 x → Bd 2000 x := fun h => h.mono (by decide)
  have f3 : fitsL 3 = true := by decide
  unfold Qd.p
  simp (decide := true) only [b_products_of, ↓reduceIte, Bool.not_true, Bool.not_false, decide_true, decide_false, wipeE, Bool.false_eq_true, y_e_c, y_e_v, y_e_g, y_e_never, y_e_bin, y_e_neg, y_e_tst, y_e_ite, y_e_tup, y_e_lst, y_e_box, y_e_ix, y_e_sl, y_e_rev, y_e_call, y_e_blt, y_e_isi, y_e_lc, y_es_nil, y_es_cons, y_o_no, y_o_yes, y_t_val, y_t_cmp, y_t_chn, y_t_isnt, y_t_isnf, z_nnr_dat, z_nnr_own, z_nnr_brw, z_nn_none, z_nn_bool, z_nn_int, z_nn_str, z_nn_list, z_nn_tuple, y_t_isb, y_t_and, y_t_or, y_t_not, y_h_last, y_h_link, y_al_one, y_al_cons, y_an_one, y_an_cons, y_c_no, y_c_yes, y_i_seq, y_i_rng, y_i_zip, y_i_enum, y_s_never, y_s_pass, y_s_asg, y_s_par, y_s_par3, y_s_setO, y_s_unp, y_s_setB, y_s_exp, y_s_app, y_s_ext, y_s_iff, y_s_whl, y_s_forr, y_s_ret, y_s_retv, y_s_frz, y_ss_nil, y_ss_cons, argsOf, views, caps, Option.map_some, Option.map_none, Option.bind_some, Option.bind_none, List.getElem?_cons_zero, List.getElem?_cons_succ, List.set_cons_zero, List.set_cons_succ, List.length_cons, List.length_nil, z_read_dat, z_read_ref, z_read_scr, z_read_own, z_view_own, z_view_brw, z_view_dat, z_cap_dat, z_cap_own, z_hold_dat, z_hold_ref, z_hold_scr, z_hold_own, z_arg_dat, z_arg_ref, z_arg_scr, z_arg_own, z_look_t, z_look_f, z_len_ref, z_len_scr, z_len_l, z_len_t, z_len_o, z_len_b, z_ix_ref, z_ix_scr, z_ix_l, z_ix_t, z_ix_o, z_ix_b, z_blt_len, z_blt_abs, z_blt_tup, z_blt_lst, z_blt_sum, z_blt_all, z_blt_any, z_blt_min, z_blt_max, z_blt_sorted, z_blt_repr, z_blt_str, z_blt_int, z_blt_divmod, z_d_abs, z_d_tupl, z_d_tupt, z_d_lstl, z_d_lstt, z_d_sum, z_d_all, z_d_any, z_d_minl, z_d_maxl, z_d_min, z_d_max, z_d_sorted, z_d_divmod, z_d_int, z_d_repr, z_d_str, z_bin_i, z_bin_ll, z_bin_tt, z_bin_rep, z_add, z_sub, z_mul, z_fdiv, z_mod, z_eq, z_ne, z_lt, z_le, z_gt, z_ge, z_inl, z_int, z_ninl, z_nint, z_isi_int_none, z_isi_int_bool, z_isi_int_int, z_isi_int_str, z_isi_int_list, z_isi_int_tuple, z_isi_bool_none, z_isi_bool_bool, z_isi_bool_int, z_isi_bool_str, z_isi_bool_list, z_isi_bool_tuple, z_isi_str_none, z_isi_str_bool, z_isi_str_int, z_isi_str_str, z_isi_str_list, z_isi_str_tuple, z_isi_list_none, z_isi_list_bool, z_isi_list_int, z_isi_list_str, z_isi_list_list, z_isi_list_tuple, z_isi_tuple_none, z_isi_tuple_bool, z_isi_tuple_int, z_isi_tuple_str, z_isi_tuple_list, z_isi_tuple_tuple, z_out_rt, z_out_nx, z_eqi, z_eqb, z_rng1, z_rng2, z_si_l, z_si_t, z_bind_nm, z_bind_tt, z_bind_tl, z_binds_n, z_binds_c, z_sl_l, z_sl_t, z_at0, z_at1, z_at2, z_at3, z_ixN0, z_intsn, z_intsc, z_boolsn, z_boolsc, s_prod k x.a x.b x.a x.b st (u ha) (u hb) (u ha) (u hb), s_prod k x.a x.b x.c x.d st (u ha) (u hb) (u hc) (u hd), s_prod k x.c x.d x.c x.d st (u hc) (u hd) (u hc) (u hd), f3]
  rfl

theorem s_move_for (k : Nat) (x : Qd) (st : Bx) (h : x.Bdd) (hp : 0 < x.n1) : callF tb (k + 3) "move_for" [.dat x.p] st = some (.dat (mvD x.next), st) := by
  rw [c_move_for]
  have e1 := s_products_of k x st h
  have b2 : Bd 60 2 := bd_s (by decide) (by decide)
  have bm := bd_m h
  have b1 := h.1
  have bma : Bd 601 (x.m.natAbs : Int) := bd_abs bm
  have m1 : mulOk 2 x.m = true := mulOk_bd b2 bm (by decide)
  have m2 : mulOk 2 x.n1 = true := mulOk_bd b2 b1 (by decide)
  have m3 : mulOk 2 (x.m.natAbs : Int) = true := mulOk_bd b2 bma (by decide)
  have p1 : 0 < 2 * x.n1 := by omega
  have dv : divOk (2 * x.n1) = true := divOk_bd (bd_mul b2 b1) (by omega) (by decide)
  have f1 : fitsL 1 = true := by decide
  have f2 : fitsL 2 = true := by decide
  have eo : (2 * x.m + x.n1) / (2 * x.n1) = x.often := rfl
  unfold Qd.next
  by_cases hl : x.n1 < 2 * x.m.natAbs
  · have ho := often_z hp hl
    simp (decide := true) only [b_move_for, ↓reduceIte, Bool.not_true, Bool.not_false, decide_true, decide_false, wipeE, Bool.false_eq_true, y_e_c, y_e_v, y_e_g, y_e_never, y_e_bin, y_e_neg, y_e_tst, y_e_ite, y_e_tup, y_e_lst, y_e_box, y_e_ix, y_e_sl, y_e_rev, y_e_call, y_e_blt, y_e_isi, y_e_lc, y_es_nil, y_es_cons, y_o_no, y_o_yes, y_t_val, y_t_cmp, y_t_chn, y_t_isnt, y_t_isnf, z_nnr_dat, z_nnr_own, z_nnr_brw, z_nn_none, z_nn_bool, z_nn_int, z_nn_str, z_nn_list, z_nn_tuple, y_t_isb, y_t_and, y_t_or, y_t_not, y_h_last, y_h_link, y_al_one, y_al_cons, y_an_one, y_an_cons, y_c_no, y_c_yes, y_i_seq, y_i_rng, y_i_zip, y_i_enum, y_s_never, y_s_pass, y_s_asg, y_s_par, y_s_par3, y_s_setO, y_s_unp, y_s_setB, y_s_exp, y_s_app, y_s_ext, y_s_iff, y_s_whl, y_s_forr, y_s_ret, y_s_retv, y_s_frz, y_ss_nil, y_ss_cons, argsOf, views, caps, Option.map_some, Option.map_none, Option.bind_some, Option.bind_none, List.getElem?_cons_zero, List.getElem?_cons_succ, List.set_cons_zero, List.set_cons_succ, List.length_cons, List.length_nil, z_read_dat, z_read_ref, z_read_scr, z_read_own, z_view_own, z_view_brw, z_view_dat, z_cap_dat, z_cap_own, z_hold_dat, z_hold_ref, z_hold_scr, z_hold_own, z_arg_dat, z_arg_ref, z_arg_scr, z_arg_own, z_look_t, z_look_f, z_len_ref, z_len_scr, z_len_l, z_len_t, z_len_o, z_len_b, z_ix_ref, z_ix_scr, z_ix_l, z_ix_t, z_ix_o, z_ix_b, z_blt_len, z_blt_abs, z_blt_tup, z_blt_lst, z_blt_sum, z_blt_all, z_blt_any, z_blt_min, z_blt_max, z_blt_sorted, z_blt_repr, z_blt_str, z_blt_int, z_blt_divmod, z_d_abs, z_d_tupl, z_d_tupt, z_d_lstl, z_d_lstt, z_d_sum, z_d_all, z_d_any, z_d_minl, z_d_maxl, z_d_min, z_d_max, z_d_sorted, z_d_divmod, z_d_int, z_d_repr, z_d_str, z_bin_i, z_bin_ll, z_bin_tt, z_bin_rep, z_add, z_sub, z_mul, z_fdiv, z_mod, z_eq, z_ne, z_lt, z_le, z_gt, z_ge, z_inl, z_int, z_ninl, z_nint, z_isi_int_none, z_isi_int_bool, z_isi_int_int, z_isi_int_str, z_isi_int_list, z_isi_int_tuple, z_isi_bool_none, z_isi_bool_bool, z_isi_bool_int, z_isi_bool_str, z_isi_bool_list, z_isi_bool_tuple, z_isi_str_none, z_isi_str_bool, z_isi_str_int, z_isi_str_str, z_isi_str_list, z_isi_str_tuple, z_isi_list_none, z_isi_list_bool, z_isi_list_int, z_isi_list_str, z_isi_list_list, z_isi_list_tuple, z_isi_tuple_none, z_isi_tuple_bool, z_isi_tuple_int, z_isi_tuple_str, z_isi_tuple_list, z_isi_tuple_tuple, z_out_rt, z_out_nx, z_eqi, z_eqb, z_rng1, z_rng2, z_si_l, z_si_t, z_bind_nm, z_bind_tt, z_bind_tl, z_binds_n, z_binds_c, z_sl_l, z_sl_t, z_at0, z_at1, z_at2, z_at3, z_ixN0, z_intsn, z_intsc, z_boolsn, z_boolsc, e1, m1, m2, m3, z_fdiv p1 dv, eo, ho, hl, f2, mvD, Mv.d]
  · by_cases ht : x.n2 < x.n1
    · by_cases ho : x.often = 0 <;> simp (decide := true) only [b_move_for, ↓reduceIte, Bool.not_true, Bool.not_false, decide_true, decide_false, wipeE, Bool.false_eq_true, y_e_c, y_e_v, y_e_g, y_e_never, y_e_bin, y_e_neg, y_e_tst, y_e_ite, y_e_tup, y_e_lst, y_e_box, y_e_ix, y_e_sl, y_e_rev, y_e_call, y_e_blt, y_e_isi, y_e_lc, y_es_nil, y_es_cons, y_o_no, y_o_yes, y_t_val, y_t_cmp, y_t_chn, y_t_isnt, y_t_isnf, z_nnr_dat, z_nnr_own, z_nnr_brw, z_nn_none, z_nn_bool, z_nn_int, z_nn_str, z_nn_list, z_nn_tuple, y_t_isb, y_t_and, y_t_or, y_t_not, y_h_last, y_h_link, y_al_one, y_al_cons, y_an_one, y_an_cons, y_c_no, y_c_yes, y_i_seq, y_i_rng, y_i_zip, y_i_enum, y_s_never, y_s_pass, y_s_asg, y_s_par, y_s_par3, y_s_setO, y_s_unp, y_s_setB, y_s_exp, y_s_app, y_s_ext, y_s_iff, y_s_whl, y_s_forr, y_s_ret, y_s_retv, y_s_frz, y_ss_nil, y_ss_cons, argsOf, views, caps, Option.map_some, Option.map_none, Option.bind_some, Option.bind_none, List.getElem?_cons_zero, List.getElem?_cons_succ, List.set_cons_zero, List.set_cons_succ, List.length_cons, List.length_nil, z_read_dat, z_read_ref, z_read_scr, z_read_own, z_view_own, z_view_brw, z_view_dat, z_cap_dat, z_cap_own, z_hold_dat, z_hold_ref, z_hold_scr, z_hold_own, z_arg_dat, z_arg_ref, z_arg_scr, z_arg_own, z_look_t, z_look_f, z_len_ref, z_len_scr, z_len_l, z_len_t, z_len_o, z_len_b, z_ix_ref, z_ix_scr, z_ix_l, z_ix_t, z_ix_o, z_ix_b, z_blt_len, z_blt_abs, z_blt_tup, z_blt_lst, z_blt_sum, z_blt_all, z_blt_any, z_blt_min, z_blt_max, z_blt_sorted, z_blt_repr, z_blt_str, z_blt_int, z_blt_divmod, z_d_abs, z_d_tupl, z_d_tupt, z_d_lstl, z_d_lstt, z_d_sum, z_d_all, z_d_any, z_d_minl, z_d_maxl, z_d_min, z_d_max, z_d_sorted, z_d_divmod, z_d_int, z_d_repr, z_d_str, z_bin_i, z_bin_ll, z_bin_tt, z_bin_rep, z_add, z_sub, z_mul, z_fdiv, z_mod, z_eq, z_ne, z_lt, z_le, z_gt, z_ge, z_inl, z_int, z_ninl, z_nint, z_isi_int_none, z_isi_int_bool, z_isi_int_int, z_isi_int_str, z_isi_int_list, z_isi_int_tuple, z_isi_bool_none, z_isi_bool_bool, z_isi_bool_int, z_isi_bool_str, z_isi_bool_list, z_isi_bool_tuple, z_isi_str_none, z_isi_str_bool, z_isi_str_int, z_isi_str_str, z_isi_str_list, z_isi_str_tuple, z_isi_list_none, z_isi_list_bool, z_isi_list_int, z_isi_list_str, z_isi_list_list, z_isi_list_tuple, z_isi_tuple_none, z_isi_tuple_bool, z_isi_tuple_int, z_isi_tuple_str, z_isi_tuple_list, z_isi_tuple_tuple, z_out_rt, z_out_nx, z_eqi, z_eqb, z_rng1, z_rng2, z_si_l, z_si_t, z_bind_nm, z_bind_tt, z_bind_tl, z_binds_n, z_binds_c, z_sl_l, z_sl_t, z_at0, z_at1, z_at2, z_at3, z_ixN0, z_intsn, z_intsc, z_boolsn, z_boolsc, e1, m1, m2, m3, z_fdiv p1 dv, eo, ho, hl, ht, f1, mvD, Mv.d]
    · by_cases hn : x.m < 0
      · by_cases ho : x.often = 0 <;> simp (decide := true) only [b_move_for, ↓reduceIte, Bool.not_true, Bool.not_false, decide_true, decide_false, wipeE, Bool.false_eq_true, y_e_c, y_e_v, y_e_g, y_e_never, y_e_bin, y_e_neg, y_e_tst, y_e_ite, y_e_tup, y_e_lst, y_e_box, y_e_ix, y_e_sl, y_e_rev, y_e_call, y_e_blt, y_e_isi, y_e_lc, y_es_nil, y_es_cons, y_o_no, y_o_yes, y_t_val, y_t_cmp, y_t_chn, y_t_isnt, y_t_isnf, z_nnr_dat, z_nnr_own, z_nnr_brw, z_nn_none, z_nn_bool, z_nn_int, z_nn_str, z_nn_list, z_nn_tuple, y_t_isb, y_t_and, y_t_or, y_t_not, y_h_last, y_h_link, y_al_one, y_al_cons, y_an_one, y_an_cons, y_c_no, y_c_yes, y_i_seq, y_i_rng, y_i_zip, y_i_enum, y_s_never, y_s_pass, y_s_asg, y_s_par, y_s_par3, y_s_setO, y_s_unp, y_s_setB, y_s_exp, y_s_app, y_s_ext, y_s_iff, y_s_whl, y_s_forr, y_s_ret, y_s_retv, y_s_frz, y_ss_nil, y_ss_cons, argsOf, views, caps, Option.map_some, Option.map_none, Option.bind_some, Option.bind_none, List.getElem?_cons_zero, List.getElem?_cons_succ, List.set_cons_zero, List.set_cons_succ, List.length_cons, List.length_nil, z_read_dat, z_read_ref, z_read_scr, z_read_own, z_view_own, z_view_brw, z_view_dat, z_cap_dat, z_cap_own, z_hold_dat, z_hold_ref, z_hold_scr, z_hold_own, z_arg_dat, z_arg_ref, z_arg_scr, z_arg_own, z_look_t, z_look_f, z_len_ref, z_len_scr, z_len_l, z_len_t, z_len_o, z_len_b, z_ix_ref, z_ix_scr, z_ix_l, z_ix_t, z_ix_o, z_ix_b, z_blt_len, z_blt_abs, z_blt_tup, z_blt_lst, z_blt_sum, z_blt_all, z_blt_any, z_blt_min, z_blt_max, z_blt_sorted, z_blt_repr, z_blt_str, z_blt_int, z_blt_divmod, z_d_abs, z_d_tupl, z_d_tupt, z_d_lstl, z_d_lstt, z_d_sum, z_d_all, z_d_any, z_d_minl, z_d_maxl, z_d_min, z_d_max, z_d_sorted, z_d_divmod, z_d_int, z_d_repr, z_d_str, z_bin_i, z_bin_ll, z_bin_tt, z_bin_rep, z_add, z_sub, z_mul, z_fdiv, z_mod, z_eq, z_ne, z_lt, z_le, z_gt, z_ge, z_inl, z_int, z_ninl, z_nint, z_isi_int_none, z_isi_int_bool, z_isi_int_int, z_isi_int_str, z_isi_int_list, z_isi_int_tuple, z_isi_bool_none, z_isi_bool_bool, z_isi_bool_int, z_isi_bool_str, z_isi_bool_list, z_isi_bool_tuple, z_isi_str_none, z_isi_str_bool, z_isi_str_int, z_isi_str_str, z_isi_str_list, z_isi_str_tuple, z_isi_list_none, z_isi_list_bool, z_isi_list_int, z_isi_list_str, z_isi_list_list, z_isi_list_tuple, z_isi_tuple_none, z_isi_tuple_bool, z_isi_tuple_int, z_isi_tuple_str, z_isi_tuple_list, z_isi_tuple_tuple, z_out_rt, z_out_nx, z_eqi, z_eqb, z_rng1, z_rng2, z_si_l, z_si_t, z_bind_nm, z_bind_tt, z_bind_tl, z_binds_n, z_binds_c, z_sl_l, z_sl_t, z_at0, z_at1, z_at2, z_at3, z_ixN0, z_intsn, z_intsc, z_boolsn, z_boolsc, e1, m1, m2, m3, z_fdiv p1 dv, eo, ho, hl, ht, hn, f1, mvD, Mv.d]
      · by_cases ho : x.often = 0 <;> simp (decide := true) only [b_move_for, ↓reduceIte, Bool.not_true, Bool.not_false, decide_true, decide_false, wipeE, Bool.false_eq_true, y_e_c, y_e_v, y_e_g, y_e_never, y_e_bin, y_e_neg, y_e_tst, y_e_ite, y_e_tup, y_e_lst, y_e_box, y_e_ix, y_e_sl, y_e_rev, y_e_call, y_e_blt, y_e_isi, y_e_lc, y_es_nil, y_es_cons, y_o_no, y_o_yes, y_t_val, y_t_cmp, y_t_chn, y_t_isnt, y_t_isnf, z_nnr_dat, z_nnr_own, z_nnr_brw, z_nn_none, z_nn_bool, z_nn_int, z_nn_str, z_nn_list, z_nn_tuple, y_t_isb, y_t_and, y_t_or, y_t_not, y_h_last, y_h_link, y_al_one, y_al_cons, y_an_one, y_an_cons, y_c_no, y_c_yes, y_i_seq, y_i_rng, y_i_zip, y_i_enum, y_s_never, y_s_pass, y_s_asg, y_s_par, y_s_par3, y_s_setO, y_s_unp, y_s_setB, y_s_exp, y_s_app, y_s_ext, y_s_iff, y_s_whl, y_s_forr, y_s_ret, y_s_retv, y_s_frz, y_ss_nil, y_ss_cons, argsOf, views, caps, Option.map_some, Option.map_none, Option.bind_some, Option.bind_none, List.getElem?_cons_zero, List.getElem?_cons_succ, List.set_cons_zero, List.set_cons_succ, List.length_cons, List.length_nil, z_read_dat, z_read_ref, z_read_scr, z_read_own, z_view_own, z_view_brw, z_view_dat, z_cap_dat, z_cap_own, z_hold_dat, z_hold_ref, z_hold_scr, z_hold_own, z_arg_dat, z_arg_ref, z_arg_scr, z_arg_own, z_look_t, z_look_f, z_len_ref, z_len_scr, z_len_l, z_len_t, z_len_o, z_len_b, z_ix_ref, z_ix_scr, z_ix_l, z_ix_t, z_ix_o, z_ix_b, z_blt_len, z_blt_abs, z_blt_tup, z_blt_lst, z_blt_sum, z_blt_all, z_blt_any, z_blt_min, z_blt_max, z_blt_sorted, z_blt_repr, z_blt_str, z_blt_int, z_blt_divmod, z_d_abs, z_d_tupl, z_d_tupt, z_d_lstl, z_d_lstt, z_d_sum, z_d_all, z_d_any, z_d_minl, z_d_maxl, z_d_min, z_d_max, z_d_sorted, z_d_divmod, z_d_int, z_d_repr, z_d_str, z_bin_i, z_bin_ll, z_bin_tt, z_bin_rep, z_add, z_sub, z_mul, z_fdiv, z_mod, z_eq, z_ne, z_lt, z_le, z_gt, z_ge, z_inl, z_int, z_ninl, z_nint, z_isi_int_none, z_isi_int_bool, z_isi_int_int, z_isi_int_str, z_isi_int_list, z_isi_int_tuple, z_isi_bool_none, z_isi_bool_bool, z_isi_bool_int, z_isi_bool_str, z_isi_bool_list, z_isi_bool_tuple, z_isi_str_none, z_isi_str_bool, z_isi_str_int, z_isi_str_str, z_isi_str_list, z_isi_str_tuple, z_isi_list_none, z_isi_list_bool, z_isi_list_int, z_isi_list_str, z_isi_list_list, z_isi_list_tuple, z_isi_tuple_none, z_isi_tuple_bool, z_isi_tuple_int, z_isi_tuple_str, z_isi_tuple_list, z_isi_tuple_tuple, z_out_rt, z_out_nx, z_eqi, z_eqb, z_rng1, z_rng2, z_si_l, z_si_t, z_bind_nm, z_bind_tt, z_bind_tl, z_binds_n, z_binds_c, z_sl_l, z_sl_t, z_at0, z_at1, z_at2, z_at3, z_ixN0, z_intsn, z_intsc, z_boolsn, z_boolsc, e1, m1, m2, m3, z_fdiv p1 dv, eo, ho, hl, ht, hn, mvD]
theorem s_moved_by (k : Nat) (x : Qd) (mv : Mv) (st : Bx) (ha : Bd 1000 x.a) (hb : Bd 1000 x.b) (hc : Bd 1000 x.c) (hd : Bd 1000 x.d) (hm : ∀ q, mv = .less q → Bd 990 q) : callF tb (k + 2) "moved_by" [.dat x.p, .dat mv.d] st = some (.dat (x.go mv).p, st) := by
  rw [c_moved_by]
  have f2 : fitsL 2 = true := by decide
  have b1 : Bd 1000 1 := bd1000 (by decide) (by decide)
  have b0 : Bd 1000 0 := bd1000 (by decide) (by decide)
  have bn : Bd 1000 (-1) := bd1000 (by decide) (by decide)
  have s1 : (Str.ofString "less" = Str.ofString "turn") = False := eq_false (by decide)
  have s2 : (Str.ofString "less" = Str.ofString "about") = False := eq_false (by decide)
  have s3 : (Str.ofString "about" = Str.ofString "turn") = False := eq_false (by decide)
  cases mv with
  | less q =>
    have bq : Bd 1000 (0 - q) := by rw [Int.zero_sub]; exact (bd_neg (hm q rfl)).mono (by decide)
    have e := s_sum_of2 k x.a x.b x.c x.d (0 - q) 1 st ha hb hc hd bq b1
    simp (decide := true) only [b_moved_by, ↓reduceIte, Bool.not_true, Bool.not_false, decide_true, decide_false, wipeE, Bool.false_eq_true, y_e_c, y_e_v, y_e_g, y_e_never, y_e_bin, y_e_neg, y_e_tst, y_e_ite, y_e_tup, y_e_lst, y_e_box, y_e_ix, y_e_sl, y_e_rev, y_e_call, y_e_blt, y_e_isi, y_e_lc, y_es_nil, y_es_cons, y_o_no, y_o_yes, y_t_val, y_t_cmp, y_t_chn, y_t_isnt, y_t_isnf, z_nnr_dat, z_nnr_own, z_nnr_brw, z_nn_none, z_nn_bool, z_nn_int, z_nn_str, z_nn_list, z_nn_tuple, y_t_isb, y_t_and, y_t_or, y_t_not, y_h_last, y_h_link, y_al_one, y_al_cons, y_an_one, y_an_cons, y_c_no, y_c_yes, y_i_seq, y_i_rng, y_i_zip, y_i_enum, y_s_never, y_s_pass, y_s_asg, y_s_par, y_s_par3, y_s_setO, y_s_unp, y_s_setB, y_s_exp, y_s_app, y_s_ext, y_s_iff, y_s_whl, y_s_forr, y_s_ret, y_s_retv, y_s_frz, y_ss_nil, y_ss_cons, argsOf, views, caps, Option.map_some, Option.map_none, Option.bind_some, Option.bind_none, List.getElem?_cons_zero, List.getElem?_cons_succ, List.set_cons_zero, List.set_cons_succ, List.length_cons, List.length_nil, z_read_dat, z_read_ref, z_read_scr, z_read_own, z_view_own, z_view_brw, z_view_dat, z_cap_dat, z_cap_own, z_hold_dat, z_hold_ref, z_hold_scr, z_hold_own, z_arg_dat, z_arg_ref, z_arg_scr, z_arg_own, z_look_t, z_look_f, z_len_ref, z_len_scr, z_len_l, z_len_t, z_len_o, z_len_b, z_ix_ref, z_ix_scr, z_ix_l, z_ix_t, z_ix_o, z_ix_b, z_blt_len, z_blt_abs, z_blt_tup, z_blt_lst, z_blt_sum, z_blt_all, z_blt_any, z_blt_min, z_blt_max, z_blt_sorted, z_blt_repr, z_blt_str, z_blt_int, z_blt_divmod, z_d_abs, z_d_tupl, z_d_tupt, z_d_lstl, z_d_lstt, z_d_sum, z_d_all, z_d_any, z_d_minl, z_d_maxl, z_d_min, z_d_max, z_d_sorted, z_d_divmod, z_d_int, z_d_repr, z_d_str, z_bin_i, z_bin_ll, z_bin_tt, z_bin_rep, z_add, z_sub, z_mul, z_fdiv, z_mod, z_eq, z_ne, z_lt, z_le, z_gt, z_ge, z_inl, z_int, z_ninl, z_nint, z_isi_int_none, z_isi_int_bool, z_isi_int_int, z_isi_int_str, z_isi_int_list, z_isi_int_tuple, z_isi_bool_none, z_isi_bool_bool, z_isi_bool_int, z_isi_bool_str, z_isi_bool_list, z_isi_bool_tuple, z_isi_str_none, z_isi_str_bool, z_isi_str_int, z_isi_str_str, z_isi_str_list, z_isi_str_tuple, z_isi_list_none, z_isi_list_bool, z_isi_list_int, z_isi_list_str, z_isi_list_list, z_isi_list_tuple, z_isi_tuple_none, z_isi_tuple_bool, z_isi_tuple_int, z_isi_tuple_str, z_isi_tuple_list, z_isi_tuple_tuple, z_out_rt, z_out_nx, z_eqi, z_eqb, z_rng1, z_rng2, z_si_l, z_si_t, z_bind_nm, z_bind_tt, z_bind_tl, z_binds_n, z_binds_c, z_sl_l, z_sl_t, z_at0, z_at1, z_at2, z_at3, z_ixN0, z_intsn, z_intsc, z_boolsn, z_boolsc, z_eqs, z_fgn, z_fgc, z_lcn, z_lcc, rng_2, rng_3, z_en2, z_en3, z_zn, z_zn2, z_zc, cut2_a0, cut2_a1, cut2_b1, cut2_b2, cut3_a0, cut3_a1, cut3_a2, cut3_b1, cut3_b2, cut3_b3, List.nil_append, List.cons_append, Int.reduceAdd, Int.reduceSub, Int.reduceMul, Int.reduceMod, Int.reduceNeg, Int.reduceToNat, Nat.reduceAdd, Int.cast_ofNat_Int, Int.natCast_add, Mv.d, Qd.p, Qd.go, s1, s2, e, f2]
  | turn => simp (decide := true) only [b_moved_by, ↓reduceIte, Bool.not_true, Bool.not_false, decide_true, decide_false, wipeE, Bool.false_eq_true, y_e_c, y_e_v, y_e_g, y_e_never, y_e_bin, y_e_neg, y_e_tst, y_e_ite, y_e_tup, y_e_lst, y_e_box, y_e_ix, y_e_sl, y_e_rev, y_e_call, y_e_blt, y_e_isi, y_e_lc, y_es_nil, y_es_cons, y_o_no, y_o_yes, y_t_val, y_t_cmp, y_t_chn, y_t_isnt, y_t_isnf, z_nnr_dat, z_nnr_own, z_nnr_brw, z_nn_none, z_nn_bool, z_nn_int, z_nn_str, z_nn_list, z_nn_tuple, y_t_isb, y_t_and, y_t_or, y_t_not, y_h_last, y_h_link, y_al_one, y_al_cons, y_an_one, y_an_cons, y_c_no, y_c_yes, y_i_seq, y_i_rng, y_i_zip, y_i_enum, y_s_never, y_s_pass, y_s_asg, y_s_par, y_s_par3, y_s_setO, y_s_unp, y_s_setB, y_s_exp, y_s_app, y_s_ext, y_s_iff, y_s_whl, y_s_forr, y_s_ret, y_s_retv, y_s_frz, y_ss_nil, y_ss_cons, argsOf, views, caps, Option.map_some, Option.map_none, Option.bind_some, Option.bind_none, List.getElem?_cons_zero, List.getElem?_cons_succ, List.set_cons_zero, List.set_cons_succ, List.length_cons, List.length_nil, z_read_dat, z_read_ref, z_read_scr, z_read_own, z_view_own, z_view_brw, z_view_dat, z_cap_dat, z_cap_own, z_hold_dat, z_hold_ref, z_hold_scr, z_hold_own, z_arg_dat, z_arg_ref, z_arg_scr, z_arg_own, z_look_t, z_look_f, z_len_ref, z_len_scr, z_len_l, z_len_t, z_len_o, z_len_b, z_ix_ref, z_ix_scr, z_ix_l, z_ix_t, z_ix_o, z_ix_b, z_blt_len, z_blt_abs, z_blt_tup, z_blt_lst, z_blt_sum, z_blt_all, z_blt_any, z_blt_min, z_blt_max, z_blt_sorted, z_blt_repr, z_blt_str, z_blt_int, z_blt_divmod, z_d_abs, z_d_tupl, z_d_tupt, z_d_lstl, z_d_lstt, z_d_sum, z_d_all, z_d_any, z_d_minl, z_d_maxl, z_d_min, z_d_max, z_d_sorted, z_d_divmod, z_d_int, z_d_repr, z_d_str, z_bin_i, z_bin_ll, z_bin_tt, z_bin_rep, z_add, z_sub, z_mul, z_fdiv, z_mod, z_eq, z_ne, z_lt, z_le, z_gt, z_ge, z_inl, z_int, z_ninl, z_nint, z_isi_int_none, z_isi_int_bool, z_isi_int_int, z_isi_int_str, z_isi_int_list, z_isi_int_tuple, z_isi_bool_none, z_isi_bool_bool, z_isi_bool_int, z_isi_bool_str, z_isi_bool_list, z_isi_bool_tuple, z_isi_str_none, z_isi_str_bool, z_isi_str_int, z_isi_str_str, z_isi_str_list, z_isi_str_tuple, z_isi_list_none, z_isi_list_bool, z_isi_list_int, z_isi_list_str, z_isi_list_list, z_isi_list_tuple, z_isi_tuple_none, z_isi_tuple_bool, z_isi_tuple_int, z_isi_tuple_str, z_isi_tuple_list, z_isi_tuple_tuple, z_out_rt, z_out_nx, z_eqi, z_eqb, z_rng1, z_rng2, z_si_l, z_si_t, z_bind_nm, z_bind_tt, z_bind_tl, z_binds_n, z_binds_c, z_sl_l, z_sl_t, z_at0, z_at1, z_at2, z_at3, z_ixN0, z_intsn, z_intsc, z_boolsn, z_boolsc, z_eqs, z_fgn, z_fgc, z_lcn, z_lcc, rng_2, rng_3, z_en2, z_en3, z_zn, z_zn2, z_zc, cut2_a0, cut2_a1, cut2_b1, cut2_b2, cut3_a0, cut3_a1, cut3_a2, cut3_b1, cut3_b2, cut3_b3, List.nil_append, List.cons_append, Int.reduceAdd, Int.reduceSub, Int.reduceMul, Int.reduceMod, Int.reduceNeg, Int.reduceToNat, Nat.reduceAdd, Int.cast_ofNat_Int, Int.natCast_add, Mv.d, Qd.p, Qd.go, f2]
  | about =>
    have e := s_sum_of2 k x.a x.b x.c x.d 0 (-1) st ha hb hc hd b0 bn
    have e1 : 0 * x.a + -1 * x.c = 0 - x.c := by omega
    have e2 : 0 * x.b + -1 * x.d = 0 - x.d := by omega
    rw [e1, e2] at e
    simp (decide := true) only [b_moved_by, ↓reduceIte, Bool.not_true, Bool.not_false, decide_true, decide_false, wipeE, Bool.false_eq_true, y_e_c, y_e_v, y_e_g, y_e_never, y_e_bin, y_e_neg, y_e_tst, y_e_ite, y_e_tup, y_e_lst, y_e_box, y_e_ix, y_e_sl, y_e_rev, y_e_call, y_e_blt, y_e_isi, y_e_lc, y_es_nil, y_es_cons, y_o_no, y_o_yes, y_t_val, y_t_cmp, y_t_chn, y_t_isnt, y_t_isnf, z_nnr_dat, z_nnr_own, z_nnr_brw, z_nn_none, z_nn_bool, z_nn_int, z_nn_str, z_nn_list, z_nn_tuple, y_t_isb, y_t_and, y_t_or, y_t_not, y_h_last, y_h_link, y_al_one, y_al_cons, y_an_one, y_an_cons, y_c_no, y_c_yes, y_i_seq, y_i_rng, y_i_zip, y_i_enum, y_s_never, y_s_pass, y_s_asg, y_s_par, y_s_par3, y_s_setO, y_s_unp, y_s_setB, y_s_exp, y_s_app, y_s_ext, y_s_iff, y_s_whl, y_s_forr, y_s_ret, y_s_retv, y_s_frz, y_ss_nil, y_ss_cons, argsOf, views, caps, Option.map_some, Option.map_none, Option.bind_some, Option.bind_none, List.getElem?_cons_zero, List.getElem?_cons_succ, List.set_cons_zero, List.set_cons_succ, List.length_cons, List.length_nil, z_read_dat, z_read_ref, z_read_scr, z_read_own, z_view_own, z_view_brw, z_view_dat, z_cap_dat, z_cap_own, z_hold_dat, z_hold_ref, z_hold_scr, z_hold_own, z_arg_dat, z_arg_ref, z_arg_scr, z_arg_own, z_look_t, z_look_f, z_len_ref, z_len_scr, z_len_l, z_len_t, z_len_o, z_len_b, z_ix_ref, z_ix_scr, z_ix_l, z_ix_t, z_ix_o, z_ix_b, z_blt_len, z_blt_abs, z_blt_tup, z_blt_lst, z_blt_sum, z_blt_all, z_blt_any, z_blt_min, z_blt_max, z_blt_sorted, z_blt_repr, z_blt_str, z_blt_int, z_blt_divmod, z_d_abs, z_d_tupl, z_d_tupt, z_d_lstl, z_d_lstt, z_d_sum, z_d_all, z_d_any, z_d_minl, z_d_maxl, z_d_min, z_d_max, z_d_sorted, z_d_divmod, z_d_int, z_d_repr, z_d_str, z_bin_i, z_bin_ll, z_bin_tt, z_bin_rep, z_add, z_sub, z_mul, z_fdiv, z_mod, z_eq, z_ne, z_lt, z_le, z_gt, z_ge, z_inl, z_int, z_ninl, z_nint, z_isi_int_none, z_isi_int_bool, z_isi_int_int, z_isi_int_str, z_isi_int_list, z_isi_int_tuple, z_isi_bool_none, z_isi_bool_bool, z_isi_bool_int, z_isi_bool_str, z_isi_bool_list, z_isi_bool_tuple, z_isi_str_none, z_isi_str_bool, z_isi_str_int, z_isi_str_str, z_isi_str_list, z_isi_str_tuple, z_isi_list_none, z_isi_list_bool, z_isi_list_int, z_isi_list_str, z_isi_list_list, z_isi_list_tuple, z_isi_tuple_none, z_isi_tuple_bool, z_isi_tuple_int, z_isi_tuple_str, z_isi_tuple_list, z_isi_tuple_tuple, z_out_rt, z_out_nx, z_eqi, z_eqb, z_rng1, z_rng2, z_si_l, z_si_t, z_bind_nm, z_bind_tt, z_bind_tl, z_binds_n, z_binds_c, z_sl_l, z_sl_t, z_at0, z_at1, z_at2, z_at3, z_ixN0, z_intsn, z_intsc, z_boolsn, z_boolsc, z_eqs, z_fgn, z_fgc, z_lcn, z_lcc, rng_2, rng_3, z_en2, z_en3, z_zn, z_zn2, z_zc, cut2_a0, cut2_a1, cut2_b1, cut2_b2, cut3_a0, cut3_a1, cut3_a2, cut3_b1, cut3_b2, cut3_b3, List.nil_append, List.cons_append, Int.reduceAdd, Int.reduceSub, Int.reduceMul, Int.reduceMod, Int.reduceNeg, Int.reduceToNat, Nat.reduceAdd, Int.cast_ofNat_Int, Int.natCast_add, Mv.d, Qd.p, Qd.go, s3, e, f2]
theorem s_ledR (k : Nat) (x : Qd) (st : Bx) (h : x.Bdd) (hn : x.det ≠ 0) :
    ∃ ms : List Mv, Uni x.a x.b x.c x.d (x.gos ms).a (x.gos ms).b (x.gos ms).c (x.gos ms).d ∧ Short (x.gos ms).a (x.gos ms).b (x.gos ms).c (x.gos ms).d ∧ (x.gos ms).Bdd ∧ ms.length ≤ 800 ∧ MvOk x ms ∧ Run x ms ∧
      callF tb (k + 4) "led" [.dat x.p] st = some (.dat (.tuple [.list (ms.map Mv.d), (x.gos ms).p]), st) := by
  rw [c_led]
  have f0 : fitsL 0 = true := by decide
  have f2 : fitsL 2 = true := by decide
  have hp0 : 0 < x.n1 := norm_pos hn
  have e0 := s_move_for k x st h hp0
  obtain ⟨env1, st1, e1, ms, q1, q2, q3, q4, q5, q6, e2, e3⟩ := den_whl (cf := callF tb (k + 3)) (t := .isn (.v 2) true) (b := lb_led_1) (env := [some (.dat x.p), some (.own []), some (.dat (mvD x.next))]) (st := st) (m := 801)
    (fun m env s => ∃ ms : List Mv, m = 801 - ms.length ∧ Uni x.a x.b x.c x.d (x.gos ms).a (x.gos ms).b (x.gos ms).c (x.gos ms).d ∧ (x.gos ms).Bdd ∧ Kd ms.length (x.gos ms) ∧ MvOk x ms ∧ (∀ r, Run (x.gos ms) r → Run x (ms ++ r)) ∧ env = [some (.dat (x.gos ms).p), some (.own (ms.map Mv.d)), some (.dat (mvD (x.gos ms).next))] ∧ s = st)
    (fun env s => ∃ ms : List Mv, Uni x.a x.b x.c x.d (x.gos ms).a (x.gos ms).b (x.gos ms).c (x.gos ms).d ∧ Short (x.gos ms).a (x.gos ms).b (x.gos ms).c (x.gos ms).d ∧ (x.gos ms).Bdd ∧ ms.length ≤ 800 ∧ MvOk x ms ∧ Run x ms ∧ env = [some (.dat (x.gos ms).p), some (.own (ms.map Mv.d)), some (.dat .none)] ∧ s = st)
    ⟨[], rfl, Uni.refl _ _ _ _, h, .inl rfl, ⟨(fun q hq => by cases hq), fun i => by rw [List.take_nil]; exact h⟩, fun r hr => hr, rfl, rfl⟩ fun m env s ⟨ms, hm, hu, hb, hk, hq, hR, e, es⟩ => by
      subst e es
      have hn1 := Qd.uni_det (x := x) (y := x.gos ms) hu hn
      have hp : 0 < (x.gos ms).n1 := norm_pos hn1
      cases hx : (x.gos ms).next with
      | none =>
        exact ⟨false, s, by simp only [↓reduceIte, Bool.not_true, Bool.not_false, decide_true, decide_false, wipeE, Bool.false_eq_true, y_e_c, y_e_v, y_e_g, y_e_never, y_e_bin, y_e_neg, y_e_tst, y_e_ite, y_e_tup, y_e_lst, y_e_box, y_e_ix, y_e_sl, y_e_rev, y_e_call, y_e_blt, y_e_isi, y_e_lc, y_es_nil, y_es_cons, y_o_no, y_o_yes, y_t_val, y_t_cmp, y_t_chn, y_t_isnt, y_t_isnf, z_nnr_dat, z_nnr_own, z_nnr_brw, z_nn_none, z_nn_bool, z_nn_int, z_nn_str, z_nn_list, z_nn_tuple, y_t_isb, y_t_and, y_t_or, y_t_not, y_h_last, y_h_link, y_al_one, y_al_cons, y_an_one, y_an_cons, y_c_no, y_c_yes, y_i_seq, y_i_rng, y_i_zip, y_i_enum, y_s_never, y_s_pass, y_s_asg, y_s_par, y_s_par3, y_s_setO, y_s_unp, y_s_setB, y_s_exp, y_s_app, y_s_ext, y_s_iff, y_s_whl, y_s_forr, y_s_ret, y_s_retv, y_s_frz, y_ss_nil, y_ss_cons, argsOf, views, caps, Option.map_some, Option.map_none, Option.bind_some, Option.bind_none, List.getElem?_cons_zero, List.getElem?_cons_succ, List.set_cons_zero, List.set_cons_succ, List.length_cons, List.length_nil, z_read_dat, z_read_ref, z_read_scr, z_read_own, z_view_own, z_view_brw, z_view_dat, z_cap_dat, z_cap_own, z_hold_dat, z_hold_ref, z_hold_scr, z_hold_own, z_arg_dat, z_arg_ref, z_arg_scr, z_arg_own, z_look_t, z_look_f, z_len_ref, z_len_scr, z_len_l, z_len_t, z_len_o, z_len_b, z_ix_ref, z_ix_scr, z_ix_l, z_ix_t, z_ix_o, z_ix_b, z_blt_len, z_blt_abs, z_blt_tup, z_blt_lst, z_blt_sum, z_blt_all, z_blt_any, z_blt_min, z_blt_max, z_blt_sorted, z_blt_repr, z_blt_str, z_blt_int, z_blt_divmod, z_d_abs, z_d_tupl, z_d_tupt, z_d_lstl, z_d_lstt, z_d_sum, z_d_all, z_d_any, z_d_minl, z_d_maxl, z_d_min, z_d_max, z_d_sorted, z_d_divmod, z_d_int, z_d_repr, z_d_str, z_bin_i, z_bin_ll, z_bin_tt, z_bin_rep, z_add, z_sub, z_mul, z_fdiv, z_mod, z_eq, z_ne, z_lt, z_le, z_gt, z_ge, z_inl, z_int, z_ninl, z_nint, z_isi_int_none, z_isi_int_bool, z_isi_int_int, z_isi_int_str, z_isi_int_list, z_isi_int_tuple, z_isi_bool_none, z_isi_bool_bool, z_isi_bool_int, z_isi_bool_str, z_isi_bool_list, z_isi_bool_tuple, z_isi_str_none, z_isi_str_bool, z_isi_str_int, z_isi_str_str, z_isi_str_list, z_isi_str_tuple, z_isi_list_none, z_isi_list_bool, z_isi_list_int, z_isi_list_str, z_isi_list_list, z_isi_list_tuple, z_isi_tuple_none, z_isi_tuple_bool, z_isi_tuple_int, z_isi_tuple_str, z_isi_tuple_list, z_isi_tuple_tuple, z_out_rt, z_out_nx, z_eqi, z_eqb, z_rng1, z_rng2, z_si_l, z_si_t, z_bind_nm, z_bind_tt, z_bind_tl, z_binds_n, z_binds_c, z_sl_l, z_sl_t, z_at0, z_at1, z_at2, z_at3, z_ixN0, z_intsn, z_intsc, z_boolsn, z_boolsc, isNn_mv, Option.isNone_none], fun _ => ⟨ms, hu, next_none hp hx, hb, hk.le, hq, by have := hR [] hx; rw [List.append_nil] at this; exact this, rfl, rfl⟩, (fun q => by cases q)⟩
      | some mv =>
        have hk2 := kd_go hk hb hp hx
        have hb2 := bdd_go hb hp hx
        rw [← gos_snoc] at hk2 hb2
        have hu2 : Uni x.a x.b x.c x.d (x.gos (ms ++ [mv])).a (x.gos (ms ++ [mv])).b (x.gos (ms ++ [mv])).c (x.gos (ms ++ [mv])).d := by rw [gos_snoc]; exact hu.trans (uni_go _ mv)
        have hn2 := Qd.uni_det (x := x) (y := x.gos (ms ++ [mv])) hu2 hn
        have hp2 : 0 < (x.gos (ms ++ [mv])).n1 := norm_pos hn2
        obtain ⟨c1, c2, c3, c4⟩ := Qd.bds hb
        have u : ∀ {x : Int}, Bd 300 x → Bd 1000 x := fun h => h.mono (by decide)
        have em := s_moved_by (k + 1) (x.gos ms) mv s (u c1) (u c2) (u c3) (u c4) (next_bd hb hx)
        rw [← gos_snoc] at em
        have ef := s_move_for k (x.gos (ms ++ [mv])) s hb2 hp2
        have hle := hk2.le
        have ls : (ms.map Mv.d).length < sizeLine := Nat.lt_of_le_of_lt (m := 800) (by rw [List.length_map]; omega) (by decide)
        have en : mvD (some mv) = mv.d := rfl
        refine ⟨true, s, by simp only [↓reduceIte, Bool.not_true, Bool.not_false, decide_true, decide_false, wipeE, Bool.false_eq_true, y_e_c, y_e_v, y_e_g, y_e_never, y_e_bin, y_e_neg, y_e_tst, y_e_ite, y_e_tup, y_e_lst, y_e_box, y_e_ix, y_e_sl, y_e_rev, y_e_call, y_e_blt, y_e_isi, y_e_lc, y_es_nil, y_es_cons, y_o_no, y_o_yes, y_t_val, y_t_cmp, y_t_chn, y_t_isnt, y_t_isnf, z_nnr_dat, z_nnr_own, z_nnr_brw, z_nn_none, z_nn_bool, z_nn_int, z_nn_str, z_nn_list, z_nn_tuple, y_t_isb, y_t_and, y_t_or, y_t_not, y_h_last, y_h_link, y_al_one, y_al_cons, y_an_one, y_an_cons, y_c_no, y_c_yes, y_i_seq, y_i_rng, y_i_zip, y_i_enum, y_s_never, y_s_pass, y_s_asg, y_s_par, y_s_par3, y_s_setO, y_s_unp, y_s_setB, y_s_exp, y_s_app, y_s_ext, y_s_iff, y_s_whl, y_s_forr, y_s_ret, y_s_retv, y_s_frz, y_ss_nil, y_ss_cons, argsOf, views, caps, Option.map_some, Option.map_none, Option.bind_some, Option.bind_none, List.getElem?_cons_zero, List.getElem?_cons_succ, List.set_cons_zero, List.set_cons_succ, List.length_cons, List.length_nil, z_read_dat, z_read_ref, z_read_scr, z_read_own, z_view_own, z_view_brw, z_view_dat, z_cap_dat, z_cap_own, z_hold_dat, z_hold_ref, z_hold_scr, z_hold_own, z_arg_dat, z_arg_ref, z_arg_scr, z_arg_own, z_look_t, z_look_f, z_len_ref, z_len_scr, z_len_l, z_len_t, z_len_o, z_len_b, z_ix_ref, z_ix_scr, z_ix_l, z_ix_t, z_ix_o, z_ix_b, z_blt_len, z_blt_abs, z_blt_tup, z_blt_lst, z_blt_sum, z_blt_all, z_blt_any, z_blt_min, z_blt_max, z_blt_sorted, z_blt_repr, z_blt_str, z_blt_int, z_blt_divmod, z_d_abs, z_d_tupl, z_d_tupt, z_d_lstl, z_d_lstt, z_d_sum, z_d_all, z_d_any, z_d_minl, z_d_maxl, z_d_min, z_d_max, z_d_sorted, z_d_divmod, z_d_int, z_d_repr, z_d_str, z_bin_i, z_bin_ll, z_bin_tt, z_bin_rep, z_add, z_sub, z_mul, z_fdiv, z_mod, z_eq, z_ne, z_lt, z_le, z_gt, z_ge, z_inl, z_int, z_ninl, z_nint, z_isi_int_none, z_isi_int_bool, z_isi_int_int, z_isi_int_str, z_isi_int_list, z_isi_int_tuple, z_isi_bool_none, z_isi_bool_bool, z_isi_bool_int, z_isi_bool_str, z_isi_bool_list, z_isi_bool_tuple, z_isi_str_none, z_isi_str_bool, z_isi_str_int, z_isi_str_str, z_isi_str_list, z_isi_str_tuple, z_isi_list_none, z_isi_list_bool, z_isi_list_int, z_isi_list_str, z_isi_list_list, z_isi_list_tuple, z_isi_tuple_none, z_isi_tuple_bool, z_isi_tuple_int, z_isi_tuple_str, z_isi_tuple_list, z_isi_tuple_tuple, z_out_rt, z_out_nx, z_eqi, z_eqb, z_rng1, z_rng2, z_si_l, z_si_t, z_bind_nm, z_bind_tt, z_bind_tl, z_binds_n, z_binds_c, z_sl_l, z_sl_t, z_at0, z_at1, z_at2, z_at3, z_ixN0, z_intsn, z_intsc, z_boolsn, z_boolsc, isNn_mv, Option.isNone_some], (fun q => by cases q), fun _ => ⟨[some (.dat (x.gos (ms ++ [mv])).p), some (.own ((ms ++ [mv]).map Mv.d)), some (.dat (mvD (x.gos (ms ++ [mv])).next))], s, 801 - (ms ++ [mv]).length, by rw [List.length_append, List.length_singleton]; omega, ?_, ms ++ [mv], rfl, hu2, hb2, by rw [List.length_append, List.length_singleton]; exact hk2, ?_, fun r hr => by rw [List.append_assoc]; exact hR (mv :: r) ⟨hx, by rw [gos_snoc] at hr; exact hr⟩, rfl, rfl⟩⟩
        · rw [List.map_append]
          simp (decide := true) only [lb_led_1, ↓reduceIte, Bool.not_true, Bool.not_false, decide_true, decide_false, wipeE, Bool.false_eq_true, y_e_c, y_e_v, y_e_g, y_e_never, y_e_bin, y_e_neg, y_e_tst, y_e_ite, y_e_tup, y_e_lst, y_e_box, y_e_ix, y_e_sl, y_e_rev, y_e_call, y_e_blt, y_e_isi, y_e_lc, y_es_nil, y_es_cons, y_o_no, y_o_yes, y_t_val, y_t_cmp, y_t_chn, y_t_isnt, y_t_isnf, z_nnr_dat, z_nnr_own, z_nnr_brw, z_nn_none, z_nn_bool, z_nn_int, z_nn_str, z_nn_list, z_nn_tuple, y_t_isb, y_t_and, y_t_or, y_t_not, y_h_last, y_h_link, y_al_one, y_al_cons, y_an_one, y_an_cons, y_c_no, y_c_yes, y_i_seq, y_i_rng, y_i_zip, y_i_enum, y_s_never, y_s_pass, y_s_asg, y_s_par, y_s_par3, y_s_setO, y_s_unp, y_s_setB, y_s_exp, y_s_app, y_s_ext, y_s_iff, y_s_whl, y_s_forr, y_s_ret, y_s_retv, y_s_frz, y_ss_nil, y_ss_cons, argsOf, views, caps, Option.map_some, Option.map_none, Option.bind_some, Option.bind_none, List.getElem?_cons_zero, List.getElem?_cons_succ, List.set_cons_zero, List.set_cons_succ, List.length_cons, List.length_nil, z_read_dat, z_read_ref, z_read_scr, z_read_own, z_view_own, z_view_brw, z_view_dat, z_cap_dat, z_cap_own, z_hold_dat, z_hold_ref, z_hold_scr, z_hold_own, z_arg_dat, z_arg_ref, z_arg_scr, z_arg_own, z_look_t, z_look_f, z_len_ref, z_len_scr, z_len_l, z_len_t, z_len_o, z_len_b, z_ix_ref, z_ix_scr, z_ix_l, z_ix_t, z_ix_o, z_ix_b, z_blt_len, z_blt_abs, z_blt_tup, z_blt_lst, z_blt_sum, z_blt_all, z_blt_any, z_blt_min, z_blt_max, z_blt_sorted, z_blt_repr, z_blt_str, z_blt_int, z_blt_divmod, z_d_abs, z_d_tupl, z_d_tupt, z_d_lstl, z_d_lstt, z_d_sum, z_d_all, z_d_any, z_d_minl, z_d_maxl, z_d_min, z_d_max, z_d_sorted, z_d_divmod, z_d_int, z_d_repr, z_d_str, z_bin_i, z_bin_ll, z_bin_tt, z_bin_rep, z_add, z_sub, z_mul, z_fdiv, z_mod, z_eq, z_ne, z_lt, z_le, z_gt, z_ge, z_inl, z_int, z_ninl, z_nint, z_isi_int_none, z_isi_int_bool, z_isi_int_int, z_isi_int_str, z_isi_int_list, z_isi_int_tuple, z_isi_bool_none, z_isi_bool_bool, z_isi_bool_int, z_isi_bool_str, z_isi_bool_list, z_isi_bool_tuple, z_isi_str_none, z_isi_str_bool, z_isi_str_int, z_isi_str_str, z_isi_str_list, z_isi_str_tuple, z_isi_list_none, z_isi_list_bool, z_isi_list_int, z_isi_list_str, z_isi_list_list, z_isi_list_tuple, z_isi_tuple_none, z_isi_tuple_bool, z_isi_tuple_int, z_isi_tuple_str, z_isi_tuple_list, z_isi_tuple_tuple, z_out_rt, z_out_nx, z_eqi, z_eqb, z_rng1, z_rng2, z_si_l, z_si_t, z_bind_nm, z_bind_tt, z_bind_tl, z_binds_n, z_binds_c, z_sl_l, z_sl_t, z_at0, z_at1, z_at2, z_at3, z_ixN0, z_intsn, z_intsc, z_boolsn, z_boolsc, en, ls, em, ef, List.map_cons, List.map_nil]
        · refine ⟨fun q hq2 => ?_, fun i => ?_⟩
          · rcases List.mem_append.mp hq2 with hq2 | hq2
            · exact hq.1 q hq2
            · exact next_bd hb hx q (List.mem_singleton.mp hq2).symm
          · rcases Nat.lt_or_ge ms.length i with hi | hi
            · rw [List.take_of_length_le (by rw [List.length_append, List.length_singleton]; omega)]
              exact hb2
            · rw [List.take_append_of_le_length hi]
              exact hq.2 i
  subst e2 e3
  have e1' : Stm.den (callF tb (k + 3)) l_led_1 [some (.dat x.p), some (.own []), some (.dat (mvD x.next))] st1 = _ := e1
  refine ⟨ms, q1, q2, q3, q4, q5, q6, ?_⟩
  simp (decide := true) only [b_led, ↓reduceIte, Bool.not_true, Bool.not_false, decide_true, decide_false, wipeE, Bool.false_eq_true, y_e_c, y_e_v, y_e_g, y_e_never, y_e_bin, y_e_neg, y_e_tst, y_e_ite, y_e_tup, y_e_lst, y_e_box, y_e_ix, y_e_sl, y_e_rev, y_e_call, y_e_blt, y_e_isi, y_e_lc, y_es_nil, y_es_cons, y_o_no, y_o_yes, y_t_val, y_t_cmp, y_t_chn, y_t_isnt, y_t_isnf, z_nnr_dat, z_nnr_own, z_nnr_brw, z_nn_none, z_nn_bool, z_nn_int, z_nn_str, z_nn_list, z_nn_tuple, y_t_isb, y_t_and, y_t_or, y_t_not, y_h_last, y_h_link, y_al_one, y_al_cons, y_an_one, y_an_cons, y_c_no, y_c_yes, y_i_seq, y_i_rng, y_i_zip, y_i_enum, y_s_never, y_s_pass, y_s_asg, y_s_par, y_s_par3, y_s_setO, y_s_unp, y_s_setB, y_s_exp, y_s_app, y_s_ext, y_s_iff, y_s_whl, y_s_forr, y_s_ret, y_s_retv, y_s_frz, y_ss_nil, y_ss_cons, argsOf, views, caps, Option.map_some, Option.map_none, Option.bind_some, Option.bind_none, List.getElem?_cons_zero, List.getElem?_cons_succ, List.set_cons_zero, List.set_cons_succ, List.length_cons, List.length_nil, z_read_dat, z_read_ref, z_read_scr, z_read_own, z_view_own, z_view_brw, z_view_dat, z_cap_dat, z_cap_own, z_hold_dat, z_hold_ref, z_hold_scr, z_hold_own, z_arg_dat, z_arg_ref, z_arg_scr, z_arg_own, z_look_t, z_look_f, z_len_ref, z_len_scr, z_len_l, z_len_t, z_len_o, z_len_b, z_ix_ref, z_ix_scr, z_ix_l, z_ix_t, z_ix_o, z_ix_b, z_blt_len, z_blt_abs, z_blt_tup, z_blt_lst, z_blt_sum, z_blt_all, z_blt_any, z_blt_min, z_blt_max, z_blt_sorted, z_blt_repr, z_blt_str, z_blt_int, z_blt_divmod, z_d_abs, z_d_tupl, z_d_tupt, z_d_lstl, z_d_lstt, z_d_sum, z_d_all, z_d_any, z_d_minl, z_d_maxl, z_d_min, z_d_max, z_d_sorted, z_d_divmod, z_d_int, z_d_repr, z_d_str, z_bin_i, z_bin_ll, z_bin_tt, z_bin_rep, z_add, z_sub, z_mul, z_fdiv, z_mod, z_eq, z_ne, z_lt, z_le, z_gt, z_ge, z_inl, z_int, z_ninl, z_nint, z_isi_int_none, z_isi_int_bool, z_isi_int_int, z_isi_int_str, z_isi_int_list, z_isi_int_tuple, z_isi_bool_none, z_isi_bool_bool, z_isi_bool_int, z_isi_bool_str, z_isi_bool_list, z_isi_bool_tuple, z_isi_str_none, z_isi_str_bool, z_isi_str_int, z_isi_str_str, z_isi_str_list, z_isi_str_tuple, z_isi_list_none, z_isi_list_bool, z_isi_list_int, z_isi_list_str, z_isi_list_list, z_isi_list_tuple, z_isi_tuple_none, z_isi_tuple_bool, z_isi_tuple_int, z_isi_tuple_str, z_isi_tuple_list, z_isi_tuple_tuple, z_out_rt, z_out_nx, z_eqi, z_eqb, z_rng1, z_rng2, z_si_l, z_si_t, z_bind_nm, z_bind_tt, z_bind_tl, z_binds_n, z_binds_c, z_sl_l, z_sl_t, z_at0, z_at1, z_at2, z_at3, z_ixN0, z_intsn, z_intsc, z_boolsn, z_boolsc, f0, f2, e0, e1']
theorem s_led (k : Nat) (x : Qd) (st : Bx) (h : x.Bdd) (hn : x.det ≠ 0) :
    ∃ ms : List Mv, Uni x.a x.b x.c x.d (x.gos ms).a (x.gos ms).b (x.gos ms).c (x.gos ms).d ∧ Short (x.gos ms).a (x.gos ms).b (x.gos ms).c (x.gos ms).d ∧ (x.gos ms).Bdd ∧ ms.length ≤ 800 ∧ MvOk x ms ∧
      callF tb (k + 4) "led" [.dat x.p] st = some (.dat (.tuple [.list (ms.map Mv.d), (x.gos ms).p]), st) := by
  obtain ⟨ms, h1, h2, h3, h4, h5, -, h7⟩ := s_ledR k x st h hn
  exact ⟨ms, h1, h2, h3, h4, h5, h7⟩

/-! points made of a pair -/
def nr (p : Pt2) : Int := p.1 * p.1 + p.2 * p.2
def Qd.at (x : Qd) (p : Pt2) : Pt2 := (p.1 * x.a + p.2 * x.c, p.1 * x.b + p.2 * x.d)
theorem nr_at (x : Qd) (p : Pt2) : nr (x.at p) = Wf x.n1 x.m x.n2 p.1 p.2 := nr_form _ _ _ _ _ _

/-! roots -/
theorem s_root (k n : Nat) (st : Bx) (hn : n < 2 ^ 50) : ∃ r : Nat, r * r ≤ n ∧ n < (r + 1) * (r + 1) ∧ r ≤ n ∧ callF tb (k + 1) "root_of" [.dat (.int n)] st = some (.dat (.int r), st) := by
  obtain ⟨env1, st1, e1, r, h1, h2, h3, e2, e3⟩ := den_whl (cf := callF tb k) (t := .cmp .le (.bin .mul (.bin .add (.v 1) (.c (.int 1))) (.bin .add (.v 1) (.c (.int 1)))) (.v 0)) (b := lb_root_of_1) (env := [some (.dat (.int n)), some (.dat (.int 0))]) (st := st) (m := n)
    (fun m env s => ∃ r : Nat, m = n - r ∧ r ≤ n ∧ r * r ≤ n ∧ env = [some (.dat (.int n)), some (.dat (.int r))] ∧ s = st)
    (fun env s => ∃ r : Nat, r * r ≤ n ∧ n < (r + 1) * (r + 1) ∧ r ≤ n ∧ env = [some (.dat (.int n)), some (.dat (.int r))] ∧ s = st) ⟨0, rfl, Nat.zero_le _, Nat.zero_le _, rfl, rfl⟩ fun m env s ⟨r, hm, hr, hs, e, es⟩ => by
      subst e es
      have m1 : mulOk ((r : Int) + 1) ((r : Int) + 1) = true := mulOk_s (by omega) (by omega) (by omega) (by omega)
      by_cases hc : (r + 1) * (r + 1) ≤ n
      · have hc' : ((r : Int) + 1) * ((r : Int) + 1) ≤ (n : Int) := by exact_mod_cast hc
        have hl : r + 1 ≤ (r + 1) * (r + 1) := Nat.le_mul_of_pos_left _ (by omega)
        exact ⟨true, s, by simp only [↓reduceIte, Bool.not_true, Bool.not_false, decide_true, decide_false, wipeE, Bool.false_eq_true, y_e_c, y_e_v, y_e_g, y_e_never, y_e_bin, y_e_neg, y_e_tst, y_e_ite, y_e_tup, y_e_lst, y_e_box, y_e_ix, y_e_sl, y_e_rev, y_e_call, y_e_blt, y_e_isi, y_e_lc, y_es_nil, y_es_cons, y_o_no, y_o_yes, y_t_val, y_t_cmp, y_t_chn, y_t_isnt, y_t_isnf, z_nnr_dat, z_nnr_own, z_nnr_brw, z_nn_none, z_nn_bool, z_nn_int, z_nn_str, z_nn_list, z_nn_tuple, y_t_isb, y_t_and, y_t_or, y_t_not, y_h_last, y_h_link, y_al_one, y_al_cons, y_an_one, y_an_cons, y_c_no, y_c_yes, y_i_seq, y_i_rng, y_i_zip, y_i_enum, y_s_never, y_s_pass, y_s_asg, y_s_par, y_s_par3, y_s_setO, y_s_unp, y_s_setB, y_s_exp, y_s_app, y_s_ext, y_s_iff, y_s_whl, y_s_forr, y_s_ret, y_s_retv, y_s_frz, y_ss_nil, y_ss_cons, argsOf, views, caps, Option.map_some, Option.map_none, Option.bind_some, Option.bind_none, List.getElem?_cons_zero, List.getElem?_cons_succ, List.set_cons_zero, List.set_cons_succ, List.length_cons, List.length_nil, z_read_dat, z_read_ref, z_read_scr, z_read_own, z_view_own, z_view_brw, z_view_dat, z_cap_dat, z_cap_own, z_hold_dat, z_hold_ref, z_hold_scr, z_hold_own, z_arg_dat, z_arg_ref, z_arg_scr, z_arg_own, z_look_t, z_look_f, z_len_ref, z_len_scr, z_len_l, z_len_t, z_len_o, z_len_b, z_ix_ref, z_ix_scr, z_ix_l, z_ix_t, z_ix_o, z_ix_b, z_blt_len, z_blt_abs, z_blt_tup, z_blt_lst, z_blt_sum, z_blt_all, z_blt_any, z_blt_min, z_blt_max, z_blt_sorted, z_blt_repr, z_blt_str, z_blt_int, z_blt_divmod, z_d_abs, z_d_tupl, z_d_tupt, z_d_lstl, z_d_lstt, z_d_sum, z_d_all, z_d_any, z_d_minl, z_d_maxl, z_d_min, z_d_max, z_d_sorted, z_d_divmod, z_d_int, z_d_repr, z_d_str, z_bin_i, z_bin_ll, z_bin_tt, z_bin_rep, z_add, z_sub, z_mul, z_fdiv, z_mod, z_eq, z_ne, z_lt, z_le, z_gt, z_ge, z_inl, z_int, z_ninl, z_nint, z_isi_int_none, z_isi_int_bool, z_isi_int_int, z_isi_int_str, z_isi_int_list, z_isi_int_tuple, z_isi_bool_none, z_isi_bool_bool, z_isi_bool_int, z_isi_bool_str, z_isi_bool_list, z_isi_bool_tuple, z_isi_str_none, z_isi_str_bool, z_isi_str_int, z_isi_str_str, z_isi_str_list, z_isi_str_tuple, z_isi_list_none, z_isi_list_bool, z_isi_list_int, z_isi_list_str, z_isi_list_list, z_isi_list_tuple, z_isi_tuple_none, z_isi_tuple_bool, z_isi_tuple_int, z_isi_tuple_str, z_isi_tuple_list, z_isi_tuple_tuple, z_out_rt, z_out_nx, z_eqi, z_eqb, z_rng1, z_rng2, z_si_l, z_si_t, z_bind_nm, z_bind_tt, z_bind_tl, z_binds_n, z_binds_c, z_sl_l, z_sl_t, z_at0, z_at1, z_at2, z_at3, z_ixN0, z_intsn, z_intsc, z_boolsn, z_boolsc, m1, hc'], (fun h => by cases h), fun _ => ⟨[some (.dat (.int n)), some (.dat (.int ((r + 1 : Nat) : Int)))], s, n - (r + 1), by omega, by simp only [lb_root_of_1, ↓reduceIte, Bool.not_true, Bool.not_false, decide_true, decide_false, wipeE, Bool.false_eq_true, y_e_c, y_e_v, y_e_g, y_e_never, y_e_bin, y_e_neg, y_e_tst, y_e_ite, y_e_tup, y_e_lst, y_e_box, y_e_ix, y_e_sl, y_e_rev, y_e_call, y_e_blt, y_e_isi, y_e_lc, y_es_nil, y_es_cons, y_o_no, y_o_yes, y_t_val, y_t_cmp, y_t_chn, y_t_isnt, y_t_isnf, z_nnr_dat, z_nnr_own, z_nnr_brw, z_nn_none, z_nn_bool, z_nn_int, z_nn_str, z_nn_list, z_nn_tuple, y_t_isb, y_t_and, y_t_or, y_t_not, y_h_last, y_h_link, y_al_one, y_al_cons, y_an_one, y_an_cons, y_c_no, y_c_yes, y_i_seq, y_i_rng, y_i_zip, y_i_enum, y_s_never, y_s_pass, y_s_asg, y_s_par, y_s_par3, y_s_setO, y_s_unp, y_s_setB, y_s_exp, y_s_app, y_s_ext, y_s_iff, y_s_whl, y_s_forr, y_s_ret, y_s_retv, y_s_frz, y_ss_nil, y_ss_cons, argsOf, views, caps, Option.map_some, Option.map_none, Option.bind_some, Option.bind_none, List.getElem?_cons_zero, List.getElem?_cons_succ, List.set_cons_zero, List.set_cons_succ, List.length_cons, List.length_nil, z_read_dat, z_read_ref, z_read_scr, z_read_own, z_view_own, z_view_brw, z_view_dat, z_cap_dat, z_cap_own, z_hold_dat, z_hold_ref, z_hold_scr, z_hold_own, z_arg_dat, z_arg_ref, z_arg_scr, z_arg_own, z_look_t, z_look_f, z_len_ref, z_len_scr, z_len_l, z_len_t, z_len_o, z_len_b, z_ix_ref, z_ix_scr, z_ix_l, z_ix_t, z_ix_o, z_ix_b, z_blt_len, z_blt_abs, z_blt_tup, z_blt_lst, z_blt_sum, z_blt_all, z_blt_any, z_blt_min, z_blt_max, z_blt_sorted, z_blt_repr, z_blt_str, z_blt_int, z_blt_divmod, z_d_abs, z_d_tupl, z_d_tupt, z_d_lstl, z_d_lstt, z_d_sum, z_d_all, z_d_any, z_d_minl, z_d_maxl, z_d_min, z_d_max, z_d_sorted, z_d_divmod, z_d_int, z_d_repr, z_d_str, z_bin_i, z_bin_ll, z_bin_tt, z_bin_rep, z_add, z_sub, z_mul, z_fdiv, z_mod, z_eq, z_ne, z_lt, z_le, z_gt, z_ge, z_inl, z_int, z_ninl, z_nint, z_isi_int_none, z_isi_int_bool, z_isi_int_int, z_isi_int_str, z_isi_int_list, z_isi_int_tuple, z_isi_bool_none, z_isi_bool_bool, z_isi_bool_int, z_isi_bool_str, z_isi_bool_list, z_isi_bool_tuple, z_isi_str_none, z_isi_str_bool, z_isi_str_int, z_isi_str_str, z_isi_str_list, z_isi_str_tuple, z_isi_list_none, z_isi_list_bool, z_isi_list_int, z_isi_list_str, z_isi_list_list, z_isi_list_tuple, z_isi_tuple_none, z_isi_tuple_bool, z_isi_tuple_int, z_isi_tuple_str, z_isi_tuple_list, z_isi_tuple_tuple, z_out_rt, z_out_nx, z_eqi, z_eqb, z_rng1, z_rng2, z_si_l, z_si_t, z_bind_nm, z_bind_tt, z_bind_tl, z_binds_n, z_binds_c, z_sl_l, z_sl_t, z_at0, z_at1, z_at2, z_at3, z_ixN0, z_intsn, z_intsc, z_boolsn, z_boolsc, Int.natCast_add, Int.cast_ofNat_Int], r + 1, rfl, by omega, hc, rfl, rfl⟩⟩
      · have hc' : ¬ ((r : Int) + 1) * ((r : Int) + 1) ≤ (n : Int) := by exact_mod_cast hc
        exact ⟨false, s, by simp only [↓reduceIte, Bool.not_true, Bool.not_false, decide_true, decide_false, wipeE, Bool.false_eq_true, y_e_c, y_e_v, y_e_g, y_e_never, y_e_bin, y_e_neg, y_e_tst, y_e_ite, y_e_tup, y_e_lst, y_e_box, y_e_ix, y_e_sl, y_e_rev, y_e_call, y_e_blt, y_e_isi, y_e_lc, y_es_nil, y_es_cons, y_o_no, y_o_yes, y_t_val, y_t_cmp, y_t_chn, y_t_isnt, y_t_isnf, z_nnr_dat, z_nnr_own, z_nnr_brw, z_nn_none, z_nn_bool, z_nn_int, z_nn_str, z_nn_list, z_nn_tuple, y_t_isb, y_t_and, y_t_or, y_t_not, y_h_last, y_h_link, y_al_one, y_al_cons, y_an_one, y_an_cons, y_c_no, y_c_yes, y_i_seq, y_i_rng, y_i_zip, y_i_enum, y_s_never, y_s_pass, y_s_asg, y_s_par, y_s_par3, y_s_setO, y_s_unp, y_s_setB, y_s_exp, y_s_app, y_s_ext, y_s_iff, y_s_whl, y_s_forr, y_s_ret, y_s_retv, y_s_frz, y_ss_nil, y_ss_cons, argsOf, views, caps, Option.map_some, Option.map_none, Option.bind_some, Option.bind_none, List.getElem?_cons_zero, List.getElem?_cons_succ, List.set_cons_zero, List.set_cons_succ, List.length_cons, List.length_nil, z_read_dat, z_read_ref, z_read_scr, z_read_own, z_view_own, z_view_brw, z_view_dat, z_cap_dat, z_cap_own, z_hold_dat, z_hold_ref, z_hold_scr, z_hold_own, z_arg_dat, z_arg_ref, z_arg_scr, z_arg_own, z_look_t, z_look_f, z_len_ref, z_len_scr, z_len_l, z_len_t, z_len_o, z_len_b, z_ix_ref, z_ix_scr, z_ix_l, z_ix_t, z_ix_o, z_ix_b, z_blt_len, z_blt_abs, z_blt_tup, z_blt_lst, z_blt_sum, z_blt_all, z_blt_any, z_blt_min, z_blt_max, z_blt_sorted, z_blt_repr, z_blt_str, z_blt_int, z_blt_divmod, z_d_abs, z_d_tupl, z_d_tupt, z_d_lstl, z_d_lstt, z_d_sum, z_d_all, z_d_any, z_d_minl, z_d_maxl, z_d_min, z_d_max, z_d_sorted, z_d_divmod, z_d_int, z_d_repr, z_d_str, z_bin_i, z_bin_ll, z_bin_tt, z_bin_rep, z_add, z_sub, z_mul, z_fdiv, z_mod, z_eq, z_ne, z_lt, z_le, z_gt, z_ge, z_inl, z_int, z_ninl, z_nint, z_isi_int_none, z_isi_int_bool, z_isi_int_int, z_isi_int_str, z_isi_int_list, z_isi_int_tuple, z_isi_bool_none, z_isi_bool_bool, z_isi_bool_int, z_isi_bool_str, z_isi_bool_list, z_isi_bool_tuple, z_isi_str_none, z_isi_str_bool, z_isi_str_int, z_isi_str_str, z_isi_str_list, z_isi_str_tuple, z_isi_list_none, z_isi_list_bool, z_isi_list_int, z_isi_list_str, z_isi_list_list, z_isi_list_tuple, z_isi_tuple_none, z_isi_tuple_bool, z_isi_tuple_int, z_isi_tuple_str, z_isi_tuple_list, z_isi_tuple_tuple, z_out_rt, z_out_nx, z_eqi, z_eqb, z_rng1, z_rng2, z_si_l, z_si_t, z_bind_nm, z_bind_tt, z_bind_tl, z_binds_n, z_binds_c, z_sl_l, z_sl_t, z_at0, z_at1, z_at2, z_at3, z_ixN0, z_intsn, z_intsc, z_boolsn, z_boolsc, m1, hc'], fun _ => ⟨r, hs, by omega, hr, rfl, rfl⟩, (fun h => by cases h)⟩
  subst e2 e3
  have e1' : Stm.den (callF tb k) l_root_of_1 [some (.dat (.int n)), some (.dat (.int 0))] st1 = _ := e1
  refine ⟨r, h1, h2, h3, ?_⟩
  rw [c_root_of]
  simp only [b_root_of, ↓reduceIte, Bool.not_true, Bool.not_false, decide_true, decide_false, wipeE, Bool.false_eq_true, y_e_c, y_e_v, y_e_g, y_e_never, y_e_bin, y_e_neg, y_e_tst, y_e_ite, y_e_tup, y_e_lst, y_e_box, y_e_ix, y_e_sl, y_e_rev, y_e_call, y_e_blt, y_e_isi, y_e_lc, y_es_nil, y_es_cons, y_o_no, y_o_yes, y_t_val, y_t_cmp, y_t_chn, y_t_isnt, y_t_isnf, z_nnr_dat, z_nnr_own, z_nnr_brw, z_nn_none, z_nn_bool, z_nn_int, z_nn_str, z_nn_list, z_nn_tuple, y_t_isb, y_t_and, y_t_or, y_t_not, y_h_last, y_h_link, y_al_one, y_al_cons, y_an_one, y_an_cons, y_c_no, y_c_yes, y_i_seq, y_i_rng, y_i_zip, y_i_enum, y_s_never, y_s_pass, y_s_asg, y_s_par, y_s_par3, y_s_setO, y_s_unp, y_s_setB, y_s_exp, y_s_app, y_s_ext, y_s_iff, y_s_whl, y_s_forr, y_s_ret, y_s_retv, y_s_frz, y_ss_nil, y_ss_cons, argsOf, views, caps, Option.map_some, Option.map_none, Option.bind_some, Option.bind_none, List.getElem?_cons_zero, List.getElem?_cons_succ, List.set_cons_zero, List.set_cons_succ, List.length_cons, List.length_nil, z_read_dat, z_read_ref, z_read_scr, z_read_own, z_view_own, z_view_brw, z_view_dat, z_cap_dat, z_cap_own, z_hold_dat, z_hold_ref, z_hold_scr, z_hold_own, z_arg_dat, z_arg_ref, z_arg_scr, z_arg_own, z_look_t, z_look_f, z_len_ref, z_len_scr, z_len_l, z_len_t, z_len_o, z_len_b, z_ix_ref, z_ix_scr, z_ix_l, z_ix_t, z_ix_o, z_ix_b, z_blt_len, z_blt_abs, z_blt_tup, z_blt_lst, z_blt_sum, z_blt_all, z_blt_any, z_blt_min, z_blt_max, z_blt_sorted, z_blt_repr, z_blt_str, z_blt_int, z_blt_divmod, z_d_abs, z_d_tupl, z_d_tupt, z_d_lstl, z_d_lstt, z_d_sum, z_d_all, z_d_any, z_d_minl, z_d_maxl, z_d_min, z_d_max, z_d_sorted, z_d_divmod, z_d_int, z_d_repr, z_d_str, z_bin_i, z_bin_ll, z_bin_tt, z_bin_rep, z_add, z_sub, z_mul, z_fdiv, z_mod, z_eq, z_ne, z_lt, z_le, z_gt, z_ge, z_inl, z_int, z_ninl, z_nint, z_isi_int_none, z_isi_int_bool, z_isi_int_int, z_isi_int_str, z_isi_int_list, z_isi_int_tuple, z_isi_bool_none, z_isi_bool_bool, z_isi_bool_int, z_isi_bool_str, z_isi_bool_list, z_isi_bool_tuple, z_isi_str_none, z_isi_str_bool, z_isi_str_int, z_isi_str_str, z_isi_str_list, z_isi_str_tuple, z_isi_list_none, z_isi_list_bool, z_isi_list_int, z_isi_list_str, z_isi_list_list, z_isi_list_tuple, z_isi_tuple_none, z_isi_tuple_bool, z_isi_tuple_int, z_isi_tuple_str, z_isi_tuple_list, z_isi_tuple_tuple, z_out_rt, z_out_nx, z_eqi, z_eqb, z_rng1, z_rng2, z_si_l, z_si_t, z_bind_nm, z_bind_tt, z_bind_tl, z_binds_n, z_binds_c, z_sl_l, z_sl_t, z_at0, z_at1, z_at2, z_at3, z_ixN0, z_intsn, z_intsc, z_boolsn, z_boolsc, e1']

/-! all points up to a length -/
theorem fm_nodup {α : Type} {f : Int → List α} {lo : Int} (h1 : ∀ z, (f z).Nodup) (h2 : ∀ z w d, d ∈ f z → d ∈ f w → z = w) : ∀ n : Nat, (fm f lo n).Nodup
  | 0 => List.nodup_nil
  | n + 1 => by
    rw [fm_succ, List.nodup_append]
    refine ⟨fm_nodup h1 h2 n, h1 _, fun a ha b hb e => ?_⟩
    subst e
    obtain ⟨k, hk, ha⟩ := fm_mem.mp ha
    have := h2 _ _ _ ha hb
    omega

/-! is a point in the grid? -/
def Gq (x : Qd) (p : Pt2) : Bool := inG x.a x.b x.c x.d p.1 p.2
theorem Gq_iff {x y : Qd} (hn : x.det ≠ 0) (hu : Uni x.a x.b x.c x.d y.a y.b y.c y.d) (p : Pt2) : Gq x p = true ↔ ∃ m n : Int, p = y.at (m, n) := by
  unfold Gq
  rw [inG_iff hn, uni_pts hu]
  constructor
  · rintro ⟨m, n, e1, e2⟩; exact ⟨m, n, Prod.ext e1 e2⟩
  · rintro ⟨m, n, e⟩; exact ⟨m, n, congrArg Prod.fst e, congrArg Prod.snd e⟩

def nf (y : Qd) (N t o : Int) : List Pt2 := if nr (y.at (o, t)) ≤ N then [y.at (o, t)] else []
theorem nf_mem {y : Qd} {N t o : Int} {p : Pt2} : p ∈ nf y N t o ↔ nr (y.at (o, t)) ≤ N ∧ p = y.at (o, t) := by
  unfold nf
  split
  · rename_i h; rw [List.mem_singleton]; exact ⟨fun e => ⟨h, e⟩, fun e => e.2⟩
  · rename_i h; exact ⟨(fun e => by cases e), fun e => absurd e.1 h⟩
theorem nf_len (y : Qd) (N t o : Int) : (nf y N t o).length ≤ 1 := by unfold nf; split <;> simp
def Nr (y : Qd) (N : Int) (f w : Nat) : List Pt2 := fm (fun t => fm (nf y N t) (-(w : Int)) (2 * w + 1)) (-(f : Int)) (2 * f + 1)
theorem Nr_nodup {y : Qd} (hn : y.det ≠ 0) (N : Int) (f w : Nat) : (Nr y N f w).Nodup := by
  refine fm_nodup (fun t => fm_nodup (fun o => ?_) (fun z w d h1 h2 => ?_) _) (fun z w d h1 h2 => ?_) _
  · unfold nf; split <;> simp
  · have e := (nf_mem.mp h1).2.symm.trans (nf_mem.mp h2).2
    exact (pts_inj hn (congrArg Prod.fst e) (congrArg Prod.snd e)).1
  · obtain ⟨i, _, h1⟩ := fm_mem.mp h1
    obtain ⟨j, _, h2⟩ := fm_mem.mp h2
    have e := (nf_mem.mp h1).2.symm.trans (nf_mem.mp h2).2
    exact (pts_inj hn (congrArg Prod.fst e) (congrArg Prod.snd e)).2
theorem Nr_mem {x y : Qd} (hn : x.det ≠ 0) (hu : Uni x.a x.b x.c x.d y.a y.b y.c y.d) (hs : Short y.a y.b y.c y.d) {N : Int} {f r : Nat} (hf : 4 * N / (3 * y.n2) < ((f : Int) + 1) * ((f : Int) + 1)) (hr : N / y.n1 < ((r : Int) + 1) * ((r : Int) + 1)) (p : Pt2) :
    p ∈ Nr y N f (r + f + 1) ↔ Gq x p = true ∧ nr p ≤ N := by
  obtain ⟨s1, s2, s3, s4⟩ := hs
  have h0 : 0 ≤ 2 * y.m := by unfold Qd.m; omega
  have h1 : 2 * y.m ≤ y.n1 := by unfold Qd.m Qd.n1; omega
  have h2 : y.n1 ≤ y.n2 := by unfold Qd.n1 Qd.n2; omega
  have h3 : 1 ≤ y.n1 := by unfold Qd.n1; omega
  rw [Gq_iff hn hu]
  unfold Nr
  rw [fm_mem]
  constructor
  · rintro ⟨i, hi, h⟩
    obtain ⟨j, hj, h⟩ := fm_mem.mp h
    obtain ⟨h4, rfl⟩ := nf_mem.mp h
    exact ⟨⟨_, _, rfl⟩, h4⟩
  · rintro ⟨⟨m, n, rfl⟩, h4⟩
    have hw : Wf y.n1 y.m y.n2 m n = nr (y.at (m, n)) := (nr_at y (m, n)).symm
    have hy := wf_y h0 h1 h2 h3 hw
    have hy' : 3 * y.n2 * (n * n) ≤ 4 * N := by omega
    have ey := le_root (m := 3 * y.n2) (q := 4 * N) (y := n) (r := f) (by omega) hy' hf
    have hr' : nr (y.at (m, n)) / y.n1 < ((r : Int) + 1) * ((r : Int) + 1) := Int.lt_of_le_of_lt (Int.ediv_le_ediv (by omega) h4) hr
    have ex := wf_wide (r := r) (f := f) h0 h1 h2 h3 hw hr' ey
    obtain ⟨i, hi⟩ := Int.eq_ofNat_of_zero_le (show 0 ≤ n + f by omega)
    obtain ⟨j, hj⟩ := Int.eq_ofNat_of_zero_le (show 0 ≤ m + ((r + f + 1 : Nat) : Int) by omega)
    have e1 : -(f : Int) + i = n := by omega
    have e2 : -((r + f + 1 : Nat) : Int) + j = m := by omega
    exact ⟨i, by omega, fm_mem.mpr ⟨j, by omega, nf_mem.mpr ⟨by rw [e1, e2]; exact h4, by rw [e1, e2]⟩⟩⟩
theorem s_near (k : Nat) (x : Qd) (N : Int) (st : Bx) (h : x.Bdd) (hn : x.det ≠ 0) (h0 : 0 ≤ N) (h60 : N ≤ 60) :
    ∃ l : List Pt2, l.Nodup ∧ l.length ≤ 1000 ∧ (∀ p, p ∈ l ↔ Gq x p = true ∧ nr p ≤ N) ∧ callF tb (k + 5) "near_points" [.dat x.p, .dat (.int N)] st = some (.own (sortD (pv l)), st) := by
  rw [c_near_points]
  obtain ⟨ms, hu, hs, hb2, -, -, el⟩ := s_led k x st h hn
  generalize x.gos ms = y at *
  obtain ⟨ya, yb, yc, yd⟩ := y.bds hb2
  have hdy : y.det ≠ 0 := Qd.uni_det (x := x) (y := y) hu hn
  have u : ∀ {x : Int}, Bd 300 x → Bd 1000 x := fun h => h.mono (by decide)
  have ep := s_products_of (k + 2) y st hb2
  have s4 := hs.2.2.2
  have s3 := hs.2.2.1
  have p1 : 0 < y.n1 := s4
  have p12 : y.n1 ≤ y.n2 := s3
  have p2 : 0 < 3 * y.n2 := by omega
  have bN : Bd 60 N := bd_s (by omega) (by omega)
  have m1 : mulOk 4 N = true := by exact Sy.mulOk_bd (by repeat' (first | assumption | apply Sy.bd_mul | apply Sy.bd_add | apply Sy.bd_sub | apply Sy.bd_neg | apply Sy.bd_abs | (exact Sy.bd_s (by decide) (by decide)) | (exact Sy.bd_s (by omega) (by omega)))) (by repeat' (first | assumption | apply Sy.bd_mul | apply Sy.bd_add | apply Sy.bd_sub | apply Sy.bd_neg | apply Sy.bd_abs | (exact Sy.bd_s (by decide) (by decide)) | (exact Sy.bd_s (by omega) (by omega)))) (by decide)
  have m2 : mulOk 3 y.n2 = true := mulOk_bd (bd_s (by decide) (by decide) : Bd 60 3) hb2.2 (by decide)
  have d1 : divOk (3 * y.n2) = true := divOk_bd (bd_mul (bd_s (by decide) (by decide) : Bd 60 3) hb2.2) (by omega) (by decide)
  have d2 : divOk y.n1 = true := divOk_bd hb2.1 (by omega) (by decide)
  have u1 : 0 ≤ 4 * N / (3 * y.n2) := Int.ediv_nonneg (by omega) (by omega)
  have u2 : 0 ≤ N / y.n1 := Int.ediv_nonneg (by omega) (by omega)
  have u3 : 4 * N / (3 * y.n2) ≤ 240 := Int.le_trans (Int.ediv_le_self _ (by omega)) (by omega)
  have u4 : N / y.n1 ≤ 60 := Int.le_trans (Int.ediv_le_self _ (by omega)) (by omega)
  have u5 : 4 * N / (3 * y.n2) ≤ 80 := by
    have := Int.ediv_lt_of_lt_mul p2 (show 4 * N < 81 * (3 * y.n2) by omega)
    omega
  obtain ⟨n1, e1⟩ := Int.eq_ofNat_of_zero_le u1
  obtain ⟨n2, e2⟩ := Int.eq_ofNat_of_zero_le u2
  obtain ⟨f, f1, f2, f3, ef⟩ := s_root (k + 3) n1 st (by omega)
  obtain ⟨r, r1, r2, r3, er⟩ := s_root (k + 3) n2 st (by omega)
  have lf : f ≤ 8 := by
    rcases Nat.lt_or_ge 8 f with q | q
    · have := Nat.mul_le_mul q q; omega
    · exact q
  have lr : r ≤ 7 := by
    rcases Nat.lt_or_ge 7 r with q | q
    · have := Nat.mul_le_mul q q; omega
    · exact q
  obtain ⟨w, ew⟩ : ∃ w : Nat, r + f + 1 = w := ⟨_, rfl⟩
  have ew' : (r : Int) + f + 1 = w := by omega
  have g1 : rngOk (-(f : Int)) = true := rngOk_s (by omega) (by omega)
  have g2 : rngOk ((f : Int) + 1) = true := rngOk_s (by omega) (by omega)
  have g3 : rngOk (-(w : Int)) = true := rngOk_s (by omega) (by omega)
  have g4 : rngOk ((w : Int) + 1) = true := rngOk_s (by omega) (by omega)
  have z1 : ((f : Int) + 1 - -(f : Int)).toNat = 2 * f + 1 := by omega
  have z2 : ((w : Int) + 1 - -(w : Int)).toNat = 2 * w + 1 := by omega
  have f0 : fitsL 0 = true := by decide
  have ft : fitsL 2 = true := by decide
  have hmem := Nr_mem (N := N) hn hu hs (f := f) (r := r) (by rw [e1]; exact_mod_cast f2) (by rw [e2]; exact_mod_cast r2)
  rw [ew] at hmem
  have hlen : ∀ j : Nat, j ≤ 2 * f + 1 → (fm (fun t => fm (nf y N t) (-(w : Int)) (2 * w + 1)) (-(f : Int)) j).length ≤ 561 := fun j hj => by
    have q : (fm (fun t => fm (nf y N t) (-(w : Int)) (2 * w + 1)) (-(f : Int)) j).length ≤ j * ((2 * w + 1) * 1) := fm_len (fun t => fm_len (nf_len y N t) _) _
    rw [Nat.mul_one] at q
    have q2 : j * (2 * w + 1) ≤ 17 * 33 := Nat.mul_le_mul (by omega) (by omega)
    omega
  have env : ∀ (a5 x6 x10 x11 : Option R), [some (.dat x.p), some (.dat (.int N)), some (.dat y.p), some (.dat (.int (f : Int))), some (.dat (.int (w : Int))), a5, x6, some (.dat (.int y.n1)), some (.dat (.int y.m)), some (.dat (.int y.n2)), x10, x11] = [some (.dat x.p), some (.dat (.int N)), some (.dat y.p), some (.dat (.int (f : Int))), some (.dat (.int (w : Int))), a5, x6, some (.dat (.int y.n1)), some (.dat (.int y.m)), some (.dat (.int y.n2)), x10, x11] := fun _ _ _ _ => rfl
  -- the inner loop
  have inner : ∀ (t : Int) (acc : List Pt2) (x10 x11 : Option R), -8 ≤ t → t ≤ 8 → acc.length ≤ 561 → ∃ y10 y11, Stm.den (callF tb (k + 4)) l_near_points_1 [some (.dat x.p), some (.dat (.int N)), some (.dat y.p), some (.dat (.int (f : Int))), some (.dat (.int (w : Int))), some (.own (pv acc)), some (.dat (.int t)), some (.dat (.int y.n1)), some (.dat (.int y.m)), some (.dat (.int y.n2)), x10, x11] st =
      some (.nx [some (.dat x.p), some (.dat (.int N)), some (.dat y.p), some (.dat (.int (f : Int))), some (.dat (.int (w : Int))), some (.own (pv (acc ++ fm (nf y N t) (-(w : Int)) (2 * w + 1)))), some (.dat (.int t)), some (.dat (.int y.n1)), some (.dat (.int y.m)), some (.dat (.int y.n2)), y10, y11] st) := fun t acc x10 x11 ht1 ht2 hacc => by
    obtain ⟨env1, st2, q1, y10, y11, q2, q3⟩ := den_for (cf := callF tb (k + 4)) (tg := .nm 10) (it := .rng (.cons (.bin .sub (.c (.int 0)) (.v 4)) (.cons (.bin .add (.v 4) (.c (.int 1))) .nil))) (b := lb_near_points_1)
      (env := [some (.dat x.p), some (.dat (.int N)), some (.dat y.p), some (.dat (.int (f : Int))), some (.dat (.int (w : Int))), some (.own (pv acc)), some (.dat (.int t)), some (.dat (.int y.n1)), some (.dat (.int y.m)), some (.dat (.int y.n2)), x10, x11]) (st := st) (st1 := st) (items := rngItems (-(w : Int)) (2 * w + 1)) (by simp (decide := true) only [↓reduceIte, Bool.not_true, Bool.not_false, decide_true, decide_false, wipeE, Bool.false_eq_true, y_e_c, y_e_v, y_e_g, y_e_never, y_e_bin, y_e_neg, y_e_tst, y_e_ite, y_e_tup, y_e_lst, y_e_box, y_e_ix, y_e_sl, y_e_rev, y_e_call, y_e_blt, y_e_isi, y_e_lc, y_es_nil, y_es_cons, y_o_no, y_o_yes, y_t_val, y_t_cmp, y_t_chn, y_t_isnt, y_t_isnf, z_nnr_dat, z_nnr_own, z_nnr_brw, z_nn_none, z_nn_bool, z_nn_int, z_nn_str, z_nn_list, z_nn_tuple, y_t_isb, y_t_and, y_t_or, y_t_not, y_h_last, y_h_link, y_al_one, y_al_cons, y_an_one, y_an_cons, y_c_no, y_c_yes, y_i_seq, y_i_rng, y_i_zip, y_i_enum, y_s_never, y_s_pass, y_s_asg, y_s_par, y_s_par3, y_s_setO, y_s_unp, y_s_setB, y_s_exp, y_s_app, y_s_ext, y_s_iff, y_s_whl, y_s_forr, y_s_ret, y_s_retv, y_s_frz, y_ss_nil, y_ss_cons, argsOf, views, caps, Option.map_some, Option.map_none, Option.bind_some, Option.bind_none, List.getElem?_cons_zero, List.getElem?_cons_succ, List.set_cons_zero, List.set_cons_succ, List.length_cons, List.length_nil, z_read_dat, z_read_ref, z_read_scr, z_read_own, z_view_own, z_view_brw, z_view_dat, z_cap_dat, z_cap_own, z_hold_dat, z_hold_ref, z_hold_scr, z_hold_own, z_arg_dat, z_arg_ref, z_arg_scr, z_arg_own, z_look_t, z_look_f, z_len_ref, z_len_scr, z_len_l, z_len_t, z_len_o, z_len_b, z_ix_ref, z_ix_scr, z_ix_l, z_ix_t, z_ix_o, z_ix_b, z_blt_len, z_blt_abs, z_blt_tup, z_blt_lst, z_blt_sum, z_blt_all, z_blt_any, z_blt_min, z_blt_max, z_blt_sorted, z_blt_repr, z_blt_str, z_blt_int, z_blt_divmod, z_d_abs, z_d_tupl, z_d_tupt, z_d_lstl, z_d_lstt, z_d_sum, z_d_all, z_d_any, z_d_minl, z_d_maxl, z_d_min, z_d_max, z_d_sorted, z_d_divmod, z_d_int, z_d_repr, z_d_str, z_bin_i, z_bin_ll, z_bin_tt, z_bin_rep, z_add, z_sub, z_mul, z_fdiv, z_mod, z_eq, z_ne, z_lt, z_le, z_gt, z_ge, z_inl, z_int, z_ninl, z_nint, z_isi_int_none, z_isi_int_bool, z_isi_int_int, z_isi_int_str, z_isi_int_list, z_isi_int_tuple, z_isi_bool_none, z_isi_bool_bool, z_isi_bool_int, z_isi_bool_str, z_isi_bool_list, z_isi_bool_tuple, z_isi_str_none, z_isi_str_bool, z_isi_str_int, z_isi_str_str, z_isi_str_list, z_isi_str_tuple, z_isi_list_none, z_isi_list_bool, z_isi_list_int, z_isi_list_str, z_isi_list_list, z_isi_list_tuple, z_isi_tuple_none, z_isi_tuple_bool, z_isi_tuple_int, z_isi_tuple_str, z_isi_tuple_list, z_isi_tuple_tuple, z_out_rt, z_out_nx, z_eqi, z_eqb, z_rng1, z_rng2, z_si_l, z_si_t, z_bind_nm, z_bind_tt, z_bind_tl, z_binds_n, z_binds_c, z_sl_l, z_sl_t, z_at0, z_at1, z_at2, z_at3, z_ixN0, z_intsn, z_intsc, z_boolsn, z_boolsc, g3, g4, z2, Int.zero_sub])
      (fun j env s => ∃ y10 y11, env = [some (.dat x.p), some (.dat (.int N)), some (.dat y.p), some (.dat (.int (f : Int))), some (.dat (.int (w : Int))), some (.own (pv (acc ++ fm (nf y N t) (-(w : Int)) j))), some (.dat (.int t)), some (.dat (.int y.n1)), some (.dat (.int y.m)), some (.dat (.int y.n2)), y10, y11] ∧ s = st)
      ⟨_, _, by rw [fm_zero, List.append_nil], rfl⟩ fun j d env s hd ⟨y10, y11, e, es⟩ => by
        obtain ⟨hj, ed⟩ := rngItems_get hd
        subst ed e es
        obtain ⟨o, eo⟩ : ∃ o : Int, -(w : Int) + j = o := ⟨_, rfl⟩
        have bo : Bd 60 o := bd_s (by omega) (by omega)
        have bt : Bd 60 t := bd_s (by omega) (by omega)
        have es1 : callF tb (k + 4) "sum_of" [.dat y.p, .dat (PyData.tuple [PyData.int (o), PyData.int (t)])] s = some (.dat (Pt2.v (y.at (o, t))), s) := s_sum_of2 (k + 3) y.a y.b y.c y.d o t s (u ya) (u yb) (u yc) (u yd) (bo.mono (by decide)) (bt.mono (by decide))
        have ba : Bd 2000 (y.at (o, t)).1 := (bd_add (bd_mul bo ya) (bd_mul bt yc)).mono (by decide)
        have bb : Bd 2000 (y.at (o, t)).2 := (bd_add (bd_mul bo yb) (bd_mul bt yd)).mono (by decide)
        have es2 : callF tb (k + 4) "product_of" [.dat (Pt2.v (y.at (o, t))), .dat (Pt2.v (y.at (o, t)))] s = some (.dat (.int (nr (y.at (o, t)))), s) := s_prod (k + 3) _ _ _ _ s ba bb ba bb
        have hl : (fm (nf y N t) (-(w : Int)) j).length ≤ j * 1 := fm_len (nf_len y N t) _
        have ls : (pv (acc ++ fm (nf y N t) (-(w : Int)) j)).length < sizeLine := Nat.lt_of_le_of_lt (m := 1000) (by unfold pv; rw [List.length_map, List.length_append]; omega) (by decide)
        have ep : ∀ (l : List Pt2) (p : Pt2), pv l ++ [Pt2.v p] = pv (l ++ [p]) := fun l p => by unfold pv; rw [List.map_append]; rfl
        rw [eo]
        refine ⟨_, [some (.dat x.p), some (.dat (.int N)), some (.dat y.p), some (.dat (.int (f : Int))), some (.dat (.int (w : Int))), some (.own (pv (acc ++ fm (nf y N t) (-(w : Int)) (j + 1)))), some (.dat (.int t)), some (.dat (.int y.n1)), some (.dat (.int y.m)), some (.dat (.int y.n2)), some (.dat (.int o)), some (.dat (Pt2.v (y.at (o, t))))], s, z_bind_nm _ _ _, ?_, _, _, rfl, rfl⟩
        rw [fm_succ, eo, ← List.append_assoc]
        unfold nf at ls ⊢
        by_cases hc : nr (y.at (o, t)) ≤ N
        · simp (decide := true) only [lb_near_points_1, ↓reduceIte, Bool.not_true, Bool.not_false, decide_true, decide_false, wipeE, Bool.false_eq_true, y_e_c, y_e_v, y_e_g, y_e_never, y_e_bin, y_e_neg, y_e_tst, y_e_ite, y_e_tup, y_e_lst, y_e_box, y_e_ix, y_e_sl, y_e_rev, y_e_call, y_e_blt, y_e_isi, y_e_lc, y_es_nil, y_es_cons, y_o_no, y_o_yes, y_t_val, y_t_cmp, y_t_chn, y_t_isnt, y_t_isnf, z_nnr_dat, z_nnr_own, z_nnr_brw, z_nn_none, z_nn_bool, z_nn_int, z_nn_str, z_nn_list, z_nn_tuple, y_t_isb, y_t_and, y_t_or, y_t_not, y_h_last, y_h_link, y_al_one, y_al_cons, y_an_one, y_an_cons, y_c_no, y_c_yes, y_i_seq, y_i_rng, y_i_zip, y_i_enum, y_s_never, y_s_pass, y_s_asg, y_s_par, y_s_par3, y_s_setO, y_s_unp, y_s_setB, y_s_exp, y_s_app, y_s_ext, y_s_iff, y_s_whl, y_s_forr, y_s_ret, y_s_retv, y_s_frz, y_ss_nil, y_ss_cons, argsOf, views, caps, Option.map_some, Option.map_none, Option.bind_some, Option.bind_none, List.getElem?_cons_zero, List.getElem?_cons_succ, List.set_cons_zero, List.set_cons_succ, List.length_cons, List.length_nil, z_read_dat, z_read_ref, z_read_scr, z_read_own, z_view_own, z_view_brw, z_view_dat, z_cap_dat, z_cap_own, z_hold_dat, z_hold_ref, z_hold_scr, z_hold_own, z_arg_dat, z_arg_ref, z_arg_scr, z_arg_own, z_look_t, z_look_f, z_len_ref, z_len_scr, z_len_l, z_len_t, z_len_o, z_len_b, z_ix_ref, z_ix_scr, z_ix_l, z_ix_t, z_ix_o, z_ix_b, z_blt_len, z_blt_abs, z_blt_tup, z_blt_lst, z_blt_sum, z_blt_all, z_blt_any, z_blt_min, z_blt_max, z_blt_sorted, z_blt_repr, z_blt_str, z_blt_int, z_blt_divmod, z_d_abs, z_d_tupl, z_d_tupt, z_d_lstl, z_d_lstt, z_d_sum, z_d_all, z_d_any, z_d_minl, z_d_maxl, z_d_min, z_d_max, z_d_sorted, z_d_divmod, z_d_int, z_d_repr, z_d_str, z_bin_i, z_bin_ll, z_bin_tt, z_bin_rep, z_add, z_sub, z_mul, z_fdiv, z_mod, z_eq, z_ne, z_lt, z_le, z_gt, z_ge, z_inl, z_int, z_ninl, z_nint, z_isi_int_none, z_isi_int_bool, z_isi_int_int, z_isi_int_str, z_isi_int_list, z_isi_int_tuple, z_isi_bool_none, z_isi_bool_bool, z_isi_bool_int, z_isi_bool_str, z_isi_bool_list, z_isi_bool_tuple, z_isi_str_none, z_isi_str_bool, z_isi_str_int, z_isi_str_str, z_isi_str_list, z_isi_str_tuple, z_isi_list_none, z_isi_list_bool, z_isi_list_int, z_isi_list_str, z_isi_list_list, z_isi_list_tuple, z_isi_tuple_none, z_isi_tuple_bool, z_isi_tuple_int, z_isi_tuple_str, z_isi_tuple_list, z_isi_tuple_tuple, z_out_rt, z_out_nx, z_eqi, z_eqb, z_rng1, z_rng2, z_si_l, z_si_t, z_bind_nm, z_bind_tt, z_bind_tl, z_binds_n, z_binds_c, z_sl_l, z_sl_t, z_at0, z_at1, z_at2, z_at3, z_ixN0, z_intsn, z_intsc, z_boolsn, z_boolsc, ft, es1, es2, hc, ls, ep]
        · simp (decide := true) only [lb_near_points_1, ↓reduceIte, Bool.not_true, Bool.not_false, decide_true, decide_false, wipeE, Bool.false_eq_true, y_e_c, y_e_v, y_e_g, y_e_never, y_e_bin, y_e_neg, y_e_tst, y_e_ite, y_e_tup, y_e_lst, y_e_box, y_e_ix, y_e_sl, y_e_rev, y_e_call, y_e_blt, y_e_isi, y_e_lc, y_es_nil, y_es_cons, y_o_no, y_o_yes, y_t_val, y_t_cmp, y_t_chn, y_t_isnt, y_t_isnf, z_nnr_dat, z_nnr_own, z_nnr_brw, z_nn_none, z_nn_bool, z_nn_int, z_nn_str, z_nn_list, z_nn_tuple, y_t_isb, y_t_and, y_t_or, y_t_not, y_h_last, y_h_link, y_al_one, y_al_cons, y_an_one, y_an_cons, y_c_no, y_c_yes, y_i_seq, y_i_rng, y_i_zip, y_i_enum, y_s_never, y_s_pass, y_s_asg, y_s_par, y_s_par3, y_s_setO, y_s_unp, y_s_setB, y_s_exp, y_s_app, y_s_ext, y_s_iff, y_s_whl, y_s_forr, y_s_ret, y_s_retv, y_s_frz, y_ss_nil, y_ss_cons, argsOf, views, caps, Option.map_some, Option.map_none, Option.bind_some, Option.bind_none, List.getElem?_cons_zero, List.getElem?_cons_succ, List.set_cons_zero, List.set_cons_succ, List.length_cons, List.length_nil, z_read_dat, z_read_ref, z_read_scr, z_read_own, z_view_own, z_view_brw, z_view_dat, z_cap_dat, z_cap_own, z_hold_dat, z_hold_ref, z_hold_scr, z_hold_own, z_arg_dat, z_arg_ref, z_arg_scr, z_arg_own, z_look_t, z_look_f, z_len_ref, z_len_scr, z_len_l, z_len_t, z_len_o, z_len_b, z_ix_ref, z_ix_scr, z_ix_l, z_ix_t, z_ix_o, z_ix_b, z_blt_len, z_blt_abs, z_blt_tup, z_blt_lst, z_blt_sum, z_blt_all, z_blt_any, z_blt_min, z_blt_max, z_blt_sorted, z_blt_repr, z_blt_str, z_blt_int, z_blt_divmod, z_d_abs, z_d_tupl, z_d_tupt, z_d_lstl, z_d_lstt, z_d_sum, z_d_all, z_d_any, z_d_minl, z_d_maxl, z_d_min, z_d_max, z_d_sorted, z_d_divmod, z_d_int, z_d_repr, z_d_str, z_bin_i, z_bin_ll, z_bin_tt, z_bin_rep, z_add, z_sub, z_mul, z_fdiv, z_mod, z_eq, z_ne, z_lt, z_le, z_gt, z_ge, z_inl, z_int, z_ninl, z_nint, z_isi_int_none, z_isi_int_bool, z_isi_int_int, z_isi_int_str, z_isi_int_list, z_isi_int_tuple, z_isi_bool_none, z_isi_bool_bool, z_isi_bool_int, z_isi_bool_str, z_isi_bool_list, z_isi_bool_tuple, z_isi_str_none, z_isi_str_bool, z_isi_str_int, z_isi_str_str, z_isi_str_list, z_isi_str_tuple, z_isi_list_none, z_isi_list_bool, z_isi_list_int, z_isi_list_str, z_isi_list_list, z_isi_list_tuple, z_isi_tuple_none, z_isi_tuple_bool, z_isi_tuple_int, z_isi_tuple_str, z_isi_tuple_list, z_isi_tuple_tuple, z_out_rt, z_out_nx, z_eqi, z_eqb, z_rng1, z_rng2, z_si_l, z_si_t, z_bind_nm, z_bind_tt, z_bind_tl, z_binds_n, z_binds_c, z_sl_l, z_sl_t, z_at0, z_at1, z_at2, z_at3, z_ixN0, z_intsn, z_intsc, z_boolsn, z_boolsc, ft, es1, es2, hc, List.append_nil]
    subst q2 q3
    rw [rngItems_len] at q1
    exact ⟨y10, y11, q1⟩
  obtain ⟨env1, st2, q1, y6, y10, y11, q2, q3⟩ := den_for (cf := callF tb (k + 4)) (tg := .nm 6) (it := .rng (.cons (.bin .sub (.c (.int 0)) (.v 3)) (.cons (.bin .add (.v 3) (.c (.int 1))) .nil))) (b := lb_near_points_2)
    (env := [some (.dat x.p), some (.dat (.int N)), some (.dat y.p), some (.dat (.int (f : Int))), some (.dat (.int (w : Int))), some (.own []), none, some (.dat (.int y.n1)), some (.dat (.int y.m)), some (.dat (.int y.n2)), none, none]) (st := st) (st1 := st) (items := rngItems (-(f : Int)) (2 * f + 1)) (by simp (decide := true) only [↓reduceIte, Bool.not_true, Bool.not_false, decide_true, decide_false, wipeE, Bool.false_eq_true, y_e_c, y_e_v, y_e_g, y_e_never, y_e_bin, y_e_neg, y_e_tst, y_e_ite, y_e_tup, y_e_lst, y_e_box, y_e_ix, y_e_sl, y_e_rev, y_e_call, y_e_blt, y_e_isi, y_e_lc, y_es_nil, y_es_cons, y_o_no, y_o_yes, y_t_val, y_t_cmp, y_t_chn, y_t_isnt, y_t_isnf, z_nnr_dat, z_nnr_own, z_nnr_brw, z_nn_none, z_nn_bool, z_nn_int, z_nn_str, z_nn_list, z_nn_tuple, y_t_isb, y_t_and, y_t_or, y_t_not, y_h_last, y_h_link, y_al_one, y_al_cons, y_an_one, y_an_cons, y_c_no, y_c_yes, y_i_seq, y_i_rng, y_i_zip, y_i_enum, y_s_never, y_s_pass, y_s_asg, y_s_par, y_s_par3, y_s_setO, y_s_unp, y_s_setB, y_s_exp, y_s_app, y_s_ext, y_s_iff, y_s_whl, y_s_forr, y_s_ret, y_s_retv, y_s_frz, y_ss_nil, y_ss_cons, argsOf, views, caps, Option.map_some, Option.map_none, Option.bind_some, Option.bind_none, List.getElem?_cons_zero, List.getElem?_cons_succ, List.set_cons_zero, List.set_cons_succ, List.length_cons, List.length_nil, z_read_dat, z_read_ref, z_read_scr, z_read_own, z_view_own, z_view_brw, z_view_dat, z_cap_dat, z_cap_own, z_hold_dat, z_hold_ref, z_hold_scr, z_hold_own, z_arg_dat, z_arg_ref, z_arg_scr, z_arg_own, z_look_t, z_look_f, z_len_ref, z_len_scr, z_len_l, z_len_t, z_len_o, z_len_b, z_ix_ref, z_ix_scr, z_ix_l, z_ix_t, z_ix_o, z_ix_b, z_blt_len, z_blt_abs, z_blt_tup, z_blt_lst, z_blt_sum, z_blt_all, z_blt_any, z_blt_min, z_blt_max, z_blt_sorted, z_blt_repr, z_blt_str, z_blt_int, z_blt_divmod, z_d_abs, z_d_tupl, z_d_tupt, z_d_lstl, z_d_lstt, z_d_sum, z_d_all, z_d_any, z_d_minl, z_d_maxl, z_d_min, z_d_max, z_d_sorted, z_d_divmod, z_d_int, z_d_repr, z_d_str, z_bin_i, z_bin_ll, z_bin_tt, z_bin_rep, z_add, z_sub, z_mul, z_fdiv, z_mod, z_eq, z_ne, z_lt, z_le, z_gt, z_ge, z_inl, z_int, z_ninl, z_nint, z_isi_int_none, z_isi_int_bool, z_isi_int_int, z_isi_int_str, z_isi_int_list, z_isi_int_tuple, z_isi_bool_none, z_isi_bool_bool, z_isi_bool_int, z_isi_bool_str, z_isi_bool_list, z_isi_bool_tuple, z_isi_str_none, z_isi_str_bool, z_isi_str_int, z_isi_str_str, z_isi_str_list, z_isi_str_tuple, z_isi_list_none, z_isi_list_bool, z_isi_list_int, z_isi_list_str, z_isi_list_list, z_isi_list_tuple, z_isi_tuple_none, z_isi_tuple_bool, z_isi_tuple_int, z_isi_tuple_str, z_isi_tuple_list, z_isi_tuple_tuple, z_out_rt, z_out_nx, z_eqi, z_eqb, z_rng1, z_rng2, z_si_l, z_si_t, z_bind_nm, z_bind_tt, z_bind_tl, z_binds_n, z_binds_c, z_sl_l, z_sl_t, z_at0, z_at1, z_at2, z_at3, z_ixN0, z_intsn, z_intsc, z_boolsn, z_boolsc, g1, g2, z1, Int.zero_sub])
    (fun j env s => ∃ y6 y10 y11, env = [some (.dat x.p), some (.dat (.int N)), some (.dat y.p), some (.dat (.int (f : Int))), some (.dat (.int (w : Int))), some (.own (pv (fm (fun t => fm (nf y N t) (-(w : Int)) (2 * w + 1)) (-(f : Int)) j))), y6, some (.dat (.int y.n1)), some (.dat (.int y.m)), some (.dat (.int y.n2)), y10, y11] ∧ s = st)
    ⟨_, _, _, rfl, rfl⟩ fun j d env s hd ⟨y6, y10, y11, e, es⟩ => by
      obtain ⟨hj, ed⟩ := rngItems_get hd
      subst ed e es
      obtain ⟨z10, z11, ei⟩ := inner (-(f : Int) + j) (fm (fun t => fm (nf y N t) (-(w : Int)) (2 * w + 1)) (-(f : Int)) j) y10 y11 (by omega) (by omega) (hlen j (by omega))
      exact ⟨_, _, s, z_bind_nm _ _ _, by simp only [lb_near_points_2, y_s_never, y_s_pass, y_s_asg, y_s_par, y_s_par3, y_s_setO, y_s_unp, y_s_setB, y_s_exp, y_s_app, y_s_ext, y_s_iff, y_s_whl, y_s_forr, y_s_ret, y_s_retv, y_s_frz, y_ss_nil, y_ss_cons, ↓reduceIte, Bool.false_eq_true, List.set_cons_zero, List.set_cons_succ, ei]; rfl, some (.dat (.int (-(f : Int) + j))), z10, z11, by rw [fm_succ (fun t => fm (nf y N t) (-(w : Int)) (2 * w + 1))], rfl⟩
  subst q2 q3
  rw [rngItems_len] at q1
  have q1' : Stm.den (callF tb (k + 4)) l_near_points_2 [some (.dat x.p), some (.dat (.int N)), some (.dat y.p), some (.dat (.int (f : Int))), some (.dat (.int (w : Int))), some (.own []), none, some (.dat (.int y.n1)), some (.dat (.int y.m)), some (.dat (.int y.n2)), none, none] st2 = _ := q1
  refine ⟨Nr y N f w, Nr_nodup hdy N f w, Nat.le_trans (hlen _ (Nat.le_refl _)) (by decide), hmem, ?_⟩
  have so := pv_sort (l := Nr y N f w) (Nat.le_trans (hlen _ (Nat.le_refl _)) (by decide))
  have eN : fm (fun t => fm (nf y N t) (-(w : Int)) (2 * w + 1)) (-(f : Int)) (2 * f + 1) = Nr y N f w := rfl
  rw [eN] at q1'
  simp (decide := true) only [b_near_points, ↓reduceIte, Bool.not_true, Bool.not_false, decide_true, decide_false, wipeE, Bool.false_eq_true, y_e_c, y_e_v, y_e_g, y_e_never, y_e_bin, y_e_neg, y_e_tst, y_e_ite, y_e_tup, y_e_lst, y_e_box, y_e_ix, y_e_sl, y_e_rev, y_e_call, y_e_blt, y_e_isi, y_e_lc, y_es_nil, y_es_cons, y_o_no, y_o_yes, y_t_val, y_t_cmp, y_t_chn, y_t_isnt, y_t_isnf, z_nnr_dat, z_nnr_own, z_nnr_brw, z_nn_none, z_nn_bool, z_nn_int, z_nn_str, z_nn_list, z_nn_tuple, y_t_isb, y_t_and, y_t_or, y_t_not, y_h_last, y_h_link, y_al_one, y_al_cons, y_an_one, y_an_cons, y_c_no, y_c_yes, y_i_seq, y_i_rng, y_i_zip, y_i_enum, y_s_never, y_s_pass, y_s_asg, y_s_par, y_s_par3, y_s_setO, y_s_unp, y_s_setB, y_s_exp, y_s_app, y_s_ext, y_s_iff, y_s_whl, y_s_forr, y_s_ret, y_s_retv, y_s_frz, y_ss_nil, y_ss_cons, argsOf, views, caps, Option.map_some, Option.map_none, Option.bind_some, Option.bind_none, List.getElem?_cons_zero, List.getElem?_cons_succ, List.set_cons_zero, List.set_cons_succ, List.length_cons, List.length_nil, z_read_dat, z_read_ref, z_read_scr, z_read_own, z_view_own, z_view_brw, z_view_dat, z_cap_dat, z_cap_own, z_hold_dat, z_hold_ref, z_hold_scr, z_hold_own, z_arg_dat, z_arg_ref, z_arg_scr, z_arg_own, z_look_t, z_look_f, z_len_ref, z_len_scr, z_len_l, z_len_t, z_len_o, z_len_b, z_ix_ref, z_ix_scr, z_ix_l, z_ix_t, z_ix_o, z_ix_b, z_blt_len, z_blt_abs, z_blt_tup, z_blt_lst, z_blt_sum, z_blt_all, z_blt_any, z_blt_min, z_blt_max, z_blt_sorted, z_blt_repr, z_blt_str, z_blt_int, z_blt_divmod, z_d_abs, z_d_tupl, z_d_tupt, z_d_lstl, z_d_lstt, z_d_sum, z_d_all, z_d_any, z_d_minl, z_d_maxl, z_d_min, z_d_max, z_d_sorted, z_d_divmod, z_d_int, z_d_repr, z_d_str, z_bin_i, z_bin_ll, z_bin_tt, z_bin_rep, z_add, z_sub, z_mul, z_fdiv, z_mod, z_eq, z_ne, z_lt, z_le, z_gt, z_ge, z_inl, z_int, z_ninl, z_nint, z_isi_int_none, z_isi_int_bool, z_isi_int_int, z_isi_int_str, z_isi_int_list, z_isi_int_tuple, z_isi_bool_none, z_isi_bool_bool, z_isi_bool_int, z_isi_bool_str, z_isi_bool_list, z_isi_bool_tuple, z_isi_str_none, z_isi_str_bool, z_isi_str_int, z_isi_str_str, z_isi_str_list, z_isi_str_tuple, z_isi_list_none, z_isi_list_bool, z_isi_list_int, z_isi_list_str, z_isi_list_list, z_isi_list_tuple, z_isi_tuple_none, z_isi_tuple_bool, z_isi_tuple_int, z_isi_tuple_str, z_isi_tuple_list, z_isi_tuple_tuple, z_out_rt, z_out_nx, z_eqi, z_eqb, z_rng1, z_rng2, z_si_l, z_si_t, z_bind_nm, z_bind_tt, z_bind_tl, z_binds_n, z_binds_c, z_sl_l, z_sl_t, z_at0, z_at1, z_at2, z_at3, z_ixN0, z_intsn, z_intsc, z_boolsn, z_boolsc, el, ep, m1, m2, p1, p2, d1, d2, e1, e2, ef, er, ew', f0, q1', z_d_sorted so]

/-! need_pair of a quadruple -/
theorem s_need_p (k : Nat) (x : Qd) (st : Bx) (h : x.Bdd) (hn : x.det ≠ 0) : callF tb (k + 4) "need_pair" [.dat x.p] st = some (.dat .none, st) := by
  obtain ⟨ha, hb, hc, hd⟩ := x.bds h
  have u : ∀ {x : Int}, Bd 300 x → Bd 1000 x := fun h => h.mono (by decide)
  exact s_need_pair k x.a x.b x.c x.d st (u ha) (u hb) (u hc) (u hd) hn

/-! up_to, many_of -/
/-! k31 -/
theorem s_need_length (k : Nat) (N : Int) (st : Bx) (h0 : 0 ≤ N) (h : N ≤ 60) : callF tb (k + 2) "need_length" [.dat (.int N)] st = some (.dat .none, st) := by
  rw [c_need_length]
  have hq := s_is_whole k (.int N) st
  simp (decide := true) only [b_need_length, ↓reduceIte, Bool.not_true, Bool.not_false, decide_true, decide_false, wipeE, Bool.false_eq_true, y_e_c, y_e_v, y_e_g, y_e_never, y_e_bin, y_e_neg, y_e_tst, y_e_ite, y_e_tup, y_e_lst, y_e_box, y_e_ix, y_e_sl, y_e_rev, y_e_call, y_e_blt, y_e_isi, y_e_lc, y_es_nil, y_es_cons, y_o_no, y_o_yes, y_t_val, y_t_cmp, y_t_chn, y_t_isnt, y_t_isnf, z_nnr_dat, z_nnr_own, z_nnr_brw, z_nn_none, z_nn_bool, z_nn_int, z_nn_str, z_nn_list, z_nn_tuple, y_t_isb, y_t_and, y_t_or, y_t_not, y_h_last, y_h_link, y_al_one, y_al_cons, y_an_one, y_an_cons, y_c_no, y_c_yes, y_i_seq, y_i_rng, y_i_zip, y_i_enum, y_s_never, y_s_pass, y_s_asg, y_s_par, y_s_par3, y_s_setO, y_s_unp, y_s_setB, y_s_exp, y_s_app, y_s_ext, y_s_iff, y_s_whl, y_s_forr, y_s_ret, y_s_retv, y_s_frz, y_ss_nil, y_ss_cons, argsOf, views, caps, Option.map_some, Option.map_none, Option.bind_some, Option.bind_none, List.getElem?_cons_zero, List.getElem?_cons_succ, List.set_cons_zero, List.set_cons_succ, List.length_cons, List.length_nil, z_read_dat, z_read_ref, z_read_scr, z_read_own, z_view_own, z_view_brw, z_view_dat, z_cap_dat, z_cap_own, z_hold_dat, z_hold_ref, z_hold_scr, z_hold_own, z_arg_dat, z_arg_ref, z_arg_scr, z_arg_own, z_look_t, z_look_f, z_len_ref, z_len_scr, z_len_l, z_len_t, z_len_o, z_len_b, z_ix_ref, z_ix_scr, z_ix_l, z_ix_t, z_ix_o, z_ix_b, z_blt_len, z_blt_abs, z_blt_tup, z_blt_lst, z_blt_sum, z_blt_all, z_blt_any, z_blt_min, z_blt_max, z_blt_sorted, z_blt_repr, z_blt_str, z_blt_int, z_blt_divmod, z_d_abs, z_d_tupl, z_d_tupt, z_d_lstl, z_d_lstt, z_d_sum, z_d_all, z_d_any, z_d_minl, z_d_maxl, z_d_min, z_d_max, z_d_sorted, z_d_divmod, z_d_int, z_d_repr, z_d_str, z_bin_i, z_bin_ll, z_bin_tt, z_bin_rep, z_add, z_sub, z_mul, z_fdiv, z_mod, z_eq, z_ne, z_lt, z_le, z_gt, z_ge, z_inl, z_int, z_ninl, z_nint, z_isi_int_none, z_isi_int_bool, z_isi_int_int, z_isi_int_str, z_isi_int_list, z_isi_int_tuple, z_isi_bool_none, z_isi_bool_bool, z_isi_bool_int, z_isi_bool_str, z_isi_bool_list, z_isi_bool_tuple, z_isi_str_none, z_isi_str_bool, z_isi_str_int, z_isi_str_str, z_isi_str_list, z_isi_str_tuple, z_isi_list_none, z_isi_list_bool, z_isi_list_int, z_isi_list_str, z_isi_list_list, z_isi_list_tuple, z_isi_tuple_none, z_isi_tuple_bool, z_isi_tuple_int, z_isi_tuple_str, z_isi_tuple_list, z_isi_tuple_tuple, z_out_rt, z_out_nx, z_eqi, z_eqb, z_rng1, z_rng2, z_si_l, z_si_t, z_bind_nm, z_bind_tt, z_bind_tl, z_binds_n, z_binds_c, z_sl_l, z_sl_t, z_at0, z_at1, z_at2, z_at3, z_ixN0, z_intsn, z_intsc, z_boolsn, z_boolsc, hq, isW, h0, h]
/-- the points up to N, as a list -/
structure Up (x : Qd) (N : Int) (l : List Pt2) : Prop where
  nd : l.Nodup
  mem : ∀ p, p ∈ l ↔ Gq x p = true ∧ nr p ≤ N
theorem Up.perm {x : Qd} {N : Int} {l m : List Pt2} (h : Up x N l) (k : Up x N m) : l.Perm m := (List.perm_ext_iff_of_nodup h.nd k.nd).mpr fun p => (h.mem p).trans (k.mem p).symm
theorem nr_nn (p : Pt2) : 0 ≤ nr p := by
  have h1 := sq_nn p.1
  have h2 := sq_nn p.2
  unfold nr
  omega
theorem nr_small {p : Pt2} {N : Int} (h : nr p ≤ N) (hN : N ≤ 60) : (-7 ≤ p.1 ∧ p.1 ≤ 7) ∧ -7 ≤ p.2 ∧ p.2 ≤ 7 := by
  have h1 := sq_nn p.1
  have h2 := sq_nn p.2
  unfold nr at h
  have q1 := sq_lt (r := 8) (by decide) (x := p.1) (by omega)
  have q2 := sq_lt (r := 8) (by decide) (x := p.2) (by omega)
  omega
theorem s_up_to (k : Nat) (x : Qd) (N : Int) (st : Bx) (h : x.Bdd) (hn : x.det ≠ 0) (h0 : 0 ≤ N) (h60 : N ≤ 60) :
    ∃ l, Up x N l ∧ l.length ≤ 1000 ∧ callF tb (k + 6) "up_to" [.dat x.p, .dat (.int N)] st = some (.own (sortD (pv l)), st) := by
  obtain ⟨l, h1, h2, h3, e⟩ := s_near k x N st h hn h0 h60
  refine ⟨l, ⟨h1, h3⟩, h2, ?_⟩
  rw [c_up_to]
  simp (decide := true) only [b_up_to, ↓reduceIte, Bool.not_true, Bool.not_false, decide_true, decide_false, wipeE, Bool.false_eq_true, y_e_c, y_e_v, y_e_g, y_e_never, y_e_bin, y_e_neg, y_e_tst, y_e_ite, y_e_tup, y_e_lst, y_e_box, y_e_ix, y_e_sl, y_e_rev, y_e_call, y_e_blt, y_e_isi, y_e_lc, y_es_nil, y_es_cons, y_o_no, y_o_yes, y_t_val, y_t_cmp, y_t_chn, y_t_isnt, y_t_isnf, z_nnr_dat, z_nnr_own, z_nnr_brw, z_nn_none, z_nn_bool, z_nn_int, z_nn_str, z_nn_list, z_nn_tuple, y_t_isb, y_t_and, y_t_or, y_t_not, y_h_last, y_h_link, y_al_one, y_al_cons, y_an_one, y_an_cons, y_c_no, y_c_yes, y_i_seq, y_i_rng, y_i_zip, y_i_enum, y_s_never, y_s_pass, y_s_asg, y_s_par, y_s_par3, y_s_setO, y_s_unp, y_s_setB, y_s_exp, y_s_app, y_s_ext, y_s_iff, y_s_whl, y_s_forr, y_s_ret, y_s_retv, y_s_frz, y_ss_nil, y_ss_cons, argsOf, views, caps, Option.map_some, Option.map_none, Option.bind_some, Option.bind_none, List.getElem?_cons_zero, List.getElem?_cons_succ, List.set_cons_zero, List.set_cons_succ, List.length_cons, List.length_nil, z_read_dat, z_read_ref, z_read_scr, z_read_own, z_view_own, z_view_brw, z_view_dat, z_cap_dat, z_cap_own, z_hold_dat, z_hold_ref, z_hold_scr, z_hold_own, z_arg_dat, z_arg_ref, z_arg_scr, z_arg_own, z_look_t, z_look_f, z_len_ref, z_len_scr, z_len_l, z_len_t, z_len_o, z_len_b, z_ix_ref, z_ix_scr, z_ix_l, z_ix_t, z_ix_o, z_ix_b, z_blt_len, z_blt_abs, z_blt_tup, z_blt_lst, z_blt_sum, z_blt_all, z_blt_any, z_blt_min, z_blt_max, z_blt_sorted, z_blt_repr, z_blt_str, z_blt_int, z_blt_divmod, z_d_abs, z_d_tupl, z_d_tupt, z_d_lstl, z_d_lstt, z_d_sum, z_d_all, z_d_any, z_d_minl, z_d_maxl, z_d_min, z_d_max, z_d_sorted, z_d_divmod, z_d_int, z_d_repr, z_d_str, z_bin_i, z_bin_ll, z_bin_tt, z_bin_rep, z_add, z_sub, z_mul, z_fdiv, z_mod, z_eq, z_ne, z_lt, z_le, z_gt, z_ge, z_inl, z_int, z_ninl, z_nint, z_isi_int_none, z_isi_int_bool, z_isi_int_int, z_isi_int_str, z_isi_int_list, z_isi_int_tuple, z_isi_bool_none, z_isi_bool_bool, z_isi_bool_int, z_isi_bool_str, z_isi_bool_list, z_isi_bool_tuple, z_isi_str_none, z_isi_str_bool, z_isi_str_int, z_isi_str_str, z_isi_str_list, z_isi_str_tuple, z_isi_list_none, z_isi_list_bool, z_isi_list_int, z_isi_list_str, z_isi_list_list, z_isi_list_tuple, z_isi_tuple_none, z_isi_tuple_bool, z_isi_tuple_int, z_isi_tuple_str, z_isi_tuple_list, z_isi_tuple_tuple, z_out_rt, z_out_nx, z_eqi, z_eqb, z_rng1, z_rng2, z_si_l, z_si_t, z_bind_nm, z_bind_tt, z_bind_tl, z_binds_n, z_binds_c, z_sl_l, z_sl_t, z_at0, z_at1, z_at2, z_at3, z_ixN0, z_intsn, z_intsc, z_boolsn, z_boolsc, s_need_p (k + 1) x st h hn, s_need_length (k + 3) N st h0 h60, e]
theorem s_many_of (k : Nat) (x : Qd) (N : Int) (st : Bx) (h : x.Bdd) (hn : x.det ≠ 0) (h0 : 0 ≤ N) (h60 : N ≤ 60) :
    ∃ l, Up x N l ∧ callF tb (k + 6) "many_of" [.dat x.p, .dat (.int N)] st = some (.dat (.int (((l.filter fun p => decide (nr p = N)).length : Nat) : Int)), st) := by
  obtain ⟨l, h1, h2, h3, e⟩ := s_near k x N st h hn h0 h60
  refine ⟨l, ⟨h1, h3⟩, ?_⟩
  rw [c_many_of]
  have hq : Ex.den (callF tb (k + 5)) q_many_of_1 [some (.dat x.p), some (.dat (.int N)), none] st = some (.own ((sortD (pv l)).filterMap fun d => match d with | .tuple [.int a, .int b] => if nr (a, b) = N then some (.tuple [.int a, .int b]) else none | _ => none), st) := by
    refine den_lc (items := sortD (pv l)) (by simp only [↓reduceIte, Bool.not_true, Bool.not_false, decide_true, decide_false, wipeE, Bool.false_eq_true, y_e_c, y_e_v, y_e_g, y_e_never, y_e_bin, y_e_neg, y_e_tst, y_e_ite, y_e_tup, y_e_lst, y_e_box, y_e_ix, y_e_sl, y_e_rev, y_e_call, y_e_blt, y_e_isi, y_e_lc, y_es_nil, y_es_cons, y_o_no, y_o_yes, y_t_val, y_t_cmp, y_t_chn, y_t_isnt, y_t_isnf, z_nnr_dat, z_nnr_own, z_nnr_brw, z_nn_none, z_nn_bool, z_nn_int, z_nn_str, z_nn_list, z_nn_tuple, y_t_isb, y_t_and, y_t_or, y_t_not, y_h_last, y_h_link, y_al_one, y_al_cons, y_an_one, y_an_cons, y_c_no, y_c_yes, y_i_seq, y_i_rng, y_i_zip, y_i_enum, y_s_never, y_s_pass, y_s_asg, y_s_par, y_s_par3, y_s_setO, y_s_unp, y_s_setB, y_s_exp, y_s_app, y_s_ext, y_s_iff, y_s_whl, y_s_forr, y_s_ret, y_s_retv, y_s_frz, y_ss_nil, y_ss_cons, argsOf, views, caps, Option.map_some, Option.map_none, Option.bind_some, Option.bind_none, List.getElem?_cons_zero, List.getElem?_cons_succ, List.set_cons_zero, List.set_cons_succ, List.length_cons, List.length_nil, z_read_dat, z_read_ref, z_read_scr, z_read_own, z_view_own, z_view_brw, z_view_dat, z_cap_dat, z_cap_own, z_hold_dat, z_hold_ref, z_hold_scr, z_hold_own, z_arg_dat, z_arg_ref, z_arg_scr, z_arg_own, z_look_t, z_look_f, z_len_ref, z_len_scr, z_len_l, z_len_t, z_len_o, z_len_b, z_ix_ref, z_ix_scr, z_ix_l, z_ix_t, z_ix_o, z_ix_b, z_blt_len, z_blt_abs, z_blt_tup, z_blt_lst, z_blt_sum, z_blt_all, z_blt_any, z_blt_min, z_blt_max, z_blt_sorted, z_blt_repr, z_blt_str, z_blt_int, z_blt_divmod, z_d_abs, z_d_tupl, z_d_tupt, z_d_lstl, z_d_lstt, z_d_sum, z_d_all, z_d_any, z_d_minl, z_d_maxl, z_d_min, z_d_max, z_d_sorted, z_d_divmod, z_d_int, z_d_repr, z_d_str, z_bin_i, z_bin_ll, z_bin_tt, z_bin_rep, z_add, z_sub, z_mul, z_fdiv, z_mod, z_eq, z_ne, z_lt, z_le, z_gt, z_ge, z_inl, z_int, z_ninl, z_nint, z_isi_int_none, z_isi_int_bool, z_isi_int_int, z_isi_int_str, z_isi_int_list, z_isi_int_tuple, z_isi_bool_none, z_isi_bool_bool, z_isi_bool_int, z_isi_bool_str, z_isi_bool_list, z_isi_bool_tuple, z_isi_str_none, z_isi_str_bool, z_isi_str_int, z_isi_str_str, z_isi_str_list, z_isi_str_tuple, z_isi_list_none, z_isi_list_bool, z_isi_list_int, z_isi_list_str, z_isi_list_list, z_isi_list_tuple, z_isi_tuple_none, z_isi_tuple_bool, z_isi_tuple_int, z_isi_tuple_str, z_isi_tuple_list, z_isi_tuple_tuple, z_out_rt, z_out_nx, z_eqi, z_eqb, z_rng1, z_rng2, z_si_l, z_si_t, z_bind_nm, z_bind_tt, z_bind_tl, z_binds_n, z_binds_c, z_sl_l, z_sl_t, z_at0, z_at1, z_at2, z_at3, z_ixN0, z_intsn, z_intsc, z_boolsn, z_boolsc, e]) _ (fun d hd => ?_) (by rw [sort_len]; unfold pv; rw [List.length_map]; omega)
    obtain ⟨p, hp, rfl⟩ := List.mem_map.mp (sort_mem hd)
    have hb := nr_small ((h3 p).mp hp).2 h60
    have ep : callF tb (k + 5) "product_of" [.dat (Pt2.v p), .dat (Pt2.v p)] st = some (.dat (.int (nr p)), st) := s_prod (k + 4) p.1 p.2 p.1 p.2 st ((bd_s (by omega) (by omega)).mono (by decide)) ((bd_s (by omega) (by omega)).mono (by decide)) ((bd_s (by omega) (by omega)).mono (by decide)) ((bd_s (by omega) (by omega)).mono (by decide))
    refine ⟨[some (.dat x.p), some (.dat (.int N)), some (.dat (Pt2.v p))], by simp only [↓reduceIte, Bool.not_true, Bool.not_false, decide_true, decide_false, wipeE, Bool.false_eq_true, y_e_c, y_e_v, y_e_g, y_e_never, y_e_bin, y_e_neg, y_e_tst, y_e_ite, y_e_tup, y_e_lst, y_e_box, y_e_ix, y_e_sl, y_e_rev, y_e_call, y_e_blt, y_e_isi, y_e_lc, y_es_nil, y_es_cons, y_o_no, y_o_yes, y_t_val, y_t_cmp, y_t_chn, y_t_isnt, y_t_isnf, z_nnr_dat, z_nnr_own, z_nnr_brw, z_nn_none, z_nn_bool, z_nn_int, z_nn_str, z_nn_list, z_nn_tuple, y_t_isb, y_t_and, y_t_or, y_t_not, y_h_last, y_h_link, y_al_one, y_al_cons, y_an_one, y_an_cons, y_c_no, y_c_yes, y_i_seq, y_i_rng, y_i_zip, y_i_enum, y_s_never, y_s_pass, y_s_asg, y_s_par, y_s_par3, y_s_setO, y_s_unp, y_s_setB, y_s_exp, y_s_app, y_s_ext, y_s_iff, y_s_whl, y_s_forr, y_s_ret, y_s_retv, y_s_frz, y_ss_nil, y_ss_cons, argsOf, views, caps, Option.map_some, Option.map_none, Option.bind_some, Option.bind_none, List.getElem?_cons_zero, List.getElem?_cons_succ, List.set_cons_zero, List.set_cons_succ, List.length_cons, List.length_nil, z_read_dat, z_read_ref, z_read_scr, z_read_own, z_view_own, z_view_brw, z_view_dat, z_cap_dat, z_cap_own, z_hold_dat, z_hold_ref, z_hold_scr, z_hold_own, z_arg_dat, z_arg_ref, z_arg_scr, z_arg_own, z_look_t, z_look_f, z_len_ref, z_len_scr, z_len_l, z_len_t, z_len_o, z_len_b, z_ix_ref, z_ix_scr, z_ix_l, z_ix_t, z_ix_o, z_ix_b, z_blt_len, z_blt_abs, z_blt_tup, z_blt_lst, z_blt_sum, z_blt_all, z_blt_any, z_blt_min, z_blt_max, z_blt_sorted, z_blt_repr, z_blt_str, z_blt_int, z_blt_divmod, z_d_abs, z_d_tupl, z_d_tupt, z_d_lstl, z_d_lstt, z_d_sum, z_d_all, z_d_any, z_d_minl, z_d_maxl, z_d_min, z_d_max, z_d_sorted, z_d_divmod, z_d_int, z_d_repr, z_d_str, z_bin_i, z_bin_ll, z_bin_tt, z_bin_rep, z_add, z_sub, z_mul, z_fdiv, z_mod, z_eq, z_ne, z_lt, z_le, z_gt, z_ge, z_inl, z_int, z_ninl, z_nint, z_isi_int_none, z_isi_int_bool, z_isi_int_int, z_isi_int_str, z_isi_int_list, z_isi_int_tuple, z_isi_bool_none, z_isi_bool_bool, z_isi_bool_int, z_isi_bool_str, z_isi_bool_list, z_isi_bool_tuple, z_isi_str_none, z_isi_str_bool, z_isi_str_int, z_isi_str_str, z_isi_str_list, z_isi_str_tuple, z_isi_list_none, z_isi_list_bool, z_isi_list_int, z_isi_list_str, z_isi_list_list, z_isi_list_tuple, z_isi_tuple_none, z_isi_tuple_bool, z_isi_tuple_int, z_isi_tuple_str, z_isi_tuple_list, z_isi_tuple_tuple, z_out_rt, z_out_nx, z_eqi, z_eqb, z_rng1, z_rng2, z_si_l, z_si_t, z_bind_nm, z_bind_tt, z_bind_tl, z_binds_n, z_binds_c, z_sl_l, z_sl_t, z_at0, z_at1, z_at2, z_at3, z_ixN0, z_intsn, z_intsc, z_boolsn, z_boolsc], ?_⟩
    by_cases hc : nr p = N
    · exact .inr ⟨by simp (decide := true) only [↓reduceIte, Bool.not_true, Bool.not_false, decide_true, decide_false, wipeE, Bool.false_eq_true, y_e_c, y_e_v, y_e_g, y_e_never, y_e_bin, y_e_neg, y_e_tst, y_e_ite, y_e_tup, y_e_lst, y_e_box, y_e_ix, y_e_sl, y_e_rev, y_e_call, y_e_blt, y_e_isi, y_e_lc, y_es_nil, y_es_cons, y_o_no, y_o_yes, y_t_val, y_t_cmp, y_t_chn, y_t_isnt, y_t_isnf, z_nnr_dat, z_nnr_own, z_nnr_brw, z_nn_none, z_nn_bool, z_nn_int, z_nn_str, z_nn_list, z_nn_tuple, y_t_isb, y_t_and, y_t_or, y_t_not, y_h_last, y_h_link, y_al_one, y_al_cons, y_an_one, y_an_cons, y_c_no, y_c_yes, y_i_seq, y_i_rng, y_i_zip, y_i_enum, y_s_never, y_s_pass, y_s_asg, y_s_par, y_s_par3, y_s_setO, y_s_unp, y_s_setB, y_s_exp, y_s_app, y_s_ext, y_s_iff, y_s_whl, y_s_forr, y_s_ret, y_s_retv, y_s_frz, y_ss_nil, y_ss_cons, argsOf, views, caps, Option.map_some, Option.map_none, Option.bind_some, Option.bind_none, List.getElem?_cons_zero, List.getElem?_cons_succ, List.set_cons_zero, List.set_cons_succ, List.length_cons, List.length_nil, z_read_dat, z_read_ref, z_read_scr, z_read_own, z_view_own, z_view_brw, z_view_dat, z_cap_dat, z_cap_own, z_hold_dat, z_hold_ref, z_hold_scr, z_hold_own, z_arg_dat, z_arg_ref, z_arg_scr, z_arg_own, z_look_t, z_look_f, z_len_ref, z_len_scr, z_len_l, z_len_t, z_len_o, z_len_b, z_ix_ref, z_ix_scr, z_ix_l, z_ix_t, z_ix_o, z_ix_b, z_blt_len, z_blt_abs, z_blt_tup, z_blt_lst, z_blt_sum, z_blt_all, z_blt_any, z_blt_min, z_blt_max, z_blt_sorted, z_blt_repr, z_blt_str, z_blt_int, z_blt_divmod, z_d_abs, z_d_tupl, z_d_tupt, z_d_lstl, z_d_lstt, z_d_sum, z_d_all, z_d_any, z_d_minl, z_d_maxl, z_d_min, z_d_max, z_d_sorted, z_d_divmod, z_d_int, z_d_repr, z_d_str, z_bin_i, z_bin_ll, z_bin_tt, z_bin_rep, z_add, z_sub, z_mul, z_fdiv, z_mod, z_eq, z_ne, z_lt, z_le, z_gt, z_ge, z_inl, z_int, z_ninl, z_nint, z_isi_int_none, z_isi_int_bool, z_isi_int_int, z_isi_int_str, z_isi_int_list, z_isi_int_tuple, z_isi_bool_none, z_isi_bool_bool, z_isi_bool_int, z_isi_bool_str, z_isi_bool_list, z_isi_bool_tuple, z_isi_str_none, z_isi_str_bool, z_isi_str_int, z_isi_str_str, z_isi_str_list, z_isi_str_tuple, z_isi_list_none, z_isi_list_bool, z_isi_list_int, z_isi_list_str, z_isi_list_list, z_isi_list_tuple, z_isi_tuple_none, z_isi_tuple_bool, z_isi_tuple_int, z_isi_tuple_str, z_isi_tuple_list, z_isi_tuple_tuple, z_out_rt, z_out_nx, z_eqi, z_eqb, z_rng1, z_rng2, z_si_l, z_si_t, z_bind_nm, z_bind_tt, z_bind_tl, z_binds_n, z_binds_c, z_sl_l, z_sl_t, z_at0, z_at1, z_at2, z_at3, z_ixN0, z_intsn, z_intsc, z_boolsn, z_boolsc, ep, hc], .dat (Pt2.v p), Pt2.v p, by simp only [↓reduceIte, Bool.not_true, Bool.not_false, decide_true, decide_false, wipeE, Bool.false_eq_true, y_e_c, y_e_v, y_e_g, y_e_never, y_e_bin, y_e_neg, y_e_tst, y_e_ite, y_e_tup, y_e_lst, y_e_box, y_e_ix, y_e_sl, y_e_rev, y_e_call, y_e_blt, y_e_isi, y_e_lc, y_es_nil, y_es_cons, y_o_no, y_o_yes, y_t_val, y_t_cmp, y_t_chn, y_t_isnt, y_t_isnf, z_nnr_dat, z_nnr_own, z_nnr_brw, z_nn_none, z_nn_bool, z_nn_int, z_nn_str, z_nn_list, z_nn_tuple, y_t_isb, y_t_and, y_t_or, y_t_not, y_h_last, y_h_link, y_al_one, y_al_cons, y_an_one, y_an_cons, y_c_no, y_c_yes, y_i_seq, y_i_rng, y_i_zip, y_i_enum, y_s_never, y_s_pass, y_s_asg, y_s_par, y_s_par3, y_s_setO, y_s_unp, y_s_setB, y_s_exp, y_s_app, y_s_ext, y_s_iff, y_s_whl, y_s_forr, y_s_ret, y_s_retv, y_s_frz, y_ss_nil, y_ss_cons, argsOf, views, caps, Option.map_some, Option.map_none, Option.bind_some, Option.bind_none, List.getElem?_cons_zero, List.getElem?_cons_succ, List.set_cons_zero, List.set_cons_succ, List.length_cons, List.length_nil, z_read_dat, z_read_ref, z_read_scr, z_read_own, z_view_own, z_view_brw, z_view_dat, z_cap_dat, z_cap_own, z_hold_dat, z_hold_ref, z_hold_scr, z_hold_own, z_arg_dat, z_arg_ref, z_arg_scr, z_arg_own, z_look_t, z_look_f, z_len_ref, z_len_scr, z_len_l, z_len_t, z_len_o, z_len_b, z_ix_ref, z_ix_scr, z_ix_l, z_ix_t, z_ix_o, z_ix_b, z_blt_len, z_blt_abs, z_blt_tup, z_blt_lst, z_blt_sum, z_blt_all, z_blt_any, z_blt_min, z_blt_max, z_blt_sorted, z_blt_repr, z_blt_str, z_blt_int, z_blt_divmod, z_d_abs, z_d_tupl, z_d_tupt, z_d_lstl, z_d_lstt, z_d_sum, z_d_all, z_d_any, z_d_minl, z_d_maxl, z_d_min, z_d_max, z_d_sorted, z_d_divmod, z_d_int, z_d_repr, z_d_str, z_bin_i, z_bin_ll, z_bin_tt, z_bin_rep, z_add, z_sub, z_mul, z_fdiv, z_mod, z_eq, z_ne, z_lt, z_le, z_gt, z_ge, z_inl, z_int, z_ninl, z_nint, z_isi_int_none, z_isi_int_bool, z_isi_int_int, z_isi_int_str, z_isi_int_list, z_isi_int_tuple, z_isi_bool_none, z_isi_bool_bool, z_isi_bool_int, z_isi_bool_str, z_isi_bool_list, z_isi_bool_tuple, z_isi_str_none, z_isi_str_bool, z_isi_str_int, z_isi_str_str, z_isi_str_list, z_isi_str_tuple, z_isi_list_none, z_isi_list_bool, z_isi_list_int, z_isi_list_str, z_isi_list_list, z_isi_list_tuple, z_isi_tuple_none, z_isi_tuple_bool, z_isi_tuple_int, z_isi_tuple_str, z_isi_tuple_list, z_isi_tuple_tuple, z_out_rt, z_out_nx, z_eqi, z_eqb, z_rng1, z_rng2, z_si_l, z_si_t, z_bind_nm, z_bind_tt, z_bind_tl, z_binds_n, z_binds_c, z_sl_l, z_sl_t, z_at0, z_at1, z_at2, z_at3, z_ixN0, z_intsn, z_intsc, z_boolsn, z_boolsc], rfl, if_pos hc⟩
    · exact .inl ⟨by simp (decide := true) only [↓reduceIte, Bool.not_true, Bool.not_false, decide_true, decide_false, wipeE, Bool.false_eq_true, y_e_c, y_e_v, y_e_g, y_e_never, y_e_bin, y_e_neg, y_e_tst, y_e_ite, y_e_tup, y_e_lst, y_e_box, y_e_ix, y_e_sl, y_e_rev, y_e_call, y_e_blt, y_e_isi, y_e_lc, y_es_nil, y_es_cons, y_o_no, y_o_yes, y_t_val, y_t_cmp, y_t_chn, y_t_isnt, y_t_isnf, z_nnr_dat, z_nnr_own, z_nnr_brw, z_nn_none, z_nn_bool, z_nn_int, z_nn_str, z_nn_list, z_nn_tuple, y_t_isb, y_t_and, y_t_or, y_t_not, y_h_last, y_h_link, y_al_one, y_al_cons, y_an_one, y_an_cons, y_c_no, y_c_yes, y_i_seq, y_i_rng, y_i_zip, y_i_enum, y_s_never, y_s_pass, y_s_asg, y_s_par, y_s_par3, y_s_setO, y_s_unp, y_s_setB, y_s_exp, y_s_app, y_s_ext, y_s_iff, y_s_whl, y_s_forr, y_s_ret, y_s_retv, y_s_frz, y_ss_nil, y_ss_cons, argsOf, views, caps, Option.map_some, Option.map_none, Option.bind_some, Option.bind_none, List.getElem?_cons_zero, List.getElem?_cons_succ, List.set_cons_zero, List.set_cons_succ, List.length_cons, List.length_nil, z_read_dat, z_read_ref, z_read_scr, z_read_own, z_view_own, z_view_brw, z_view_dat, z_cap_dat, z_cap_own, z_hold_dat, z_hold_ref, z_hold_scr, z_hold_own, z_arg_dat, z_arg_ref, z_arg_scr, z_arg_own, z_look_t, z_look_f, z_len_ref, z_len_scr, z_len_l, z_len_t, z_len_o, z_len_b, z_ix_ref, z_ix_scr, z_ix_l, z_ix_t, z_ix_o, z_ix_b, z_blt_len, z_blt_abs, z_blt_tup, z_blt_lst, z_blt_sum, z_blt_all, z_blt_any, z_blt_min, z_blt_max, z_blt_sorted, z_blt_repr, z_blt_str, z_blt_int, z_blt_divmod, z_d_abs, z_d_tupl, z_d_tupt, z_d_lstl, z_d_lstt, z_d_sum, z_d_all, z_d_any, z_d_minl, z_d_maxl, z_d_min, z_d_max, z_d_sorted, z_d_divmod, z_d_int, z_d_repr, z_d_str, z_bin_i, z_bin_ll, z_bin_tt, z_bin_rep, z_add, z_sub, z_mul, z_fdiv, z_mod, z_eq, z_ne, z_lt, z_le, z_gt, z_ge, z_inl, z_int, z_ninl, z_nint, z_isi_int_none, z_isi_int_bool, z_isi_int_int, z_isi_int_str, z_isi_int_list, z_isi_int_tuple, z_isi_bool_none, z_isi_bool_bool, z_isi_bool_int, z_isi_bool_str, z_isi_bool_list, z_isi_bool_tuple, z_isi_str_none, z_isi_str_bool, z_isi_str_int, z_isi_str_str, z_isi_str_list, z_isi_str_tuple, z_isi_list_none, z_isi_list_bool, z_isi_list_int, z_isi_list_str, z_isi_list_list, z_isi_list_tuple, z_isi_tuple_none, z_isi_tuple_bool, z_isi_tuple_int, z_isi_tuple_str, z_isi_tuple_list, z_isi_tuple_tuple, z_out_rt, z_out_nx, z_eqi, z_eqb, z_rng1, z_rng2, z_si_l, z_si_t, z_bind_nm, z_bind_tt, z_bind_tl, z_binds_n, z_binds_c, z_sl_l, z_sl_t, z_at0, z_at1, z_at2, z_at3, z_ixN0, z_intsn, z_intsc, z_boolsn, z_boolsc, ep, hc], if_neg hc⟩
  have hlen : ((sortD (pv l)).filterMap fun d => match d with | .tuple [.int a, .int b] => if nr (a, b) = N then some (PyData.tuple [.int a, .int b]) else none | _ => none).length = (l.filter fun p => decide (nr p = N)).length := by
    have hp : (sortD (pv l)).Perm (pv l) := List.mergeSort_perm _ _
    rw [(hp.filterMap _).length_eq, pts_filter (fun p => decide (nr p = N)) l _ (fun t _ => by
      show (if nr t = N then some (Pt2.v t) else none) = _
      by_cases q : nr t = N <;> simp [q])]
    unfold pv
    rw [List.length_map]
  simp (decide := true) only [b_many_of, ↓reduceIte, Bool.not_true, Bool.not_false, decide_true, decide_false, wipeE, Bool.false_eq_true, y_e_c, y_e_v, y_e_g, y_e_never, y_e_bin, y_e_neg, y_e_tst, y_e_ite, y_e_tup, y_e_lst, y_e_box, y_e_ix, y_e_sl, y_e_rev, y_e_call, y_e_blt, y_e_isi, y_e_lc, y_es_nil, y_es_cons, y_o_no, y_o_yes, y_t_val, y_t_cmp, y_t_chn, y_t_isnt, y_t_isnf, z_nnr_dat, z_nnr_own, z_nnr_brw, z_nn_none, z_nn_bool, z_nn_int, z_nn_str, z_nn_list, z_nn_tuple, y_t_isb, y_t_and, y_t_or, y_t_not, y_h_last, y_h_link, y_al_one, y_al_cons, y_an_one, y_an_cons, y_c_no, y_c_yes, y_i_seq, y_i_rng, y_i_zip, y_i_enum, y_s_never, y_s_pass, y_s_asg, y_s_par, y_s_par3, y_s_setO, y_s_unp, y_s_setB, y_s_exp, y_s_app, y_s_ext, y_s_iff, y_s_whl, y_s_forr, y_s_ret, y_s_retv, y_s_frz, y_ss_nil, y_ss_cons, argsOf, views, caps, Option.map_some, Option.map_none, Option.bind_some, Option.bind_none, List.getElem?_cons_zero, List.getElem?_cons_succ, List.set_cons_zero, List.set_cons_succ, List.length_cons, List.length_nil, z_read_dat, z_read_ref, z_read_scr, z_read_own, z_view_own, z_view_brw, z_view_dat, z_cap_dat, z_cap_own, z_hold_dat, z_hold_ref, z_hold_scr, z_hold_own, z_arg_dat, z_arg_ref, z_arg_scr, z_arg_own, z_look_t, z_look_f, z_len_ref, z_len_scr, z_len_l, z_len_t, z_len_o, z_len_b, z_ix_ref, z_ix_scr, z_ix_l, z_ix_t, z_ix_o, z_ix_b, z_blt_len, z_blt_abs, z_blt_tup, z_blt_lst, z_blt_sum, z_blt_all, z_blt_any, z_blt_min, z_blt_max, z_blt_sorted, z_blt_repr, z_blt_str, z_blt_int, z_blt_divmod, z_d_abs, z_d_tupl, z_d_tupt, z_d_lstl, z_d_lstt, z_d_sum, z_d_all, z_d_any, z_d_minl, z_d_maxl, z_d_min, z_d_max, z_d_sorted, z_d_divmod, z_d_int, z_d_repr, z_d_str, z_bin_i, z_bin_ll, z_bin_tt, z_bin_rep, z_add, z_sub, z_mul, z_fdiv, z_mod, z_eq, z_ne, z_lt, z_le, z_gt, z_ge, z_inl, z_int, z_ninl, z_nint, z_isi_int_none, z_isi_int_bool, z_isi_int_int, z_isi_int_str, z_isi_int_list, z_isi_int_tuple, z_isi_bool_none, z_isi_bool_bool, z_isi_bool_int, z_isi_bool_str, z_isi_bool_list, z_isi_bool_tuple, z_isi_str_none, z_isi_str_bool, z_isi_str_int, z_isi_str_str, z_isi_str_list, z_isi_str_tuple, z_isi_list_none, z_isi_list_bool, z_isi_list_int, z_isi_list_str, z_isi_list_list, z_isi_list_tuple, z_isi_tuple_none, z_isi_tuple_bool, z_isi_tuple_int, z_isi_tuple_str, z_isi_tuple_list, z_isi_tuple_tuple, z_out_rt, z_out_nx, z_eqi, z_eqb, z_rng1, z_rng2, z_si_l, z_si_t, z_bind_nm, z_bind_tt, z_bind_tl, z_binds_n, z_binds_c, z_sl_l, z_sl_t, z_at0, z_at1, z_at2, z_at3, z_ixN0, z_intsn, z_intsc, z_boolsn, z_boolsc, s_need_p (k + 1) x st h hn, s_need_length (k + 3) N st h0 h60, hq, hlen]

/-! sorted points, equality -/
def srtP (L : List Pt2) : List Pt2 := L.mergeSort fun p q => PySem.W.dataLe false id (Pt2.v p) (Pt2.v q)
theorem sort_pv (L : List Pt2) : sortD (pv L) = pv (srtP L) := by
  unfold sortD srtP pv
  exact (List.map_mergeSort (f := Pt2.v) (r := fun p q => PySem.W.dataLe false id (Pt2.v p) (Pt2.v q)) (s := PySem.W.dataLe false id) (l := L) fun a _ b _ => rfl).symm
theorem srtP_perm (L : List Pt2) : (srtP L).Perm L := List.mergeSort_perm _ _
theorem pv_inj : ∀ {L M : List Pt2}, pv L = pv M → L = M
  | [], [], _ => rfl
  | [], _ :: _, h => by cases h
  | _ :: _, [], h => by cases h
  | p :: L, q :: M, h => by
    have h' : Pt2.v p :: pv L = Pt2.v q :: pv M := h
    injection h' with h1 h2
    rw [Pt2.v_inj h1, pv_inj h2]
theorem srtP_eq {L M : List Pt2} (h : L.Perm M) : srtP L = srtP M := pv_inj (by rw [← sort_pv, ← sort_pv, sortD_perm h])
theorem srtP_mem {L : List Pt2} {p : Pt2} : p ∈ srtP L ↔ p ∈ L := (srtP_perm L).mem_iff
theorem eqv_v (p q : Pt2) : PyData.eqv (Pt2.v p) (Pt2.v q) = decide (p = q) := by
  show ((p.1 == q.1) && ((p.2 == q.2) && true)) = _
  rw [Bool.eq_iff_iff]
  simp only [Bool.and_eq_true, beq_iff_eq, decide_eq_true_eq, and_true]
  constructor
  · rintro ⟨h1, h2⟩; exact Prod.ext h1 h2
  · rintro rfl; exact ⟨rfl, rfl⟩
theorem nice_v (p : Pt2) : Nice 1 (Pt2.v p) := nice_tuple (n := 0) (fun e he => by
  rcases List.mem_cons.mp he with rfl | he
  · exact nice_int _
  · obtain rfl := List.mem_singleton.mp he
    exact nice_int _) (by simp)
theorem nice_pv (L : List Pt2) : Nice 2 (.list (pv L)) := by
  have h : ∀ d ∈ pv L, Nice 1 d := fun d hd => by
    obtain ⟨m, -, rfl⟩ := List.mem_map.mp hd
    exact nice_v m
  refine ⟨?_, ?_⟩
  · unfold PyData.canLay0
    exact canAll fun d hd => (h d hd).1
  · have := depthAll_le fun d hd => (h d hd).2
    unfold PyData.depth
    omega
theorem eqvAll_pv : ∀ L M : List Pt2, PyData.eqvAll (pv L) (pv M) = decide (L = M)
  | [], [] => rfl
  | [], _ :: _ => rfl
  | _ :: _, [] => rfl
  | p :: L, q :: M => by
    show (PyData.eqv (Pt2.v p) (Pt2.v q) && PyData.eqvAll (pv L) (pv M)) = _
    rw [eqv_v, eqvAll_pv L M]
    by_cases h : p = q <;> by_cases k : L = M <;> simp [h, k]
theorem eqD_pv (L M : List Pt2) : eqD (.list (pv L)) (.list (pv M)) = some (decide (L = M)) := by
  rw [eqD_of (nice_pv L) (nice_pv M) (by decide)]
  exact congrArg some (eqvAll_pv L M)
theorem eqD_v (p q : Pt2) : eqD (Pt2.v p) (Pt2.v q) = some (decide (p = q)) := by
  rw [eqD_of (nice_v p) (nice_v q) (by decide), eqv_v]
theorem inD_v (p : Pt2) (L : List Pt2) : inD (Pt2.v p) (pv L) = some (decide (p ∈ L)) := by
  have n1 := nice_v p
  have n2 := nice_pv L
  have s1 : SeqAt.shaped (Pt2.v p) = true := by unfold SeqAt.shaped; rw [n1.1, decide_eq_true (Nat.le_trans n1.2 (by decide))]; rfl
  have s2 : SeqAt.shaped (.list (pv L)) = true := by unfold SeqAt.shaped; rw [n2.1, decide_eq_true (Nat.le_trans n2.2 (by decide))]; rfl
  unfold inD
  rw [s1, s2]
  show some _ = _
  congr 1
  rw [Bool.eq_iff_iff, List.any_eq_true, decide_eq_true_eq]
  constructor
  · rintro ⟨d, hd, h⟩
    obtain ⟨n, hn, rfl⟩ := List.mem_map.mp hd
    rw [eqv_v] at h
    have := of_decide_eq_true h
    subst this
    exact hn
  · intro h
    exact ⟨Pt2.v p, List.mem_map.mpr ⟨p, h, rfl⟩, by rw [eqv_v]; exact decide_eq_true rfl⟩
def decP : PyData → Option Pt2
  | .tuple [.int a, .int b] => some (a, b)
  | _ => none
def Fp (c : Pt2 → Bool) (d : PyData) : Option PyData := match decP d with
  | some m => if c m then some d else none
  | none => none
theorem fp_v (c : Pt2 → Bool) (m : Pt2) : Fp c (Pt2.v m) = if c m then some (Pt2.v m) else none := rfl
theorem fp_filter (c : Pt2 → Bool) : ∀ l : List Pt2, (pv l).filterMap (Fp c) = pv (l.filter c)
  | [] => rfl
  | m :: l => by
    have ih := fp_filter c l
    show (Pt2.v m :: pv l).filterMap (Fp c) = _
    rw [List.filterMap_cons, fp_v, ih, List.filter_cons]
    cases c m <;> rfl

/-! product, numbers_of, reached -/
theorem s_is_point2 (k : Nat) (p : Pt2) (st : Bx) : callF tb (k + 3) "is_point" [.dat (Pt2.v p)] st = some (.dat (.bool true), st) := by
  have e1 := s_are_whole k [.int p.1, .int p.2] 2 st (by simp)
  have w1 : (decide ((([PyData.int p.1, PyData.int p.2].length : Nat) : Int) = 2) && [PyData.int p.1, PyData.int p.2].all isW) = true := rfl
  rw [w1] at e1
  have ep : Pt2.v p = .tuple [.int p.1, .int p.2] := rfl
  rw [c_is_point, ep]
  simp (decide := true) only [b_is_point, ↓reduceIte, Bool.not_true, Bool.not_false, decide_true, decide_false, wipeE, Bool.false_eq_true, y_e_c, y_e_v, y_e_g, y_e_never, y_e_bin, y_e_neg, y_e_tst, y_e_ite, y_e_tup, y_e_lst, y_e_box, y_e_ix, y_e_sl, y_e_rev, y_e_call, y_e_blt, y_e_isi, y_e_lc, y_es_nil, y_es_cons, y_o_no, y_o_yes, y_t_val, y_t_cmp, y_t_chn, y_t_isnt, y_t_isnf, z_nnr_dat, z_nnr_own, z_nnr_brw, z_nn_none, z_nn_bool, z_nn_int, z_nn_str, z_nn_list, z_nn_tuple, y_t_isb, y_t_and, y_t_or, y_t_not, y_h_last, y_h_link, y_al_one, y_al_cons, y_an_one, y_an_cons, y_c_no, y_c_yes, y_i_seq, y_i_rng, y_i_zip, y_i_enum, y_s_never, y_s_pass, y_s_asg, y_s_par, y_s_par3, y_s_setO, y_s_unp, y_s_setB, y_s_exp, y_s_app, y_s_ext, y_s_iff, y_s_whl, y_s_forr, y_s_ret, y_s_retv, y_s_frz, y_ss_nil, y_ss_cons, argsOf, views, caps, Option.map_some, Option.map_none, Option.bind_some, Option.bind_none, List.getElem?_cons_zero, List.getElem?_cons_succ, List.set_cons_zero, List.set_cons_succ, List.length_cons, List.length_nil, z_read_dat, z_read_ref, z_read_scr, z_read_own, z_view_own, z_view_brw, z_view_dat, z_cap_dat, z_cap_own, z_hold_dat, z_hold_ref, z_hold_scr, z_hold_own, z_arg_dat, z_arg_ref, z_arg_scr, z_arg_own, z_look_t, z_look_f, z_len_ref, z_len_scr, z_len_l, z_len_t, z_len_o, z_len_b, z_ix_ref, z_ix_scr, z_ix_l, z_ix_t, z_ix_o, z_ix_b, z_blt_len, z_blt_abs, z_blt_tup, z_blt_lst, z_blt_sum, z_blt_all, z_blt_any, z_blt_min, z_blt_max, z_blt_sorted, z_blt_repr, z_blt_str, z_blt_int, z_blt_divmod, z_d_abs, z_d_tupl, z_d_tupt, z_d_lstl, z_d_lstt, z_d_sum, z_d_all, z_d_any, z_d_minl, z_d_maxl, z_d_min, z_d_max, z_d_sorted, z_d_divmod, z_d_int, z_d_repr, z_d_str, z_bin_i, z_bin_ll, z_bin_tt, z_bin_rep, z_add, z_sub, z_mul, z_fdiv, z_mod, z_eq, z_ne, z_lt, z_le, z_gt, z_ge, z_inl, z_int, z_ninl, z_nint, z_isi_int_none, z_isi_int_bool, z_isi_int_int, z_isi_int_str, z_isi_int_list, z_isi_int_tuple, z_isi_bool_none, z_isi_bool_bool, z_isi_bool_int, z_isi_bool_str, z_isi_bool_list, z_isi_bool_tuple, z_isi_str_none, z_isi_str_bool, z_isi_str_int, z_isi_str_str, z_isi_str_list, z_isi_str_tuple, z_isi_list_none, z_isi_list_bool, z_isi_list_int, z_isi_list_str, z_isi_list_list, z_isi_list_tuple, z_isi_tuple_none, z_isi_tuple_bool, z_isi_tuple_int, z_isi_tuple_str, z_isi_tuple_list, z_isi_tuple_tuple, z_out_rt, z_out_nx, z_eqi, z_eqb, z_rng1, z_rng2, z_si_l, z_si_t, z_bind_nm, z_bind_tt, z_bind_tl, z_binds_n, z_binds_c, z_sl_l, z_sl_t, z_at0, z_at1, z_at2, z_at3, z_ixN0, z_intsn, z_intsc, z_boolsn, z_boolsc, e1]
theorem s_product (k : Nat) (p q : Pt2) (st : Bx) (h1 : Bd 2000 p.1) (h2 : Bd 2000 p.2) (h3 : Bd 2000 q.1) (h4 : Bd 2000 q.2) : callF tb (k + 4) "product" [.dat (Pt2.v p), .dat (Pt2.v q)] st = some (.dat (.int (p.1 * q.1 + p.2 * q.2)), st) := by
  have e1 := s_is_point2 k p st
  have e2 := s_is_point2 k q st
  have e3 : callF tb (k + 3) "product_of" [.dat (Pt2.v p), .dat (Pt2.v q)] st = some (.dat (.int (p.1 * q.1 + p.2 * q.2)), st) := s_prod (k + 2) p.1 p.2 q.1 q.2 st h1 h2 h3 h4
  have l2 : ∀ q : Pt2, lenR (.dat (Pt2.v q)) st = some (.dat (.int 2)) := fun q => rfl
  rw [c_product]
  simp (decide := true) only [b_product, ↓reduceIte, Bool.not_true, Bool.not_false, decide_true, decide_false, wipeE, Bool.false_eq_true, y_e_c, y_e_v, y_e_g, y_e_never, y_e_bin, y_e_neg, y_e_tst, y_e_ite, y_e_tup, y_e_lst, y_e_box, y_e_ix, y_e_sl, y_e_rev, y_e_call, y_e_blt, y_e_isi, y_e_lc, y_es_nil, y_es_cons, y_o_no, y_o_yes, y_t_val, y_t_cmp, y_t_chn, y_t_isnt, y_t_isnf, z_nnr_dat, z_nnr_own, z_nnr_brw, z_nn_none, z_nn_bool, z_nn_int, z_nn_str, z_nn_list, z_nn_tuple, y_t_isb, y_t_and, y_t_or, y_t_not, y_h_last, y_h_link, y_al_one, y_al_cons, y_an_one, y_an_cons, y_c_no, y_c_yes, y_i_seq, y_i_rng, y_i_zip, y_i_enum, y_s_never, y_s_pass, y_s_asg, y_s_par, y_s_par3, y_s_setO, y_s_unp, y_s_setB, y_s_exp, y_s_app, y_s_ext, y_s_iff, y_s_whl, y_s_forr, y_s_ret, y_s_retv, y_s_frz, y_ss_nil, y_ss_cons, argsOf, views, caps, Option.map_some, Option.map_none, Option.bind_some, Option.bind_none, List.getElem?_cons_zero, List.getElem?_cons_succ, List.set_cons_zero, List.set_cons_succ, List.length_cons, List.length_nil, z_read_dat, z_read_ref, z_read_scr, z_read_own, z_view_own, z_view_brw, z_view_dat, z_cap_dat, z_cap_own, z_hold_dat, z_hold_ref, z_hold_scr, z_hold_own, z_arg_dat, z_arg_ref, z_arg_scr, z_arg_own, z_look_t, z_look_f, z_len_ref, z_len_scr, z_len_l, z_len_t, z_len_o, z_len_b, z_ix_ref, z_ix_scr, z_ix_l, z_ix_t, z_ix_o, z_ix_b, z_blt_len, z_blt_abs, z_blt_tup, z_blt_lst, z_blt_sum, z_blt_all, z_blt_any, z_blt_min, z_blt_max, z_blt_sorted, z_blt_repr, z_blt_str, z_blt_int, z_blt_divmod, z_d_abs, z_d_tupl, z_d_tupt, z_d_lstl, z_d_lstt, z_d_sum, z_d_all, z_d_any, z_d_minl, z_d_maxl, z_d_min, z_d_max, z_d_sorted, z_d_divmod, z_d_int, z_d_repr, z_d_str, z_bin_i, z_bin_ll, z_bin_tt, z_bin_rep, z_add, z_sub, z_mul, z_fdiv, z_mod, z_eq, z_ne, z_lt, z_le, z_gt, z_ge, z_inl, z_int, z_ninl, z_nint, z_isi_int_none, z_isi_int_bool, z_isi_int_int, z_isi_int_str, z_isi_int_list, z_isi_int_tuple, z_isi_bool_none, z_isi_bool_bool, z_isi_bool_int, z_isi_bool_str, z_isi_bool_list, z_isi_bool_tuple, z_isi_str_none, z_isi_str_bool, z_isi_str_int, z_isi_str_str, z_isi_str_list, z_isi_str_tuple, z_isi_list_none, z_isi_list_bool, z_isi_list_int, z_isi_list_str, z_isi_list_list, z_isi_list_tuple, z_isi_tuple_none, z_isi_tuple_bool, z_isi_tuple_int, z_isi_tuple_str, z_isi_tuple_list, z_isi_tuple_tuple, z_out_rt, z_out_nx, z_eqi, z_eqb, z_rng1, z_rng2, z_si_l, z_si_t, z_bind_nm, z_bind_tt, z_bind_tl, z_binds_n, z_binds_c, z_sl_l, z_sl_t, z_at0, z_at1, z_at2, z_at3, z_ixN0, z_intsn, z_intsc, z_boolsn, z_boolsc, e1, e2, e3, l2]

/-! points up to a length, as a sorted list -/
theorem nd1 (p : Pt2) : [p].Nodup := by simp
theorem srtP_idem (L : List Pt2) : srtP (srtP L) = srtP L := srtP_eq (srtP_perm L)
theorem srtP_nodup {L : List Pt2} (h : L.Nodup) : (srtP L).Nodup := (srtP_perm L).nodup_iff.mpr h
theorem Gq_uni {x y : Qd} (hn : x.det ≠ 0) (hu : Uni x.a x.b x.c x.d y.a y.b y.c y.d) (p : Pt2) : Gq x p = Gq y p := by
  rw [Bool.eq_iff_iff, Gq_iff hn hu, Gq_iff (Qd.uni_det hu hn) (Uni.refl _ _ _ _)]
/-! points up to a length -/
theorem Up.uni {x y : Qd} (hn : x.det ≠ 0) (hu : Uni x.a x.b x.c x.d y.a y.b y.c y.d) {N : Int} {l : List Pt2} (h : Up y N l) : Up x N l := ⟨h.nd, fun p => by rw [h.mem, Gq_uni hn hu]⟩
theorem Up.srt {x : Qd} {N : Int} {l : List Pt2} (h : Up x N l) : Up x N (srtP l) := ⟨srtP_nodup h.nd, fun p => by rw [srtP_mem, h.mem]⟩
theorem Up.cnt {x : Qd} {N : Int} {l m : List Pt2} (h : Up x N l) (k : Up x N m) (c : Pt2 → Bool) : (l.filter c).length = (m.filter c).length := ((h.perm k).filter _).length_eq
theorem s_up_s (k : Nat) (x : Qd) (N : Int) (st : Bx) (h : x.Bdd) (hn : x.det ≠ 0) (h0 : 0 ≤ N) (h60 : N ≤ 60) :
    ∃ l, Up x N l ∧ srtP l = l ∧ l.length ≤ 1000 ∧ callF tb (k + 6) "up_to" [.dat x.p, .dat (.int N)] st = some (.own (pv l), st) := by
  obtain ⟨l, h1, h2, e⟩ := s_up_to k x N st h hn h0 h60
  rw [sort_pv] at e
  exact ⟨srtP l, h1.srt, srtP_idem l, by rw [(srtP_perm l).length_eq]; exact h2, e⟩
theorem Up.eq {x : Qd} {N : Int} {l m : List Pt2} (h : Up x N l) (k : Up x N m) (hl : srtP l = l) (hm : srtP m = m) : l = m := by
  rw [← hl, ← hm]; exact srtP_eq (h.perm k)
theorem nr_zero {p : Pt2} (h : nr p = 0) : p = (0, 0) := by
  have h1 := sq_nn p.1
  have h2 := sq_nn p.2
  unfold nr at h
  have q1 := sq_lt (r := 1) (by decide) (x := p.1) (by omega)
  have q2 := sq_lt (r := 1) (by decide) (x := p.2) (by omega)
  exact Prod.ext (by dsimp only; omega) (by dsimp only; omega)
theorem Gq_zero {x : Qd} (hn : x.det ≠ 0) : Gq x (0, 0) = true := (Gq_iff hn (Uni.refl _ _ _ _) _).mpr ⟨0, 0, by unfold Qd.at; simp⟩
theorem Up.zero {x : Qd} (hn : x.det ≠ 0) {l : List Pt2} {N : Int} (h : Up x N l) (h0 : 0 ≤ N) : (0, 0) ∈ l := (h.mem _).mpr ⟨Gq_zero hn, by unfold nr; simpa using h0⟩
theorem Up.one {x : Qd} (hn : x.det ≠ 0) {l : List Pt2} (h : Up x 0 l) : (l.filter fun p => decide (nr p = 0)).length = 1 := by
  have hp : (l.filter fun p => decide (nr p = 0)).Perm [(0, 0)] := (List.perm_ext_iff_of_nodup (h.nd.filter _) (nd1 _)).mpr fun p => by
    rw [List.mem_filter, List.mem_singleton, decide_eq_true_iff]
    constructor
    · exact fun q => nr_zero q.2
    · rintro rfl; exact ⟨h.zero hn (by decide), by decide⟩
  rw [hp.length_eq]; rfl

/-! all shapes of a room -/
def hs (N f b : Int) : List PyData := if f ≤ (N + b * b) / f ∧ f * ((N + b * b) / f) - b * b = N then [(PyData.tuple [PyData.int (f), PyData.int ((N + b * b) / f), PyData.int (b)])] else []
def Hf (N f : Int) : List PyData := fm (hs N f) 0 (f / 2 + 1).toNat
def Qs (N : Int) : List PyData := fm (Hf N) 1 17
theorem hs_len (N f b : Int) : (hs N f b).length ≤ 1 := by
  unfold hs
  split <;> simp
theorem fm_len2 {α : Type} {f : Int → List α} {lo : Int} {B : Nat} : ∀ n : Nat, (∀ k : Nat, k < n → (f (lo + k)).length ≤ B) → (fm f lo n).length ≤ n * B
  | 0, _ => Nat.zero_le _
  | n + 1, h => by
    have := fm_len2 (lo := lo) n fun k hk => h k (by omega)
    have := h n (by omega)
    rw [fm_succ, List.length_append, Nat.succ_mul]
    omega
theorem hs_bound {N f b : Int} (hf : 1 ≤ f) (hb : 0 ≤ b) (hb2 : b ≤ f / 2) (hN : 1 ≤ N) (h1 : f ≤ (N + b * b) / f) (h2 : f * ((N + b * b) / f) - b * b = N) : (N + b * b) / f ≤ N ∧ 3 * (f * f) ≤ 4 * N := by
  generalize (N + b * b) / f = l at *
  have q1 : (2 * b) * (2 * b) ≤ f * f := Int.mul_le_mul (by omega) (by omega) (by omega) (by omega)
  have q2 : f * f ≤ f * l := Int.mul_le_mul_of_nonneg_left h1 (by omega)
  have q3 : (2 * b) * (2 * b) = 4 * (b * b) := by grind
  refine ⟨?_, by omega⟩
  by_cases hf1 : f = 1
  · subst hf1
    have : b = 0 := by omega
    subst this
    omega
  · have q4 : 2 * l ≤ f * l := Int.mul_le_mul_of_nonneg_right (by omega) (by omega)
    omega
/-- the law goes through all last numbers -/
theorem hs_law {N f b : Int} (hf : 1 ≤ f) (hb : 0 ≤ b) (hb2 : b ≤ f / 2) (hN : 1 ≤ N) : fm (fun l => if f * l - b * b = N then [(PyData.tuple [PyData.int (f), PyData.int (l), PyData.int (b)])] else []) f (N + 1 - f).toNat = hs N f b := by
  have uniq : ∀ z, f * z - b * b = N → z = (N + b * b) / f := fun z hz => by
    rw [show N + b * b = f * z by omega, Int.mul_ediv_cancel_left _ (by omega)]
  by_cases h : f ≤ (N + b * b) / f ∧ f * ((N + b * b) / f) - b * b = N
  · obtain ⟨l1, l2⟩ := hs_bound hf hb hb2 hN h.1 h.2
    rw [← fm_ext (lo := (N + b * b) / f) (n := 1) (fun z hz => ?_) h.1 (by omega)]
    · unfold hs
      rw [if_pos h, fm_succ, fm_zero]
      simp only [List.nil_append, Int.natCast_zero, Int.add_zero, Int.cast_ofNat_Int, h.2, if_true]
    · by_cases e : f * z - b * b = N
      · have := uniq z e; omega
      · simp only [e, if_false] at hz; exact absurd rfl hz
  · unfold hs
    rw [if_neg h]
    refine fm_nil fun k hk => if_neg fun e => h ?_
    have := uniq _ e
    rw [← this]
    exact ⟨by omega, e⟩
theorem Hf_len {N : Int} (j : Nat) (hj : j < 17) : (Hf N (1 + j)).length ≤ 9 := by
  have := fm_len (lo := 0) (hs_len N (1 + (j : Int))) ((1 + (j : Int)) / 2 + 1).toNat
  unfold Hf
  omega
theorem Qs_part {N : Int} (hN : 1 ≤ N) {j : Nat} (hj : j ≤ 17) (h : 4 * N < 3 * ((1 + (j : Int)) * (1 + (j : Int)))) : fm (Hf N) 1 j = Qs N := by
  unfold Qs
  rw [show 17 = j + (17 - j) by omega, fm_add, fm_nil (n := 17 - j), List.append_nil]
  intro i hi
  unfold Hf
  refine fm_nil fun b hb => if_neg fun e => ?_
  have := (hs_bound (N := N) (f := 1 + (j : Int) + i) (b := 0 + (b : Int)) (by omega) (by omega) (by omega) hN e.1 e.2).2
  have q := Int.mul_le_mul (show 1 + (j : Int) ≤ 1 + (j : Int) + i by omega) (show 1 + (j : Int) ≤ 1 + (j : Int) + i by omega) (by omega) (by omega)
  omega
/-- what stands in the list -/
theorem Qs_mem {N : Int} (hN : 1 ≤ N) (hN2 : N ≤ 200) {d : PyData} (h : d ∈ Qs N) : ∃ f l b : Int, d = (PyData.tuple [PyData.int (f), PyData.int (l), PyData.int (b)]) ∧ 1 ≤ f ∧ f ≤ 17 ∧ 0 ≤ 2 * b ∧ 2 * b ≤ f ∧ f ≤ l ∧ l ≤ 200 := by
  obtain ⟨i, hi, h⟩ := fm_mem.mp h
  obtain ⟨j, hj, h⟩ := fm_mem.mp h
  unfold hs at h
  split at h
  · rename_i e
    obtain rfl := List.mem_singleton.mp h
    have := hs_bound (N := N) (f := 1 + (i : Int)) (b := 0 + (j : Int)) (by omega) (by omega) (by omega) hN e.1 e.2
    exact ⟨_, _, _, rfl, by omega, by omega, by omega, by omega, e.1, by omega⟩
  · cases h
theorem Qs_len (N : Int) : (Qs N).length ≤ 153 := fm_len2 (B := 9) 17 fun k hk => Hf_len k hk
def turn3 : PyData → Option PyData
  | .tuple [x, y, z] => some (.tuple [x, z, y])
  | _ => none
def Rs (N : Int) : List PyData := (sortD (Qs N)).filterMap turn3
theorem Qs_sort {N : Int} (hN : 1 ≤ N) (hN2 : N ≤ 200) : sortOk (Qs N) = true := by
  have hall : ∀ d ∈ Qs N, ∃ f l b : Int, d = (PyData.tuple [PyData.int (f), PyData.int (l), PyData.int (b)]) := fun d hd => by
    obtain ⟨f, l, b, e, -⟩ := Qs_mem hN hN2 hd
    exact ⟨f, l, b, e⟩
  have hf : fitsL (Qs N).length = true := fitsL_s (Nat.le_trans (Qs_len N) (by decide))
  unfold sortOk
  simp only [Bool.and_eq_true, Bool.or_eq_true, List.all_eq_true]
  refine ⟨⟨⟨fun d hd e he => ?_, .inl fun d hd => ?_⟩, hf⟩, fun d hd => ?_⟩
  · obtain ⟨f, l, b, rfl⟩ := hall d hd
    obtain ⟨f', l', b', rfl⟩ := hall e he
    rfl
  · obtain ⟨f, l, b, rfl⟩ := hall d hd
    rfl
  · obtain ⟨f, l, b, rfl⟩ := hall d hd
    simp [PyData.depth, PyData.depthAll]
theorem Rs_mem {N : Int} (hN : 1 ≤ N) (hN2 : N ≤ 200) {d : PyData} (h : d ∈ Rs N) : ∃ f b l : Int, d = (PyData.tuple [PyData.int (f), PyData.int (b), PyData.int (l)]) ∧ 1 ≤ f ∧ f ≤ 17 ∧ 0 ≤ 2 * b ∧ 2 * b ≤ f ∧ f ≤ l ∧ l ≤ 200 := by
  obtain ⟨e, he, ht⟩ := List.mem_filterMap.mp h
  obtain ⟨f, l, b, rfl, q⟩ := Qs_mem hN hN2 (sort_mem he)
  cases ht
  exact ⟨f, b, l, rfl, q⟩
theorem Rs_len (N : Int) : (Rs N).length ≤ 153 := Nat.le_trans (List.length_filterMap_le _ _) (by rw [sort_len]; exact Qs_len N)
theorem sub_repr {N : Int} (hN : 1 ≤ N) (hN2 : N ≤ 200) {ds : List PyData} (h : ∀ d ∈ ds, d ∈ Rs N) (hl : ds.length ≤ 1000) : reprOk (.list ds) = true := by
  refine reprOk_of (shw_list_le (w := (1901 + 2) * 3 + 3) (n := 1) (m := 1000) (fun d hd => ?_) hl) (by decide) (by decide)
  obtain ⟨f, b, l, rfl, h1, h2, h3, h4, h5, h6⟩ := Rs_mem hN hN2 (h d hd)
  exact shw_t3 (shw_int (bd_s (by omega) (by omega)) (by decide)) (shw_int (bd_s (by omega) (by omega)) (by decide)) (shw_int (bd_s (by omega) (by omega)) (by decide))

/-! parts_of -/
structure Pr where
  a : Int
  b : Int
  c : Int
  d : Int
structure Pr.Ok (x : Pr) : Prop where
  a : Bd 60 x.a
  b : Bd 60 x.b
  c : Bd 60 x.c
  d : Bd 60 x.d
  n : x.a * x.d - x.b * x.c ≠ 0
/-- the part by across, up, down -/
noncomputable def part (x : Pr) (i u e : Int) : PyData := flatD (i * x.a + u * x.c) (i * x.b + u * x.d) (0 * x.a + e * x.c) (0 * x.b + e * x.d)
theorem part_facts {x : Pr} (h : x.Ok) {i u e : Int} (hi : 1 ≤ i ∧ i ≤ 12) (hu : 0 ≤ u ∧ u ≤ 12) (he : 1 ≤ e ∧ e ≤ 12) :
    Bd 130 (i * x.a + u * x.c) ∧ Bd 130 (i * x.b + u * x.d) ∧ Bd 130 (0 * x.a + e * x.c) ∧ Bd 130 (0 * x.b + e * x.d) ∧ (i * x.a + u * x.c) * (0 * x.b + e * x.d) - (i * x.b + u * x.d) * (0 * x.a + e * x.c) ≠ 0 := by
  have b1 : Bd 60 i := bd_s (by omega) (by omega)
  have b2 : Bd 60 u := bd_s (by omega) (by omega)
  have b3 : Bd 60 e := bd_s (by omega) (by omega)
  have b0 : Bd 60 0 := bd_s (by decide) (by decide)
  refine ⟨(bd_add (bd_mul b1 h.a) (bd_mul b2 h.c)).mono (by decide), (bd_add (bd_mul b1 h.b) (bd_mul b2 h.d)).mono (by decide), (bd_add (bd_mul b0 h.a) (bd_mul b3 h.c)).mono (by decide), (bd_add (bd_mul b0 h.b) (bd_mul b3 h.d)).mono (by decide), ?_⟩
  have e1 : (i * x.a + u * x.c) * (0 * x.b + e * x.d) - (i * x.b + u * x.d) * (0 * x.a + e * x.c) = (i * e) * (x.a * x.d - x.b * x.c) := by grind
  rw [e1]
  intro hz
  rcases Int.mul_eq_zero.mp hz with hz | hz
  · rcases Int.mul_eq_zero.mp hz with hz | hz <;> omega
  · exact h.n hz
theorem part_ok {x : Pr} (h : x.Ok) {i u e : Int} (hi : 1 ≤ i ∧ i ≤ 12) (hu : 0 ≤ u ∧ u ≤ 12) (he : 1 ≤ e ∧ e ≤ 12) : FlatOk (part x i u e) := by
  obtain ⟨h1, h2, h3, h4, h5⟩ := part_facts h hi hu he
  exact flatD_ok h1 h2 h3 h4 h5
theorem s_part (k : Nat) (x : Pr) (i u e : Int) (st : Bx) (h : x.Ok) (hi : 1 ≤ i ∧ i ≤ 12) (hu : 0 ≤ u ∧ u ≤ 12) (he : 1 ≤ e ∧ e ≤ 12) :
    ∃ t, callF tb (k + 2) "by_matrix" [.dat (PyData.tuple [PyData.tuple [PyData.int (x.a), PyData.int (x.b)], PyData.tuple [PyData.int (x.c), PyData.int (x.d)]]), .dat (PyData.tuple [PyData.tuple [PyData.int (i), PyData.int (u)], PyData.tuple [PyData.int (0), PyData.int (e)]])] st = some (.dat t, st) ∧ callF tb (k + 2) "flat_by" [.dat t] st = some (.dat (part x i u e), st) := by
  obtain ⟨h1, h2, h3, h4, h5⟩ := part_facts h hi hu he
  have q : ∀ {z : Int}, Bd 60 z → Bd 1000 z := fun h => h.mono (by decide)
  have b1 : Bd 1000 i := bd1000 (by omega) (by omega)
  have b2 : Bd 1000 u := bd1000 (by omega) (by omega)
  have b3 : Bd 1000 e := bd1000 (by omega) (by omega)
  have b0 : Bd 1000 0 := bd1000 (by decide) (by decide)
  have e1 := s_sum_of2 k x.a x.b x.c x.d i u st (q h.a) (q h.b) (q h.c) (q h.d) b1 b2
  have e2 := s_sum_of2 k x.a x.b x.c x.d 0 e st (q h.a) (q h.b) (q h.c) (q h.d) b0 b3
  have f2 : fitsL 2 = true := by decide
  refine ⟨(PyData.tuple [PyData.tuple [PyData.int (i * x.a + u * x.c), PyData.int (i * x.b + u * x.d)], PyData.tuple [PyData.int (0 * x.a + e * x.c), PyData.int (0 * x.b + e * x.d)]]), ?_, s_flat_byD k _ _ _ _ st h1 h2 h3 h4 h5⟩
  rw [c_by_matrix]
  simp (decide := true) only [b_by_matrix, ↓reduceIte, Bool.not_true, Bool.not_false, decide_true, decide_false, wipeE, Bool.false_eq_true, y_e_c, y_e_v, y_e_g, y_e_never, y_e_bin, y_e_neg, y_e_tst, y_e_ite, y_e_tup, y_e_lst, y_e_box, y_e_ix, y_e_sl, y_e_rev, y_e_call, y_e_blt, y_e_isi, y_e_lc, y_es_nil, y_es_cons, y_o_no, y_o_yes, y_t_val, y_t_cmp, y_t_chn, y_t_isnt, y_t_isnf, z_nnr_dat, z_nnr_own, z_nnr_brw, z_nn_none, z_nn_bool, z_nn_int, z_nn_str, z_nn_list, z_nn_tuple, y_t_isb, y_t_and, y_t_or, y_t_not, y_h_last, y_h_link, y_al_one, y_al_cons, y_an_one, y_an_cons, y_c_no, y_c_yes, y_i_seq, y_i_rng, y_i_zip, y_i_enum, y_s_never, y_s_pass, y_s_asg, y_s_par, y_s_par3, y_s_setO, y_s_unp, y_s_setB, y_s_exp, y_s_app, y_s_ext, y_s_iff, y_s_whl, y_s_forr, y_s_ret, y_s_retv, y_s_frz, y_ss_nil, y_ss_cons, argsOf, views, caps, Option.map_some, Option.map_none, Option.bind_some, Option.bind_none, List.getElem?_cons_zero, List.getElem?_cons_succ, List.set_cons_zero, List.set_cons_succ, List.length_cons, List.length_nil, z_read_dat, z_read_ref, z_read_scr, z_read_own, z_view_own, z_view_brw, z_view_dat, z_cap_dat, z_cap_own, z_hold_dat, z_hold_ref, z_hold_scr, z_hold_own, z_arg_dat, z_arg_ref, z_arg_scr, z_arg_own, z_look_t, z_look_f, z_len_ref, z_len_scr, z_len_l, z_len_t, z_len_o, z_len_b, z_ix_ref, z_ix_scr, z_ix_l, z_ix_t, z_ix_o, z_ix_b, z_blt_len, z_blt_abs, z_blt_tup, z_blt_lst, z_blt_sum, z_blt_all, z_blt_any, z_blt_min, z_blt_max, z_blt_sorted, z_blt_repr, z_blt_str, z_blt_int, z_blt_divmod, z_d_abs, z_d_tupl, z_d_tupt, z_d_lstl, z_d_lstt, z_d_sum, z_d_all, z_d_any, z_d_minl, z_d_maxl, z_d_min, z_d_max, z_d_sorted, z_d_divmod, z_d_int, z_d_repr, z_d_str, z_bin_i, z_bin_ll, z_bin_tt, z_bin_rep, z_add, z_sub, z_mul, z_fdiv, z_mod, z_eq, z_ne, z_lt, z_le, z_gt, z_ge, z_inl, z_int, z_ninl, z_nint, z_isi_int_none, z_isi_int_bool, z_isi_int_int, z_isi_int_str, z_isi_int_list, z_isi_int_tuple, z_isi_bool_none, z_isi_bool_bool, z_isi_bool_int, z_isi_bool_str, z_isi_bool_list, z_isi_bool_tuple, z_isi_str_none, z_isi_str_bool, z_isi_str_int, z_isi_str_str, z_isi_str_list, z_isi_str_tuple, z_isi_list_none, z_isi_list_bool, z_isi_list_int, z_isi_list_str, z_isi_list_list, z_isi_list_tuple, z_isi_tuple_none, z_isi_tuple_bool, z_isi_tuple_int, z_isi_tuple_str, z_isi_tuple_list, z_isi_tuple_tuple, z_out_rt, z_out_nx, z_eqi, z_eqb, z_rng1, z_rng2, z_si_l, z_si_t, z_bind_nm, z_bind_tt, z_bind_tl, z_binds_n, z_binds_c, z_sl_l, z_sl_t, z_at0, z_at1, z_at2, z_at3, z_ixN0, z_intsn, z_intsc, z_boolsn, z_boolsc, e1, e2, f2]
/-- all of one across -/
noncomputable def pf (x : Pr) (i e u : Int) : List PyData := [part x i u e]
noncomputable def Pf (x : Pr) (N i : Int) : List PyData := if N % i = 0 then fm (pf x i (N / i)) 0 (N / i).toNat else []
noncomputable def Ps (x : Pr) (N : Int) : List PyData := fm (Pf x N) 1 N.toNat
theorem div_facts {N i : Int} (hN : 1 ≤ N ∧ N ≤ 12) (hi : 1 ≤ i ∧ i ≤ N) : 1 ≤ N / i ∧ N / i ≤ 12 := by
  have h1 : N / i ≤ N := Int.ediv_le_self _ (by omega)
  have h2 : 1 ≤ N / i := by rw [Int.le_ediv_iff_mul_le (by omega)]; omega
  omega
theorem Pf_mem {x : Pr} (h : x.Ok) {N : Int} (hN : 1 ≤ N ∧ N ≤ 12) {i : Int} (hi : 1 ≤ i ∧ i ≤ N) {t : PyData} (ht : t ∈ Pf x N i) : FlatOk t := by
  obtain ⟨d1, d2⟩ := div_facts hN hi
  unfold Pf at ht
  split at ht
  · obtain ⟨j, hj, ht⟩ := fm_mem.mp ht
    obtain rfl := List.mem_singleton.mp ht
    exact part_ok h (by omega) (by omega) (by omega)
  · cases ht
theorem Pf_len {x : Pr} {N : Int} (hN : 1 ≤ N ∧ N ≤ 12) {i : Int} (hi : 1 ≤ i ∧ i ≤ N) : (Pf x N i).length ≤ 12 := by
  obtain ⟨d1, d2⟩ := div_facts hN hi
  unfold Pf
  split
  · have q : (fm (pf x i (N / i)) 0 (N / i).toNat).length ≤ (N / i).toNat * 1 := fm_len (fun u => by unfold pf; simp) _
    omega
  · simp
theorem Ps_mem {x : Pr} (h : x.Ok) {N : Int} (hN : 1 ≤ N ∧ N ≤ 12) {j : Nat} (hj : j ≤ N.toNat) {t : PyData} (ht : t ∈ fm (Pf x N) 1 j) : FlatOk t := by
  obtain ⟨i, hi, ht⟩ := fm_mem.mp ht
  exact Pf_mem h hN (by omega) ht
theorem Ps_len {x : Pr} {N : Int} (hN : 1 ≤ N ∧ N ≤ 12) {j : Nat} (hj : j ≤ N.toNat) : (fm (Pf x N) 1 j).length ≤ 144 := by
  have := fm_len2 (f := Pf x N) (lo := 1) (B := 12) j fun k hk => Pf_len hN (by omega)
  omega
theorem s_parts_of (k : Nat) (x : Pr) (N : Int) (st : Bx) (h : x.Ok) (hN : 1 ≤ N ∧ N ≤ 12) : callF tb (k + 6) "parts_of" [.dat (PyData.tuple [PyData.tuple [PyData.int (x.a), PyData.int (x.b)], PyData.tuple [PyData.int (x.c), PyData.int (x.d)]]), .dat (.int N)] st = some (.own (sortD (Ps x N)), st) := by
  rw [c_parts_of]
  have q : ∀ {z : Int}, Bd 60 z → Bd 1000 z := fun h => h.mono (by decide)
  have en := s_need_pair (k + 1) x.a x.b x.c x.d st (q h.a) (q h.b) (q h.c) (q h.d) h.n
  have ew := s_is_whole (k + 4) (.int N) st
  have r1 : rngOk 1 = true := by decide
  have rN : rngOk (N + 1) = true := rngOk_s (by omega) (by omega)
  have f0 : fitsL 0 = true := by decide
  have f2 : fitsL 2 = true := by decide
  have zN : (N + 1 - 1).toNat = N.toNat := by omega
  obtain ⟨env1, st2, e1, x3, x4, x5, e2, e3⟩ := den_for (cf := callF tb (k + 5)) (tg := .nm 3) (it := .rng (.cons (.c (.int 1)) (.cons (.bin .add (.v 1) (.c (.int 1))) .nil))) (b := lb_parts_of_1)
    (env := [some (.dat (PyData.tuple [PyData.tuple [PyData.int (x.a), PyData.int (x.b)], PyData.tuple [PyData.int (x.c), PyData.int (x.d)]])), some (.dat (.int N)), some (.own []), none, none, none]) (st := st) (st1 := st) (items := rngItems 1 N.toNat) (by simp (decide := true) only [↓reduceIte, Bool.not_true, Bool.not_false, decide_true, decide_false, wipeE, Bool.false_eq_true, y_e_c, y_e_v, y_e_g, y_e_never, y_e_bin, y_e_neg, y_e_tst, y_e_ite, y_e_tup, y_e_lst, y_e_box, y_e_ix, y_e_sl, y_e_rev, y_e_call, y_e_blt, y_e_isi, y_e_lc, y_es_nil, y_es_cons, y_o_no, y_o_yes, y_t_val, y_t_cmp, y_t_chn, y_t_isnt, y_t_isnf, z_nnr_dat, z_nnr_own, z_nnr_brw, z_nn_none, z_nn_bool, z_nn_int, z_nn_str, z_nn_list, z_nn_tuple, y_t_isb, y_t_and, y_t_or, y_t_not, y_h_last, y_h_link, y_al_one, y_al_cons, y_an_one, y_an_cons, y_c_no, y_c_yes, y_i_seq, y_i_rng, y_i_zip, y_i_enum, y_s_never, y_s_pass, y_s_asg, y_s_par, y_s_par3, y_s_setO, y_s_unp, y_s_setB, y_s_exp, y_s_app, y_s_ext, y_s_iff, y_s_whl, y_s_forr, y_s_ret, y_s_retv, y_s_frz, y_ss_nil, y_ss_cons, argsOf, views, caps, Option.map_some, Option.map_none, Option.bind_some, Option.bind_none, List.getElem?_cons_zero, List.getElem?_cons_succ, List.set_cons_zero, List.set_cons_succ, List.length_cons, List.length_nil, z_read_dat, z_read_ref, z_read_scr, z_read_own, z_view_own, z_view_brw, z_view_dat, z_cap_dat, z_cap_own, z_hold_dat, z_hold_ref, z_hold_scr, z_hold_own, z_arg_dat, z_arg_ref, z_arg_scr, z_arg_own, z_look_t, z_look_f, z_len_ref, z_len_scr, z_len_l, z_len_t, z_len_o, z_len_b, z_ix_ref, z_ix_scr, z_ix_l, z_ix_t, z_ix_o, z_ix_b, z_blt_len, z_blt_abs, z_blt_tup, z_blt_lst, z_blt_sum, z_blt_all, z_blt_any, z_blt_min, z_blt_max, z_blt_sorted, z_blt_repr, z_blt_str, z_blt_int, z_blt_divmod, z_d_abs, z_d_tupl, z_d_tupt, z_d_lstl, z_d_lstt, z_d_sum, z_d_all, z_d_any, z_d_minl, z_d_maxl, z_d_min, z_d_max, z_d_sorted, z_d_divmod, z_d_int, z_d_repr, z_d_str, z_bin_i, z_bin_ll, z_bin_tt, z_bin_rep, z_add, z_sub, z_mul, z_fdiv, z_mod, z_eq, z_ne, z_lt, z_le, z_gt, z_ge, z_inl, z_int, z_ninl, z_nint, z_isi_int_none, z_isi_int_bool, z_isi_int_int, z_isi_int_str, z_isi_int_list, z_isi_int_tuple, z_isi_bool_none, z_isi_bool_bool, z_isi_bool_int, z_isi_bool_str, z_isi_bool_list, z_isi_bool_tuple, z_isi_str_none, z_isi_str_bool, z_isi_str_int, z_isi_str_str, z_isi_str_list, z_isi_str_tuple, z_isi_list_none, z_isi_list_bool, z_isi_list_int, z_isi_list_str, z_isi_list_list, z_isi_list_tuple, z_isi_tuple_none, z_isi_tuple_bool, z_isi_tuple_int, z_isi_tuple_str, z_isi_tuple_list, z_isi_tuple_tuple, z_out_rt, z_out_nx, z_eqi, z_eqb, z_rng1, z_rng2, z_si_l, z_si_t, z_bind_nm, z_bind_tt, z_bind_tl, z_binds_n, z_binds_c, z_sl_l, z_sl_t, z_at0, z_at1, z_at2, z_at3, z_ixN0, z_intsn, z_intsc, z_boolsn, z_boolsc, r1, rN, zN])
    (fun j env s => ∃ x3 x4 x5, env = [some (.dat (PyData.tuple [PyData.tuple [PyData.int (x.a), PyData.int (x.b)], PyData.tuple [PyData.int (x.c), PyData.int (x.d)]])), some (.dat (.int N)), some (.own (fm (Pf x N) 1 j)), x3, x4, x5] ∧ s = st)
    ⟨none, none, none, rfl, rfl⟩ fun j d env s hd ⟨x3, x4, x5, e, es⟩ => by
      obtain ⟨hj, ed⟩ := rngItems_get hd
      subst ed e es
      obtain ⟨i, ei⟩ : ∃ i : Int, 1 + (j : Int) = i := ⟨_, rfl⟩
      have hi : 1 ≤ i ∧ i ≤ N := by omega
      obtain ⟨d1, d2⟩ := div_facts hN hi
      have pi : 0 < i := by omega
      have dv : divOk i = true := divOk_s pi (by omega)
      have rd : rngOk (N / i) = true := rngOk_s (by omega) (by omega)
      have l1 := Ps_len (x := x) hN (j := j) (by omega)
      rw [ei]
      by_cases hm : N % i = 0
      · have l2 : (fm (pf x i (N / i)) 0 (N / i).toNat).length ≤ (N / i).toNat * 1 := fm_len (fun u => by unfold pf; simp) _
        have ff : fitsL ((fm (Pf x N) 1 j).length + (fm (pf x i (N / i)) 0 (N / i).toNat).length) = true := fitsL_s (by omega)
        have hq : ∀ x5 : Option R, Ex.den (callF tb (k + 5)) q_parts_of_1 [some (.dat (PyData.tuple [PyData.tuple [PyData.int (x.a), PyData.int (x.b)], PyData.tuple [PyData.int (x.c), PyData.int (x.d)]])), some (.dat (.int N)), some (.own (fm (Pf x N) 1 j)), some (.dat (.int i)), some (.dat (.int (N / i))), x5] s = some (.own (fm (pf x i (N / i)) 0 (N / i).toNat), s) := fun x5 => by
          have e : fm (pf x i (N / i)) 0 (N / i).toNat = (rngItems 0 (N / i).toNat).filterMap (fun d => match d with | .int u => some (part x i u (N / i)) | _ => none) := by
            unfold rngItems fm pf
            rw [List.filterMap_map]
            generalize List.range (N / i).toNat = l
            induction l with
            | nil => rfl
            | cons a l ih => rw [List.flatMap_cons, List.filterMap_cons, ih]; rfl
          rw [e]
          refine den_lc (items := rngItems 0 (N / i).toNat) (by simp (decide := true) only [↓reduceIte, Bool.not_true, Bool.not_false, decide_true, decide_false, wipeE, Bool.false_eq_true, y_e_c, y_e_v, y_e_g, y_e_never, y_e_bin, y_e_neg, y_e_tst, y_e_ite, y_e_tup, y_e_lst, y_e_box, y_e_ix, y_e_sl, y_e_rev, y_e_call, y_e_blt, y_e_isi, y_e_lc, y_es_nil, y_es_cons, y_o_no, y_o_yes, y_t_val, y_t_cmp, y_t_chn, y_t_isnt, y_t_isnf, z_nnr_dat, z_nnr_own, z_nnr_brw, z_nn_none, z_nn_bool, z_nn_int, z_nn_str, z_nn_list, z_nn_tuple, y_t_isb, y_t_and, y_t_or, y_t_not, y_h_last, y_h_link, y_al_one, y_al_cons, y_an_one, y_an_cons, y_c_no, y_c_yes, y_i_seq, y_i_rng, y_i_zip, y_i_enum, y_s_never, y_s_pass, y_s_asg, y_s_par, y_s_par3, y_s_setO, y_s_unp, y_s_setB, y_s_exp, y_s_app, y_s_ext, y_s_iff, y_s_whl, y_s_forr, y_s_ret, y_s_retv, y_s_frz, y_ss_nil, y_ss_cons, argsOf, views, caps, Option.map_some, Option.map_none, Option.bind_some, Option.bind_none, List.getElem?_cons_zero, List.getElem?_cons_succ, List.set_cons_zero, List.set_cons_succ, List.length_cons, List.length_nil, z_read_dat, z_read_ref, z_read_scr, z_read_own, z_view_own, z_view_brw, z_view_dat, z_cap_dat, z_cap_own, z_hold_dat, z_hold_ref, z_hold_scr, z_hold_own, z_arg_dat, z_arg_ref, z_arg_scr, z_arg_own, z_look_t, z_look_f, z_len_ref, z_len_scr, z_len_l, z_len_t, z_len_o, z_len_b, z_ix_ref, z_ix_scr, z_ix_l, z_ix_t, z_ix_o, z_ix_b, z_blt_len, z_blt_abs, z_blt_tup, z_blt_lst, z_blt_sum, z_blt_all, z_blt_any, z_blt_min, z_blt_max, z_blt_sorted, z_blt_repr, z_blt_str, z_blt_int, z_blt_divmod, z_d_abs, z_d_tupl, z_d_tupt, z_d_lstl, z_d_lstt, z_d_sum, z_d_all, z_d_any, z_d_minl, z_d_maxl, z_d_min, z_d_max, z_d_sorted, z_d_divmod, z_d_int, z_d_repr, z_d_str, z_bin_i, z_bin_ll, z_bin_tt, z_bin_rep, z_add, z_sub, z_mul, z_fdiv, z_mod, z_eq, z_ne, z_lt, z_le, z_gt, z_ge, z_inl, z_int, z_ninl, z_nint, z_isi_int_none, z_isi_int_bool, z_isi_int_int, z_isi_int_str, z_isi_int_list, z_isi_int_tuple, z_isi_bool_none, z_isi_bool_bool, z_isi_bool_int, z_isi_bool_str, z_isi_bool_list, z_isi_bool_tuple, z_isi_str_none, z_isi_str_bool, z_isi_str_int, z_isi_str_str, z_isi_str_list, z_isi_str_tuple, z_isi_list_none, z_isi_list_bool, z_isi_list_int, z_isi_list_str, z_isi_list_list, z_isi_list_tuple, z_isi_tuple_none, z_isi_tuple_bool, z_isi_tuple_int, z_isi_tuple_str, z_isi_tuple_list, z_isi_tuple_tuple, z_out_rt, z_out_nx, z_eqi, z_eqb, z_rng1, z_rng2, z_si_l, z_si_t, z_bind_nm, z_bind_tt, z_bind_tl, z_binds_n, z_binds_c, z_sl_l, z_sl_t, z_at0, z_at1, z_at2, z_at3, z_ixN0, z_intsn, z_intsc, z_boolsn, z_boolsc, rd]) _ (fun d hd => ?_) (by rw [rngItems_len]; omega)
          obtain ⟨u, hu, rfl⟩ : ∃ u : Nat, u < (N / i).toNat ∧ d = .int (0 + (u : Int)) := by
            obtain ⟨w, hw, e⟩ := List.getElem_of_mem hd
            exact ⟨w, rngItems_get (by rw [List.getElem?_eq_getElem hw, e])⟩
          obtain ⟨t, t1, t2⟩ := s_part (k + 3) x i (0 + (u : Int)) (N / i) s h (by omega) (by omega) (by omega)
          exact ⟨[some (.dat (PyData.tuple [PyData.tuple [PyData.int (x.a), PyData.int (x.b)], PyData.tuple [PyData.int (x.c), PyData.int (x.d)]])), some (.dat (.int N)), some (.own (fm (Pf x N) 1 j)), some (.dat (.int i)), some (.dat (.int (N / i))), some (.dat (.int (0 + (u : Int))))], by simp only [↓reduceIte, Bool.not_true, Bool.not_false, decide_true, decide_false, wipeE, Bool.false_eq_true, y_e_c, y_e_v, y_e_g, y_e_never, y_e_bin, y_e_neg, y_e_tst, y_e_ite, y_e_tup, y_e_lst, y_e_box, y_e_ix, y_e_sl, y_e_rev, y_e_call, y_e_blt, y_e_isi, y_e_lc, y_es_nil, y_es_cons, y_o_no, y_o_yes, y_t_val, y_t_cmp, y_t_chn, y_t_isnt, y_t_isnf, z_nnr_dat, z_nnr_own, z_nnr_brw, z_nn_none, z_nn_bool, z_nn_int, z_nn_str, z_nn_list, z_nn_tuple, y_t_isb, y_t_and, y_t_or, y_t_not, y_h_last, y_h_link, y_al_one, y_al_cons, y_an_one, y_an_cons, y_c_no, y_c_yes, y_i_seq, y_i_rng, y_i_zip, y_i_enum, y_s_never, y_s_pass, y_s_asg, y_s_par, y_s_par3, y_s_setO, y_s_unp, y_s_setB, y_s_exp, y_s_app, y_s_ext, y_s_iff, y_s_whl, y_s_forr, y_s_ret, y_s_retv, y_s_frz, y_ss_nil, y_ss_cons, argsOf, views, caps, Option.map_some, Option.map_none, Option.bind_some, Option.bind_none, List.getElem?_cons_zero, List.getElem?_cons_succ, List.set_cons_zero, List.set_cons_succ, List.length_cons, List.length_nil, z_read_dat, z_read_ref, z_read_scr, z_read_own, z_view_own, z_view_brw, z_view_dat, z_cap_dat, z_cap_own, z_hold_dat, z_hold_ref, z_hold_scr, z_hold_own, z_arg_dat, z_arg_ref, z_arg_scr, z_arg_own, z_look_t, z_look_f, z_len_ref, z_len_scr, z_len_l, z_len_t, z_len_o, z_len_b, z_ix_ref, z_ix_scr, z_ix_l, z_ix_t, z_ix_o, z_ix_b, z_blt_len, z_blt_abs, z_blt_tup, z_blt_lst, z_blt_sum, z_blt_all, z_blt_any, z_blt_min, z_blt_max, z_blt_sorted, z_blt_repr, z_blt_str, z_blt_int, z_blt_divmod, z_d_abs, z_d_tupl, z_d_tupt, z_d_lstl, z_d_lstt, z_d_sum, z_d_all, z_d_any, z_d_minl, z_d_maxl, z_d_min, z_d_max, z_d_sorted, z_d_divmod, z_d_int, z_d_repr, z_d_str, z_bin_i, z_bin_ll, z_bin_tt, z_bin_rep, z_add, z_sub, z_mul, z_fdiv, z_mod, z_eq, z_ne, z_lt, z_le, z_gt, z_ge, z_inl, z_int, z_ninl, z_nint, z_isi_int_none, z_isi_int_bool, z_isi_int_int, z_isi_int_str, z_isi_int_list, z_isi_int_tuple, z_isi_bool_none, z_isi_bool_bool, z_isi_bool_int, z_isi_bool_str, z_isi_bool_list, z_isi_bool_tuple, z_isi_str_none, z_isi_str_bool, z_isi_str_int, z_isi_str_str, z_isi_str_list, z_isi_str_tuple, z_isi_list_none, z_isi_list_bool, z_isi_list_int, z_isi_list_str, z_isi_list_list, z_isi_list_tuple, z_isi_tuple_none, z_isi_tuple_bool, z_isi_tuple_int, z_isi_tuple_str, z_isi_tuple_list, z_isi_tuple_tuple, z_out_rt, z_out_nx, z_eqi, z_eqb, z_rng1, z_rng2, z_si_l, z_si_t, z_bind_nm, z_bind_tt, z_bind_tl, z_binds_n, z_binds_c, z_sl_l, z_sl_t, z_at0, z_at1, z_at2, z_at3, z_ixN0, z_intsn, z_intsc, z_boolsn, z_boolsc], .inr ⟨by simp only [↓reduceIte, Bool.not_true, Bool.not_false, decide_true, decide_false, wipeE, Bool.false_eq_true, y_e_c, y_e_v, y_e_g, y_e_never, y_e_bin, y_e_neg, y_e_tst, y_e_ite, y_e_tup, y_e_lst, y_e_box, y_e_ix, y_e_sl, y_e_rev, y_e_call, y_e_blt, y_e_isi, y_e_lc, y_es_nil, y_es_cons, y_o_no, y_o_yes, y_t_val, y_t_cmp, y_t_chn, y_t_isnt, y_t_isnf, z_nnr_dat, z_nnr_own, z_nnr_brw, z_nn_none, z_nn_bool, z_nn_int, z_nn_str, z_nn_list, z_nn_tuple, y_t_isb, y_t_and, y_t_or, y_t_not, y_h_last, y_h_link, y_al_one, y_al_cons, y_an_one, y_an_cons, y_c_no, y_c_yes, y_i_seq, y_i_rng, y_i_zip, y_i_enum, y_s_never, y_s_pass, y_s_asg, y_s_par, y_s_par3, y_s_setO, y_s_unp, y_s_setB, y_s_exp, y_s_app, y_s_ext, y_s_iff, y_s_whl, y_s_forr, y_s_ret, y_s_retv, y_s_frz, y_ss_nil, y_ss_cons, argsOf, views, caps, Option.map_some, Option.map_none, Option.bind_some, Option.bind_none, List.getElem?_cons_zero, List.getElem?_cons_succ, List.set_cons_zero, List.set_cons_succ, List.length_cons, List.length_nil, z_read_dat, z_read_ref, z_read_scr, z_read_own, z_view_own, z_view_brw, z_view_dat, z_cap_dat, z_cap_own, z_hold_dat, z_hold_ref, z_hold_scr, z_hold_own, z_arg_dat, z_arg_ref, z_arg_scr, z_arg_own, z_look_t, z_look_f, z_len_ref, z_len_scr, z_len_l, z_len_t, z_len_o, z_len_b, z_ix_ref, z_ix_scr, z_ix_l, z_ix_t, z_ix_o, z_ix_b, z_blt_len, z_blt_abs, z_blt_tup, z_blt_lst, z_blt_sum, z_blt_all, z_blt_any, z_blt_min, z_blt_max, z_blt_sorted, z_blt_repr, z_blt_str, z_blt_int, z_blt_divmod, z_d_abs, z_d_tupl, z_d_tupt, z_d_lstl, z_d_lstt, z_d_sum, z_d_all, z_d_any, z_d_minl, z_d_maxl, z_d_min, z_d_max, z_d_sorted, z_d_divmod, z_d_int, z_d_repr, z_d_str, z_bin_i, z_bin_ll, z_bin_tt, z_bin_rep, z_add, z_sub, z_mul, z_fdiv, z_mod, z_eq, z_ne, z_lt, z_le, z_gt, z_ge, z_inl, z_int, z_ninl, z_nint, z_isi_int_none, z_isi_int_bool, z_isi_int_int, z_isi_int_str, z_isi_int_list, z_isi_int_tuple, z_isi_bool_none, z_isi_bool_bool, z_isi_bool_int, z_isi_bool_str, z_isi_bool_list, z_isi_bool_tuple, z_isi_str_none, z_isi_str_bool, z_isi_str_int, z_isi_str_str, z_isi_str_list, z_isi_str_tuple, z_isi_list_none, z_isi_list_bool, z_isi_list_int, z_isi_list_str, z_isi_list_list, z_isi_list_tuple, z_isi_tuple_none, z_isi_tuple_bool, z_isi_tuple_int, z_isi_tuple_str, z_isi_tuple_list, z_isi_tuple_tuple, z_out_rt, z_out_nx, z_eqi, z_eqb, z_rng1, z_rng2, z_si_l, z_si_t, z_bind_nm, z_bind_tt, z_bind_tl, z_binds_n, z_binds_c, z_sl_l, z_sl_t, z_at0, z_at1, z_at2, z_at3, z_ixN0, z_intsn, z_intsc, z_boolsn, z_boolsc], .dat (part x i (0 + (u : Int)) (N / i)), part x i (0 + (u : Int)) (N / i), by simp (decide := true) only [↓reduceIte, Bool.not_true, Bool.not_false, decide_true, decide_false, wipeE, Bool.false_eq_true, y_e_c, y_e_v, y_e_g, y_e_never, y_e_bin, y_e_neg, y_e_tst, y_e_ite, y_e_tup, y_e_lst, y_e_box, y_e_ix, y_e_sl, y_e_rev, y_e_call, y_e_blt, y_e_isi, y_e_lc, y_es_nil, y_es_cons, y_o_no, y_o_yes, y_t_val, y_t_cmp, y_t_chn, y_t_isnt, y_t_isnf, z_nnr_dat, z_nnr_own, z_nnr_brw, z_nn_none, z_nn_bool, z_nn_int, z_nn_str, z_nn_list, z_nn_tuple, y_t_isb, y_t_and, y_t_or, y_t_not, y_h_last, y_h_link, y_al_one, y_al_cons, y_an_one, y_an_cons, y_c_no, y_c_yes, y_i_seq, y_i_rng, y_i_zip, y_i_enum, y_s_never, y_s_pass, y_s_asg, y_s_par, y_s_par3, y_s_setO, y_s_unp, y_s_setB, y_s_exp, y_s_app, y_s_ext, y_s_iff, y_s_whl, y_s_forr, y_s_ret, y_s_retv, y_s_frz, y_ss_nil, y_ss_cons, argsOf, views, caps, Option.map_some, Option.map_none, Option.bind_some, Option.bind_none, List.getElem?_cons_zero, List.getElem?_cons_succ, List.set_cons_zero, List.set_cons_succ, List.length_cons, List.length_nil, z_read_dat, z_read_ref, z_read_scr, z_read_own, z_view_own, z_view_brw, z_view_dat, z_cap_dat, z_cap_own, z_hold_dat, z_hold_ref, z_hold_scr, z_hold_own, z_arg_dat, z_arg_ref, z_arg_scr, z_arg_own, z_look_t, z_look_f, z_len_ref, z_len_scr, z_len_l, z_len_t, z_len_o, z_len_b, z_ix_ref, z_ix_scr, z_ix_l, z_ix_t, z_ix_o, z_ix_b, z_blt_len, z_blt_abs, z_blt_tup, z_blt_lst, z_blt_sum, z_blt_all, z_blt_any, z_blt_min, z_blt_max, z_blt_sorted, z_blt_repr, z_blt_str, z_blt_int, z_blt_divmod, z_d_abs, z_d_tupl, z_d_tupt, z_d_lstl, z_d_lstt, z_d_sum, z_d_all, z_d_any, z_d_minl, z_d_maxl, z_d_min, z_d_max, z_d_sorted, z_d_divmod, z_d_int, z_d_repr, z_d_str, z_bin_i, z_bin_ll, z_bin_tt, z_bin_rep, z_add, z_sub, z_mul, z_fdiv, z_mod, z_eq, z_ne, z_lt, z_le, z_gt, z_ge, z_inl, z_int, z_ninl, z_nint, z_isi_int_none, z_isi_int_bool, z_isi_int_int, z_isi_int_str, z_isi_int_list, z_isi_int_tuple, z_isi_bool_none, z_isi_bool_bool, z_isi_bool_int, z_isi_bool_str, z_isi_bool_list, z_isi_bool_tuple, z_isi_str_none, z_isi_str_bool, z_isi_str_int, z_isi_str_str, z_isi_str_list, z_isi_str_tuple, z_isi_list_none, z_isi_list_bool, z_isi_list_int, z_isi_list_str, z_isi_list_list, z_isi_list_tuple, z_isi_tuple_none, z_isi_tuple_bool, z_isi_tuple_int, z_isi_tuple_str, z_isi_tuple_list, z_isi_tuple_tuple, z_out_rt, z_out_nx, z_eqi, z_eqb, z_rng1, z_rng2, z_si_l, z_si_t, z_bind_nm, z_bind_tt, z_bind_tl, z_binds_n, z_binds_c, z_sl_l, z_sl_t, z_at0, z_at1, z_at2, z_at3, z_ixN0, z_intsn, z_intsc, z_boolsn, z_boolsc, f2, t1, t2], rfl, rfl⟩⟩
        refine ⟨_, [some (.dat (PyData.tuple [PyData.tuple [PyData.int (x.a), PyData.int (x.b)], PyData.tuple [PyData.int (x.c), PyData.int (x.d)]])), some (.dat (.int N)), some (.own (fm (Pf x N) 1 (j + 1))), some (.dat (.int i)), some (.dat (.int (N / i))), x5], s, z_bind_nm _ _ _, ?_, _, _, _, rfl, rfl⟩
        have e : fm (Pf x N) 1 (j + 1) = fm (Pf x N) 1 j ++ fm (pf x i (N / i)) 0 (N / i).toNat := by
          rw [fm_succ, ei]
          conv => lhs; arg 2; unfold Pf
          rw [if_pos hm]
        rw [e]
        simp (decide := true) only [lb_parts_of_1, ↓reduceIte, Bool.not_true, Bool.not_false, decide_true, decide_false, wipeE, Bool.false_eq_true, y_e_c, y_e_v, y_e_g, y_e_never, y_e_bin, y_e_neg, y_e_tst, y_e_ite, y_e_tup, y_e_lst, y_e_box, y_e_ix, y_e_sl, y_e_rev, y_e_call, y_e_blt, y_e_isi, y_e_lc, y_es_nil, y_es_cons, y_o_no, y_o_yes, y_t_val, y_t_cmp, y_t_chn, y_t_isnt, y_t_isnf, z_nnr_dat, z_nnr_own, z_nnr_brw, z_nn_none, z_nn_bool, z_nn_int, z_nn_str, z_nn_list, z_nn_tuple, y_t_isb, y_t_and, y_t_or, y_t_not, y_h_last, y_h_link, y_al_one, y_al_cons, y_an_one, y_an_cons, y_c_no, y_c_yes, y_i_seq, y_i_rng, y_i_zip, y_i_enum, y_s_never, y_s_pass, y_s_asg, y_s_par, y_s_par3, y_s_setO, y_s_unp, y_s_setB, y_s_exp, y_s_app, y_s_ext, y_s_iff, y_s_whl, y_s_forr, y_s_ret, y_s_retv, y_s_frz, y_ss_nil, y_ss_cons, argsOf, views, caps, Option.map_some, Option.map_none, Option.bind_some, Option.bind_none, List.getElem?_cons_zero, List.getElem?_cons_succ, List.set_cons_zero, List.set_cons_succ, List.length_cons, List.length_nil, z_read_dat, z_read_ref, z_read_scr, z_read_own, z_view_own, z_view_brw, z_view_dat, z_cap_dat, z_cap_own, z_hold_dat, z_hold_ref, z_hold_scr, z_hold_own, z_arg_dat, z_arg_ref, z_arg_scr, z_arg_own, z_look_t, z_look_f, z_len_ref, z_len_scr, z_len_l, z_len_t, z_len_o, z_len_b, z_ix_ref, z_ix_scr, z_ix_l, z_ix_t, z_ix_o, z_ix_b, z_blt_len, z_blt_abs, z_blt_tup, z_blt_lst, z_blt_sum, z_blt_all, z_blt_any, z_blt_min, z_blt_max, z_blt_sorted, z_blt_repr, z_blt_str, z_blt_int, z_blt_divmod, z_d_abs, z_d_tupl, z_d_tupt, z_d_lstl, z_d_lstt, z_d_sum, z_d_all, z_d_any, z_d_minl, z_d_maxl, z_d_min, z_d_max, z_d_sorted, z_d_divmod, z_d_int, z_d_repr, z_d_str, z_bin_i, z_bin_ll, z_bin_tt, z_bin_rep, z_add, z_sub, z_mul, z_fdiv, z_mod, z_eq, z_ne, z_lt, z_le, z_gt, z_ge, z_inl, z_int, z_ninl, z_nint, z_isi_int_none, z_isi_int_bool, z_isi_int_int, z_isi_int_str, z_isi_int_list, z_isi_int_tuple, z_isi_bool_none, z_isi_bool_bool, z_isi_bool_int, z_isi_bool_str, z_isi_bool_list, z_isi_bool_tuple, z_isi_str_none, z_isi_str_bool, z_isi_str_int, z_isi_str_str, z_isi_str_list, z_isi_str_tuple, z_isi_list_none, z_isi_list_bool, z_isi_list_int, z_isi_list_str, z_isi_list_list, z_isi_list_tuple, z_isi_tuple_none, z_isi_tuple_bool, z_isi_tuple_int, z_isi_tuple_str, z_isi_tuple_list, z_isi_tuple_tuple, z_out_rt, z_out_nx, z_eqi, z_eqb, z_rng1, z_rng2, z_si_l, z_si_t, z_bind_nm, z_bind_tt, z_bind_tl, z_binds_n, z_binds_c, z_sl_l, z_sl_t, z_at0, z_at1, z_at2, z_at3, z_ixN0, z_intsn, z_intsc, z_boolsn, z_boolsc, pi, dv, hm, hq, ff]
      · refine ⟨_, [some (.dat (PyData.tuple [PyData.tuple [PyData.int (x.a), PyData.int (x.b)], PyData.tuple [PyData.int (x.c), PyData.int (x.d)]])), some (.dat (.int N)), some (.own (fm (Pf x N) 1 (j + 1))), some (.dat (.int i)), x4, x5], s, z_bind_nm _ _ _, ?_, _, _, _, rfl, rfl⟩
        have e : fm (Pf x N) 1 (j + 1) = fm (Pf x N) 1 j := by
          rw [fm_succ, ei]
          conv => lhs; arg 2; unfold Pf
          rw [if_neg hm, List.append_nil]
        rw [e]
        simp (decide := true) only [lb_parts_of_1, ↓reduceIte, Bool.not_true, Bool.not_false, decide_true, decide_false, wipeE, Bool.false_eq_true, y_e_c, y_e_v, y_e_g, y_e_never, y_e_bin, y_e_neg, y_e_tst, y_e_ite, y_e_tup, y_e_lst, y_e_box, y_e_ix, y_e_sl, y_e_rev, y_e_call, y_e_blt, y_e_isi, y_e_lc, y_es_nil, y_es_cons, y_o_no, y_o_yes, y_t_val, y_t_cmp, y_t_chn, y_t_isnt, y_t_isnf, z_nnr_dat, z_nnr_own, z_nnr_brw, z_nn_none, z_nn_bool, z_nn_int, z_nn_str, z_nn_list, z_nn_tuple, y_t_isb, y_t_and, y_t_or, y_t_not, y_h_last, y_h_link, y_al_one, y_al_cons, y_an_one, y_an_cons, y_c_no, y_c_yes, y_i_seq, y_i_rng, y_i_zip, y_i_enum, y_s_never, y_s_pass, y_s_asg, y_s_par, y_s_par3, y_s_setO, y_s_unp, y_s_setB, y_s_exp, y_s_app, y_s_ext, y_s_iff, y_s_whl, y_s_forr, y_s_ret, y_s_retv, y_s_frz, y_ss_nil, y_ss_cons, argsOf, views, caps, Option.map_some, Option.map_none, Option.bind_some, Option.bind_none, List.getElem?_cons_zero, List.getElem?_cons_succ, List.set_cons_zero, List.set_cons_succ, List.length_cons, List.length_nil, z_read_dat, z_read_ref, z_read_scr, z_read_own, z_view_own, z_view_brw, z_view_dat, z_cap_dat, z_cap_own, z_hold_dat, z_hold_ref, z_hold_scr, z_hold_own, z_arg_dat, z_arg_ref, z_arg_scr, z_arg_own, z_look_t, z_look_f, z_len_ref, z_len_scr, z_len_l, z_len_t, z_len_o, z_len_b, z_ix_ref, z_ix_scr, z_ix_l, z_ix_t, z_ix_o, z_ix_b, z_blt_len, z_blt_abs, z_blt_tup, z_blt_lst, z_blt_sum, z_blt_all, z_blt_any, z_blt_min, z_blt_max, z_blt_sorted, z_blt_repr, z_blt_str, z_blt_int, z_blt_divmod, z_d_abs, z_d_tupl, z_d_tupt, z_d_lstl, z_d_lstt, z_d_sum, z_d_all, z_d_any, z_d_minl, z_d_maxl, z_d_min, z_d_max, z_d_sorted, z_d_divmod, z_d_int, z_d_repr, z_d_str, z_bin_i, z_bin_ll, z_bin_tt, z_bin_rep, z_add, z_sub, z_mul, z_fdiv, z_mod, z_eq, z_ne, z_lt, z_le, z_gt, z_ge, z_inl, z_int, z_ninl, z_nint, z_isi_int_none, z_isi_int_bool, z_isi_int_int, z_isi_int_str, z_isi_int_list, z_isi_int_tuple, z_isi_bool_none, z_isi_bool_bool, z_isi_bool_int, z_isi_bool_str, z_isi_bool_list, z_isi_bool_tuple, z_isi_str_none, z_isi_str_bool, z_isi_str_int, z_isi_str_str, z_isi_str_list, z_isi_str_tuple, z_isi_list_none, z_isi_list_bool, z_isi_list_int, z_isi_list_str, z_isi_list_list, z_isi_list_tuple, z_isi_tuple_none, z_isi_tuple_bool, z_isi_tuple_int, z_isi_tuple_str, z_isi_tuple_list, z_isi_tuple_tuple, z_out_rt, z_out_nx, z_eqi, z_eqb, z_rng1, z_rng2, z_si_l, z_si_t, z_bind_nm, z_bind_tt, z_bind_tl, z_binds_n, z_binds_c, z_sl_l, z_sl_t, z_at0, z_at1, z_at2, z_at3, z_ixN0, z_intsn, z_intsc, z_boolsn, z_boolsc, pi, hm]
  subst e2 e3
  rw [rngItems_len] at e1
  have e1' : Stm.den (callF tb (k + 5)) l_parts_of_1 [some (.dat (PyData.tuple [PyData.tuple [PyData.int (x.a), PyData.int (x.b)], PyData.tuple [PyData.int (x.c), PyData.int (x.d)]])), some (.dat (.int N)), some (.own []), none, none, none] st2 = some (.nx [some (.dat (PyData.tuple [PyData.tuple [PyData.int (x.a), PyData.int (x.b)], PyData.tuple [PyData.int (x.c), PyData.int (x.d)]])), some (.dat (.int N)), some (.own (Ps x N)), x3, x4, x5] st2) := e1
  have so : sortOk (Ps x N) = true := flats_sort (fun t ht => Ps_mem h hN (Nat.le_refl _) ht) (Nat.le_trans (Ps_len hN (Nat.le_refl _)) (by decide))
  simp (decide := true) only [b_parts_of, ↓reduceIte, Bool.not_true, Bool.not_false, decide_true, decide_false, wipeE, Bool.false_eq_true, y_e_c, y_e_v, y_e_g, y_e_never, y_e_bin, y_e_neg, y_e_tst, y_e_ite, y_e_tup, y_e_lst, y_e_box, y_e_ix, y_e_sl, y_e_rev, y_e_call, y_e_blt, y_e_isi, y_e_lc, y_es_nil, y_es_cons, y_o_no, y_o_yes, y_t_val, y_t_cmp, y_t_chn, y_t_isnt, y_t_isnf, z_nnr_dat, z_nnr_own, z_nnr_brw, z_nn_none, z_nn_bool, z_nn_int, z_nn_str, z_nn_list, z_nn_tuple, y_t_isb, y_t_and, y_t_or, y_t_not, y_h_last, y_h_link, y_al_one, y_al_cons, y_an_one, y_an_cons, y_c_no, y_c_yes, y_i_seq, y_i_rng, y_i_zip, y_i_enum, y_s_never, y_s_pass, y_s_asg, y_s_par, y_s_par3, y_s_setO, y_s_unp, y_s_setB, y_s_exp, y_s_app, y_s_ext, y_s_iff, y_s_whl, y_s_forr, y_s_ret, y_s_retv, y_s_frz, y_ss_nil, y_ss_cons, argsOf, views, caps, Option.map_some, Option.map_none, Option.bind_some, Option.bind_none, List.getElem?_cons_zero, List.getElem?_cons_succ, List.set_cons_zero, List.set_cons_succ, List.length_cons, List.length_nil, z_read_dat, z_read_ref, z_read_scr, z_read_own, z_view_own, z_view_brw, z_view_dat, z_cap_dat, z_cap_own, z_hold_dat, z_hold_ref, z_hold_scr, z_hold_own, z_arg_dat, z_arg_ref, z_arg_scr, z_arg_own, z_look_t, z_look_f, z_len_ref, z_len_scr, z_len_l, z_len_t, z_len_o, z_len_b, z_ix_ref, z_ix_scr, z_ix_l, z_ix_t, z_ix_o, z_ix_b, z_blt_len, z_blt_abs, z_blt_tup, z_blt_lst, z_blt_sum, z_blt_all, z_blt_any, z_blt_min, z_blt_max, z_blt_sorted, z_blt_repr, z_blt_str, z_blt_int, z_blt_divmod, z_d_abs, z_d_tupl, z_d_tupt, z_d_lstl, z_d_lstt, z_d_sum, z_d_all, z_d_any, z_d_minl, z_d_maxl, z_d_min, z_d_max, z_d_sorted, z_d_divmod, z_d_int, z_d_repr, z_d_str, z_bin_i, z_bin_ll, z_bin_tt, z_bin_rep, z_add, z_sub, z_mul, z_fdiv, z_mod, z_eq, z_ne, z_lt, z_le, z_gt, z_ge, z_inl, z_int, z_ninl, z_nint, z_isi_int_none, z_isi_int_bool, z_isi_int_int, z_isi_int_str, z_isi_int_list, z_isi_int_tuple, z_isi_bool_none, z_isi_bool_bool, z_isi_bool_int, z_isi_bool_str, z_isi_bool_list, z_isi_bool_tuple, z_isi_str_none, z_isi_str_bool, z_isi_str_int, z_isi_str_str, z_isi_str_list, z_isi_str_tuple, z_isi_list_none, z_isi_list_bool, z_isi_list_int, z_isi_list_str, z_isi_list_list, z_isi_list_tuple, z_isi_tuple_none, z_isi_tuple_bool, z_isi_tuple_int, z_isi_tuple_str, z_isi_tuple_list, z_isi_tuple_tuple, z_out_rt, z_out_nx, z_eqi, z_eqb, z_rng1, z_rng2, z_si_l, z_si_t, z_bind_nm, z_bind_tt, z_bind_tl, z_binds_n, z_binds_c, z_sl_l, z_sl_t, z_at0, z_at1, z_at2, z_at3, z_ixN0, z_intsn, z_intsc, z_boolsn, z_boolsc, en, ew, isW, hN.1, hN.2, f0, e1', z_d_sorted so]
/-! the law -/

/-! times_of -/
theorem s_need_both (k : Nat) (a b c d p q r w : Int) (st : Bx) (ha : Bd 1000 a) (hb : Bd 1000 b) (hc : Bd 1000 c) (hd : Bd 1000 d) (hp : Bd 1000 p) (hq : Bd 1000 q) (hr : Bd 1000 r) (hw : Bd 1000 w) (hn : a * d - b * c ≠ 0) (hn2 : p * w - q * r ≠ 0) :
    callF tb (k + 5) "need_both" [.dat (PyData.tuple [PyData.tuple [PyData.int (a), PyData.int (b)], PyData.tuple [PyData.int (c), PyData.int (d)]]), .dat (PyData.tuple [PyData.tuple [PyData.int (p), PyData.int (q)], PyData.tuple [PyData.int (r), PyData.int (w)]])] st = some (.dat .none, st) := by
  rw [c_need_both]
  simp (decide := true) only [b_need_both, ↓reduceIte, Bool.not_true, Bool.not_false, decide_true, decide_false, wipeE, Bool.false_eq_true, y_e_c, y_e_v, y_e_g, y_e_never, y_e_bin, y_e_neg, y_e_tst, y_e_ite, y_e_tup, y_e_lst, y_e_box, y_e_ix, y_e_sl, y_e_rev, y_e_call, y_e_blt, y_e_isi, y_e_lc, y_es_nil, y_es_cons, y_o_no, y_o_yes, y_t_val, y_t_cmp, y_t_chn, y_t_isnt, y_t_isnf, z_nnr_dat, z_nnr_own, z_nnr_brw, z_nn_none, z_nn_bool, z_nn_int, z_nn_str, z_nn_list, z_nn_tuple, y_t_isb, y_t_and, y_t_or, y_t_not, y_h_last, y_h_link, y_al_one, y_al_cons, y_an_one, y_an_cons, y_c_no, y_c_yes, y_i_seq, y_i_rng, y_i_zip, y_i_enum, y_s_never, y_s_pass, y_s_asg, y_s_par, y_s_par3, y_s_setO, y_s_unp, y_s_setB, y_s_exp, y_s_app, y_s_ext, y_s_iff, y_s_whl, y_s_forr, y_s_ret, y_s_retv, y_s_frz, y_ss_nil, y_ss_cons, argsOf, views, caps, Option.map_some, Option.map_none, Option.bind_some, Option.bind_none, List.getElem?_cons_zero, List.getElem?_cons_succ, List.set_cons_zero, List.set_cons_succ, List.length_cons, List.length_nil, z_read_dat, z_read_ref, z_read_scr, z_read_own, z_view_own, z_view_brw, z_view_dat, z_cap_dat, z_cap_own, z_hold_dat, z_hold_ref, z_hold_scr, z_hold_own, z_arg_dat, z_arg_ref, z_arg_scr, z_arg_own, z_look_t, z_look_f, z_len_ref, z_len_scr, z_len_l, z_len_t, z_len_o, z_len_b, z_ix_ref, z_ix_scr, z_ix_l, z_ix_t, z_ix_o, z_ix_b, z_blt_len, z_blt_abs, z_blt_tup, z_blt_lst, z_blt_sum, z_blt_all, z_blt_any, z_blt_min, z_blt_max, z_blt_sorted, z_blt_repr, z_blt_str, z_blt_int, z_blt_divmod, z_d_abs, z_d_tupl, z_d_tupt, z_d_lstl, z_d_lstt, z_d_sum, z_d_all, z_d_any, z_d_minl, z_d_maxl, z_d_min, z_d_max, z_d_sorted, z_d_divmod, z_d_int, z_d_repr, z_d_str, z_bin_i, z_bin_ll, z_bin_tt, z_bin_rep, z_add, z_sub, z_mul, z_fdiv, z_mod, z_eq, z_ne, z_lt, z_le, z_gt, z_ge, z_inl, z_int, z_ninl, z_nint, z_isi_int_none, z_isi_int_bool, z_isi_int_int, z_isi_int_str, z_isi_int_list, z_isi_int_tuple, z_isi_bool_none, z_isi_bool_bool, z_isi_bool_int, z_isi_bool_str, z_isi_bool_list, z_isi_bool_tuple, z_isi_str_none, z_isi_str_bool, z_isi_str_int, z_isi_str_str, z_isi_str_list, z_isi_str_tuple, z_isi_list_none, z_isi_list_bool, z_isi_list_int, z_isi_list_str, z_isi_list_list, z_isi_list_tuple, z_isi_tuple_none, z_isi_tuple_bool, z_isi_tuple_int, z_isi_tuple_str, z_isi_tuple_list, z_isi_tuple_tuple, z_out_rt, z_out_nx, z_eqi, z_eqb, z_rng1, z_rng2, z_si_l, z_si_t, z_bind_nm, z_bind_tt, z_bind_tl, z_binds_n, z_binds_c, z_sl_l, z_sl_t, z_at0, z_at1, z_at2, z_at3, z_ixN0, z_intsn, z_intsc, z_boolsn, z_boolsc, s_need_pair k a b c d st ha hb hc hd hn, s_need_pair k p q r w st hp hq hr hw hn2]
theorem s_times_of (k : Nat) (a b c d p q r w : Int) (st : Bx) (ha : Bd 1000 a) (hb : Bd 1000 b) (hc : Bd 1000 c) (hd : Bd 1000 d) (hp : Bd 1000 p) (hq : Bd 1000 q) (hr : Bd 1000 r) (hw : Bd 1000 w) (hn : a * d - b * c ≠ 0) (hn2 : p * w - q * r ≠ 0) (hi : (inG p q r w a b && inG p q r w c d) = true) :
    callF tb (k + 6) "times_of" [.dat (PyData.tuple [PyData.tuple [PyData.int (a), PyData.int (b)], PyData.tuple [PyData.int (c), PyData.int (d)]]), .dat (PyData.tuple [PyData.tuple [PyData.int (p), PyData.int (q)], PyData.tuple [PyData.int (r), PyData.int (w)]])] st = some (.dat (.int (((a * d - b * c).natAbs : Int) / ((p * w - q * r).natAbs : Int))), st) := by
  have en := s_need_both k a b c d p q r w st ha hb hc hd hp hq hr hw hn hn2
  have e1 := s_is_within2 k p q r w a b c d st hp hq hr hw ha hb hc hd hn2
  rw [hi] at e1
  have d1 := s_det2 (k + 3) a b c d st ha hb hc hd
  have d2 := s_det2 (k + 3) p q r w st hp hq hr hw
  have dv : divOk ((p * w - q * r).natAbs : Int) = true := divOk_bd (bd_abs (bd_sub (bd_mul hp hw) (bd_mul hq hr))) (by omega) (by decide)
  have hp0 : (0 : Int) < ((p * w - q * r).natAbs : Int) := by omega
  rw [c_times_of]
  simp (decide := true) only [b_times_of, ↓reduceIte, Bool.not_true, Bool.not_false, decide_true, decide_false, wipeE, Bool.false_eq_true, y_e_c, y_e_v, y_e_g, y_e_never, y_e_bin, y_e_neg, y_e_tst, y_e_ite, y_e_tup, y_e_lst, y_e_box, y_e_ix, y_e_sl, y_e_rev, y_e_call, y_e_blt, y_e_isi, y_e_lc, y_es_nil, y_es_cons, y_o_no, y_o_yes, y_t_val, y_t_cmp, y_t_chn, y_t_isnt, y_t_isnf, z_nnr_dat, z_nnr_own, z_nnr_brw, z_nn_none, z_nn_bool, z_nn_int, z_nn_str, z_nn_list, z_nn_tuple, y_t_isb, y_t_and, y_t_or, y_t_not, y_h_last, y_h_link, y_al_one, y_al_cons, y_an_one, y_an_cons, y_c_no, y_c_yes, y_i_seq, y_i_rng, y_i_zip, y_i_enum, y_s_never, y_s_pass, y_s_asg, y_s_par, y_s_par3, y_s_setO, y_s_unp, y_s_setB, y_s_exp, y_s_app, y_s_ext, y_s_iff, y_s_whl, y_s_forr, y_s_ret, y_s_retv, y_s_frz, y_ss_nil, y_ss_cons, argsOf, views, caps, Option.map_some, Option.map_none, Option.bind_some, Option.bind_none, List.getElem?_cons_zero, List.getElem?_cons_succ, List.set_cons_zero, List.set_cons_succ, List.length_cons, List.length_nil, z_read_dat, z_read_ref, z_read_scr, z_read_own, z_view_own, z_view_brw, z_view_dat, z_cap_dat, z_cap_own, z_hold_dat, z_hold_ref, z_hold_scr, z_hold_own, z_arg_dat, z_arg_ref, z_arg_scr, z_arg_own, z_look_t, z_look_f, z_len_ref, z_len_scr, z_len_l, z_len_t, z_len_o, z_len_b, z_ix_ref, z_ix_scr, z_ix_l, z_ix_t, z_ix_o, z_ix_b, z_blt_len, z_blt_abs, z_blt_tup, z_blt_lst, z_blt_sum, z_blt_all, z_blt_any, z_blt_min, z_blt_max, z_blt_sorted, z_blt_repr, z_blt_str, z_blt_int, z_blt_divmod, z_d_abs, z_d_tupl, z_d_tupt, z_d_lstl, z_d_lstt, z_d_sum, z_d_all, z_d_any, z_d_minl, z_d_maxl, z_d_min, z_d_max, z_d_sorted, z_d_divmod, z_d_int, z_d_repr, z_d_str, z_bin_i, z_bin_ll, z_bin_tt, z_bin_rep, z_add, z_sub, z_mul, z_fdiv, z_mod, z_eq, z_ne, z_lt, z_le, z_gt, z_ge, z_inl, z_int, z_ninl, z_nint, z_isi_int_none, z_isi_int_bool, z_isi_int_int, z_isi_int_str, z_isi_int_list, z_isi_int_tuple, z_isi_bool_none, z_isi_bool_bool, z_isi_bool_int, z_isi_bool_str, z_isi_bool_list, z_isi_bool_tuple, z_isi_str_none, z_isi_str_bool, z_isi_str_int, z_isi_str_str, z_isi_str_list, z_isi_str_tuple, z_isi_list_none, z_isi_list_bool, z_isi_list_int, z_isi_list_str, z_isi_list_list, z_isi_list_tuple, z_isi_tuple_none, z_isi_tuple_bool, z_isi_tuple_int, z_isi_tuple_str, z_isi_tuple_list, z_isi_tuple_tuple, z_out_rt, z_out_nx, z_eqi, z_eqb, z_rng1, z_rng2, z_si_l, z_si_t, z_bind_nm, z_bind_tt, z_bind_tl, z_binds_n, z_binds_c, z_sl_l, z_sl_t, z_at0, z_at1, z_at2, z_at3, z_ixN0, z_intsn, z_intsc, z_boolsn, z_boolsc, en, e1, d1, d2, dv, hp0]

/-! room -/
theorem s_room2 (k : Nat) (x : Qd) (st : Bx) (hx : x.Bdd) (dx : x.det ≠ 0) : callF tb (k + 6) "room" [.dat x.p] st = some (.dat (.int (x.det.natAbs : Int)), st) := by
  obtain ⟨a1, a2, a3, a4⟩ := x.bds hx
  have u : ∀ {x : Int}, Bd 300 x → Bd 1000 x := fun h => h.mono (by decide)
  have h1 := s_is_steps2 (k + 1) x.a x.b x.c x.d st (u a1) (u a2) (u a3) (u a4)
  rw [decide_eq_true (show x.a * x.d - x.b * x.c ≠ 0 from dx)] at h1
  have h2 : callF tb (k + 4) "is_steps" [.dat x.p] st = some (.dat (.bool true), st) := h1
  have h3 : callF tb (k + 5) "need_steps" [.dat x.p] st = some (.dat .none, st) := by
    rw [c_need_steps]
    simp (decide := true) only [b_need_steps, ↓reduceIte, Bool.not_true, Bool.not_false, decide_true, decide_false, wipeE, Bool.false_eq_true, y_e_c, y_e_v, y_e_g, y_e_never, y_e_bin, y_e_neg, y_e_tst, y_e_ite, y_e_tup, y_e_lst, y_e_box, y_e_ix, y_e_sl, y_e_rev, y_e_call, y_e_blt, y_e_isi, y_e_lc, y_es_nil, y_es_cons, y_o_no, y_o_yes, y_t_val, y_t_cmp, y_t_chn, y_t_isnt, y_t_isnf, z_nnr_dat, z_nnr_own, z_nnr_brw, z_nn_none, z_nn_bool, z_nn_int, z_nn_str, z_nn_list, z_nn_tuple, y_t_isb, y_t_and, y_t_or, y_t_not, y_h_last, y_h_link, y_al_one, y_al_cons, y_an_one, y_an_cons, y_c_no, y_c_yes, y_i_seq, y_i_rng, y_i_zip, y_i_enum, y_s_never, y_s_pass, y_s_asg, y_s_par, y_s_par3, y_s_setO, y_s_unp, y_s_setB, y_s_exp, y_s_app, y_s_ext, y_s_iff, y_s_whl, y_s_forr, y_s_ret, y_s_retv, y_s_frz, y_ss_nil, y_ss_cons, argsOf, views, caps, Option.map_some, Option.map_none, Option.bind_some, Option.bind_none, List.getElem?_cons_zero, List.getElem?_cons_succ, List.set_cons_zero, List.set_cons_succ, List.length_cons, List.length_nil, z_read_dat, z_read_ref, z_read_scr, z_read_own, z_view_own, z_view_brw, z_view_dat, z_cap_dat, z_cap_own, z_hold_dat, z_hold_ref, z_hold_scr, z_hold_own, z_arg_dat, z_arg_ref, z_arg_scr, z_arg_own, z_look_t, z_look_f, z_len_ref, z_len_scr, z_len_l, z_len_t, z_len_o, z_len_b, z_ix_ref, z_ix_scr, z_ix_l, z_ix_t, z_ix_o, z_ix_b, z_blt_len, z_blt_abs, z_blt_tup, z_blt_lst, z_blt_sum, z_blt_all, z_blt_any, z_blt_min, z_blt_max, z_blt_sorted, z_blt_repr, z_blt_str, z_blt_int, z_blt_divmod, z_d_abs, z_d_tupl, z_d_tupt, z_d_lstl, z_d_lstt, z_d_sum, z_d_all, z_d_any, z_d_minl, z_d_maxl, z_d_min, z_d_max, z_d_sorted, z_d_divmod, z_d_int, z_d_repr, z_d_str, z_bin_i, z_bin_ll, z_bin_tt, z_bin_rep, z_add, z_sub, z_mul, z_fdiv, z_mod, z_eq, z_ne, z_lt, z_le, z_gt, z_ge, z_inl, z_int, z_ninl, z_nint, z_isi_int_none, z_isi_int_bool, z_isi_int_int, z_isi_int_str, z_isi_int_list, z_isi_int_tuple, z_isi_bool_none, z_isi_bool_bool, z_isi_bool_int, z_isi_bool_str, z_isi_bool_list, z_isi_bool_tuple, z_isi_str_none, z_isi_str_bool, z_isi_str_int, z_isi_str_str, z_isi_str_list, z_isi_str_tuple, z_isi_list_none, z_isi_list_bool, z_isi_list_int, z_isi_list_str, z_isi_list_list, z_isi_list_tuple, z_isi_tuple_none, z_isi_tuple_bool, z_isi_tuple_int, z_isi_tuple_str, z_isi_tuple_list, z_isi_tuple_tuple, z_out_rt, z_out_nx, z_eqi, z_eqb, z_rng1, z_rng2, z_si_l, z_si_t, z_bind_nm, z_bind_tt, z_bind_tl, z_binds_n, z_binds_c, z_sl_l, z_sl_t, z_at0, z_at1, z_at2, z_at3, z_ixN0, z_intsn, z_intsc, z_boolsn, z_boolsc, h2]
  have h4 : callF tb (k + 5) "determinant" [.dat x.p] st = some (.dat (.int x.det), st) := s_det2 (k + 3) x.a x.b x.c x.d st (u a1) (u a2) (u a3) (u a4)
  rw [c_room]
  simp (decide := true) only [b_room, ↓reduceIte, Bool.not_true, Bool.not_false, decide_true, decide_false, wipeE, Bool.false_eq_true, y_e_c, y_e_v, y_e_g, y_e_never, y_e_bin, y_e_neg, y_e_tst, y_e_ite, y_e_tup, y_e_lst, y_e_box, y_e_ix, y_e_sl, y_e_rev, y_e_call, y_e_blt, y_e_isi, y_e_lc, y_es_nil, y_es_cons, y_o_no, y_o_yes, y_t_val, y_t_cmp, y_t_chn, y_t_isnt, y_t_isnf, z_nnr_dat, z_nnr_own, z_nnr_brw, z_nn_none, z_nn_bool, z_nn_int, z_nn_str, z_nn_list, z_nn_tuple, y_t_isb, y_t_and, y_t_or, y_t_not, y_h_last, y_h_link, y_al_one, y_al_cons, y_an_one, y_an_cons, y_c_no, y_c_yes, y_i_seq, y_i_rng, y_i_zip, y_i_enum, y_s_never, y_s_pass, y_s_asg, y_s_par, y_s_par3, y_s_setO, y_s_unp, y_s_setB, y_s_exp, y_s_app, y_s_ext, y_s_iff, y_s_whl, y_s_forr, y_s_ret, y_s_retv, y_s_frz, y_ss_nil, y_ss_cons, argsOf, views, caps, Option.map_some, Option.map_none, Option.bind_some, Option.bind_none, List.getElem?_cons_zero, List.getElem?_cons_succ, List.set_cons_zero, List.set_cons_succ, List.length_cons, List.length_nil, z_read_dat, z_read_ref, z_read_scr, z_read_own, z_view_own, z_view_brw, z_view_dat, z_cap_dat, z_cap_own, z_hold_dat, z_hold_ref, z_hold_scr, z_hold_own, z_arg_dat, z_arg_ref, z_arg_scr, z_arg_own, z_look_t, z_look_f, z_len_ref, z_len_scr, z_len_l, z_len_t, z_len_o, z_len_b, z_ix_ref, z_ix_scr, z_ix_l, z_ix_t, z_ix_o, z_ix_b, z_blt_len, z_blt_abs, z_blt_tup, z_blt_lst, z_blt_sum, z_blt_all, z_blt_any, z_blt_min, z_blt_max, z_blt_sorted, z_blt_repr, z_blt_str, z_blt_int, z_blt_divmod, z_d_abs, z_d_tupl, z_d_tupt, z_d_lstl, z_d_lstt, z_d_sum, z_d_all, z_d_any, z_d_minl, z_d_maxl, z_d_min, z_d_max, z_d_sorted, z_d_divmod, z_d_int, z_d_repr, z_d_str, z_bin_i, z_bin_ll, z_bin_tt, z_bin_rep, z_add, z_sub, z_mul, z_fdiv, z_mod, z_eq, z_ne, z_lt, z_le, z_gt, z_ge, z_inl, z_int, z_ninl, z_nint, z_isi_int_none, z_isi_int_bool, z_isi_int_int, z_isi_int_str, z_isi_int_list, z_isi_int_tuple, z_isi_bool_none, z_isi_bool_bool, z_isi_bool_int, z_isi_bool_str, z_isi_bool_list, z_isi_bool_tuple, z_isi_str_none, z_isi_str_bool, z_isi_str_int, z_isi_str_str, z_isi_str_list, z_isi_str_tuple, z_isi_list_none, z_isi_list_bool, z_isi_list_int, z_isi_list_str, z_isi_list_list, z_isi_list_tuple, z_isi_tuple_none, z_isi_tuple_bool, z_isi_tuple_int, z_isi_tuple_str, z_isi_tuple_list, z_isi_tuple_tuple, z_out_rt, z_out_nx, z_eqi, z_eqb, z_rng1, z_rng2, z_si_l, z_si_t, z_bind_nm, z_bind_tt, z_bind_tl, z_binds_n, z_binds_c, z_sl_l, z_sl_t, z_at0, z_at1, z_at2, z_at3, z_ixN0, z_intsn, z_intsc, z_boolsn, z_boolsc, h3, h4]

/-! grown -/
theorem s_grown (k : Nat) (a b c d w : Int) (st : Bx) (ha : Bd 1000 a) (hb : Bd 1000 b) (hc : Bd 1000 c) (hd : Bd 1000 d) (h : a * d - b * c ≠ 0) (h1 : 1 ≤ w) (h9 : w ≤ 9) :
    callF tb (k + 5) "grown" [.dat (.tuple [.tuple [.int a, .int b], .tuple [.int c, .int d]]), .dat (.int w)] st =
      some (.dat (.tuple [.tuple [.int (w * a), .int (w * b)], .tuple [.int (w * c), .int (w * d)]]), st) := by
  rw [c_grown]
  have hw : Bd 60 w := bd_s (by omega) (by omega)
  have m1 : mulOk w a = true := by exact Sy.mulOk_bd (by repeat' (first | assumption | apply Sy.bd_mul | apply Sy.bd_add | apply Sy.bd_sub | apply Sy.bd_neg | apply Sy.bd_abs | (exact Sy.bd_s (by decide) (by decide)) | (exact Sy.bd_s (by omega) (by omega)))) (by repeat' (first | assumption | apply Sy.bd_mul | apply Sy.bd_add | apply Sy.bd_sub | apply Sy.bd_neg | apply Sy.bd_abs | (exact Sy.bd_s (by decide) (by decide)) | (exact Sy.bd_s (by omega) (by omega)))) (by decide)
  have m2 : mulOk w b = true := by exact Sy.mulOk_bd (by repeat' (first | assumption | apply Sy.bd_mul | apply Sy.bd_add | apply Sy.bd_sub | apply Sy.bd_neg | apply Sy.bd_abs | (exact Sy.bd_s (by decide) (by decide)) | (exact Sy.bd_s (by omega) (by omega)))) (by repeat' (first | assumption | apply Sy.bd_mul | apply Sy.bd_add | apply Sy.bd_sub | apply Sy.bd_neg | apply Sy.bd_abs | (exact Sy.bd_s (by decide) (by decide)) | (exact Sy.bd_s (by omega) (by omega)))) (by decide)
  have m3 : mulOk w c = true := by exact Sy.mulOk_bd (by repeat' (first | assumption | apply Sy.bd_mul | apply Sy.bd_add | apply Sy.bd_sub | apply Sy.bd_neg | apply Sy.bd_abs | (exact Sy.bd_s (by decide) (by decide)) | (exact Sy.bd_s (by omega) (by omega)))) (by repeat' (first | assumption | apply Sy.bd_mul | apply Sy.bd_add | apply Sy.bd_sub | apply Sy.bd_neg | apply Sy.bd_abs | (exact Sy.bd_s (by decide) (by decide)) | (exact Sy.bd_s (by omega) (by omega)))) (by decide)
  have m4 : mulOk w d = true := by exact Sy.mulOk_bd (by repeat' (first | assumption | apply Sy.bd_mul | apply Sy.bd_add | apply Sy.bd_sub | apply Sy.bd_neg | apply Sy.bd_abs | (exact Sy.bd_s (by decide) (by decide)) | (exact Sy.bd_s (by omega) (by omega)))) (by repeat' (first | assumption | apply Sy.bd_mul | apply Sy.bd_add | apply Sy.bd_sub | apply Sy.bd_neg | apply Sy.bd_abs | (exact Sy.bd_s (by decide) (by decide)) | (exact Sy.bd_s (by omega) (by omega)))) (by decide)
  have f2 : fitsL 2 = true := by decide
  have hq := s_is_whole (k + 3) (.int w) st
  simp (decide := true) only [b_grown, q_grown_1, ↓reduceIte, Bool.not_true, Bool.not_false, decide_true, decide_false, wipeE, Bool.false_eq_true, y_e_c, y_e_v, y_e_g, y_e_never, y_e_bin, y_e_neg, y_e_tst, y_e_ite, y_e_tup, y_e_lst, y_e_box, y_e_ix, y_e_sl, y_e_rev, y_e_call, y_e_blt, y_e_isi, y_e_lc, y_es_nil, y_es_cons, y_o_no, y_o_yes, y_t_val, y_t_cmp, y_t_chn, y_t_isnt, y_t_isnf, z_nnr_dat, z_nnr_own, z_nnr_brw, z_nn_none, z_nn_bool, z_nn_int, z_nn_str, z_nn_list, z_nn_tuple, y_t_isb, y_t_and, y_t_or, y_t_not, y_h_last, y_h_link, y_al_one, y_al_cons, y_an_one, y_an_cons, y_c_no, y_c_yes, y_i_seq, y_i_rng, y_i_zip, y_i_enum, y_s_never, y_s_pass, y_s_asg, y_s_par, y_s_par3, y_s_setO, y_s_unp, y_s_setB, y_s_exp, y_s_app, y_s_ext, y_s_iff, y_s_whl, y_s_forr, y_s_ret, y_s_retv, y_s_frz, y_ss_nil, y_ss_cons, argsOf, views, caps, Option.map_some, Option.map_none, Option.bind_some, Option.bind_none, List.getElem?_cons_zero, List.getElem?_cons_succ, List.set_cons_zero, List.set_cons_succ, List.length_cons, List.length_nil, z_read_dat, z_read_ref, z_read_scr, z_read_own, z_view_own, z_view_brw, z_view_dat, z_cap_dat, z_cap_own, z_hold_dat, z_hold_ref, z_hold_scr, z_hold_own, z_arg_dat, z_arg_ref, z_arg_scr, z_arg_own, z_look_t, z_look_f, z_len_ref, z_len_scr, z_len_l, z_len_t, z_len_o, z_len_b, z_ix_ref, z_ix_scr, z_ix_l, z_ix_t, z_ix_o, z_ix_b, z_blt_len, z_blt_abs, z_blt_tup, z_blt_lst, z_blt_sum, z_blt_all, z_blt_any, z_blt_min, z_blt_max, z_blt_sorted, z_blt_repr, z_blt_str, z_blt_int, z_blt_divmod, z_d_abs, z_d_tupl, z_d_tupt, z_d_lstl, z_d_lstt, z_d_sum, z_d_all, z_d_any, z_d_minl, z_d_maxl, z_d_min, z_d_max, z_d_sorted, z_d_divmod, z_d_int, z_d_repr, z_d_str, z_bin_i, z_bin_ll, z_bin_tt, z_bin_rep, z_add, z_sub, z_mul, z_fdiv, z_mod, z_eq, z_ne, z_lt, z_le, z_gt, z_ge, z_inl, z_int, z_ninl, z_nint, z_isi_int_none, z_isi_int_bool, z_isi_int_int, z_isi_int_str, z_isi_int_list, z_isi_int_tuple, z_isi_bool_none, z_isi_bool_bool, z_isi_bool_int, z_isi_bool_str, z_isi_bool_list, z_isi_bool_tuple, z_isi_str_none, z_isi_str_bool, z_isi_str_int, z_isi_str_str, z_isi_str_list, z_isi_str_tuple, z_isi_list_none, z_isi_list_bool, z_isi_list_int, z_isi_list_str, z_isi_list_list, z_isi_list_tuple, z_isi_tuple_none, z_isi_tuple_bool, z_isi_tuple_int, z_isi_tuple_str, z_isi_tuple_list, z_isi_tuple_tuple, z_out_rt, z_out_nx, z_eqi, z_eqb, z_rng1, z_rng2, z_si_l, z_si_t, z_bind_nm, z_bind_tt, z_bind_tl, z_binds_n, z_binds_c, z_sl_l, z_sl_t, z_at0, z_at1, z_at2, z_at3, z_ixN0, z_intsn, z_intsc, z_boolsn, z_boolsc, z_eqs, z_fgn, z_fgc, z_lcn, z_lcc, rng_2, rng_3, z_en2, z_en3, z_zn, z_zn2, z_zc, cut2_a0, cut2_a1, cut2_b1, cut2_b2, cut3_a0, cut3_a1, cut3_a2, cut3_b1, cut3_b2, cut3_b3, List.nil_append, List.cons_append, Int.reduceAdd, Int.reduceSub, Int.reduceMul, Int.reduceMod, Int.reduceNeg, Int.reduceToNat, Nat.reduceAdd, Int.cast_ofNat_Int, Int.natCast_add, s_need_pair k a b c d st ha hb hc hd h, hq, isW, h1, h9, m1, m2, m3, m4, f2, Bool.not_true]

/-! need_between -/
theorem s_need_between (k : Nat) (N L : Int) (st : Bx) (h0 : L ≤ N) (h : N ≤ 200) : callF tb (k + 2) "need_between" [.dat (.int N), .dat (.int L)] st = some (.dat .none, st) := by
  rw [c_need_between]
  have hq := s_is_whole k (.int N) st
  simp (decide := true) only [b_need_between, ↓reduceIte, Bool.not_true, Bool.not_false, decide_true, decide_false, wipeE, Bool.false_eq_true, y_e_c, y_e_v, y_e_g, y_e_never, y_e_bin, y_e_neg, y_e_tst, y_e_ite, y_e_tup, y_e_lst, y_e_box, y_e_ix, y_e_sl, y_e_rev, y_e_call, y_e_blt, y_e_isi, y_e_lc, y_es_nil, y_es_cons, y_o_no, y_o_yes, y_t_val, y_t_cmp, y_t_chn, y_t_isnt, y_t_isnf, z_nnr_dat, z_nnr_own, z_nnr_brw, z_nn_none, z_nn_bool, z_nn_int, z_nn_str, z_nn_list, z_nn_tuple, y_t_isb, y_t_and, y_t_or, y_t_not, y_h_last, y_h_link, y_al_one, y_al_cons, y_an_one, y_an_cons, y_c_no, y_c_yes, y_i_seq, y_i_rng, y_i_zip, y_i_enum, y_s_never, y_s_pass, y_s_asg, y_s_par, y_s_par3, y_s_setO, y_s_unp, y_s_setB, y_s_exp, y_s_app, y_s_ext, y_s_iff, y_s_whl, y_s_forr, y_s_ret, y_s_retv, y_s_frz, y_ss_nil, y_ss_cons, argsOf, views, caps, Option.map_some, Option.map_none, Option.bind_some, Option.bind_none, List.getElem?_cons_zero, List.getElem?_cons_succ, List.set_cons_zero, List.set_cons_succ, List.length_cons, List.length_nil, z_read_dat, z_read_ref, z_read_scr, z_read_own, z_view_own, z_view_brw, z_view_dat, z_cap_dat, z_cap_own, z_hold_dat, z_hold_ref, z_hold_scr, z_hold_own, z_arg_dat, z_arg_ref, z_arg_scr, z_arg_own, z_look_t, z_look_f, z_len_ref, z_len_scr, z_len_l, z_len_t, z_len_o, z_len_b, z_ix_ref, z_ix_scr, z_ix_l, z_ix_t, z_ix_o, z_ix_b, z_blt_len, z_blt_abs, z_blt_tup, z_blt_lst, z_blt_sum, z_blt_all, z_blt_any, z_blt_min, z_blt_max, z_blt_sorted, z_blt_repr, z_blt_str, z_blt_int, z_blt_divmod, z_d_abs, z_d_tupl, z_d_tupt, z_d_lstl, z_d_lstt, z_d_sum, z_d_all, z_d_any, z_d_minl, z_d_maxl, z_d_min, z_d_max, z_d_sorted, z_d_divmod, z_d_int, z_d_repr, z_d_str, z_bin_i, z_bin_ll, z_bin_tt, z_bin_rep, z_add, z_sub, z_mul, z_fdiv, z_mod, z_eq, z_ne, z_lt, z_le, z_gt, z_ge, z_inl, z_int, z_ninl, z_nint, z_isi_int_none, z_isi_int_bool, z_isi_int_int, z_isi_int_str, z_isi_int_list, z_isi_int_tuple, z_isi_bool_none, z_isi_bool_bool, z_isi_bool_int, z_isi_bool_str, z_isi_bool_list, z_isi_bool_tuple, z_isi_str_none, z_isi_str_bool, z_isi_str_int, z_isi_str_str, z_isi_str_list, z_isi_str_tuple, z_isi_list_none, z_isi_list_bool, z_isi_list_int, z_isi_list_str, z_isi_list_list, z_isi_list_tuple, z_isi_tuple_none, z_isi_tuple_bool, z_isi_tuple_int, z_isi_tuple_str, z_isi_tuple_list, z_isi_tuple_tuple, z_out_rt, z_out_nx, z_eqi, z_eqb, z_rng1, z_rng2, z_si_l, z_si_t, z_bind_nm, z_bind_tt, z_bind_tl, z_binds_n, z_binds_c, z_sl_l, z_sl_t, z_at0, z_at1, z_at2, z_at3, z_ixN0, z_intsn, z_intsc, z_boolsn, z_boolsc, z_eqs, z_fgn, z_fgc, z_lcn, z_lcc, rng_2, rng_3, z_en2, z_en3, z_zn, z_zn2, z_zc, cut2_a0, cut2_a1, cut2_b1, cut2_b2, cut3_a0, cut3_a1, cut3_a2, cut3_b1, cut3_b2, cut3_b3, List.nil_append, List.cons_append, Int.reduceAdd, Int.reduceSub, Int.reduceMul, Int.reduceMod, Int.reduceNeg, Int.reduceToNat, Nat.reduceAdd, Int.cast_ofNat_Int, Int.natCast_add, hq, isW, h0, h, Bool.not_true]

/-! k62: the walks -/
theorem fm_app {α : Type} (acc : List α) (f : Int → List α) (lo : Int) (j : Nat) : (acc ++ fm f lo j) ++ f (lo + j) = acc ++ fm f lo (j + 1) := by rw [fm_succ, List.append_assoc]
theorem ltz {n : Nat} (h : n ≤ 1000) : n < sizeLine := Nat.lt_of_le_of_lt h (by decide)
theorem s_sb0 (cf : Cf) (N f b : Int) (acc : List PyData) (st : Bx) (hN : 1 ≤ N) (hN2 : N ≤ 200) (hf : 1 ≤ f) (hf2 : f ≤ 17) (hb0 : 0 ≤ b) (hb1 : b ≤ 20) (ha : acc.length ≤ 600) (x4 x5 x6 : Option R) :
    ∃ y4, Stms.den cf lb_shapes_by_1 [some (.dat (.int N)), some (.own acc), some (.dat (.int f)), some (.dat (.int b)), x4, x5, x6] st = some (.nx [some (.dat (.int N)), some (.own (acc ++ hs N f b)), some (.dat (.int f)), some (.dat (.int b)), y4, x5, x6] st) := by
  have df : divOk f = true := divOk_s (by omega) (by omega)
  have pf : 0 < f := by omega
  have f3 : fitsL 3 = true := by decide
  have ls : acc.length < sizeLine := ltz (by omega)
  have bb : Bd 60 b := bd_s (by omega) (by omega)
  have bf : Bd 60 f := bd_s (by omega) (by omega)
  have m1 : mulOk b b = true := by exact Sy.mulOk_bd (by repeat' (first | assumption | apply Sy.bd_mul | apply Sy.bd_add | apply Sy.bd_sub | apply Sy.bd_neg | apply Sy.bd_abs | (exact Sy.bd_s (by decide) (by decide)) | (exact Sy.bd_s (by omega) (by omega)))) (by repeat' (first | assumption | apply Sy.bd_mul | apply Sy.bd_add | apply Sy.bd_sub | apply Sy.bd_neg | apply Sy.bd_abs | (exact Sy.bd_s (by decide) (by decide)) | (exact Sy.bd_s (by omega) (by omega)))) (by decide)
  have hl0 : 0 ≤ (N + b * b) / f := Int.ediv_nonneg (by have := sq_nn b; omega) (by omega)
  have hl1 : (N + b * b) / f ≤ N + b * b := Int.ediv_le_self _ (by have := sq_nn b; omega)
  have hl2 : b * b ≤ 20 * 20 := Int.mul_le_mul hb1 hb1 hb0 (by omega)
  have bl : Bd 60 ((N + b * b) / f) := bd_s (by omega) (by omega)
  have m2 : mulOk f ((N + b * b) / f) = true := by exact Sy.mulOk_bd (by repeat' (first | assumption | apply Sy.bd_mul | apply Sy.bd_add | apply Sy.bd_sub | apply Sy.bd_neg | apply Sy.bd_abs | (exact Sy.bd_s (by decide) (by decide)) | (exact Sy.bd_s (by omega) (by omega)))) (by repeat' (first | assumption | apply Sy.bd_mul | apply Sy.bd_add | apply Sy.bd_sub | apply Sy.bd_neg | apply Sy.bd_abs | (exact Sy.bd_s (by decide) (by decide)) | (exact Sy.bd_s (by omega) (by omega)))) (by decide)
  refine ⟨some (.dat (.int ((N + b * b) / f))), ?_⟩
  unfold hs
  by_cases h : f ≤ (N + b * b) / f <;> by_cases h2 : f * ((N + b * b) / f) - b * b = N <;>
    simp (decide := true) only [lb_shapes_by_1, ↓reduceIte, Bool.not_true, Bool.not_false, decide_true, decide_false, wipeE, Bool.false_eq_true, y_e_c, y_e_v, y_e_g, y_e_never, y_e_bin, y_e_neg, y_e_tst, y_e_ite, y_e_tup, y_e_lst, y_e_box, y_e_ix, y_e_sl, y_e_rev, y_e_call, y_e_blt, y_e_isi, y_e_lc, y_es_nil, y_es_cons, y_o_no, y_o_yes, y_t_val, y_t_cmp, y_t_chn, y_t_isnt, y_t_isnf, z_nnr_dat, z_nnr_own, z_nnr_brw, z_nn_none, z_nn_bool, z_nn_int, z_nn_str, z_nn_list, z_nn_tuple, y_t_isb, y_t_and, y_t_or, y_t_not, y_h_last, y_h_link, y_al_one, y_al_cons, y_an_one, y_an_cons, y_c_no, y_c_yes, y_i_seq, y_i_rng, y_i_zip, y_i_enum, y_s_never, y_s_pass, y_s_asg, y_s_par, y_s_par3, y_s_setO, y_s_unp, y_s_setB, y_s_exp, y_s_app, y_s_ext, y_s_iff, y_s_whl, y_s_forr, y_s_ret, y_s_retv, y_s_frz, y_ss_nil, y_ss_cons, argsOf, views, caps, Option.map_some, Option.map_none, Option.bind_some, Option.bind_none, List.getElem?_cons_zero, List.getElem?_cons_succ, List.set_cons_zero, List.set_cons_succ, List.length_cons, List.length_nil, z_read_dat, z_read_ref, z_read_scr, z_read_own, z_view_own, z_view_brw, z_view_dat, z_cap_dat, z_cap_own, z_hold_dat, z_hold_ref, z_hold_scr, z_hold_own, z_arg_dat, z_arg_ref, z_arg_scr, z_arg_own, z_look_t, z_look_f, z_len_ref, z_len_scr, z_len_l, z_len_t, z_len_o, z_len_b, z_ix_ref, z_ix_scr, z_ix_l, z_ix_t, z_ix_o, z_ix_b, z_blt_len, z_blt_abs, z_blt_tup, z_blt_lst, z_blt_sum, z_blt_all, z_blt_any, z_blt_min, z_blt_max, z_blt_sorted, z_blt_repr, z_blt_str, z_blt_int, z_blt_divmod, z_d_abs, z_d_tupl, z_d_tupt, z_d_lstl, z_d_lstt, z_d_sum, z_d_all, z_d_any, z_d_minl, z_d_maxl, z_d_min, z_d_max, z_d_sorted, z_d_divmod, z_d_int, z_d_repr, z_d_str, z_bin_i, z_bin_ll, z_bin_tt, z_bin_rep, z_add, z_sub, z_mul, z_fdiv, z_mod, z_eq, z_ne, z_lt, z_le, z_gt, z_ge, z_inl, z_int, z_ninl, z_nint, z_isi_int_none, z_isi_int_bool, z_isi_int_int, z_isi_int_str, z_isi_int_list, z_isi_int_tuple, z_isi_bool_none, z_isi_bool_bool, z_isi_bool_int, z_isi_bool_str, z_isi_bool_list, z_isi_bool_tuple, z_isi_str_none, z_isi_str_bool, z_isi_str_int, z_isi_str_str, z_isi_str_list, z_isi_str_tuple, z_isi_list_none, z_isi_list_bool, z_isi_list_int, z_isi_list_str, z_isi_list_list, z_isi_list_tuple, z_isi_tuple_none, z_isi_tuple_bool, z_isi_tuple_int, z_isi_tuple_str, z_isi_tuple_list, z_isi_tuple_tuple, z_out_rt, z_out_nx, z_eqi, z_eqb, z_rng1, z_rng2, z_si_l, z_si_t, z_bind_nm, z_bind_tt, z_bind_tl, z_binds_n, z_binds_c, z_sl_l, z_sl_t, z_at0, z_at1, z_at2, z_at3, z_ixN0, z_intsn, z_intsc, z_boolsn, z_boolsc, z_eqs, z_fgn, z_fgc, z_lcn, z_lcc, rng_2, rng_3, z_en2, z_en3, z_zn, z_zn2, z_zc, cut2_a0, cut2_a1, cut2_b1, cut2_b2, cut3_a0, cut3_a1, cut3_a2, cut3_b1, cut3_b2, cut3_b3, List.nil_append, List.cons_append, Int.reduceAdd, Int.reduceSub, Int.reduceMul, Int.reduceMod, Int.reduceNeg, Int.reduceToNat, Nat.reduceAdd, Int.cast_ofNat_Int, Int.natCast_add, m1, df, pf, m2, h, h2, ls, f3, and_self, and_true, true_and, and_false, false_and, List.append_nil]
theorem s_sb1 (cf : Cf) (N f : Int) (acc : List PyData) (st : Bx) (hN : 1 ≤ N) (hN2 : N ≤ 200) (hf : 1 ≤ f) (hf2 : f ≤ 17) (ha : acc.length ≤ 500) (x3 x4 x5 x6 : Option R) :
    ∃ y3 y4, Stm.den cf l_shapes_by_1 [some (.dat (.int N)), some (.own acc), some (.dat (.int f)), x3, x4, x5, x6] st = some (.nx [some (.dat (.int N)), some (.own (acc ++ Hf N f)), some (.dat (.int f)), y3, y4, x5, x6] st) := by
  have d2 : divOk 2 = true := by decide
  have r1 : rngOk (f / 2 + 1) = true := rngOk_s (by omega) (by omega)
  obtain ⟨env1, st2, e1, y3, y4, e2, e3⟩ := den_for (cf := cf) (tg := .nm 3) (it := .rng (.cons (.bin .add (.bin .fdiv (.v 2) (.c (.int 2))) (.c (.int 1))) .nil)) (b := lb_shapes_by_1)
    (env := [some (.dat (.int N)), some (.own acc), some (.dat (.int f)), x3, x4, x5, x6]) (st := st) (st1 := st) (items := rngItems 0 (f / 2 + 1).toNat) (by simp (decide := true) only [↓reduceIte, Bool.not_true, Bool.not_false, decide_true, decide_false, wipeE, Bool.false_eq_true, y_e_c, y_e_v, y_e_g, y_e_never, y_e_bin, y_e_neg, y_e_tst, y_e_ite, y_e_tup, y_e_lst, y_e_box, y_e_ix, y_e_sl, y_e_rev, y_e_call, y_e_blt, y_e_isi, y_e_lc, y_es_nil, y_es_cons, y_o_no, y_o_yes, y_t_val, y_t_cmp, y_t_chn, y_t_isnt, y_t_isnf, z_nnr_dat, z_nnr_own, z_nnr_brw, z_nn_none, z_nn_bool, z_nn_int, z_nn_str, z_nn_list, z_nn_tuple, y_t_isb, y_t_and, y_t_or, y_t_not, y_h_last, y_h_link, y_al_one, y_al_cons, y_an_one, y_an_cons, y_c_no, y_c_yes, y_i_seq, y_i_rng, y_i_zip, y_i_enum, y_s_never, y_s_pass, y_s_asg, y_s_par, y_s_par3, y_s_setO, y_s_unp, y_s_setB, y_s_exp, y_s_app, y_s_ext, y_s_iff, y_s_whl, y_s_forr, y_s_ret, y_s_retv, y_s_frz, y_ss_nil, y_ss_cons, argsOf, views, caps, Option.map_some, Option.map_none, Option.bind_some, Option.bind_none, List.getElem?_cons_zero, List.getElem?_cons_succ, List.set_cons_zero, List.set_cons_succ, List.length_cons, List.length_nil, z_read_dat, z_read_ref, z_read_scr, z_read_own, z_view_own, z_view_brw, z_view_dat, z_cap_dat, z_cap_own, z_hold_dat, z_hold_ref, z_hold_scr, z_hold_own, z_arg_dat, z_arg_ref, z_arg_scr, z_arg_own, z_look_t, z_look_f, z_len_ref, z_len_scr, z_len_l, z_len_t, z_len_o, z_len_b, z_ix_ref, z_ix_scr, z_ix_l, z_ix_t, z_ix_o, z_ix_b, z_blt_len, z_blt_abs, z_blt_tup, z_blt_lst, z_blt_sum, z_blt_all, z_blt_any, z_blt_min, z_blt_max, z_blt_sorted, z_blt_repr, z_blt_str, z_blt_int, z_blt_divmod, z_d_abs, z_d_tupl, z_d_tupt, z_d_lstl, z_d_lstt, z_d_sum, z_d_all, z_d_any, z_d_minl, z_d_maxl, z_d_min, z_d_max, z_d_sorted, z_d_divmod, z_d_int, z_d_repr, z_d_str, z_bin_i, z_bin_ll, z_bin_tt, z_bin_rep, z_add, z_sub, z_mul, z_fdiv, z_mod, z_eq, z_ne, z_lt, z_le, z_gt, z_ge, z_inl, z_int, z_ninl, z_nint, z_isi_int_none, z_isi_int_bool, z_isi_int_int, z_isi_int_str, z_isi_int_list, z_isi_int_tuple, z_isi_bool_none, z_isi_bool_bool, z_isi_bool_int, z_isi_bool_str, z_isi_bool_list, z_isi_bool_tuple, z_isi_str_none, z_isi_str_bool, z_isi_str_int, z_isi_str_str, z_isi_str_list, z_isi_str_tuple, z_isi_list_none, z_isi_list_bool, z_isi_list_int, z_isi_list_str, z_isi_list_list, z_isi_list_tuple, z_isi_tuple_none, z_isi_tuple_bool, z_isi_tuple_int, z_isi_tuple_str, z_isi_tuple_list, z_isi_tuple_tuple, z_out_rt, z_out_nx, z_eqi, z_eqb, z_rng1, z_rng2, z_si_l, z_si_t, z_bind_nm, z_bind_tt, z_bind_tl, z_binds_n, z_binds_c, z_sl_l, z_sl_t, z_at0, z_at1, z_at2, z_at3, z_ixN0, z_intsn, z_intsc, z_boolsn, z_boolsc, d2, r1])
    (fun j env s => ∃ y3 y4, env = [some (.dat (.int N)), some (.own (acc ++ fm (hs N f) 0 j)), some (.dat (.int f)), y3, y4, x5, x6] ∧ s = st)
    ⟨_, _, by rw [fm_zero, List.append_nil], rfl⟩ fun j d env s hd ⟨y3, y4, e, es⟩ => by
      obtain ⟨hj, ed⟩ := rngItems_get hd
      subst ed e es
      have hl : (fm (hs N f) 0 j).length ≤ j * 1 := fm_len (hs_len N f) j
      obtain ⟨z4, e⟩ := s_sb0 cf N f (0 + (j : Int)) (acc ++ fm (hs N f) 0 j) s hN hN2 hf hf2 (by omega) (by omega) (by rw [List.length_append]; omega) y4 x5 x6
      rw [fm_app] at e
      exact ⟨_, _, s, z_bind_nm _ _ _, e, _, _, rfl, rfl⟩
  subst e2 e3
  rw [rngItems_len] at e1
  exact ⟨y3, y4, e1⟩
theorem s_sortR (cf : Cf) (N : Int) (st : Bx) (hN : 1 ≤ N) (hN2 : N ≤ 200) (x2 x3 x4 x5 x6 : Option R) :
    Ex.den cf q_shapes_by_1 [some (.dat (.int N)), some (.own (Qs N)), x2, x3, x4, x5, x6] st = some (.own (Rs N), st) := by
  have f3 : fitsL 3 = true := by decide
  refine den_lc (items := sortD (Qs N)) (by simp (decide := true) only [↓reduceIte, Bool.not_true, Bool.not_false, decide_true, decide_false, wipeE, Bool.false_eq_true, y_e_c, y_e_v, y_e_g, y_e_never, y_e_bin, y_e_neg, y_e_tst, y_e_ite, y_e_tup, y_e_lst, y_e_box, y_e_ix, y_e_sl, y_e_rev, y_e_call, y_e_blt, y_e_isi, y_e_lc, y_es_nil, y_es_cons, y_o_no, y_o_yes, y_t_val, y_t_cmp, y_t_chn, y_t_isnt, y_t_isnf, z_nnr_dat, z_nnr_own, z_nnr_brw, z_nn_none, z_nn_bool, z_nn_int, z_nn_str, z_nn_list, z_nn_tuple, y_t_isb, y_t_and, y_t_or, y_t_not, y_h_last, y_h_link, y_al_one, y_al_cons, y_an_one, y_an_cons, y_c_no, y_c_yes, y_i_seq, y_i_rng, y_i_zip, y_i_enum, y_s_never, y_s_pass, y_s_asg, y_s_par, y_s_par3, y_s_setO, y_s_unp, y_s_setB, y_s_exp, y_s_app, y_s_ext, y_s_iff, y_s_whl, y_s_forr, y_s_ret, y_s_retv, y_s_frz, y_ss_nil, y_ss_cons, argsOf, views, caps, Option.map_some, Option.map_none, Option.bind_some, Option.bind_none, List.getElem?_cons_zero, List.getElem?_cons_succ, List.set_cons_zero, List.set_cons_succ, List.length_cons, List.length_nil, z_read_dat, z_read_ref, z_read_scr, z_read_own, z_view_own, z_view_brw, z_view_dat, z_cap_dat, z_cap_own, z_hold_dat, z_hold_ref, z_hold_scr, z_hold_own, z_arg_dat, z_arg_ref, z_arg_scr, z_arg_own, z_look_t, z_look_f, z_len_ref, z_len_scr, z_len_l, z_len_t, z_len_o, z_len_b, z_ix_ref, z_ix_scr, z_ix_l, z_ix_t, z_ix_o, z_ix_b, z_blt_len, z_blt_abs, z_blt_tup, z_blt_lst, z_blt_sum, z_blt_all, z_blt_any, z_blt_min, z_blt_max, z_blt_sorted, z_blt_repr, z_blt_str, z_blt_int, z_blt_divmod, z_d_abs, z_d_tupl, z_d_tupt, z_d_lstl, z_d_lstt, z_d_sum, z_d_all, z_d_any, z_d_minl, z_d_maxl, z_d_min, z_d_max, z_d_sorted, z_d_divmod, z_d_int, z_d_repr, z_d_str, z_bin_i, z_bin_ll, z_bin_tt, z_bin_rep, z_add, z_sub, z_mul, z_fdiv, z_mod, z_eq, z_ne, z_lt, z_le, z_gt, z_ge, z_inl, z_int, z_ninl, z_nint, z_isi_int_none, z_isi_int_bool, z_isi_int_int, z_isi_int_str, z_isi_int_list, z_isi_int_tuple, z_isi_bool_none, z_isi_bool_bool, z_isi_bool_int, z_isi_bool_str, z_isi_bool_list, z_isi_bool_tuple, z_isi_str_none, z_isi_str_bool, z_isi_str_int, z_isi_str_str, z_isi_str_list, z_isi_str_tuple, z_isi_list_none, z_isi_list_bool, z_isi_list_int, z_isi_list_str, z_isi_list_list, z_isi_list_tuple, z_isi_tuple_none, z_isi_tuple_bool, z_isi_tuple_int, z_isi_tuple_str, z_isi_tuple_list, z_isi_tuple_tuple, z_out_rt, z_out_nx, z_eqi, z_eqb, z_rng1, z_rng2, z_si_l, z_si_t, z_bind_nm, z_bind_tt, z_bind_tl, z_binds_n, z_binds_c, z_sl_l, z_sl_t, z_at0, z_at1, z_at2, z_at3, z_ixN0, z_intsn, z_intsc, z_boolsn, z_boolsc, z_d_sorted (Qs_sort hN hN2)]) turn3 (fun d hd => ?_) (by rw [sort_len]; exact Nat.le_trans (Qs_len N) (by decide))
  obtain ⟨f, l, b, rfl, -⟩ := Qs_mem hN hN2 (sort_mem hd)
  exact ⟨[some (.dat (.int N)), some (.own (Qs N)), x2, some (.dat (.int b)), x4, some (.dat (.int f)), some (.dat (.int l))], by simp only [↓reduceIte, Bool.not_true, Bool.not_false, decide_true, decide_false, wipeE, Bool.false_eq_true, y_e_c, y_e_v, y_e_g, y_e_never, y_e_bin, y_e_neg, y_e_tst, y_e_ite, y_e_tup, y_e_lst, y_e_box, y_e_ix, y_e_sl, y_e_rev, y_e_call, y_e_blt, y_e_isi, y_e_lc, y_es_nil, y_es_cons, y_o_no, y_o_yes, y_t_val, y_t_cmp, y_t_chn, y_t_isnt, y_t_isnf, z_nnr_dat, z_nnr_own, z_nnr_brw, z_nn_none, z_nn_bool, z_nn_int, z_nn_str, z_nn_list, z_nn_tuple, y_t_isb, y_t_and, y_t_or, y_t_not, y_h_last, y_h_link, y_al_one, y_al_cons, y_an_one, y_an_cons, y_c_no, y_c_yes, y_i_seq, y_i_rng, y_i_zip, y_i_enum, y_s_never, y_s_pass, y_s_asg, y_s_par, y_s_par3, y_s_setO, y_s_unp, y_s_setB, y_s_exp, y_s_app, y_s_ext, y_s_iff, y_s_whl, y_s_forr, y_s_ret, y_s_retv, y_s_frz, y_ss_nil, y_ss_cons, argsOf, views, caps, Option.map_some, Option.map_none, Option.bind_some, Option.bind_none, List.getElem?_cons_zero, List.getElem?_cons_succ, List.set_cons_zero, List.set_cons_succ, List.length_cons, List.length_nil, z_read_dat, z_read_ref, z_read_scr, z_read_own, z_view_own, z_view_brw, z_view_dat, z_cap_dat, z_cap_own, z_hold_dat, z_hold_ref, z_hold_scr, z_hold_own, z_arg_dat, z_arg_ref, z_arg_scr, z_arg_own, z_look_t, z_look_f, z_len_ref, z_len_scr, z_len_l, z_len_t, z_len_o, z_len_b, z_ix_ref, z_ix_scr, z_ix_l, z_ix_t, z_ix_o, z_ix_b, z_blt_len, z_blt_abs, z_blt_tup, z_blt_lst, z_blt_sum, z_blt_all, z_blt_any, z_blt_min, z_blt_max, z_blt_sorted, z_blt_repr, z_blt_str, z_blt_int, z_blt_divmod, z_d_abs, z_d_tupl, z_d_tupt, z_d_lstl, z_d_lstt, z_d_sum, z_d_all, z_d_any, z_d_minl, z_d_maxl, z_d_min, z_d_max, z_d_sorted, z_d_divmod, z_d_int, z_d_repr, z_d_str, z_bin_i, z_bin_ll, z_bin_tt, z_bin_rep, z_add, z_sub, z_mul, z_fdiv, z_mod, z_eq, z_ne, z_lt, z_le, z_gt, z_ge, z_inl, z_int, z_ninl, z_nint, z_isi_int_none, z_isi_int_bool, z_isi_int_int, z_isi_int_str, z_isi_int_list, z_isi_int_tuple, z_isi_bool_none, z_isi_bool_bool, z_isi_bool_int, z_isi_bool_str, z_isi_bool_list, z_isi_bool_tuple, z_isi_str_none, z_isi_str_bool, z_isi_str_int, z_isi_str_str, z_isi_str_list, z_isi_str_tuple, z_isi_list_none, z_isi_list_bool, z_isi_list_int, z_isi_list_str, z_isi_list_list, z_isi_list_tuple, z_isi_tuple_none, z_isi_tuple_bool, z_isi_tuple_int, z_isi_tuple_str, z_isi_tuple_list, z_isi_tuple_tuple, z_out_rt, z_out_nx, z_eqi, z_eqb, z_rng1, z_rng2, z_si_l, z_si_t, z_bind_nm, z_bind_tt, z_bind_tl, z_binds_n, z_binds_c, z_sl_l, z_sl_t, z_at0, z_at1, z_at2, z_at3, z_ixN0, z_intsn, z_intsc, z_boolsn, z_boolsc], .inr ⟨by simp only [↓reduceIte, Bool.not_true, Bool.not_false, decide_true, decide_false, wipeE, Bool.false_eq_true, y_e_c, y_e_v, y_e_g, y_e_never, y_e_bin, y_e_neg, y_e_tst, y_e_ite, y_e_tup, y_e_lst, y_e_box, y_e_ix, y_e_sl, y_e_rev, y_e_call, y_e_blt, y_e_isi, y_e_lc, y_es_nil, y_es_cons, y_o_no, y_o_yes, y_t_val, y_t_cmp, y_t_chn, y_t_isnt, y_t_isnf, z_nnr_dat, z_nnr_own, z_nnr_brw, z_nn_none, z_nn_bool, z_nn_int, z_nn_str, z_nn_list, z_nn_tuple, y_t_isb, y_t_and, y_t_or, y_t_not, y_h_last, y_h_link, y_al_one, y_al_cons, y_an_one, y_an_cons, y_c_no, y_c_yes, y_i_seq, y_i_rng, y_i_zip, y_i_enum, y_s_never, y_s_pass, y_s_asg, y_s_par, y_s_par3, y_s_setO, y_s_unp, y_s_setB, y_s_exp, y_s_app, y_s_ext, y_s_iff, y_s_whl, y_s_forr, y_s_ret, y_s_retv, y_s_frz, y_ss_nil, y_ss_cons, argsOf, views, caps, Option.map_some, Option.map_none, Option.bind_some, Option.bind_none, List.getElem?_cons_zero, List.getElem?_cons_succ, List.set_cons_zero, List.set_cons_succ, List.length_cons, List.length_nil, z_read_dat, z_read_ref, z_read_scr, z_read_own, z_view_own, z_view_brw, z_view_dat, z_cap_dat, z_cap_own, z_hold_dat, z_hold_ref, z_hold_scr, z_hold_own, z_arg_dat, z_arg_ref, z_arg_scr, z_arg_own, z_look_t, z_look_f, z_len_ref, z_len_scr, z_len_l, z_len_t, z_len_o, z_len_b, z_ix_ref, z_ix_scr, z_ix_l, z_ix_t, z_ix_o, z_ix_b, z_blt_len, z_blt_abs, z_blt_tup, z_blt_lst, z_blt_sum, z_blt_all, z_blt_any, z_blt_min, z_blt_max, z_blt_sorted, z_blt_repr, z_blt_str, z_blt_int, z_blt_divmod, z_d_abs, z_d_tupl, z_d_tupt, z_d_lstl, z_d_lstt, z_d_sum, z_d_all, z_d_any, z_d_minl, z_d_maxl, z_d_min, z_d_max, z_d_sorted, z_d_divmod, z_d_int, z_d_repr, z_d_str, z_bin_i, z_bin_ll, z_bin_tt, z_bin_rep, z_add, z_sub, z_mul, z_fdiv, z_mod, z_eq, z_ne, z_lt, z_le, z_gt, z_ge, z_inl, z_int, z_ninl, z_nint, z_isi_int_none, z_isi_int_bool, z_isi_int_int, z_isi_int_str, z_isi_int_list, z_isi_int_tuple, z_isi_bool_none, z_isi_bool_bool, z_isi_bool_int, z_isi_bool_str, z_isi_bool_list, z_isi_bool_tuple, z_isi_str_none, z_isi_str_bool, z_isi_str_int, z_isi_str_str, z_isi_str_list, z_isi_str_tuple, z_isi_list_none, z_isi_list_bool, z_isi_list_int, z_isi_list_str, z_isi_list_list, z_isi_list_tuple, z_isi_tuple_none, z_isi_tuple_bool, z_isi_tuple_int, z_isi_tuple_str, z_isi_tuple_list, z_isi_tuple_tuple, z_out_rt, z_out_nx, z_eqi, z_eqb, z_rng1, z_rng2, z_si_l, z_si_t, z_bind_nm, z_bind_tt, z_bind_tl, z_binds_n, z_binds_c, z_sl_l, z_sl_t, z_at0, z_at1, z_at2, z_at3, z_ixN0, z_intsn, z_intsc, z_boolsn, z_boolsc], .dat (PyData.tuple [PyData.int (f), PyData.int (b), PyData.int (l)]), (PyData.tuple [PyData.int (f), PyData.int (b), PyData.int (l)]), by simp (decide := true) only [↓reduceIte, Bool.not_true, Bool.not_false, decide_true, decide_false, wipeE, Bool.false_eq_true, y_e_c, y_e_v, y_e_g, y_e_never, y_e_bin, y_e_neg, y_e_tst, y_e_ite, y_e_tup, y_e_lst, y_e_box, y_e_ix, y_e_sl, y_e_rev, y_e_call, y_e_blt, y_e_isi, y_e_lc, y_es_nil, y_es_cons, y_o_no, y_o_yes, y_t_val, y_t_cmp, y_t_chn, y_t_isnt, y_t_isnf, z_nnr_dat, z_nnr_own, z_nnr_brw, z_nn_none, z_nn_bool, z_nn_int, z_nn_str, z_nn_list, z_nn_tuple, y_t_isb, y_t_and, y_t_or, y_t_not, y_h_last, y_h_link, y_al_one, y_al_cons, y_an_one, y_an_cons, y_c_no, y_c_yes, y_i_seq, y_i_rng, y_i_zip, y_i_enum, y_s_never, y_s_pass, y_s_asg, y_s_par, y_s_par3, y_s_setO, y_s_unp, y_s_setB, y_s_exp, y_s_app, y_s_ext, y_s_iff, y_s_whl, y_s_forr, y_s_ret, y_s_retv, y_s_frz, y_ss_nil, y_ss_cons, argsOf, views, caps, Option.map_some, Option.map_none, Option.bind_some, Option.bind_none, List.getElem?_cons_zero, List.getElem?_cons_succ, List.set_cons_zero, List.set_cons_succ, List.length_cons, List.length_nil, z_read_dat, z_read_ref, z_read_scr, z_read_own, z_view_own, z_view_brw, z_view_dat, z_cap_dat, z_cap_own, z_hold_dat, z_hold_ref, z_hold_scr, z_hold_own, z_arg_dat, z_arg_ref, z_arg_scr, z_arg_own, z_look_t, z_look_f, z_len_ref, z_len_scr, z_len_l, z_len_t, z_len_o, z_len_b, z_ix_ref, z_ix_scr, z_ix_l, z_ix_t, z_ix_o, z_ix_b, z_blt_len, z_blt_abs, z_blt_tup, z_blt_lst, z_blt_sum, z_blt_all, z_blt_any, z_blt_min, z_blt_max, z_blt_sorted, z_blt_repr, z_blt_str, z_blt_int, z_blt_divmod, z_d_abs, z_d_tupl, z_d_tupt, z_d_lstl, z_d_lstt, z_d_sum, z_d_all, z_d_any, z_d_minl, z_d_maxl, z_d_min, z_d_max, z_d_sorted, z_d_divmod, z_d_int, z_d_repr, z_d_str, z_bin_i, z_bin_ll, z_bin_tt, z_bin_rep, z_add, z_sub, z_mul, z_fdiv, z_mod, z_eq, z_ne, z_lt, z_le, z_gt, z_ge, z_inl, z_int, z_ninl, z_nint, z_isi_int_none, z_isi_int_bool, z_isi_int_int, z_isi_int_str, z_isi_int_list, z_isi_int_tuple, z_isi_bool_none, z_isi_bool_bool, z_isi_bool_int, z_isi_bool_str, z_isi_bool_list, z_isi_bool_tuple, z_isi_str_none, z_isi_str_bool, z_isi_str_int, z_isi_str_str, z_isi_str_list, z_isi_str_tuple, z_isi_list_none, z_isi_list_bool, z_isi_list_int, z_isi_list_str, z_isi_list_list, z_isi_list_tuple, z_isi_tuple_none, z_isi_tuple_bool, z_isi_tuple_int, z_isi_tuple_str, z_isi_tuple_list, z_isi_tuple_tuple, z_out_rt, z_out_nx, z_eqi, z_eqb, z_rng1, z_rng2, z_si_l, z_si_t, z_bind_nm, z_bind_tt, z_bind_tl, z_binds_n, z_binds_c, z_sl_l, z_sl_t, z_at0, z_at1, z_at2, z_at3, z_ixN0, z_intsn, z_intsc, z_boolsn, z_boolsc, z_eqs, z_fgn, z_fgc, z_lcn, z_lcc, rng_2, rng_3, z_en2, z_en3, z_zn, z_zn2, z_zc, cut2_a0, cut2_a1, cut2_b1, cut2_b2, cut3_a0, cut3_a1, cut3_a2, cut3_b1, cut3_b2, cut3_b3, List.nil_append, List.cons_append, Int.reduceAdd, Int.reduceSub, Int.reduceMul, Int.reduceMod, Int.reduceNeg, Int.reduceToNat, Nat.reduceAdd, Int.cast_ofNat_Int, Int.natCast_add, f3], rfl, rfl⟩⟩
theorem s_shapes_by (k : Nat) (N : Int) (st : Bx) (hN : 1 ≤ N) (hN2 : N ≤ 200) : callF tb (k + 1) "shapes_by" [.dat (.int N)] st = some (.own (Rs N), st) := by
  rw [c_shapes_by]
  have f0 : fitsL 0 = true := by decide
  have bN : Bd 60 N := bd_s (by omega) (by omega)
  have m1 : mulOk 4 N = true := by exact Sy.mulOk_bd (by repeat' (first | assumption | apply Sy.bd_mul | apply Sy.bd_add | apply Sy.bd_sub | apply Sy.bd_neg | apply Sy.bd_abs | (exact Sy.bd_s (by decide) (by decide)) | (exact Sy.bd_s (by omega) (by omega)))) (by repeat' (first | assumption | apply Sy.bd_mul | apply Sy.bd_add | apply Sy.bd_sub | apply Sy.bd_neg | apply Sy.bd_abs | (exact Sy.bd_s (by decide) (by decide)) | (exact Sy.bd_s (by omega) (by omega)))) (by decide)
  obtain ⟨env1, st1, e1, x2, x3, x4, e2, e3⟩ := den_whl (cf := callF tb k) (t := .cmp .le (.bin .mul (.bin .mul (.c (.int 3)) (.v 2)) (.v 2)) (.bin .mul (.c (.int 4)) (.v 0))) (b := lb_shapes_by_2)
    (env := [some (.dat (.int N)), some (.own []), some (.dat (.int 1)), none, none, none, none]) (st := st) (m := 17)
    (fun m env s => ∃ (j : Nat) (x3 x4 : Option R), m = 17 - j ∧ j ≤ 16 ∧ env = [some (.dat (.int N)), some (.own (fm (Hf N) 1 j)), some (.dat (.int (1 + (j : Int)))), x3, x4, none, none] ∧ s = st)
    (fun env s => ∃ (x2 x3 x4 : Option R), env = [some (.dat (.int N)), some (.own (Qs N)), x2, x3, x4, none, none] ∧ s = st) ⟨0, none, none, rfl, by decide, rfl, rfl⟩ fun m env s ⟨j, x3, x4, hm, hj, e, es⟩ => by
      subst e es
      have bj : Bd 60 (1 + (j : Int)) := bd_s (by omega) (by omega)
      have m2 : mulOk 3 (1 + (j : Int)) = true := by exact Sy.mulOk_bd (by repeat' (first | assumption | apply Sy.bd_mul | apply Sy.bd_add | apply Sy.bd_sub | apply Sy.bd_neg | apply Sy.bd_abs | (exact Sy.bd_s (by decide) (by decide)) | (exact Sy.bd_s (by omega) (by omega)))) (by repeat' (first | assumption | apply Sy.bd_mul | apply Sy.bd_add | apply Sy.bd_sub | apply Sy.bd_neg | apply Sy.bd_abs | (exact Sy.bd_s (by decide) (by decide)) | (exact Sy.bd_s (by omega) (by omega)))) (by decide)
      have m3 : mulOk (3 * (1 + (j : Int))) (1 + (j : Int)) = true := by exact Sy.mulOk_bd (by repeat' (first | assumption | apply Sy.bd_mul | apply Sy.bd_add | apply Sy.bd_sub | apply Sy.bd_neg | apply Sy.bd_abs | (exact Sy.bd_s (by decide) (by decide)) | (exact Sy.bd_s (by omega) (by omega)))) (by repeat' (first | assumption | apply Sy.bd_mul | apply Sy.bd_add | apply Sy.bd_sub | apply Sy.bd_neg | apply Sy.bd_abs | (exact Sy.bd_s (by decide) (by decide)) | (exact Sy.bd_s (by omega) (by omega)))) (by decide)
      have e3 : 3 * (1 + (j : Int)) * (1 + (j : Int)) = 3 * ((1 + (j : Int)) * (1 + (j : Int))) := Int.mul_assoc _ _ _
      by_cases hc : 3 * (1 + (j : Int)) * (1 + (j : Int)) ≤ 4 * N
      · have hj15 : j ≤ 15 := by
          rcases Nat.lt_or_ge 15 j with q | q
          · have := Int.mul_le_mul (show (17 : Int) ≤ 1 + j by omega) (show (17 : Int) ≤ 1 + j by omega) (by omega) (by omega)
            omega
          · exact q
        have hl : (fm (Hf N) 1 j).length ≤ j * 9 := fm_len2 (B := 9) j fun i hi => Hf_len i (by omega)
        obtain ⟨y3, y4, eb⟩ := s_sb1 (callF tb k) N (1 + (j : Int)) (fm (Hf N) 1 j) s hN hN2 (by omega) (by omega) (by omega) x3 x4 none none
        rw [← fm_succ] at eb
        exact ⟨true, s, by simp only [↓reduceIte, Bool.not_true, Bool.not_false, decide_true, decide_false, wipeE, Bool.false_eq_true, y_e_c, y_e_v, y_e_g, y_e_never, y_e_bin, y_e_neg, y_e_tst, y_e_ite, y_e_tup, y_e_lst, y_e_box, y_e_ix, y_e_sl, y_e_rev, y_e_call, y_e_blt, y_e_isi, y_e_lc, y_es_nil, y_es_cons, y_o_no, y_o_yes, y_t_val, y_t_cmp, y_t_chn, y_t_isnt, y_t_isnf, z_nnr_dat, z_nnr_own, z_nnr_brw, z_nn_none, z_nn_bool, z_nn_int, z_nn_str, z_nn_list, z_nn_tuple, y_t_isb, y_t_and, y_t_or, y_t_not, y_h_last, y_h_link, y_al_one, y_al_cons, y_an_one, y_an_cons, y_c_no, y_c_yes, y_i_seq, y_i_rng, y_i_zip, y_i_enum, y_s_never, y_s_pass, y_s_asg, y_s_par, y_s_par3, y_s_setO, y_s_unp, y_s_setB, y_s_exp, y_s_app, y_s_ext, y_s_iff, y_s_whl, y_s_forr, y_s_ret, y_s_retv, y_s_frz, y_ss_nil, y_ss_cons, argsOf, views, caps, Option.map_some, Option.map_none, Option.bind_some, Option.bind_none, List.getElem?_cons_zero, List.getElem?_cons_succ, List.set_cons_zero, List.set_cons_succ, List.length_cons, List.length_nil, z_read_dat, z_read_ref, z_read_scr, z_read_own, z_view_own, z_view_brw, z_view_dat, z_cap_dat, z_cap_own, z_hold_dat, z_hold_ref, z_hold_scr, z_hold_own, z_arg_dat, z_arg_ref, z_arg_scr, z_arg_own, z_look_t, z_look_f, z_len_ref, z_len_scr, z_len_l, z_len_t, z_len_o, z_len_b, z_ix_ref, z_ix_scr, z_ix_l, z_ix_t, z_ix_o, z_ix_b, z_blt_len, z_blt_abs, z_blt_tup, z_blt_lst, z_blt_sum, z_blt_all, z_blt_any, z_blt_min, z_blt_max, z_blt_sorted, z_blt_repr, z_blt_str, z_blt_int, z_blt_divmod, z_d_abs, z_d_tupl, z_d_tupt, z_d_lstl, z_d_lstt, z_d_sum, z_d_all, z_d_any, z_d_minl, z_d_maxl, z_d_min, z_d_max, z_d_sorted, z_d_divmod, z_d_int, z_d_repr, z_d_str, z_bin_i, z_bin_ll, z_bin_tt, z_bin_rep, z_add, z_sub, z_mul, z_fdiv, z_mod, z_eq, z_ne, z_lt, z_le, z_gt, z_ge, z_inl, z_int, z_ninl, z_nint, z_isi_int_none, z_isi_int_bool, z_isi_int_int, z_isi_int_str, z_isi_int_list, z_isi_int_tuple, z_isi_bool_none, z_isi_bool_bool, z_isi_bool_int, z_isi_bool_str, z_isi_bool_list, z_isi_bool_tuple, z_isi_str_none, z_isi_str_bool, z_isi_str_int, z_isi_str_str, z_isi_str_list, z_isi_str_tuple, z_isi_list_none, z_isi_list_bool, z_isi_list_int, z_isi_list_str, z_isi_list_list, z_isi_list_tuple, z_isi_tuple_none, z_isi_tuple_bool, z_isi_tuple_int, z_isi_tuple_str, z_isi_tuple_list, z_isi_tuple_tuple, z_out_rt, z_out_nx, z_eqi, z_eqb, z_rng1, z_rng2, z_si_l, z_si_t, z_bind_nm, z_bind_tt, z_bind_tl, z_binds_n, z_binds_c, z_sl_l, z_sl_t, z_at0, z_at1, z_at2, z_at3, z_ixN0, z_intsn, z_intsc, z_boolsn, z_boolsc, m1, m2, m3, hc], (fun h => by cases h), fun _ => ⟨[some (.dat (.int N)), some (.own (fm (Hf N) 1 (j + 1))), some (.dat (.int (1 + (j : Int) + 1))), y3, y4, none, none], s, 17 - (j + 1), by omega, by simp only [lb_shapes_by_2, ↓reduceIte, Bool.not_true, Bool.not_false, decide_true, decide_false, wipeE, Bool.false_eq_true, y_e_c, y_e_v, y_e_g, y_e_never, y_e_bin, y_e_neg, y_e_tst, y_e_ite, y_e_tup, y_e_lst, y_e_box, y_e_ix, y_e_sl, y_e_rev, y_e_call, y_e_blt, y_e_isi, y_e_lc, y_es_nil, y_es_cons, y_o_no, y_o_yes, y_t_val, y_t_cmp, y_t_chn, y_t_isnt, y_t_isnf, z_nnr_dat, z_nnr_own, z_nnr_brw, z_nn_none, z_nn_bool, z_nn_int, z_nn_str, z_nn_list, z_nn_tuple, y_t_isb, y_t_and, y_t_or, y_t_not, y_h_last, y_h_link, y_al_one, y_al_cons, y_an_one, y_an_cons, y_c_no, y_c_yes, y_i_seq, y_i_rng, y_i_zip, y_i_enum, y_s_never, y_s_pass, y_s_asg, y_s_par, y_s_par3, y_s_setO, y_s_unp, y_s_setB, y_s_exp, y_s_app, y_s_ext, y_s_iff, y_s_whl, y_s_forr, y_s_ret, y_s_retv, y_s_frz, y_ss_nil, y_ss_cons, argsOf, views, caps, Option.map_some, Option.map_none, Option.bind_some, Option.bind_none, List.getElem?_cons_zero, List.getElem?_cons_succ, List.set_cons_zero, List.set_cons_succ, List.length_cons, List.length_nil, z_read_dat, z_read_ref, z_read_scr, z_read_own, z_view_own, z_view_brw, z_view_dat, z_cap_dat, z_cap_own, z_hold_dat, z_hold_ref, z_hold_scr, z_hold_own, z_arg_dat, z_arg_ref, z_arg_scr, z_arg_own, z_look_t, z_look_f, z_len_ref, z_len_scr, z_len_l, z_len_t, z_len_o, z_len_b, z_ix_ref, z_ix_scr, z_ix_l, z_ix_t, z_ix_o, z_ix_b, z_blt_len, z_blt_abs, z_blt_tup, z_blt_lst, z_blt_sum, z_blt_all, z_blt_any, z_blt_min, z_blt_max, z_blt_sorted, z_blt_repr, z_blt_str, z_blt_int, z_blt_divmod, z_d_abs, z_d_tupl, z_d_tupt, z_d_lstl, z_d_lstt, z_d_sum, z_d_all, z_d_any, z_d_minl, z_d_maxl, z_d_min, z_d_max, z_d_sorted, z_d_divmod, z_d_int, z_d_repr, z_d_str, z_bin_i, z_bin_ll, z_bin_tt, z_bin_rep, z_add, z_sub, z_mul, z_fdiv, z_mod, z_eq, z_ne, z_lt, z_le, z_gt, z_ge, z_inl, z_int, z_ninl, z_nint, z_isi_int_none, z_isi_int_bool, z_isi_int_int, z_isi_int_str, z_isi_int_list, z_isi_int_tuple, z_isi_bool_none, z_isi_bool_bool, z_isi_bool_int, z_isi_bool_str, z_isi_bool_list, z_isi_bool_tuple, z_isi_str_none, z_isi_str_bool, z_isi_str_int, z_isi_str_str, z_isi_str_list, z_isi_str_tuple, z_isi_list_none, z_isi_list_bool, z_isi_list_int, z_isi_list_str, z_isi_list_list, z_isi_list_tuple, z_isi_tuple_none, z_isi_tuple_bool, z_isi_tuple_int, z_isi_tuple_str, z_isi_tuple_list, z_isi_tuple_tuple, z_out_rt, z_out_nx, z_eqi, z_eqb, z_rng1, z_rng2, z_si_l, z_si_t, z_bind_nm, z_bind_tt, z_bind_tl, z_binds_n, z_binds_c, z_sl_l, z_sl_t, z_at0, z_at1, z_at2, z_at3, z_ixN0, z_intsn, z_intsc, z_boolsn, z_boolsc, eb], j + 1, y3, y4, rfl, by omega, by rw [Int.add_assoc]; rfl, rfl⟩⟩
      · refine ⟨false, s, by simp only [↓reduceIte, Bool.not_true, Bool.not_false, decide_true, decide_false, wipeE, Bool.false_eq_true, y_e_c, y_e_v, y_e_g, y_e_never, y_e_bin, y_e_neg, y_e_tst, y_e_ite, y_e_tup, y_e_lst, y_e_box, y_e_ix, y_e_sl, y_e_rev, y_e_call, y_e_blt, y_e_isi, y_e_lc, y_es_nil, y_es_cons, y_o_no, y_o_yes, y_t_val, y_t_cmp, y_t_chn, y_t_isnt, y_t_isnf, z_nnr_dat, z_nnr_own, z_nnr_brw, z_nn_none, z_nn_bool, z_nn_int, z_nn_str, z_nn_list, z_nn_tuple, y_t_isb, y_t_and, y_t_or, y_t_not, y_h_last, y_h_link, y_al_one, y_al_cons, y_an_one, y_an_cons, y_c_no, y_c_yes, y_i_seq, y_i_rng, y_i_zip, y_i_enum, y_s_never, y_s_pass, y_s_asg, y_s_par, y_s_par3, y_s_setO, y_s_unp, y_s_setB, y_s_exp, y_s_app, y_s_ext, y_s_iff, y_s_whl, y_s_forr, y_s_ret, y_s_retv, y_s_frz, y_ss_nil, y_ss_cons, argsOf, views, caps, Option.map_some, Option.map_none, Option.bind_some, Option.bind_none, List.getElem?_cons_zero, List.getElem?_cons_succ, List.set_cons_zero, List.set_cons_succ, List.length_cons, List.length_nil, z_read_dat, z_read_ref, z_read_scr, z_read_own, z_view_own, z_view_brw, z_view_dat, z_cap_dat, z_cap_own, z_hold_dat, z_hold_ref, z_hold_scr, z_hold_own, z_arg_dat, z_arg_ref, z_arg_scr, z_arg_own, z_look_t, z_look_f, z_len_ref, z_len_scr, z_len_l, z_len_t, z_len_o, z_len_b, z_ix_ref, z_ix_scr, z_ix_l, z_ix_t, z_ix_o, z_ix_b, z_blt_len, z_blt_abs, z_blt_tup, z_blt_lst, z_blt_sum, z_blt_all, z_blt_any, z_blt_min, z_blt_max, z_blt_sorted, z_blt_repr, z_blt_str, z_blt_int, z_blt_divmod, z_d_abs, z_d_tupl, z_d_tupt, z_d_lstl, z_d_lstt, z_d_sum, z_d_all, z_d_any, z_d_minl, z_d_maxl, z_d_min, z_d_max, z_d_sorted, z_d_divmod, z_d_int, z_d_repr, z_d_str, z_bin_i, z_bin_ll, z_bin_tt, z_bin_rep, z_add, z_sub, z_mul, z_fdiv, z_mod, z_eq, z_ne, z_lt, z_le, z_gt, z_ge, z_inl, z_int, z_ninl, z_nint, z_isi_int_none, z_isi_int_bool, z_isi_int_int, z_isi_int_str, z_isi_int_list, z_isi_int_tuple, z_isi_bool_none, z_isi_bool_bool, z_isi_bool_int, z_isi_bool_str, z_isi_bool_list, z_isi_bool_tuple, z_isi_str_none, z_isi_str_bool, z_isi_str_int, z_isi_str_str, z_isi_str_list, z_isi_str_tuple, z_isi_list_none, z_isi_list_bool, z_isi_list_int, z_isi_list_str, z_isi_list_list, z_isi_list_tuple, z_isi_tuple_none, z_isi_tuple_bool, z_isi_tuple_int, z_isi_tuple_str, z_isi_tuple_list, z_isi_tuple_tuple, z_out_rt, z_out_nx, z_eqi, z_eqb, z_rng1, z_rng2, z_si_l, z_si_t, z_bind_nm, z_bind_tt, z_bind_tl, z_binds_n, z_binds_c, z_sl_l, z_sl_t, z_at0, z_at1, z_at2, z_at3, z_ixN0, z_intsn, z_intsc, z_boolsn, z_boolsc, m1, m2, m3, hc], fun _ => ⟨_, x3, x4, by rw [Qs_part hN (j := j) (by omega) (by omega)], rfl⟩, (fun h => by cases h)⟩
  subst e2 e3
  have e1' : Stm.den (callF tb k) l_shapes_by_2 [some (.dat (.int N)), some (.own []), some (.dat (.int 1)), none, none, none, none] st1 = _ := e1
  simp (decide := true) only [b_shapes_by, ↓reduceIte, Bool.not_true, Bool.not_false, decide_true, decide_false, wipeE, Bool.false_eq_true, y_e_c, y_e_v, y_e_g, y_e_never, y_e_bin, y_e_neg, y_e_tst, y_e_ite, y_e_tup, y_e_lst, y_e_box, y_e_ix, y_e_sl, y_e_rev, y_e_call, y_e_blt, y_e_isi, y_e_lc, y_es_nil, y_es_cons, y_o_no, y_o_yes, y_t_val, y_t_cmp, y_t_chn, y_t_isnt, y_t_isnf, z_nnr_dat, z_nnr_own, z_nnr_brw, z_nn_none, z_nn_bool, z_nn_int, z_nn_str, z_nn_list, z_nn_tuple, y_t_isb, y_t_and, y_t_or, y_t_not, y_h_last, y_h_link, y_al_one, y_al_cons, y_an_one, y_an_cons, y_c_no, y_c_yes, y_i_seq, y_i_rng, y_i_zip, y_i_enum, y_s_never, y_s_pass, y_s_asg, y_s_par, y_s_par3, y_s_setO, y_s_unp, y_s_setB, y_s_exp, y_s_app, y_s_ext, y_s_iff, y_s_whl, y_s_forr, y_s_ret, y_s_retv, y_s_frz, y_ss_nil, y_ss_cons, argsOf, views, caps, Option.map_some, Option.map_none, Option.bind_some, Option.bind_none, List.getElem?_cons_zero, List.getElem?_cons_succ, List.set_cons_zero, List.set_cons_succ, List.length_cons, List.length_nil, z_read_dat, z_read_ref, z_read_scr, z_read_own, z_view_own, z_view_brw, z_view_dat, z_cap_dat, z_cap_own, z_hold_dat, z_hold_ref, z_hold_scr, z_hold_own, z_arg_dat, z_arg_ref, z_arg_scr, z_arg_own, z_look_t, z_look_f, z_len_ref, z_len_scr, z_len_l, z_len_t, z_len_o, z_len_b, z_ix_ref, z_ix_scr, z_ix_l, z_ix_t, z_ix_o, z_ix_b, z_blt_len, z_blt_abs, z_blt_tup, z_blt_lst, z_blt_sum, z_blt_all, z_blt_any, z_blt_min, z_blt_max, z_blt_sorted, z_blt_repr, z_blt_str, z_blt_int, z_blt_divmod, z_d_abs, z_d_tupl, z_d_tupt, z_d_lstl, z_d_lstt, z_d_sum, z_d_all, z_d_any, z_d_minl, z_d_maxl, z_d_min, z_d_max, z_d_sorted, z_d_divmod, z_d_int, z_d_repr, z_d_str, z_bin_i, z_bin_ll, z_bin_tt, z_bin_rep, z_add, z_sub, z_mul, z_fdiv, z_mod, z_eq, z_ne, z_lt, z_le, z_gt, z_ge, z_inl, z_int, z_ninl, z_nint, z_isi_int_none, z_isi_int_bool, z_isi_int_int, z_isi_int_str, z_isi_int_list, z_isi_int_tuple, z_isi_bool_none, z_isi_bool_bool, z_isi_bool_int, z_isi_bool_str, z_isi_bool_list, z_isi_bool_tuple, z_isi_str_none, z_isi_str_bool, z_isi_str_int, z_isi_str_str, z_isi_str_list, z_isi_str_tuple, z_isi_list_none, z_isi_list_bool, z_isi_list_int, z_isi_list_str, z_isi_list_list, z_isi_list_tuple, z_isi_tuple_none, z_isi_tuple_bool, z_isi_tuple_int, z_isi_tuple_str, z_isi_tuple_list, z_isi_tuple_tuple, z_out_rt, z_out_nx, z_eqi, z_eqb, z_rng1, z_rng2, z_si_l, z_si_t, z_bind_nm, z_bind_tt, z_bind_tl, z_binds_n, z_binds_c, z_sl_l, z_sl_t, z_at0, z_at1, z_at2, z_at3, z_ixN0, z_intsn, z_intsc, z_boolsn, z_boolsc, z_eqs, z_fgn, z_fgc, z_lcn, z_lcc, rng_2, rng_3, z_en2, z_en3, z_zn, z_zn2, z_zc, cut2_a0, cut2_a1, cut2_b1, cut2_b2, cut3_a0, cut3_a1, cut3_a2, cut3_b1, cut3_b2, cut3_b3, List.nil_append, List.cons_append, Int.reduceAdd, Int.reduceSub, Int.reduceMul, Int.reduceMod, Int.reduceNeg, Int.reduceToNat, Nat.reduceAdd, Int.cast_ofNat_Int, Int.natCast_add, f0, e1', s_sortR (callF tb k) N st1 hN hN2]
theorem s_shapes_of (k : Nat) (N : Int) (st : Bx) (hN : 1 ≤ N) (hN2 : N ≤ 200) : callF tb (k + 3) "shapes_of" [.dat (.int N)] st = some (.own (Rs N), st) := by
  rw [c_shapes_of]
  simp (decide := true) only [b_shapes_of, ↓reduceIte, Bool.not_true, Bool.not_false, decide_true, decide_false, wipeE, Bool.false_eq_true, y_e_c, y_e_v, y_e_g, y_e_never, y_e_bin, y_e_neg, y_e_tst, y_e_ite, y_e_tup, y_e_lst, y_e_box, y_e_ix, y_e_sl, y_e_rev, y_e_call, y_e_blt, y_e_isi, y_e_lc, y_es_nil, y_es_cons, y_o_no, y_o_yes, y_t_val, y_t_cmp, y_t_chn, y_t_isnt, y_t_isnf, z_nnr_dat, z_nnr_own, z_nnr_brw, z_nn_none, z_nn_bool, z_nn_int, z_nn_str, z_nn_list, z_nn_tuple, y_t_isb, y_t_and, y_t_or, y_t_not, y_h_last, y_h_link, y_al_one, y_al_cons, y_an_one, y_an_cons, y_c_no, y_c_yes, y_i_seq, y_i_rng, y_i_zip, y_i_enum, y_s_never, y_s_pass, y_s_asg, y_s_par, y_s_par3, y_s_setO, y_s_unp, y_s_setB, y_s_exp, y_s_app, y_s_ext, y_s_iff, y_s_whl, y_s_forr, y_s_ret, y_s_retv, y_s_frz, y_ss_nil, y_ss_cons, argsOf, views, caps, Option.map_some, Option.map_none, Option.bind_some, Option.bind_none, List.getElem?_cons_zero, List.getElem?_cons_succ, List.set_cons_zero, List.set_cons_succ, List.length_cons, List.length_nil, z_read_dat, z_read_ref, z_read_scr, z_read_own, z_view_own, z_view_brw, z_view_dat, z_cap_dat, z_cap_own, z_hold_dat, z_hold_ref, z_hold_scr, z_hold_own, z_arg_dat, z_arg_ref, z_arg_scr, z_arg_own, z_look_t, z_look_f, z_len_ref, z_len_scr, z_len_l, z_len_t, z_len_o, z_len_b, z_ix_ref, z_ix_scr, z_ix_l, z_ix_t, z_ix_o, z_ix_b, z_blt_len, z_blt_abs, z_blt_tup, z_blt_lst, z_blt_sum, z_blt_all, z_blt_any, z_blt_min, z_blt_max, z_blt_sorted, z_blt_repr, z_blt_str, z_blt_int, z_blt_divmod, z_d_abs, z_d_tupl, z_d_tupt, z_d_lstl, z_d_lstt, z_d_sum, z_d_all, z_d_any, z_d_minl, z_d_maxl, z_d_min, z_d_max, z_d_sorted, z_d_divmod, z_d_int, z_d_repr, z_d_str, z_bin_i, z_bin_ll, z_bin_tt, z_bin_rep, z_add, z_sub, z_mul, z_fdiv, z_mod, z_eq, z_ne, z_lt, z_le, z_gt, z_ge, z_inl, z_int, z_ninl, z_nint, z_isi_int_none, z_isi_int_bool, z_isi_int_int, z_isi_int_str, z_isi_int_list, z_isi_int_tuple, z_isi_bool_none, z_isi_bool_bool, z_isi_bool_int, z_isi_bool_str, z_isi_bool_list, z_isi_bool_tuple, z_isi_str_none, z_isi_str_bool, z_isi_str_int, z_isi_str_str, z_isi_str_list, z_isi_str_tuple, z_isi_list_none, z_isi_list_bool, z_isi_list_int, z_isi_list_str, z_isi_list_list, z_isi_list_tuple, z_isi_tuple_none, z_isi_tuple_bool, z_isi_tuple_int, z_isi_tuple_str, z_isi_tuple_list, z_isi_tuple_tuple, z_out_rt, z_out_nx, z_eqi, z_eqb, z_rng1, z_rng2, z_si_l, z_si_t, z_bind_nm, z_bind_tt, z_bind_tl, z_binds_n, z_binds_c, z_sl_l, z_sl_t, z_at0, z_at1, z_at2, z_at3, z_ixN0, z_intsn, z_intsc, z_boolsn, z_boolsc, z_eqs, z_fgn, z_fgc, z_lcn, z_lcc, rng_2, rng_3, z_en2, z_en3, z_zn, z_zn2, z_zc, cut2_a0, cut2_a1, cut2_b1, cut2_b2, cut3_a0, cut3_a1, cut3_a2, cut3_b1, cut3_b2, cut3_b3, List.nil_append, List.cons_append, Int.reduceAdd, Int.reduceSub, Int.reduceMul, Int.reduceMod, Int.reduceNeg, Int.reduceToNat, Nat.reduceAdd, Int.cast_ofNat_Int, Int.natCast_add, s_need_between k N 1 st hN hN2, s_shapes_by (k + 1) N st hN hN2]

/-! shapes of any size -/
def Sh (d : PyData) : Prop := ∃ A B C : Int, d = (PyData.tuple [PyData.int (A), PyData.int (B), PyData.int (C)]) ∧ 0 ≤ B ∧ 2 * B ≤ A ∧ A ≤ C ∧ 1 ≤ A ∧ Bd 5000 A ∧ Bd 5000 B ∧ Bd 5000 C
theorem s_is_shapeb (k : Nat) (a b c : Int) (st : Bx) (h1 : 0 ≤ b) (h2 : 2 * b ≤ a) (h3 : a ≤ c) (h4 : 1 ≤ a) (h5 : Bd 5000 b) : callF tb (k + 3) "is_shape" [.dat (PyData.tuple [PyData.int (a), PyData.int (b), PyData.int (c)])] st = some (.dat (.bool true), st) := by
  rw [c_is_shape]
  have hw : callF tb (k + 2) "are_whole" [.dat (PyData.tuple [PyData.int (a), PyData.int (b), PyData.int (c)]), .dat (.int 3)] st = some (.dat (.bool true), st) := s_are_whole k [.int a, .int b, .int c] 3 st (by simp)
  have m2 : mulOk 2 b = true := by exact Sy.mulOk_bd (by repeat' (first | assumption | apply Sy.bd_mul | apply Sy.bd_add | apply Sy.bd_sub | apply Sy.bd_neg | apply Sy.bd_abs | (exact Sy.bd_s (by decide) (by decide)) | (exact Sy.bd_s (by omega) (by omega)))) (by repeat' (first | assumption | apply Sy.bd_mul | apply Sy.bd_add | apply Sy.bd_sub | apply Sy.bd_neg | apply Sy.bd_abs | (exact Sy.bd_s (by decide) (by decide)) | (exact Sy.bd_s (by omega) (by omega)))) (by decide)
  have h1' : 0 ≤ 2 * b := by omega
  simp only [b_is_shape, ↓reduceIte, Bool.not_true, Bool.not_false, decide_true, decide_false, wipeE, Bool.false_eq_true, y_e_c, y_e_v, y_e_g, y_e_never, y_e_bin, y_e_neg, y_e_tst, y_e_ite, y_e_tup, y_e_lst, y_e_box, y_e_ix, y_e_sl, y_e_rev, y_e_call, y_e_blt, y_e_isi, y_e_lc, y_es_nil, y_es_cons, y_o_no, y_o_yes, y_t_val, y_t_cmp, y_t_chn, y_t_isnt, y_t_isnf, z_nnr_dat, z_nnr_own, z_nnr_brw, z_nn_none, z_nn_bool, z_nn_int, z_nn_str, z_nn_list, z_nn_tuple, y_t_isb, y_t_and, y_t_or, y_t_not, y_h_last, y_h_link, y_al_one, y_al_cons, y_an_one, y_an_cons, y_c_no, y_c_yes, y_i_seq, y_i_rng, y_i_zip, y_i_enum, y_s_never, y_s_pass, y_s_asg, y_s_par, y_s_par3, y_s_setO, y_s_unp, y_s_setB, y_s_exp, y_s_app, y_s_ext, y_s_iff, y_s_whl, y_s_forr, y_s_ret, y_s_retv, y_s_frz, y_ss_nil, y_ss_cons, argsOf, views, caps, Option.map_some, Option.map_none, Option.bind_some, Option.bind_none, List.getElem?_cons_zero, List.getElem?_cons_succ, List.set_cons_zero, List.set_cons_succ, List.length_cons, List.length_nil, z_read_dat, z_read_ref, z_read_scr, z_read_own, z_view_own, z_view_brw, z_view_dat, z_cap_dat, z_cap_own, z_hold_dat, z_hold_ref, z_hold_scr, z_hold_own, z_arg_dat, z_arg_ref, z_arg_scr, z_arg_own, z_look_t, z_look_f, z_len_ref, z_len_scr, z_len_l, z_len_t, z_len_o, z_len_b, z_ix_ref, z_ix_scr, z_ix_l, z_ix_t, z_ix_o, z_ix_b, z_blt_len, z_blt_abs, z_blt_tup, z_blt_lst, z_blt_sum, z_blt_all, z_blt_any, z_blt_min, z_blt_max, z_blt_sorted, z_blt_repr, z_blt_str, z_blt_int, z_blt_divmod, z_d_abs, z_d_tupl, z_d_tupt, z_d_lstl, z_d_lstt, z_d_sum, z_d_all, z_d_any, z_d_minl, z_d_maxl, z_d_min, z_d_max, z_d_sorted, z_d_divmod, z_d_int, z_d_repr, z_d_str, z_bin_i, z_bin_ll, z_bin_tt, z_bin_rep, z_add, z_sub, z_mul, z_fdiv, z_mod, z_eq, z_ne, z_lt, z_le, z_gt, z_ge, z_inl, z_int, z_ninl, z_nint, z_isi_int_none, z_isi_int_bool, z_isi_int_int, z_isi_int_str, z_isi_int_list, z_isi_int_tuple, z_isi_bool_none, z_isi_bool_bool, z_isi_bool_int, z_isi_bool_str, z_isi_bool_list, z_isi_bool_tuple, z_isi_str_none, z_isi_str_bool, z_isi_str_int, z_isi_str_str, z_isi_str_list, z_isi_str_tuple, z_isi_list_none, z_isi_list_bool, z_isi_list_int, z_isi_list_str, z_isi_list_list, z_isi_list_tuple, z_isi_tuple_none, z_isi_tuple_bool, z_isi_tuple_int, z_isi_tuple_str, z_isi_tuple_list, z_isi_tuple_tuple, z_out_rt, z_out_nx, z_eqi, z_eqb, z_rng1, z_rng2, z_si_l, z_si_t, z_bind_nm, z_bind_tt, z_bind_tl, z_binds_n, z_binds_c, z_sl_l, z_sl_t, z_at0, z_at1, z_at2, z_at3, z_ixN0, z_intsn, z_intsc, z_boolsn, z_boolsc, hw, m2, h1', h2, h3, h4]
theorem s_need_shapeb (k : Nat) (a b c : Int) (st : Bx) (h1 : 0 ≤ b) (h2 : 2 * b ≤ a) (h3 : a ≤ c) (h4 : 1 ≤ a) (h5 : Bd 5000 b) : callF tb (k + 4) "need_shape" [.dat (PyData.tuple [PyData.int (a), PyData.int (b), PyData.int (c)])] st = some (.dat .none, st) := by
  rw [c_need_shape]
  simp only [b_need_shape, ↓reduceIte, Bool.not_true, Bool.not_false, decide_true, decide_false, wipeE, Bool.false_eq_true, y_e_c, y_e_v, y_e_g, y_e_never, y_e_bin, y_e_neg, y_e_tst, y_e_ite, y_e_tup, y_e_lst, y_e_box, y_e_ix, y_e_sl, y_e_rev, y_e_call, y_e_blt, y_e_isi, y_e_lc, y_es_nil, y_es_cons, y_o_no, y_o_yes, y_t_val, y_t_cmp, y_t_chn, y_t_isnt, y_t_isnf, z_nnr_dat, z_nnr_own, z_nnr_brw, z_nn_none, z_nn_bool, z_nn_int, z_nn_str, z_nn_list, z_nn_tuple, y_t_isb, y_t_and, y_t_or, y_t_not, y_h_last, y_h_link, y_al_one, y_al_cons, y_an_one, y_an_cons, y_c_no, y_c_yes, y_i_seq, y_i_rng, y_i_zip, y_i_enum, y_s_never, y_s_pass, y_s_asg, y_s_par, y_s_par3, y_s_setO, y_s_unp, y_s_setB, y_s_exp, y_s_app, y_s_ext, y_s_iff, y_s_whl, y_s_forr, y_s_ret, y_s_retv, y_s_frz, y_ss_nil, y_ss_cons, argsOf, views, caps, Option.map_some, Option.map_none, Option.bind_some, Option.bind_none, List.getElem?_cons_zero, List.getElem?_cons_succ, List.set_cons_zero, List.set_cons_succ, List.length_cons, List.length_nil, z_read_dat, z_read_ref, z_read_scr, z_read_own, z_view_own, z_view_brw, z_view_dat, z_cap_dat, z_cap_own, z_hold_dat, z_hold_ref, z_hold_scr, z_hold_own, z_arg_dat, z_arg_ref, z_arg_scr, z_arg_own, z_look_t, z_look_f, z_len_ref, z_len_scr, z_len_l, z_len_t, z_len_o, z_len_b, z_ix_ref, z_ix_scr, z_ix_l, z_ix_t, z_ix_o, z_ix_b, z_blt_len, z_blt_abs, z_blt_tup, z_blt_lst, z_blt_sum, z_blt_all, z_blt_any, z_blt_min, z_blt_max, z_blt_sorted, z_blt_repr, z_blt_str, z_blt_int, z_blt_divmod, z_d_abs, z_d_tupl, z_d_tupt, z_d_lstl, z_d_lstt, z_d_sum, z_d_all, z_d_any, z_d_minl, z_d_maxl, z_d_min, z_d_max, z_d_sorted, z_d_divmod, z_d_int, z_d_repr, z_d_str, z_bin_i, z_bin_ll, z_bin_tt, z_bin_rep, z_add, z_sub, z_mul, z_fdiv, z_mod, z_eq, z_ne, z_lt, z_le, z_gt, z_ge, z_inl, z_int, z_ninl, z_nint, z_isi_int_none, z_isi_int_bool, z_isi_int_int, z_isi_int_str, z_isi_int_list, z_isi_int_tuple, z_isi_bool_none, z_isi_bool_bool, z_isi_bool_int, z_isi_bool_str, z_isi_bool_list, z_isi_bool_tuple, z_isi_str_none, z_isi_str_bool, z_isi_str_int, z_isi_str_str, z_isi_str_list, z_isi_str_tuple, z_isi_list_none, z_isi_list_bool, z_isi_list_int, z_isi_list_str, z_isi_list_list, z_isi_list_tuple, z_isi_tuple_none, z_isi_tuple_bool, z_isi_tuple_int, z_isi_tuple_str, z_isi_tuple_list, z_isi_tuple_tuple, z_out_rt, z_out_nx, z_eqi, z_eqb, z_rng1, z_rng2, z_si_l, z_si_t, z_bind_nm, z_bind_tt, z_bind_tl, z_binds_n, z_binds_c, z_sl_l, z_sl_t, z_at0, z_at1, z_at2, z_at3, z_ixN0, z_intsn, z_intsc, z_boolsn, z_boolsc, s_is_shapeb k a b c st h1 h2 h3 h4 h5, Bool.not_true]
theorem s_room_squared (k : Nat) (a b c : Int) (st : Bx) (h1 : 0 ≤ b) (h2 : 2 * b ≤ a) (h3 : a ≤ c) (h4 : 1 ≤ a) (ha : Bd 5000 a) (h5 : Bd 5000 b) (hc : Bd 5000 c) : callF tb (k + 5) "room_squared" [.dat (PyData.tuple [PyData.int (a), PyData.int (b), PyData.int (c)])] st = some (.dat (.int (a * c - b * b)), st) := by
  rw [c_room_squared]
  have m1 : mulOk a c = true := by exact Sy.mulOk_bd (by repeat' (first | assumption | apply Sy.bd_mul | apply Sy.bd_add | apply Sy.bd_sub | apply Sy.bd_neg | apply Sy.bd_abs | (exact Sy.bd_s (by decide) (by decide)) | (exact Sy.bd_s (by omega) (by omega)))) (by repeat' (first | assumption | apply Sy.bd_mul | apply Sy.bd_add | apply Sy.bd_sub | apply Sy.bd_neg | apply Sy.bd_abs | (exact Sy.bd_s (by decide) (by decide)) | (exact Sy.bd_s (by omega) (by omega)))) (by decide)
  have m2 : mulOk b b = true := by exact Sy.mulOk_bd (by repeat' (first | assumption | apply Sy.bd_mul | apply Sy.bd_add | apply Sy.bd_sub | apply Sy.bd_neg | apply Sy.bd_abs | (exact Sy.bd_s (by decide) (by decide)) | (exact Sy.bd_s (by omega) (by omega)))) (by repeat' (first | assumption | apply Sy.bd_mul | apply Sy.bd_add | apply Sy.bd_sub | apply Sy.bd_neg | apply Sy.bd_abs | (exact Sy.bd_s (by decide) (by decide)) | (exact Sy.bd_s (by omega) (by omega)))) (by decide)
  simp (decide := true) only [b_room_squared, ↓reduceIte, Bool.not_true, Bool.not_false, decide_true, decide_false, wipeE, Bool.false_eq_true, y_e_c, y_e_v, y_e_g, y_e_never, y_e_bin, y_e_neg, y_e_tst, y_e_ite, y_e_tup, y_e_lst, y_e_box, y_e_ix, y_e_sl, y_e_rev, y_e_call, y_e_blt, y_e_isi, y_e_lc, y_es_nil, y_es_cons, y_o_no, y_o_yes, y_t_val, y_t_cmp, y_t_chn, y_t_isnt, y_t_isnf, z_nnr_dat, z_nnr_own, z_nnr_brw, z_nn_none, z_nn_bool, z_nn_int, z_nn_str, z_nn_list, z_nn_tuple, y_t_isb, y_t_and, y_t_or, y_t_not, y_h_last, y_h_link, y_al_one, y_al_cons, y_an_one, y_an_cons, y_c_no, y_c_yes, y_i_seq, y_i_rng, y_i_zip, y_i_enum, y_s_never, y_s_pass, y_s_asg, y_s_par, y_s_par3, y_s_setO, y_s_unp, y_s_setB, y_s_exp, y_s_app, y_s_ext, y_s_iff, y_s_whl, y_s_forr, y_s_ret, y_s_retv, y_s_frz, y_ss_nil, y_ss_cons, argsOf, views, caps, Option.map_some, Option.map_none, Option.bind_some, Option.bind_none, List.getElem?_cons_zero, List.getElem?_cons_succ, List.set_cons_zero, List.set_cons_succ, List.length_cons, List.length_nil, z_read_dat, z_read_ref, z_read_scr, z_read_own, z_view_own, z_view_brw, z_view_dat, z_cap_dat, z_cap_own, z_hold_dat, z_hold_ref, z_hold_scr, z_hold_own, z_arg_dat, z_arg_ref, z_arg_scr, z_arg_own, z_look_t, z_look_f, z_len_ref, z_len_scr, z_len_l, z_len_t, z_len_o, z_len_b, z_ix_ref, z_ix_scr, z_ix_l, z_ix_t, z_ix_o, z_ix_b, z_blt_len, z_blt_abs, z_blt_tup, z_blt_lst, z_blt_sum, z_blt_all, z_blt_any, z_blt_min, z_blt_max, z_blt_sorted, z_blt_repr, z_blt_str, z_blt_int, z_blt_divmod, z_d_abs, z_d_tupl, z_d_tupt, z_d_lstl, z_d_lstt, z_d_sum, z_d_all, z_d_any, z_d_minl, z_d_maxl, z_d_min, z_d_max, z_d_sorted, z_d_divmod, z_d_int, z_d_repr, z_d_str, z_bin_i, z_bin_ll, z_bin_tt, z_bin_rep, z_add, z_sub, z_mul, z_fdiv, z_mod, z_eq, z_ne, z_lt, z_le, z_gt, z_ge, z_inl, z_int, z_ninl, z_nint, z_isi_int_none, z_isi_int_bool, z_isi_int_int, z_isi_int_str, z_isi_int_list, z_isi_int_tuple, z_isi_bool_none, z_isi_bool_bool, z_isi_bool_int, z_isi_bool_str, z_isi_bool_list, z_isi_bool_tuple, z_isi_str_none, z_isi_str_bool, z_isi_str_int, z_isi_str_str, z_isi_str_list, z_isi_str_tuple, z_isi_list_none, z_isi_list_bool, z_isi_list_int, z_isi_list_str, z_isi_list_list, z_isi_list_tuple, z_isi_tuple_none, z_isi_tuple_bool, z_isi_tuple_int, z_isi_tuple_str, z_isi_tuple_list, z_isi_tuple_tuple, z_out_rt, z_out_nx, z_eqi, z_eqb, z_rng1, z_rng2, z_si_l, z_si_t, z_bind_nm, z_bind_tt, z_bind_tl, z_binds_n, z_binds_c, z_sl_l, z_sl_t, z_at0, z_at1, z_at2, z_at3, z_ixN0, z_intsn, z_intsc, z_boolsn, z_boolsc, s_need_shapeb k a b c st h1 h2 h3 h4 h5, m1, m2]

/-! shape, by any short pair -/
theorem s_shape_u (k : Nat) (x : Qd) (st : Bx) (h : x.Bdd) (hn : x.det ≠ 0) : ∃ y : Qd, Uni x.a x.b x.c x.d y.a y.b y.c y.d ∧ Short y.a y.b y.c y.d ∧ y.Bdd ∧ callF tb (k + 6) "shape" [.dat x.p] st = some (.dat (PyData.tuple [PyData.int (y.n1), PyData.int (y.m), PyData.int (y.n2)]), st) := by
  obtain ⟨ms, hu, hs, hB, -, -, e⟩ := s_led k x st h hn
  obtain ⟨y, hy⟩ : ∃ y, x.gos ms = y := ⟨_, rfl⟩
  rw [hy] at hu hs hB e
  have e2 := s_need_p (k + 1) x st h hn
  have e3 := s_products_of (k + 2) y st hB
  have c1 : atI [PyData.list (ms.map Mv.d), y.p] 1 = some y.p := z_at1 _ _ _
  have e4 : callF tb (k + 5) "shape_of" [.dat x.p] st = some (.dat (PyData.tuple [PyData.int (y.n1), PyData.int (y.m), PyData.int (y.n2)]), st) := by
    rw [c_shape_of]
    simp (decide := true) only [b_shape_of, ↓reduceIte, Bool.not_true, Bool.not_false, decide_true, decide_false, wipeE, Bool.false_eq_true, y_e_c, y_e_v, y_e_g, y_e_never, y_e_bin, y_e_neg, y_e_tst, y_e_ite, y_e_tup, y_e_lst, y_e_box, y_e_ix, y_e_sl, y_e_rev, y_e_call, y_e_blt, y_e_isi, y_e_lc, y_es_nil, y_es_cons, y_o_no, y_o_yes, y_t_val, y_t_cmp, y_t_chn, y_t_isnt, y_t_isnf, z_nnr_dat, z_nnr_own, z_nnr_brw, z_nn_none, z_nn_bool, z_nn_int, z_nn_str, z_nn_list, z_nn_tuple, y_t_isb, y_t_and, y_t_or, y_t_not, y_h_last, y_h_link, y_al_one, y_al_cons, y_an_one, y_an_cons, y_c_no, y_c_yes, y_i_seq, y_i_rng, y_i_zip, y_i_enum, y_s_never, y_s_pass, y_s_asg, y_s_par, y_s_par3, y_s_setO, y_s_unp, y_s_setB, y_s_exp, y_s_app, y_s_ext, y_s_iff, y_s_whl, y_s_forr, y_s_ret, y_s_retv, y_s_frz, y_ss_nil, y_ss_cons, argsOf, views, caps, Option.map_some, Option.map_none, Option.bind_some, Option.bind_none, List.getElem?_cons_zero, List.getElem?_cons_succ, List.set_cons_zero, List.set_cons_succ, List.length_cons, List.length_nil, z_read_dat, z_read_ref, z_read_scr, z_read_own, z_view_own, z_view_brw, z_view_dat, z_cap_dat, z_cap_own, z_hold_dat, z_hold_ref, z_hold_scr, z_hold_own, z_arg_dat, z_arg_ref, z_arg_scr, z_arg_own, z_look_t, z_look_f, z_len_ref, z_len_scr, z_len_l, z_len_t, z_len_o, z_len_b, z_ix_ref, z_ix_scr, z_ix_l, z_ix_t, z_ix_o, z_ix_b, z_blt_len, z_blt_abs, z_blt_tup, z_blt_lst, z_blt_sum, z_blt_all, z_blt_any, z_blt_min, z_blt_max, z_blt_sorted, z_blt_repr, z_blt_str, z_blt_int, z_blt_divmod, z_d_abs, z_d_tupl, z_d_tupt, z_d_lstl, z_d_lstt, z_d_sum, z_d_all, z_d_any, z_d_minl, z_d_maxl, z_d_min, z_d_max, z_d_sorted, z_d_divmod, z_d_int, z_d_repr, z_d_str, z_bin_i, z_bin_ll, z_bin_tt, z_bin_rep, z_add, z_sub, z_mul, z_fdiv, z_mod, z_eq, z_ne, z_lt, z_le, z_gt, z_ge, z_inl, z_int, z_ninl, z_nint, z_isi_int_none, z_isi_int_bool, z_isi_int_int, z_isi_int_str, z_isi_int_list, z_isi_int_tuple, z_isi_bool_none, z_isi_bool_bool, z_isi_bool_int, z_isi_bool_str, z_isi_bool_list, z_isi_bool_tuple, z_isi_str_none, z_isi_str_bool, z_isi_str_int, z_isi_str_str, z_isi_str_list, z_isi_str_tuple, z_isi_list_none, z_isi_list_bool, z_isi_list_int, z_isi_list_str, z_isi_list_list, z_isi_list_tuple, z_isi_tuple_none, z_isi_tuple_bool, z_isi_tuple_int, z_isi_tuple_str, z_isi_tuple_list, z_isi_tuple_tuple, z_out_rt, z_out_nx, z_eqi, z_eqb, z_rng1, z_rng2, z_si_l, z_si_t, z_bind_nm, z_bind_tt, z_bind_tl, z_binds_n, z_binds_c, z_sl_l, z_sl_t, z_at0, z_at1, z_at2, z_at3, z_ixN0, z_intsn, z_intsc, z_boolsn, z_boolsc, e, c1, e3]
  refine ⟨y, hu, hs, hB, ?_⟩
  rw [c_shape]
  simp (decide := true) only [b_shape, ↓reduceIte, Bool.not_true, Bool.not_false, decide_true, decide_false, wipeE, Bool.false_eq_true, y_e_c, y_e_v, y_e_g, y_e_never, y_e_bin, y_e_neg, y_e_tst, y_e_ite, y_e_tup, y_e_lst, y_e_box, y_e_ix, y_e_sl, y_e_rev, y_e_call, y_e_blt, y_e_isi, y_e_lc, y_es_nil, y_es_cons, y_o_no, y_o_yes, y_t_val, y_t_cmp, y_t_chn, y_t_isnt, y_t_isnf, z_nnr_dat, z_nnr_own, z_nnr_brw, z_nn_none, z_nn_bool, z_nn_int, z_nn_str, z_nn_list, z_nn_tuple, y_t_isb, y_t_and, y_t_or, y_t_not, y_h_last, y_h_link, y_al_one, y_al_cons, y_an_one, y_an_cons, y_c_no, y_c_yes, y_i_seq, y_i_rng, y_i_zip, y_i_enum, y_s_never, y_s_pass, y_s_asg, y_s_par, y_s_par3, y_s_setO, y_s_unp, y_s_setB, y_s_exp, y_s_app, y_s_ext, y_s_iff, y_s_whl, y_s_forr, y_s_ret, y_s_retv, y_s_frz, y_ss_nil, y_ss_cons, argsOf, views, caps, Option.map_some, Option.map_none, Option.bind_some, Option.bind_none, List.getElem?_cons_zero, List.getElem?_cons_succ, List.set_cons_zero, List.set_cons_succ, List.length_cons, List.length_nil, z_read_dat, z_read_ref, z_read_scr, z_read_own, z_view_own, z_view_brw, z_view_dat, z_cap_dat, z_cap_own, z_hold_dat, z_hold_ref, z_hold_scr, z_hold_own, z_arg_dat, z_arg_ref, z_arg_scr, z_arg_own, z_look_t, z_look_f, z_len_ref, z_len_scr, z_len_l, z_len_t, z_len_o, z_len_b, z_ix_ref, z_ix_scr, z_ix_l, z_ix_t, z_ix_o, z_ix_b, z_blt_len, z_blt_abs, z_blt_tup, z_blt_lst, z_blt_sum, z_blt_all, z_blt_any, z_blt_min, z_blt_max, z_blt_sorted, z_blt_repr, z_blt_str, z_blt_int, z_blt_divmod, z_d_abs, z_d_tupl, z_d_tupt, z_d_lstl, z_d_lstt, z_d_sum, z_d_all, z_d_any, z_d_minl, z_d_maxl, z_d_min, z_d_max, z_d_sorted, z_d_divmod, z_d_int, z_d_repr, z_d_str, z_bin_i, z_bin_ll, z_bin_tt, z_bin_rep, z_add, z_sub, z_mul, z_fdiv, z_mod, z_eq, z_ne, z_lt, z_le, z_gt, z_ge, z_inl, z_int, z_ninl, z_nint, z_isi_int_none, z_isi_int_bool, z_isi_int_int, z_isi_int_str, z_isi_int_list, z_isi_int_tuple, z_isi_bool_none, z_isi_bool_bool, z_isi_bool_int, z_isi_bool_str, z_isi_bool_list, z_isi_bool_tuple, z_isi_str_none, z_isi_str_bool, z_isi_str_int, z_isi_str_str, z_isi_str_list, z_isi_str_tuple, z_isi_list_none, z_isi_list_bool, z_isi_list_int, z_isi_list_str, z_isi_list_list, z_isi_list_tuple, z_isi_tuple_none, z_isi_tuple_bool, z_isi_tuple_int, z_isi_tuple_str, z_isi_tuple_list, z_isi_tuple_tuple, z_out_rt, z_out_nx, z_eqi, z_eqb, z_rng1, z_rng2, z_si_l, z_si_t, z_bind_nm, z_bind_tt, z_bind_tl, z_binds_n, z_binds_c, z_sl_l, z_sl_t, z_at0, z_at1, z_at2, z_at3, z_ixN0, z_intsn, z_intsc, z_boolsn, z_boolsc, e2, e4]

/-! k94 -/
def sm6 (x : Qd) : Prop := (-6 ≤ x.a ∧ x.a ≤ 6) ∧ (-6 ≤ x.b ∧ x.b ≤ 6) ∧ (-6 ≤ x.c ∧ x.c ≤ 6) ∧ (-6 ≤ x.d ∧ x.d ≤ 6)
theorem m36 {x y : Int} (hx : -6 ≤ x ∧ x ≤ 6) (hy : -6 ≤ y ∧ y ≤ 6) : -36 ≤ x * y ∧ x * y ≤ 36 := by
  have h : (x * y).natAbs ≤ 6 * 6 := by rw [Int.natAbs_mul]; exact Nat.mul_le_mul (by omega) (by omega)
  omega
theorem det72 {x : Qd} (h : sm6 x) : -72 ≤ x.det ∧ x.det ≤ 72 := by
  have i1 := m36 h.1 h.2.2.2
  have i2 := m36 h.2.1 h.2.2.1
  unfold Qd.det
  omega
theorem bdd_sm {x : Qd} {K : Int} (hK : K < 2 ^ 60) (ha : -K ≤ x.a ∧ x.a ≤ K) (hb : -K ≤ x.b ∧ x.b ≤ K) (hc : -K ≤ x.c ∧ x.c ≤ K) (hd : -K ≤ x.d ∧ x.d ≤ K) : x.Bdd := by
  have ba : Bd 60 x.a := bd_s (by omega) (by omega)
  have bb : Bd 60 x.b := bd_s (by omega) (by omega)
  have bc : Bd 60 x.c := bd_s (by omega) (by omega)
  have bd' : Bd 60 x.d := bd_s (by omega) (by omega)
  exact ⟨(bd_add (bd_mul ba ba) (bd_mul bb bb)).mono (by decide), (bd_add (bd_mul bc bc) (bd_mul bd' bd')).mono (by decide)⟩
theorem fac_le {a b M : Int} (ha : 0 < a) (hb : 0 < b) (h : a * b ≤ M) : a ≤ M ∧ b ≤ M := by
  have h1 := Int.mul_le_mul_of_nonneg_left (show 1 ≤ b by omega) (show 0 ≤ a by omega)
  have h2 := Int.mul_le_mul_of_nonneg_right (show 1 ≤ a by omega) (show 0 ≤ b by omega)
  omega
def decQ : PyData → Qd
  | .tuple [.tuple [.int a, .int b], .tuple [.int c, .int d]] => ⟨a, b, c, d⟩
  | _ => ⟨0, 0, 0, 0⟩
theorem decQ_p (x : Qd) : decQ x.p = x := rfl
def Qd.pr (x : Qd) : Pr := ⟨x.a, x.b, x.c, x.d⟩
theorem pr_ok {x : Qd} (sx : sm6 x) (dx : x.det ≠ 0) : x.pr.Ok := ⟨bd_s (by have := sx.1; show -(2 ^ 60) < x.a; omega) (by have := sx.1; show x.a < _; omega), bd_s (by have := sx.2.1; show -(2 ^ 60) < x.b; omega) (by have := sx.2.1; show x.b < _; omega), bd_s (by have := sx.2.2.1; show -(2 ^ 60) < x.c; omega) (by have := sx.2.2.1; show x.c < _; omega), bd_s (by have := sx.2.2.2; show -(2 ^ 60) < x.d; omega) (by have := sx.2.2.2; show x.d < _; omega), dx⟩
noncomputable def zq (x : Qd) (i u e : Int) : Qd := decQ (part x.pr i u e)
/-- a part of the pair -/
structure Pz (x : Qd) (p : Int) (z : Qd) : Prop where
  bd : z.Bdd
  nz : z.det ≠ 0
  sub : ∀ q, Gq z q = true → Gq x q = true
  det : z.det = p * x.det ∨ z.det = -(p * x.det)
theorem part_q {x : Qd} (sx : sm6 x) (dx : x.det ≠ 0) {i u e : Int} (hi : 1 ≤ i ∧ i ≤ 7) (hu : 0 ≤ u ∧ u ≤ 7) (he : 1 ≤ e ∧ e ≤ 7) (hie : i * e ≤ 7) :
    (zq x i u e).p = part x.pr i u e ∧ Pz x (i * e) (zq x i u e) ∧ ∀ M N : Int, Gq (zq x i u e) (x.at (M, N)) = true ↔ ∃ m n : Int, M = m * i ∧ N = m * u + n * e := by
  obtain ⟨h1, h2, h3, h4, h5⟩ := part_facts (pr_ok sx dx) (i := i) (u := u) (e := e) (by omega) (by omega) (by omega)
  have h1' : Bd 130 (i * x.a + u * x.c) := h1
  have h2' : Bd 130 (i * x.b + u * x.d) := h2
  have h3' : Bd 130 (0 * x.a + e * x.c) := h3
  have h4' : Bd 130 (0 * x.b + e * x.d) := h4
  have h5' : (i * x.a + u * x.c) * (0 * x.b + e * x.d) - (i * x.b + u * x.d) * (0 * x.a + e * x.c) ≠ 0 := h5
  obtain ⟨A, B, D, hF, -, -, -, -⟩ := s_flat_by 0 _ _ _ _ [] h1' h2' h3' h4' h5'
  have ep : part x.pr i u e = (PyData.tuple [PyData.tuple [PyData.int (A), PyData.int (B % D)], PyData.tuple [PyData.int (0), PyData.int (D)]]) := (flatD_eq hF).symm
  have ez : zq x i u e = ⟨A, B % D, 0, D⟩ := by unfold zq; rw [ep]; rfl
  have hu2 : Uni (i * x.a + u * x.c) (i * x.b + u * x.d) (0 * x.a + e * x.c) (0 * x.b + e * x.d) A (B % D) 0 D := by
    refine hF.uni.trans ⟨1, -(B / D), 0, 1, .inl (by omega), by omega, ?_, by omega, by omega⟩
    have hd := Int.emod_add_mul_ediv B D
    have : -(B / D) * D = -(D * (B / D)) := by grind
    omega
  have hp := hF.pos
  have hl := hF.low
  have q1 := Int.emod_nonneg B (show D ≠ 0 by omega)
  have q2 := Int.emod_lt_of_pos B hl
  have e1 : (i * x.a + u * x.c) * (0 * x.b + e * x.d) - (i * x.b + u * x.d) * (0 * x.a + e * x.c) = (i * e) * x.det := by unfold Qd.det; grind
  have hdet := hu2.det
  rw [e1] at hdet h5'
  have e2 : A * D - B % D * 0 = A * D := by omega
  rw [e2] at hdet
  have p2 : 0 < A * D := Int.mul_pos hp hl
  have hd72 := det72 sx
  have hie0 : 0 < i * e := Int.mul_pos (by omega) (by omega)
  have hsz : ((i * e) * x.det).natAbs ≤ 7 * 72 := by rw [Int.natAbs_mul]; exact Nat.mul_le_mul (by omega) (by omega)
  obtain ⟨f5, f6⟩ := fac_le hp hl (show A * D ≤ 504 by omega)
  have dz : Qd.det ⟨A, B % D, 0, D⟩ ≠ 0 := by unfold Qd.det; dsimp only; omega
  have key : ∀ q : Pt2, Gq ⟨A, B % D, 0, D⟩ q = true ↔ ∃ m n : Int, q = x.at (m * i, m * u + n * e) := fun q => by
    rw [Gq_iff dz hu2.symm (y := ⟨i * x.a + u * x.c, i * x.b + u * x.d, 0 * x.a + e * x.c, 0 * x.b + e * x.d⟩)]
    have ee : ∀ m n : Int, Qd.at ⟨i * x.a + u * x.c, i * x.b + u * x.d, 0 * x.a + e * x.c, 0 * x.b + e * x.d⟩ (m, n) = x.at (m * i, m * u + n * e) := fun m n => by
      unfold Qd.at; exact Prod.ext (by dsimp only; grind) (by dsimp only; grind)
    constructor
    · rintro ⟨m, n, rfl⟩; exact ⟨m, n, ee m n⟩
    · rintro ⟨m, n, h⟩; exact ⟨m, n, h.trans (ee m n).symm⟩
  rw [ez]
  refine ⟨ep.symm, ⟨bdd_sm (K := 504) (by decide) (by dsimp only; omega) (by dsimp only; omega) (by dsimp only; omega) (by dsimp only; omega), dz, fun q hq => ?_, ?_⟩, fun M N => ?_⟩
  · obtain ⟨m, n, rfl⟩ := (key q).mp hq
    exact (Gq_iff dx (Uni.refl _ _ _ _) _).mpr ⟨_, _, rfl⟩
  · unfold Qd.det at hdet ⊢
    dsimp only
    omega
  · rw [key]
    constructor
    · rintro ⟨m, n, h⟩
      have g1 : M * x.a + N * x.c = (m * i) * x.a + (m * u + n * e) * x.c := congrArg Prod.fst h
      have g2 : M * x.b + N * x.d = (m * i) * x.b + (m * u + n * e) * x.d := congrArg Prod.snd h
      obtain ⟨r1, r2⟩ := pts_inj dx g1 g2
      exact ⟨m, n, r1, r2⟩
    · rintro ⟨m, n, rfl, rfl⟩; exact ⟨m, n, rfl⟩
/-- how many parts hold a point -/
def cn (p : Nat) (M N : Int) : Nat := ((List.range p).countP fun (u : Nat) => decide ((N - M * (u : Int)) % (p : Int) = 0)) + if M % (p : Int) = 0 then 1 else 0
theorem cn_small : ∀ p ∈ [2, 3, 5, 7], ∀ m : Nat, m < 7 → ∀ n : Nat, n < 7 → m < p → n < p → cn p m n = 1 + p * if m = 0 ∧ n = 0 then 1 else 0 := by decide +kernel
theorem cn_all {p : Nat} (hp : p ∈ [2, 3, 5, 7]) (M N : Int) : cn p M N = 1 + p * if M % (p : Int) = 0 ∧ N % (p : Int) = 0 then 1 else 0 := by
  have hp7 : 1 ≤ p ∧ p ≤ 7 := by
    have h' : p = 2 ∨ p = 3 ∨ p = 5 ∨ p = 7 := by simpa using hp
    omega
  have a1 := Int.emod_nonneg M (show (p : Int) ≠ 0 by omega)
  have a2 := Int.emod_lt_of_pos M (show 0 < (p : Int) by omega)
  have b1 := Int.emod_nonneg N (show (p : Int) ≠ 0 by omega)
  have b2 := Int.emod_lt_of_pos N (show 0 < (p : Int) by omega)
  have h := cn_small p hp (M % p).toNat (by omega) (N % p).toNat (by omega) (by omega) (by omega)
  have em : (((M % p).toNat : Nat) : Int) = M % p := by omega
  have en : (((N % p).toNat : Nat) : Int) = N % p := by omega
  rw [em, en] at h
  have e1 : cn p (M % p) (N % p) = cn p M N := by
    unfold cn
    congr 1
    · congr 1
      funext u
      rw [Int.sub_emod, Int.mul_emod, Int.emod_emod_of_dvd _ (Int.dvd_refl _), Int.emod_emod_of_dvd _ (Int.dvd_refl _), ← Int.mul_emod, ← Int.sub_emod]
    · rw [Int.emod_emod_of_dvd _ (Int.dvd_refl _)]
  rw [← e1, h]
  congr 2
  have c1 : ((M % p).toNat = 0 ∧ (N % p).toNat = 0) ↔ (M % (p : Int) = 0 ∧ N % (p : Int) = 0) := by omega
  simp only [c1]
noncomputable def zs (x : Qd) (p : Nat) : List Qd := (List.range p).map (fun (u : Nat) => zq x 1 (u : Int) (p : Int)) ++ [zq x (p : Int) 0 1]
noncomputable def gq2 (x : Qd) (p : Int) : Qd := ⟨p * x.a, p * x.b, p * x.c, p * x.d⟩
theorem Ps_eq (x : Pr) {p : Nat} (hp : p ∈ [2, 3, 5, 7]) : Ps x p = (List.range p).map (fun (u : Nat) => part x 1 (u : Int) (p : Int)) ++ [part x (p : Int) 0 1] := by
  have h' : p = 2 ∨ p = 3 ∨ p = 5 ∨ p = 7 := by simpa using hp
  rcases h' with rfl | rfl | rfl | rfl <;> rfl
theorem p_in {p : Nat} (hp : p ∈ [2, 3, 5, 7]) : 2 ≤ p ∧ p ≤ 7 := by
  have h' : p = 2 ∨ p = 3 ∨ p = 5 ∨ p = 7 := by simpa using hp
  omega
theorem zs_p {x : Qd} (sx : sm6 x) (dx : x.det ≠ 0) {p : Nat} (hp : p ∈ [2, 3, 5, 7]) : (zs x p).map Qd.p = Ps x.pr p := by
  have hp7 := p_in hp
  rw [Ps_eq _ hp]
  unfold zs
  rw [List.map_append, List.map_map]
  congr 1
  · refine List.map_congr_left fun u hu => ?_
    have := List.mem_range.mp hu
    exact (part_q sx dx (i := 1) (u := u) (e := p) (by omega) (by omega) (by omega) (by omega)).1
  · show [(zq x p 0 1).p] = _
    rw [(part_q sx dx (i := p) (u := 0) (e := 1) (by omega) (by omega) (by omega) (by omega)).1]
theorem zs_mem {x : Qd} (sx : sm6 x) (dx : x.det ≠ 0) {p : Nat} (hp : p ∈ [2, 3, 5, 7]) {z : Qd} (hz : z ∈ zs x p) : Pz x p z := by
  have hp7 := p_in hp
  unfold zs at hz
  rcases List.mem_append.mp hz with h | h
  · obtain ⟨u, hu, rfl⟩ := List.mem_map.mp h
    have := List.mem_range.mp hu
    have h2 := (part_q sx dx (i := 1) (u := u) (e := p) (by omega) (by omega) (by omega) (by omega)).2.1
    rw [Int.one_mul] at h2
    exact h2
  · obtain rfl := List.mem_singleton.mp h
    have h2 := (part_q sx dx (i := p) (u := 0) (e := 1) (by omega) (by omega) (by omega) (by omega)).2.1
    rw [Int.mul_one] at h2
    exact h2
theorem gq_nz {x : Qd} (dx : x.det ≠ 0) {p : Int} (hp : 0 < p) : (gq2 x p).det ≠ 0 := by
  have : (gq2 x p).det = p * p * x.det := by unfold gq2 Qd.det; grind
  rw [this]
  have h1 : 0 < p * p := Int.mul_pos hp hp
  exact Int.mul_ne_zero (by omega) dx
theorem g_on {x : Qd} (dx : x.det ≠ 0) {p : Int} (hp : 0 < p) (M N : Int) : Gq (gq2 x p) (x.at (M, N)) = true ↔ (M % p = 0 ∧ N % p = 0) := by
  rw [Gq_iff (gq_nz dx hp) (Uni.refl _ _ _ _)]
  constructor
  · rintro ⟨m, n, h⟩
    have g1 : M * x.a + N * x.c = (m * p) * x.a + (n * p) * x.c := by
      have h1 := congrArg Prod.fst h
      have h2 : M * x.a + N * x.c = m * (p * x.a) + n * (p * x.c) := h1
      rw [h2]; grind
    have g2 : M * x.b + N * x.d = (m * p) * x.b + (n * p) * x.d := by
      have h1 := congrArg Prod.snd h
      have h2 : M * x.b + N * x.d = m * (p * x.b) + n * (p * x.d) := h1
      rw [h2]; grind
    obtain ⟨r1, r2⟩ := pts_inj dx g1 g2
    rw [r1, r2]
    exact ⟨Int.mul_emod_left _ _, Int.mul_emod_left _ _⟩
  · rintro ⟨h1, h2⟩
    obtain ⟨m, rfl⟩ := Int.dvd_of_emod_eq_zero h1
    obtain ⟨n, rfl⟩ := Int.dvd_of_emod_eq_zero h2
    refine ⟨m, n, ?_⟩
    unfold Qd.at gq2
    exact Prod.ext (by dsimp only; grind) (by dsimp only; grind)
theorem zs_cn {x : Qd} (sx : sm6 x) (dx : x.det ≠ 0) {p : Nat} (hp : p ∈ [2, 3, 5, 7]) {q : Pt2} (hq : Gq x q = true) : (zs x p).countP (fun z => Gq z q) = 1 + p * if Gq (gq2 x p) q = true then 1 else 0 := by
  have hp7 := p_in hp
  obtain ⟨M, N, rfl⟩ := (Gq_iff dx (Uni.refl _ _ _ _) q).mp hq
  have e0 : (if Gq (gq2 x p) (x.at (M, N)) = true then 1 else 0 : Nat) = if M % (p : Int) = 0 ∧ N % (p : Int) = 0 then 1 else 0 := by simp only [g_on dx (show 0 < (p : Int) by omega) M N]
  rw [e0, ← cn_all hp]
  unfold zs cn
  rw [List.countP_append, List.countP_map]
  congr 1
  · refine List.countP_congr fun u hu => ?_
    have := List.mem_range.mp hu
    have h := (part_q sx dx (i := 1) (u := u) (e := p) (by omega) (by omega) (by omega) (by omega)).2.2 M N
    show Gq (zq x 1 u p) (x.at (M, N)) = true ↔ _
    rw [h, decide_eq_true_iff]
    constructor
    · rintro ⟨m, n, r1, r2⟩
      rw [Int.mul_one] at r1
      subst r1
      rw [r2, show M * (u : Int) + n * (p : Int) - M * u = n * p by omega]
      exact Int.mul_emod_left _ _
    · intro hd
      obtain ⟨n, hn⟩ := Int.dvd_of_emod_eq_zero hd
      exact ⟨M, n, by omega, by rw [Int.mul_comm n]; omega⟩
  · have h := (part_q sx dx (i := p) (u := 0) (e := 1) (by omega) (by omega) (by omega) (by omega)).2.2 M N
    rw [List.countP_singleton]
    have e : (Gq (zq x p 0 1) (x.at (M, N)) = true) ↔ M % (p : Int) = 0 := by
      rw [h]
      constructor
      · rintro ⟨m, n, r1, r2⟩; rw [r1]; exact Int.mul_emod_left _ _
      · intro hd
        obtain ⟨n, hn⟩ := Int.dvd_of_emod_eq_zero hd
        exact ⟨n, N, by rw [hn, Int.mul_comm], by omega⟩
    simp only [e]
theorem sum_add {α : Type} (c : α → Bool) (f : α → Nat) : ∀ l : List α, (l.map fun z => (if c z = true then 1 else 0) + f z).sum = l.countP c + (l.map f).sum
  | [] => rfl
  | a :: l => by
    rw [List.map_cons, List.sum_cons, List.countP_cons, List.map_cons, List.sum_cons, sum_add c f l]
    omega
theorem sum_zero : ∀ l : List Qd, (l.map fun z => (([] : List Pt2).filter (Gq z)).length).sum = 0
  | [] => rfl
  | a :: l => by rw [List.map_cons, List.sum_cons, sum_zero l]; rfl
theorem sum_pts {l : List Qd} {g : Qd} {p : Nat} : ∀ L : List Pt2, (∀ q ∈ L, l.countP (fun z => Gq z q) = 1 + p * if Gq g q = true then 1 else 0) → (l.map fun z => (L.filter (Gq z)).length).sum = L.length + p * (L.filter (Gq g)).length
  | [], _ => by
    rw [sum_zero]; rfl
  | q :: L, h => by
    have e : ∀ z : Qd, ((q :: L).filter (Gq z)).length = (if Gq z q = true then 1 else 0) + (L.filter (Gq z)).length := fun z => by
      rw [List.filter_cons]
      by_cases hz : Gq z q = true
      · rw [if_pos hz, if_pos hz, List.length_cons]; omega
      · rw [if_neg hz, if_neg hz]; omega
    have e2 : (l.map fun z => ((q :: L).filter (Gq z)).length) = l.map fun z => (if Gq z q = true then 1 else 0) + (L.filter (Gq z)).length := List.map_congr_left fun z _ => e z
    rw [e2, sum_add (fun z => Gq z q), h q List.mem_cons_self, sum_pts L fun q hq => h q (List.mem_cons_of_mem _ hq), e g, List.length_cons]
    by_cases hz : Gq g q = true
    · rw [if_pos hz, Nat.mul_add]; omega
    · rw [if_neg hz, Nat.mul_add]; omega
/-- the points of a grid within another -/
theorem up_in {x z : Qd} {N : Int} {l m : List Pt2} (hx : Up x N l) (hz : Up z N m) (h : ∀ q, Gq z q = true → Gq x q = true) : (m.filter fun p => decide (nr p = N)).length = ((l.filter fun p => decide (nr p = N)).filter (Gq z)).length := by
  refine List.Perm.length_eq ((List.perm_ext_iff_of_nodup (hz.nd.filter _) ((hx.nd.filter _).filter _)).mpr fun q => ?_)
  rw [List.mem_filter, List.mem_filter, List.mem_filter, hx.mem, hz.mem]
  constructor
  · rintro ⟨⟨a, b⟩, c⟩; exact ⟨⟨⟨h q a, b⟩, c⟩, a⟩
  · rintro ⟨⟨⟨a, b⟩, c⟩, d⟩; exact ⟨⟨d, b⟩, c⟩
theorem s_many_g (k : Nat) (x z : Qd) (N : Int) (l : List Pt2) (st : Bx) (hx : Up x N l) (bz : z.Bdd) (dz : z.det ≠ 0) (h : ∀ q, Gq z q = true → Gq x q = true) (h0 : 0 ≤ N) (h60 : N ≤ 60) :
    callF tb (k + 6) "many_of" [.dat z.p, .dat (.int N)] st = some (.dat (.int ((((l.filter fun p => decide (nr p = N)).filter (Gq z)).length : Nat) : Int)), st) := by
  obtain ⟨m, hm, e⟩ := s_many_of k z N st bz dz h0 h60
  rw [up_in hx hm h] at e
  exact e
/-- the parts, as the program gives them -/
theorem s_parts94 (k : Nat) (x : Qd) (p : Nat) (st : Bx) (sx : sm6 x) (dx : x.det ≠ 0) (hp : p ∈ [2, 3, 5, 7]) :
    ∃ l : List Qd, l.length = p + 1 ∧ (∀ z ∈ l, Pz x p z) ∧ (∀ q, Gq x q = true → l.countP (fun z => Gq z q) = 1 + p * if Gq (gq2 x p) q = true then 1 else 0) ∧ callF tb (k + 6) "parts_of" [.dat x.p, .dat (.int (p : Int))] st = some (.own (l.map Qd.p), st) := by
  have hp7 := p_in hp
  have e := s_parts_of k x.pr p st (pr_ok sx dx) (by omega)
  rw [← zs_p sx dx hp] at e
  have hperm : (sortD ((zs x p).map Qd.p)).Perm ((zs x p).map Qd.p) := List.mergeSort_perm _ _
  have hd : ∀ d ∈ sortD ((zs x p).map Qd.p), (decQ d).p = d := fun d h => by
    obtain ⟨z, -, rfl⟩ := List.mem_map.mp (hperm.mem_iff.mp h)
    rfl
  have hm : ((sortD ((zs x p).map Qd.p)).map decQ).map Qd.p = sortD ((zs x p).map Qd.p) := by
    rw [List.map_map]
    conv => rhs; rw [← List.map_id (sortD ((zs x p).map Qd.p))]
    exact List.map_congr_left fun d h => hd d h
  have hp2 : ((sortD ((zs x p).map Qd.p)).map decQ).Perm (zs x p) := by
    have h := hperm.map decQ
    rw [List.map_map] at h
    have e2 : (zs x p).map (decQ ∘ Qd.p) = zs x p := by
      conv => rhs; rw [← List.map_id (zs x p)]
      exact List.map_congr_left fun d _ => rfl
    rw [e2] at h
    exact h
  rw [← hm] at e
  have hlen : (zs x p).length = p + 1 := by unfold zs; simp
  exact ⟨_, hp2.length_eq.trans hlen, fun z hz => zs_mem sx dx hp (hp2.mem_iff.mp hz), fun q hq => (hp2.countP_eq _).trans (zs_cn sx dx hp hq), e⟩
theorem nice_v3 (a b c : Int) : Nice 1 (PyData.tuple [PyData.int (a), PyData.int (b), PyData.int (c)]) := nice_tuple (n := 0) (fun e he => by
  rcases List.mem_cons.mp he with rfl | he
  · exact nice_int _
  · rcases List.mem_cons.mp he with rfl | he
    · exact nice_int _
    · obtain rfl := List.mem_singleton.mp he
      exact nice_int _) (by simp)
theorem inD3 {a b c : Int} {ds : List PyData} (h : ∀ d ∈ ds, ∃ a b c : Int, d = (PyData.tuple [PyData.int (a), PyData.int (b), PyData.int (c)])) (hm : (PyData.tuple [PyData.int (a), PyData.int (b), PyData.int (c)]) ∈ ds) : inD (PyData.tuple [PyData.int (a), PyData.int (b), PyData.int (c)]) ds = some true := by
  have n1 := nice_v3 a b c
  have n2 : Nice 2 (.list ds) := by
    have h : ∀ d ∈ ds, Nice 1 d := fun d hd => by
      obtain ⟨a, b, c, rfl⟩ := h d hd
      exact nice_v3 a b c
    refine ⟨?_, ?_⟩
    · unfold PyData.canLay0
      exact canAll fun d hd => (h d hd).1
    · have := depthAll_le fun d hd => (h d hd).2
      unfold PyData.depth
      omega
  have s1 : SeqAt.shaped (PyData.tuple [PyData.int (a), PyData.int (b), PyData.int (c)]) = true := by unfold SeqAt.shaped; rw [n1.1, decide_eq_true (Nat.le_trans n1.2 (by decide))]; rfl
  have s2 : SeqAt.shaped (.list ds) = true := by unfold SeqAt.shaped; rw [n2.1, decide_eq_true (Nat.le_trans n2.2 (by decide))]; rfl
  unfold inD
  rw [s1, s2]
  show some _ = _
  congr 1
  rw [List.any_eq_true]
  refine ⟨_, hm, ?_⟩
  show ((a == a) && ((b == b) && ((c == c) && true))) = true
  simp
theorem Rs_full {N A B C : Int} (hN : 1 ≤ N) (hN2 : N ≤ 200) (h0 : 0 ≤ B) (h1 : 2 * B ≤ A) (h2 : A ≤ C) (h3 : 1 ≤ A) (h : A * C - B * B = N) : (PyData.tuple [PyData.int (A), PyData.int (B), PyData.int (C)]) ∈ Rs N := by
  have e1 : N + B * B = A * C := by omega
  have e2 : (N + B * B) / A = C := by rw [e1]; exact Int.mul_ediv_cancel_left _ (by omega)
  have hb := hs_bound h3 h0 (show B ≤ A / 2 by omega) hN (by rw [e2]; exact h2) (by rw [e2]; exact h)
  have hA : A ≤ 17 := by
    rcases Int.lt_or_le 17 A with q | q
    · have := Int.mul_le_mul (show (18 : Int) ≤ A by omega) (show (18 : Int) ≤ A by omega) (by decide) (by omega)
      omega
    · exact q
  have m1 : (PyData.tuple [PyData.int (A), PyData.int (C), PyData.int (B)]) ∈ hs N A B := by
    unfold hs
    rw [e2, if_pos ⟨h2, h⟩]
    exact List.mem_singleton.mpr rfl
  have m2 : (PyData.tuple [PyData.int (A), PyData.int (C), PyData.int (B)]) ∈ Hf N A := fm_mem.mpr ⟨B.toNat, by omega, by rw [show 0 + ((B.toNat : Nat) : Int) = B by omega]; exact m1⟩
  have m3 : (PyData.tuple [PyData.int (A), PyData.int (C), PyData.int (B)]) ∈ Qs N := fm_mem.mpr ⟨(A - 1).toNat, by omega, by rw [show 1 + (((A - 1).toNat : Nat) : Int) = A by omega]; exact m2⟩
  exact List.mem_filterMap.mpr ⟨(PyData.tuple [PyData.int (A), PyData.int (C), PyData.int (B)]), List.mem_mergeSort.mpr m3, rfl⟩
/-- the shape and the room of a pair -/
theorem s_shape94 (k : Nat) (x : Qd) (st : Bx) (h : x.Bdd) (dx : x.det ≠ 0) : ∃ A B C : Int, 0 ≤ B ∧ 2 * B ≤ A ∧ A ≤ C ∧ 1 ≤ A ∧ A * C - B * B = x.det * x.det ∧ callF tb (k + 6) "shape" [.dat x.p] st = some (.dat (PyData.tuple [PyData.int (A), PyData.int (B), PyData.int (C)]), st) ∧ callF tb (k + 6) "room_squared" [.dat (PyData.tuple [PyData.int (A), PyData.int (B), PyData.int (C)])] st = some (.dat (.int (x.det * x.det)), st) := by
  obtain ⟨y, hu, ⟨s1, s2, s3, s4⟩, hB, e⟩ := s_shape_u k x st h dx
  have l1 := lagr y.a y.b y.c y.d
  have hd : y.det * y.det = x.det * x.det := by
    rcases hu.det with q | q
    · have q' : y.det = x.det := q
      rw [q']
    · have q' : y.det = -x.det := q
      rw [q', Int.neg_mul_neg]
  have l2 : y.n1 * y.n2 - y.m * y.m = x.det * x.det := by rw [← hd]; exact l1
  have e2 := s_room_squared (k + 1) y.n1 y.m y.n2 st s1 s2 s3 s4 (hB.1.mono (by decide)) ((bd_m hB).mono (by decide)) (hB.2.mono (by decide))
  rw [l2] at e2
  exact ⟨y.n1, y.m, y.n2, s1, s2, s3, s4, l2, e, e2⟩
theorem s_chk (k : Nat) (x z : Qd) (p : Int) (st : Bx) (sx : sm6 x) (bx : x.Bdd) (dx : x.det ≠ 0) (hp : 2 ≤ p ∧ p ≤ 7) (hz : Pz x p z) (x0 x1 x2 x3 x7 x8 x9 x10 : Option R) (e7 : x7 = some (.dat (.int p))) :
    Stms.den (callF tb (k + 7)) lb_law_2 [x0, x1, x2, x3, some (.dat (.int (p * p * (x.det * x.det)))), some (.dat z.p), some (.dat x.p), x7, x8, x9, x10] st =
      some (.nx [x0, x1, x2, x3, some (.dat (.int (p * p * (x.det * x.det)))), some (.dat z.p), some (.dat x.p), x7, x8, x9, x10] st) := by
  subst e7
  obtain ⟨za, zb, zc, zd⟩ := z.bds hz.bd
  obtain ⟨xa, xb, xc, xd⟩ := x.bds bx
  have u : ∀ {v : Int}, Bd 300 v → Bd 1000 v := fun h => h.mono (by decide)
  have g1 : inG x.a x.b x.c x.d z.a z.b = true := hz.sub (z.a, z.b) ((Gq_iff hz.nz (Uni.refl _ _ _ _) _).mpr ⟨1, 0, by unfold Qd.at; simp⟩)
  have g2 : inG x.a x.b x.c x.d z.c z.d = true := hz.sub (z.c, z.d) ((Gq_iff hz.nz (Uni.refl _ _ _ _) _).mpr ⟨0, 1, by unfold Qd.at; simp⟩)
  have e1 := s_times_of (k + 1) z.a z.b z.c z.d x.a x.b x.c x.d st (u za) (u zb) (u zc) (u zd) (u xa) (u xb) (u xc) (u xd) hz.nz dx (by rw [g1, g2]; rfl)
  have hab : (z.det.natAbs : Int) = p * (x.det.natAbs : Int) := by
    have h1 : z.det.natAbs = (p * x.det).natAbs := by rcases hz.det with h | h <;> rw [h] ; exact Int.natAbs_neg _
    rw [h1, Int.natAbs_mul]
    rw [Int.natCast_mul, show ((p.natAbs : Nat) : Int) = p by omega]
  have hq : ((z.a * z.d - z.b * z.c).natAbs : Int) / ((x.a * x.d - x.b * x.c).natAbs : Int) = p := by
    show (z.det.natAbs : Int) / (x.det.natAbs : Int) = p
    rw [hab]
    exact Int.mul_ediv_cancel _ (by omega)
  rw [hq] at e1
  have e1' : callF tb (k + 7) "times_of" [.dat z.p, .dat x.p] st = some (.dat (.int p), st) := e1
  have e2 := s_room2 (k + 1) z st hz.bd hz.nz
  rw [hab] at e2
  have e3 := s_room2 (k + 1) x st bx dx
  obtain ⟨A, B, C, h0, h1, h2, h3, h4, e4, e5⟩ := s_shape94 (k + 1) z st hz.bd hz.nz
  have e5' := (s_shape94 (k + 2) z st hz.bd hz.nz)
  have hsq : z.det * z.det = p * p * (x.det * x.det) := by
    rcases hz.det with h | h <;> rw [h] <;> grind
  have hd72 := det72 sx
  have m1 : mulOk p ((x.det.natAbs : Nat) : Int) = true := mulOk_s (by omega) (by omega) (by omega) (by omega)
  have e6 : callF tb (k + 7) "room_squared" [.dat (PyData.tuple [PyData.int (A), PyData.int (B), PyData.int (C)])] st = some (.dat (.int (p * p * (x.det * x.det))), st) := by
    have hB5 : Bd 5000 A ∧ Bd 5000 B ∧ Bd 5000 C := by
      have hdz : (z.det * z.det).natAbs ≤ 504 * 504 := by
        have h1 : z.det.natAbs = (p * x.det).natAbs := by rcases hz.det with h | h <;> rw [h] ; exact Int.natAbs_neg _
        have h2 : (p * x.det).natAbs ≤ 7 * 72 := by rw [Int.natAbs_mul]; exact Nat.mul_le_mul (by omega) (by omega)
        rw [Int.natAbs_mul]; exact Nat.mul_le_mul (by omega) (by omega)
      have hBB := Int.mul_le_mul h1 h1 (by omega) (by omega)
      have hAC := Int.mul_le_mul_of_nonneg_left h2 (show 0 ≤ A by omega)
      have e4' : 2 * B * (2 * B) = 4 * (B * B) := by grind
      have hbig : 3 * (A * C) ≤ 4 * (A * C - B * B) := by omega
      have hAC2 : A * C ≤ 400000 := by omega
      have hC := (fac_le (show 0 < A by omega) (show 0 < C by omega) hAC2)
      exact ⟨(bd_s (by omega) (by omega)).mono (by decide), (bd_s (by omega) (by omega)).mono (by decide), (bd_s (by omega) (by omega)).mono (by decide)⟩
    have h := s_room_squared (k + 2) A B C st h0 h1 h2 h3 hB5.1 hB5.2.1 hB5.2.2
    rw [h4, hsq] at h
    exact h
  have hs1 : 1 ≤ p * p * (x.det * x.det) := by
    rw [← hsq]
    have := norm_pos (a := z.det) (b := 0) (c := 0) (d := 1) (by have := hz.nz; omega)
    omega
  by_cases hle : p * p * (x.det * x.det) ≤ 200
  · have e7 := s_shapes_of (k + 4) (p * p * (x.det * x.det)) st hs1 hle
    have e8 : inD (PyData.tuple [PyData.int (A), PyData.int (B), PyData.int (C)]) (Rs (p * p * (x.det * x.det))) = some true := inD3 (fun d hd => by
      obtain ⟨f, b, l, rfl, -⟩ := Rs_mem hs1 hle hd
      exact ⟨_, _, _, rfl⟩) (Rs_full hs1 hle h0 h1 h2 h3 (by rw [h4, hsq]))
    simp (decide := true) only [lb_law_2, ↓reduceIte, Bool.not_true, Bool.not_false, decide_true, decide_false, wipeE, Bool.false_eq_true, y_e_c, y_e_v, y_e_g, y_e_never, y_e_bin, y_e_neg, y_e_tst, y_e_ite, y_e_tup, y_e_lst, y_e_box, y_e_ix, y_e_sl, y_e_rev, y_e_call, y_e_blt, y_e_isi, y_e_lc, y_es_nil, y_es_cons, y_o_no, y_o_yes, y_t_val, y_t_cmp, y_t_chn, y_t_isnt, y_t_isnf, z_nnr_dat, z_nnr_own, z_nnr_brw, z_nn_none, z_nn_bool, z_nn_int, z_nn_str, z_nn_list, z_nn_tuple, y_t_isb, y_t_and, y_t_or, y_t_not, y_h_last, y_h_link, y_al_one, y_al_cons, y_an_one, y_an_cons, y_c_no, y_c_yes, y_i_seq, y_i_rng, y_i_zip, y_i_enum, y_s_never, y_s_pass, y_s_asg, y_s_par, y_s_par3, y_s_setO, y_s_unp, y_s_setB, y_s_exp, y_s_app, y_s_ext, y_s_iff, y_s_whl, y_s_forr, y_s_ret, y_s_retv, y_s_frz, y_ss_nil, y_ss_cons, argsOf, views, caps, Option.map_some, Option.map_none, Option.bind_some, Option.bind_none, List.getElem?_cons_zero, List.getElem?_cons_succ, List.set_cons_zero, List.set_cons_succ, List.length_cons, List.length_nil, z_read_dat, z_read_ref, z_read_scr, z_read_own, z_view_own, z_view_brw, z_view_dat, z_cap_dat, z_cap_own, z_hold_dat, z_hold_ref, z_hold_scr, z_hold_own, z_arg_dat, z_arg_ref, z_arg_scr, z_arg_own, z_look_t, z_look_f, z_len_ref, z_len_scr, z_len_l, z_len_t, z_len_o, z_len_b, z_ix_ref, z_ix_scr, z_ix_l, z_ix_t, z_ix_o, z_ix_b, z_blt_len, z_blt_abs, z_blt_tup, z_blt_lst, z_blt_sum, z_blt_all, z_blt_any, z_blt_min, z_blt_max, z_blt_sorted, z_blt_repr, z_blt_str, z_blt_int, z_blt_divmod, z_d_abs, z_d_tupl, z_d_tupt, z_d_lstl, z_d_lstt, z_d_sum, z_d_all, z_d_any, z_d_minl, z_d_maxl, z_d_min, z_d_max, z_d_sorted, z_d_divmod, z_d_int, z_d_repr, z_d_str, z_bin_i, z_bin_ll, z_bin_tt, z_bin_rep, z_add, z_sub, z_mul, z_fdiv, z_mod, z_eq, z_ne, z_lt, z_le, z_gt, z_ge, z_inl, z_int, z_ninl, z_nint, z_isi_int_none, z_isi_int_bool, z_isi_int_int, z_isi_int_str, z_isi_int_list, z_isi_int_tuple, z_isi_bool_none, z_isi_bool_bool, z_isi_bool_int, z_isi_bool_str, z_isi_bool_list, z_isi_bool_tuple, z_isi_str_none, z_isi_str_bool, z_isi_str_int, z_isi_str_str, z_isi_str_list, z_isi_str_tuple, z_isi_list_none, z_isi_list_bool, z_isi_list_int, z_isi_list_str, z_isi_list_list, z_isi_list_tuple, z_isi_tuple_none, z_isi_tuple_bool, z_isi_tuple_int, z_isi_tuple_str, z_isi_tuple_list, z_isi_tuple_tuple, z_out_rt, z_out_nx, z_eqi, z_eqb, z_rng1, z_rng2, z_si_l, z_si_t, z_bind_nm, z_bind_tt, z_bind_tl, z_binds_n, z_binds_c, z_sl_l, z_sl_t, z_at0, z_at1, z_at2, z_at3, z_ixN0, z_intsn, z_intsc, z_boolsn, z_boolsc, e1', e2, e3, m1, e4, e6, hle, e7, e8]
  · simp (decide := true) only [lb_law_2, ↓reduceIte, Bool.not_true, Bool.not_false, decide_true, decide_false, wipeE, Bool.false_eq_true, y_e_c, y_e_v, y_e_g, y_e_never, y_e_bin, y_e_neg, y_e_tst, y_e_ite, y_e_tup, y_e_lst, y_e_box, y_e_ix, y_e_sl, y_e_rev, y_e_call, y_e_blt, y_e_isi, y_e_lc, y_es_nil, y_es_cons, y_o_no, y_o_yes, y_t_val, y_t_cmp, y_t_chn, y_t_isnt, y_t_isnf, z_nnr_dat, z_nnr_own, z_nnr_brw, z_nn_none, z_nn_bool, z_nn_int, z_nn_str, z_nn_list, z_nn_tuple, y_t_isb, y_t_and, y_t_or, y_t_not, y_h_last, y_h_link, y_al_one, y_al_cons, y_an_one, y_an_cons, y_c_no, y_c_yes, y_i_seq, y_i_rng, y_i_zip, y_i_enum, y_s_never, y_s_pass, y_s_asg, y_s_par, y_s_par3, y_s_setO, y_s_unp, y_s_setB, y_s_exp, y_s_app, y_s_ext, y_s_iff, y_s_whl, y_s_forr, y_s_ret, y_s_retv, y_s_frz, y_ss_nil, y_ss_cons, argsOf, views, caps, Option.map_some, Option.map_none, Option.bind_some, Option.bind_none, List.getElem?_cons_zero, List.getElem?_cons_succ, List.set_cons_zero, List.set_cons_succ, List.length_cons, List.length_nil, z_read_dat, z_read_ref, z_read_scr, z_read_own, z_view_own, z_view_brw, z_view_dat, z_cap_dat, z_cap_own, z_hold_dat, z_hold_ref, z_hold_scr, z_hold_own, z_arg_dat, z_arg_ref, z_arg_scr, z_arg_own, z_look_t, z_look_f, z_len_ref, z_len_scr, z_len_l, z_len_t, z_len_o, z_len_b, z_ix_ref, z_ix_scr, z_ix_l, z_ix_t, z_ix_o, z_ix_b, z_blt_len, z_blt_abs, z_blt_tup, z_blt_lst, z_blt_sum, z_blt_all, z_blt_any, z_blt_min, z_blt_max, z_blt_sorted, z_blt_repr, z_blt_str, z_blt_int, z_blt_divmod, z_d_abs, z_d_tupl, z_d_tupt, z_d_lstl, z_d_lstt, z_d_sum, z_d_all, z_d_any, z_d_minl, z_d_maxl, z_d_min, z_d_max, z_d_sorted, z_d_divmod, z_d_int, z_d_repr, z_d_str, z_bin_i, z_bin_ll, z_bin_tt, z_bin_rep, z_add, z_sub, z_mul, z_fdiv, z_mod, z_eq, z_ne, z_lt, z_le, z_gt, z_ge, z_inl, z_int, z_ninl, z_nint, z_isi_int_none, z_isi_int_bool, z_isi_int_int, z_isi_int_str, z_isi_int_list, z_isi_int_tuple, z_isi_bool_none, z_isi_bool_bool, z_isi_bool_int, z_isi_bool_str, z_isi_bool_list, z_isi_bool_tuple, z_isi_str_none, z_isi_str_bool, z_isi_str_int, z_isi_str_str, z_isi_str_list, z_isi_str_tuple, z_isi_list_none, z_isi_list_bool, z_isi_list_int, z_isi_list_str, z_isi_list_list, z_isi_list_tuple, z_isi_tuple_none, z_isi_tuple_bool, z_isi_tuple_int, z_isi_tuple_str, z_isi_tuple_list, z_isi_tuple_tuple, z_out_rt, z_out_nx, z_eqi, z_eqb, z_rng1, z_rng2, z_si_l, z_si_t, z_bind_nm, z_bind_tt, z_bind_tl, z_binds_n, z_binds_c, z_sl_l, z_sl_t, z_at0, z_at1, z_at2, z_at3, z_ixN0, z_intsn, z_intsc, z_boolsn, z_boolsc, e1', e2, e3, m1, e4, e6, hle]

/-- lengths to look at -/
theorem s_lengths94 (k n : Nat) (x : Qd) (W : Int) (st : Bx) (hg : st[n]? = some [.int W]) (bx : x.Bdd) (dx : x.det ≠ 0) :
    ∃ (Ns : List Int) (W' : Int), (∀ N ∈ Ns, 0 ≤ N ∧ N ≤ 60) ∧ callF tb (k + 7) "_law_lengths" [.ref n, .dat x.p] st = some (.own (Ns.map PyData.int), st.set n [.int W']) := by
  obtain ⟨L, hL, sL, lL, e1⟩ := s_up_s k x 60 st bx dx (by decide) (by decide)
  have t1 := s_take (k + 5) n 61 W st hg (by decide) (by decide)
  have f2 : fitsL 2 = true := by decide
  have r3 : rngOk 3 = true := by decide
  have ln : (pv L).length = L.length := by unfold pv; rw [List.length_map]
  have hL0 : 0 < L.length := List.length_pos_of_mem (hL.zero dx (by decide))
  obtain ⟨env1, st2, e2, Ns, y4, y5, V, h1, h2, h3, h4⟩ := den_for (cf := callF tb (k + 6)) (tg := .nm 4) (it := .rng (.cons (.c (.int 3)) .nil)) (b := lb__law_lengths_1)
    (env := [some (.ref n), some (.dat x.p), some (.dat (.list (pv L))), some (.own [.int (W % 61), .int 0]), none, none]) (st := st.set n [.int (W / 61)]) (st1 := st.set n [.int (W / 61)]) (items := rngItems 0 3) (by
      simp (decide := true) only [↓reduceIte, Bool.not_true, Bool.not_false, decide_true, decide_false, wipeE, Bool.false_eq_true, y_e_c, y_e_v, y_e_g, y_e_never, y_e_bin, y_e_neg, y_e_tst, y_e_ite, y_e_tup, y_e_lst, y_e_box, y_e_ix, y_e_sl, y_e_rev, y_e_call, y_e_blt, y_e_isi, y_e_lc, y_es_nil, y_es_cons, y_o_no, y_o_yes, y_t_val, y_t_cmp, y_t_chn, y_t_isnt, y_t_isnf, z_nnr_dat, z_nnr_own, z_nnr_brw, z_nn_none, z_nn_bool, z_nn_int, z_nn_str, z_nn_list, z_nn_tuple, y_t_isb, y_t_and, y_t_or, y_t_not, y_h_last, y_h_link, y_al_one, y_al_cons, y_an_one, y_an_cons, y_c_no, y_c_yes, y_i_seq, y_i_rng, y_i_zip, y_i_enum, y_s_never, y_s_pass, y_s_asg, y_s_par, y_s_par3, y_s_setO, y_s_unp, y_s_setB, y_s_exp, y_s_app, y_s_ext, y_s_iff, y_s_whl, y_s_forr, y_s_ret, y_s_retv, y_s_frz, y_ss_nil, y_ss_cons, argsOf, views, caps, Option.map_some, Option.map_none, Option.bind_some, Option.bind_none, List.getElem?_cons_zero, List.getElem?_cons_succ, List.set_cons_zero, List.set_cons_succ, List.length_cons, List.length_nil, z_read_dat, z_read_ref, z_read_scr, z_read_own, z_view_own, z_view_brw, z_view_dat, z_cap_dat, z_cap_own, z_hold_dat, z_hold_ref, z_hold_scr, z_hold_own, z_arg_dat, z_arg_ref, z_arg_scr, z_arg_own, z_look_t, z_look_f, z_len_ref, z_len_scr, z_len_l, z_len_t, z_len_o, z_len_b, z_ix_ref, z_ix_scr, z_ix_l, z_ix_t, z_ix_o, z_ix_b, z_blt_len, z_blt_abs, z_blt_tup, z_blt_lst, z_blt_sum, z_blt_all, z_blt_any, z_blt_min, z_blt_max, z_blt_sorted, z_blt_repr, z_blt_str, z_blt_int, z_blt_divmod, z_d_abs, z_d_tupl, z_d_tupt, z_d_lstl, z_d_lstt, z_d_sum, z_d_all, z_d_any, z_d_minl, z_d_maxl, z_d_min, z_d_max, z_d_sorted, z_d_divmod, z_d_int, z_d_repr, z_d_str, z_bin_i, z_bin_ll, z_bin_tt, z_bin_rep, z_add, z_sub, z_mul, z_fdiv, z_mod, z_eq, z_ne, z_lt, z_le, z_gt, z_ge, z_inl, z_int, z_ninl, z_nint, z_isi_int_none, z_isi_int_bool, z_isi_int_int, z_isi_int_str, z_isi_int_list, z_isi_int_tuple, z_isi_bool_none, z_isi_bool_bool, z_isi_bool_int, z_isi_bool_str, z_isi_bool_list, z_isi_bool_tuple, z_isi_str_none, z_isi_str_bool, z_isi_str_int, z_isi_str_str, z_isi_str_list, z_isi_str_tuple, z_isi_list_none, z_isi_list_bool, z_isi_list_int, z_isi_list_str, z_isi_list_list, z_isi_list_tuple, z_isi_tuple_none, z_isi_tuple_bool, z_isi_tuple_int, z_isi_tuple_str, z_isi_tuple_list, z_isi_tuple_tuple, z_out_rt, z_out_nx, z_eqi, z_eqb, z_rng1, z_rng2, z_si_l, z_si_t, z_bind_nm, z_bind_tt, z_bind_tl, z_binds_n, z_binds_c, z_sl_l, z_sl_t, z_at0, z_at1, z_at2, z_at3, z_ixN0, z_intsn, z_intsc, z_boolsn, z_boolsc, r3]; rfl)
    (fun j env s => ∃ (Ns : List Int) (y4 y5 : Option R) (V : Int), (∀ N ∈ Ns, 0 ≤ N ∧ N ≤ 60) ∧ Ns.length = 2 + j ∧ env = [some (.ref n), some (.dat x.p), some (.dat (.list (pv L))), some (.own (Ns.map PyData.int)), y4, y5] ∧ s = st.set n [.int V])
    ⟨[W % 61, 0], none, none, W / 61, (fun N hN => by
      have h' : N = W % 61 ∨ N = 0 := by simpa using hN
      omega), rfl, rfl, rfl⟩ fun j d env s hd ⟨Ns, y4, y5, V, h1, h2, h3, h4⟩ => by
      subst h3 h4
      obtain ⟨hj, ed⟩ := rngItems_get hd
      have gv : (st.set n [PyData.int V])[n]? = some [.int V] := get_set hg
      have t2 := s_take (k + 5) n ((pv L).length : Int) V _ gv (by rw [ln]; omega) (by rw [ln]; omega)
      rw [List.set_set] at t2
      have v1 := Int.emod_nonneg V (show ((pv L).length : Int) ≠ 0 by rw [ln]; omega)
      have v2 := Int.emod_lt_of_pos V (show 0 < ((pv L).length : Int) by rw [ln]; omega)
      obtain ⟨i, hi⟩ : ∃ i : Nat, V % ((pv L).length : Int) = i := ⟨(V % ((pv L).length : Int)).toNat, by omega⟩
      rw [hi] at t2 v2
      have hlt : i < (pv L).length := by omega
      obtain ⟨q, hq, eq⟩ := List.mem_map.mp (List.getElem_mem hlt)
      have ha : atI (pv L) (i : Int) = some (Pt2.v q) := by
        rw [eq]; exact atI_nat (List.getElem?_eq_getElem hlt)
      have hN := ((hL.mem q).mp hq).2
      have hb := nr_small hN (by decide)
      have b1 : Bd 2000 q.1 := (bd_s (by omega) (by omega)).mono (by decide)
      have b2 : Bd 2000 q.2 := (bd_s (by omega) (by omega)).mono (by decide)
      have ep : callF tb (k + 6) "product" [.dat (Pt2.v q), .dat (Pt2.v q)] (st.set n [.int (V / ((pv L).length : Int))]) = some (.dat (.int (nr q)), st.set n [.int (V / ((pv L).length : Int))]) := s_product (k + 2) q q _ b1 b2 b1 b2
      have ls : (Ns.map PyData.int).length < sizeLine := by
        rw [List.length_map]
        exact Nat.lt_of_le_of_lt (m := 10) (by omega) (by decide)
      refine ⟨_, _, _, z_bind_nm _ _ _, by simp (decide := true) only [lb__law_lengths_1, ↓reduceIte, Bool.not_true, Bool.not_false, decide_true, decide_false, wipeE, Bool.false_eq_true, y_e_c, y_e_v, y_e_g, y_e_never, y_e_bin, y_e_neg, y_e_tst, y_e_ite, y_e_tup, y_e_lst, y_e_box, y_e_ix, y_e_sl, y_e_rev, y_e_call, y_e_blt, y_e_isi, y_e_lc, y_es_nil, y_es_cons, y_o_no, y_o_yes, y_t_val, y_t_cmp, y_t_chn, y_t_isnt, y_t_isnf, z_nnr_dat, z_nnr_own, z_nnr_brw, z_nn_none, z_nn_bool, z_nn_int, z_nn_str, z_nn_list, z_nn_tuple, y_t_isb, y_t_and, y_t_or, y_t_not, y_h_last, y_h_link, y_al_one, y_al_cons, y_an_one, y_an_cons, y_c_no, y_c_yes, y_i_seq, y_i_rng, y_i_zip, y_i_enum, y_s_never, y_s_pass, y_s_asg, y_s_par, y_s_par3, y_s_setO, y_s_unp, y_s_setB, y_s_exp, y_s_app, y_s_ext, y_s_iff, y_s_whl, y_s_forr, y_s_ret, y_s_retv, y_s_frz, y_ss_nil, y_ss_cons, argsOf, views, caps, Option.map_some, Option.map_none, Option.bind_some, Option.bind_none, List.getElem?_cons_zero, List.getElem?_cons_succ, List.set_cons_zero, List.set_cons_succ, List.length_cons, List.length_nil, z_read_dat, z_read_ref, z_read_scr, z_read_own, z_view_own, z_view_brw, z_view_dat, z_cap_dat, z_cap_own, z_hold_dat, z_hold_ref, z_hold_scr, z_hold_own, z_arg_dat, z_arg_ref, z_arg_scr, z_arg_own, z_look_t, z_look_f, z_len_ref, z_len_scr, z_len_l, z_len_t, z_len_o, z_len_b, z_ix_ref, z_ix_scr, z_ix_l, z_ix_t, z_ix_o, z_ix_b, z_blt_len, z_blt_abs, z_blt_tup, z_blt_lst, z_blt_sum, z_blt_all, z_blt_any, z_blt_min, z_blt_max, z_blt_sorted, z_blt_repr, z_blt_str, z_blt_int, z_blt_divmod, z_d_abs, z_d_tupl, z_d_tupt, z_d_lstl, z_d_lstt, z_d_sum, z_d_all, z_d_any, z_d_minl, z_d_maxl, z_d_min, z_d_max, z_d_sorted, z_d_divmod, z_d_int, z_d_repr, z_d_str, z_bin_i, z_bin_ll, z_bin_tt, z_bin_rep, z_add, z_sub, z_mul, z_fdiv, z_mod, z_eq, z_ne, z_lt, z_le, z_gt, z_ge, z_inl, z_int, z_ninl, z_nint, z_isi_int_none, z_isi_int_bool, z_isi_int_int, z_isi_int_str, z_isi_int_list, z_isi_int_tuple, z_isi_bool_none, z_isi_bool_bool, z_isi_bool_int, z_isi_bool_str, z_isi_bool_list, z_isi_bool_tuple, z_isi_str_none, z_isi_str_bool, z_isi_str_int, z_isi_str_str, z_isi_str_list, z_isi_str_tuple, z_isi_list_none, z_isi_list_bool, z_isi_list_int, z_isi_list_str, z_isi_list_list, z_isi_list_tuple, z_isi_tuple_none, z_isi_tuple_bool, z_isi_tuple_int, z_isi_tuple_str, z_isi_tuple_list, z_isi_tuple_tuple, z_out_rt, z_out_nx, z_eqi, z_eqb, z_rng1, z_rng2, z_si_l, z_si_t, z_bind_nm, z_bind_tt, z_bind_tl, z_binds_n, z_binds_c, z_sl_l, z_sl_t, z_at0, z_at1, z_at2, z_at3, z_ixN0, z_intsn, z_intsc, z_boolsn, z_boolsc, t2, ha, ep, ls]; rfl, Ns ++ [nr q], _, _, _, fun N hN' => ?_, by rw [List.length_append, h2]; rfl, by rw [List.map_append]; rfl, rfl⟩
      rcases List.mem_append.mp hN' with h | h
      · exact h1 N h
      · obtain rfl := List.mem_singleton.mp h
        exact ⟨nr_nn q, hN⟩
  subst h3 h4
  have e2' : Stm.den (callF tb (k + 6)) l__law_lengths_1 [some (.ref n), some (.dat x.p), some (.dat (.list (pv L))), some (.own [.int (W % 61), .int 0]), none, none] (st.set n [.int (W / 61)]) = _ := e2
  refine ⟨Ns, V, h1, ?_⟩
  rw [c__law_lengths]
  simp (decide := true) only [b__law_lengths, ↓reduceIte, Bool.not_true, Bool.not_false, decide_true, decide_false, wipeE, Bool.false_eq_true, y_e_c, y_e_v, y_e_g, y_e_never, y_e_bin, y_e_neg, y_e_tst, y_e_ite, y_e_tup, y_e_lst, y_e_box, y_e_ix, y_e_sl, y_e_rev, y_e_call, y_e_blt, y_e_isi, y_e_lc, y_es_nil, y_es_cons, y_o_no, y_o_yes, y_t_val, y_t_cmp, y_t_chn, y_t_isnt, y_t_isnf, z_nnr_dat, z_nnr_own, z_nnr_brw, z_nn_none, z_nn_bool, z_nn_int, z_nn_str, z_nn_list, z_nn_tuple, y_t_isb, y_t_and, y_t_or, y_t_not, y_h_last, y_h_link, y_al_one, y_al_cons, y_an_one, y_an_cons, y_c_no, y_c_yes, y_i_seq, y_i_rng, y_i_zip, y_i_enum, y_s_never, y_s_pass, y_s_asg, y_s_par, y_s_par3, y_s_setO, y_s_unp, y_s_setB, y_s_exp, y_s_app, y_s_ext, y_s_iff, y_s_whl, y_s_forr, y_s_ret, y_s_retv, y_s_frz, y_ss_nil, y_ss_cons, argsOf, views, caps, Option.map_some, Option.map_none, Option.bind_some, Option.bind_none, List.getElem?_cons_zero, List.getElem?_cons_succ, List.set_cons_zero, List.set_cons_succ, List.length_cons, List.length_nil, z_read_dat, z_read_ref, z_read_scr, z_read_own, z_view_own, z_view_brw, z_view_dat, z_cap_dat, z_cap_own, z_hold_dat, z_hold_ref, z_hold_scr, z_hold_own, z_arg_dat, z_arg_ref, z_arg_scr, z_arg_own, z_look_t, z_look_f, z_len_ref, z_len_scr, z_len_l, z_len_t, z_len_o, z_len_b, z_ix_ref, z_ix_scr, z_ix_l, z_ix_t, z_ix_o, z_ix_b, z_blt_len, z_blt_abs, z_blt_tup, z_blt_lst, z_blt_sum, z_blt_all, z_blt_any, z_blt_min, z_blt_max, z_blt_sorted, z_blt_repr, z_blt_str, z_blt_int, z_blt_divmod, z_d_abs, z_d_tupl, z_d_tupt, z_d_lstl, z_d_lstt, z_d_sum, z_d_all, z_d_any, z_d_minl, z_d_maxl, z_d_min, z_d_max, z_d_sorted, z_d_divmod, z_d_int, z_d_repr, z_d_str, z_bin_i, z_bin_ll, z_bin_tt, z_bin_rep, z_add, z_sub, z_mul, z_fdiv, z_mod, z_eq, z_ne, z_lt, z_le, z_gt, z_ge, z_inl, z_int, z_ninl, z_nint, z_isi_int_none, z_isi_int_bool, z_isi_int_int, z_isi_int_str, z_isi_int_list, z_isi_int_tuple, z_isi_bool_none, z_isi_bool_bool, z_isi_bool_int, z_isi_bool_str, z_isi_bool_list, z_isi_bool_tuple, z_isi_str_none, z_isi_str_bool, z_isi_str_int, z_isi_str_str, z_isi_str_list, z_isi_str_tuple, z_isi_list_none, z_isi_list_bool, z_isi_list_int, z_isi_list_str, z_isi_list_list, z_isi_list_tuple, z_isi_tuple_none, z_isi_tuple_bool, z_isi_tuple_int, z_isi_tuple_str, z_isi_tuple_list, z_isi_tuple_tuple, z_out_rt, z_out_nx, z_eqi, z_eqb, z_rng1, z_rng2, z_si_l, z_si_t, z_bind_nm, z_bind_tt, z_bind_tl, z_binds_n, z_binds_c, z_sl_l, z_sl_t, z_at0, z_at1, z_at2, z_at3, z_ixN0, z_intsn, z_intsc, z_boolsn, z_boolsc, e1, t1, f2, e2']
theorem sum_cast (f : Qd → Nat) : ∀ l : List Qd, (l.map fun z => ((f z : Nat) : Int)).sum = (((l.map f).sum : Nat) : Int)
  | [] => rfl
  | a :: l => by rw [List.map_cons, List.sum_cons, List.map_cons, List.sum_cons, sum_cast f l, Int.natCast_add]
theorem s_one94 (k : Nat) (x : Qd) (p : Nat) (l : List Qd) (N : Int) (st : Bx) (sx : sm6 x) (bx : x.Bdd) (dx : x.det ≠ 0) (hp : p ∈ [2, 3, 5, 7]) (hl : l.length = p + 1) (hz : ∀ z ∈ l, Pz x p z) (hc : ∀ q, Gq x q = true → l.countP (fun z => Gq z q) = 1 + p * if Gq (gq2 x p) q = true then 1 else 0) (h0 : 0 ≤ N) (h60 : N ≤ 60) (x0 x1 x2 x4 x5 x10 : Option R) :
    ∃ y10, Stms.den (callF tb (k + 7)) lb_law_1 [x0, x1, x2, some (.dat (.int N)), x4, x5, some (.dat x.p), some (.dat (.int (p : Int))), some (.dat (.list (l.map Qd.p))), some (.dat (gq2 x p).p), x10] st =
      some (.nx [x0, x1, x2, some (.dat (.int N)), x4, x5, some (.dat x.p), some (.dat (.int (p : Int))), some (.dat (.list (l.map Qd.p))), some (.dat (gq2 x p).p), y10] st) := by
  have hp7 := p_in hp
  obtain ⟨L, hL, -, lL, -⟩ := s_up_s k x N st bx dx h0 h60
  obtain ⟨M, hM, e1⟩ := s_many_of (k + 1) x N st bx dx h0 h60
  rw [hM.cnt hL] at e1
  obtain ⟨L0, hL0⟩ : ∃ L0, (L.filter fun p => decide (nr p = N)) = L0 := ⟨_, rfl⟩
  have dg := gq_nz dx (show 0 < (p : Int) by omega)
  have gsub : ∀ q, Gq (gq2 x p) q = true → Gq x q = true := fun q hq => by
    obtain ⟨m, n, rfl⟩ := (Gq_iff dg (Uni.refl _ _ _ _) q).mp hq
    refine (Gq_iff dx (Uni.refl _ _ _ _) _).mpr ⟨m * p, n * p, ?_⟩
    unfold Qd.at gq2
    exact Prod.ext (by dsimp only; grind) (by dsimp only; grind)
  have six : ∀ {v : Int}, -6 ≤ v ∧ v ≤ 6 → -42 ≤ (p : Int) * v ∧ (p : Int) * v ≤ 42 := fun {v} h => by
    have h : ((p : Int) * v).natAbs ≤ 7 * 6 := by rw [Int.natAbs_mul]; exact Nat.mul_le_mul (by omega) (by omega)
    omega
  have bg : (gq2 x p).Bdd := bdd_sm (K := 42) (by decide) (six sx.1) (six sx.2.1) (six sx.2.2.1) (six sx.2.2.2)
  have e2 := s_many_g (k + 1) x (gq2 x p) N L st hL bg dg gsub h0 h60
  rw [hL0] at e1 e2
  have hlen0 : L0.length ≤ 1000 := by rw [← hL0]; exact Nat.le_trans (List.length_filter_le _ _) lL
  have hlg : (L0.filter (Gq (gq2 x p))).length ≤ 1000 := Nat.le_trans (List.length_filter_le _ _) hlen0
  have m1 : mulOk (p : Int) (((L0.filter (Gq (gq2 x p))).length : Nat) : Int) = true := mulOk_s (by omega) (by omega) (by omega) (by omega)
  have hq : ∀ y10 : Option R, Ex.den (callF tb (k + 7)) q_law_1 [x0, x1, x2, some (.dat (.int N)), x4, x5, some (.dat x.p), some (.dat (.int (p : Int))), some (.dat (.list (l.map Qd.p))), some (.dat (gq2 x p).p), y10] st = some (.own ((l.map fun z => (((L0.filter (Gq z)).length : Nat) : Int)).map PyData.int), st) := fun y10 => by
    have h := den_lc (cf := callF tb (k + 7)) (el := .call "many_of" (.cons (.v 5) (.cons (.v 3) .nil))) (tg := .nm 5) (it := .seq (.v 8)) (cd := .no) (ow := [5])
      (env := [x0, x1, x2, some (.dat (.int N)), x4, x5, some (.dat x.p), some (.dat (.int (p : Int))), some (.dat (.list (l.map Qd.p))), some (.dat (gq2 x p).p), y10]) (st := st) (st1 := st) (items := l.map Qd.p) (by simp only [↓reduceIte, Bool.not_true, Bool.not_false, decide_true, decide_false, wipeE, Bool.false_eq_true, y_e_c, y_e_v, y_e_g, y_e_never, y_e_bin, y_e_neg, y_e_tst, y_e_ite, y_e_tup, y_e_lst, y_e_box, y_e_ix, y_e_sl, y_e_rev, y_e_call, y_e_blt, y_e_isi, y_e_lc, y_es_nil, y_es_cons, y_o_no, y_o_yes, y_t_val, y_t_cmp, y_t_chn, y_t_isnt, y_t_isnf, z_nnr_dat, z_nnr_own, z_nnr_brw, z_nn_none, z_nn_bool, z_nn_int, z_nn_str, z_nn_list, z_nn_tuple, y_t_isb, y_t_and, y_t_or, y_t_not, y_h_last, y_h_link, y_al_one, y_al_cons, y_an_one, y_an_cons, y_c_no, y_c_yes, y_i_seq, y_i_rng, y_i_zip, y_i_enum, y_s_never, y_s_pass, y_s_asg, y_s_par, y_s_par3, y_s_setO, y_s_unp, y_s_setB, y_s_exp, y_s_app, y_s_ext, y_s_iff, y_s_whl, y_s_forr, y_s_ret, y_s_retv, y_s_frz, y_ss_nil, y_ss_cons, argsOf, views, caps, Option.map_some, Option.map_none, Option.bind_some, Option.bind_none, List.getElem?_cons_zero, List.getElem?_cons_succ, List.set_cons_zero, List.set_cons_succ, List.length_cons, List.length_nil, z_read_dat, z_read_ref, z_read_scr, z_read_own, z_view_own, z_view_brw, z_view_dat, z_cap_dat, z_cap_own, z_hold_dat, z_hold_ref, z_hold_scr, z_hold_own, z_arg_dat, z_arg_ref, z_arg_scr, z_arg_own, z_look_t, z_look_f, z_len_ref, z_len_scr, z_len_l, z_len_t, z_len_o, z_len_b, z_ix_ref, z_ix_scr, z_ix_l, z_ix_t, z_ix_o, z_ix_b, z_blt_len, z_blt_abs, z_blt_tup, z_blt_lst, z_blt_sum, z_blt_all, z_blt_any, z_blt_min, z_blt_max, z_blt_sorted, z_blt_repr, z_blt_str, z_blt_int, z_blt_divmod, z_d_abs, z_d_tupl, z_d_tupt, z_d_lstl, z_d_lstt, z_d_sum, z_d_all, z_d_any, z_d_minl, z_d_maxl, z_d_min, z_d_max, z_d_sorted, z_d_divmod, z_d_int, z_d_repr, z_d_str, z_bin_i, z_bin_ll, z_bin_tt, z_bin_rep, z_add, z_sub, z_mul, z_fdiv, z_mod, z_eq, z_ne, z_lt, z_le, z_gt, z_ge, z_inl, z_int, z_ninl, z_nint, z_isi_int_none, z_isi_int_bool, z_isi_int_int, z_isi_int_str, z_isi_int_list, z_isi_int_tuple, z_isi_bool_none, z_isi_bool_bool, z_isi_bool_int, z_isi_bool_str, z_isi_bool_list, z_isi_bool_tuple, z_isi_str_none, z_isi_str_bool, z_isi_str_int, z_isi_str_str, z_isi_str_list, z_isi_str_tuple, z_isi_list_none, z_isi_list_bool, z_isi_list_int, z_isi_list_str, z_isi_list_list, z_isi_list_tuple, z_isi_tuple_none, z_isi_tuple_bool, z_isi_tuple_int, z_isi_tuple_str, z_isi_tuple_list, z_isi_tuple_tuple, z_out_rt, z_out_nx, z_eqi, z_eqb, z_rng1, z_rng2, z_si_l, z_si_t, z_bind_nm, z_bind_tt, z_bind_tl, z_binds_n, z_binds_c, z_sl_l, z_sl_t, z_at0, z_at1, z_at2, z_at3, z_ixN0, z_intsn, z_intsc, z_boolsn, z_boolsc]) (fun d => some (.int (((L0.filter (Gq (decQ d))).length : Nat) : Int))) (fun d hd => by
        obtain ⟨z, hzm, rfl⟩ := List.mem_map.mp hd
        have h2 := hz z hzm
        have e := s_many_g (k + 1) x z N L st hL h2.bd h2.nz h2.sub h0 h60
        rw [hL0] at e
        exact ⟨[x0, x1, x2, some (.dat (.int N)), x4, some (.dat z.p), some (.dat x.p), some (.dat (.int (p : Int))), some (.dat (.list (l.map Qd.p))), some (.dat (gq2 x p).p), y10], by simp only [↓reduceIte, Bool.not_true, Bool.not_false, decide_true, decide_false, wipeE, Bool.false_eq_true, y_e_c, y_e_v, y_e_g, y_e_never, y_e_bin, y_e_neg, y_e_tst, y_e_ite, y_e_tup, y_e_lst, y_e_box, y_e_ix, y_e_sl, y_e_rev, y_e_call, y_e_blt, y_e_isi, y_e_lc, y_es_nil, y_es_cons, y_o_no, y_o_yes, y_t_val, y_t_cmp, y_t_chn, y_t_isnt, y_t_isnf, z_nnr_dat, z_nnr_own, z_nnr_brw, z_nn_none, z_nn_bool, z_nn_int, z_nn_str, z_nn_list, z_nn_tuple, y_t_isb, y_t_and, y_t_or, y_t_not, y_h_last, y_h_link, y_al_one, y_al_cons, y_an_one, y_an_cons, y_c_no, y_c_yes, y_i_seq, y_i_rng, y_i_zip, y_i_enum, y_s_never, y_s_pass, y_s_asg, y_s_par, y_s_par3, y_s_setO, y_s_unp, y_s_setB, y_s_exp, y_s_app, y_s_ext, y_s_iff, y_s_whl, y_s_forr, y_s_ret, y_s_retv, y_s_frz, y_ss_nil, y_ss_cons, argsOf, views, caps, Option.map_some, Option.map_none, Option.bind_some, Option.bind_none, List.getElem?_cons_zero, List.getElem?_cons_succ, List.set_cons_zero, List.set_cons_succ, List.length_cons, List.length_nil, z_read_dat, z_read_ref, z_read_scr, z_read_own, z_view_own, z_view_brw, z_view_dat, z_cap_dat, z_cap_own, z_hold_dat, z_hold_ref, z_hold_scr, z_hold_own, z_arg_dat, z_arg_ref, z_arg_scr, z_arg_own, z_look_t, z_look_f, z_len_ref, z_len_scr, z_len_l, z_len_t, z_len_o, z_len_b, z_ix_ref, z_ix_scr, z_ix_l, z_ix_t, z_ix_o, z_ix_b, z_blt_len, z_blt_abs, z_blt_tup, z_blt_lst, z_blt_sum, z_blt_all, z_blt_any, z_blt_min, z_blt_max, z_blt_sorted, z_blt_repr, z_blt_str, z_blt_int, z_blt_divmod, z_d_abs, z_d_tupl, z_d_tupt, z_d_lstl, z_d_lstt, z_d_sum, z_d_all, z_d_any, z_d_minl, z_d_maxl, z_d_min, z_d_max, z_d_sorted, z_d_divmod, z_d_int, z_d_repr, z_d_str, z_bin_i, z_bin_ll, z_bin_tt, z_bin_rep, z_add, z_sub, z_mul, z_fdiv, z_mod, z_eq, z_ne, z_lt, z_le, z_gt, z_ge, z_inl, z_int, z_ninl, z_nint, z_isi_int_none, z_isi_int_bool, z_isi_int_int, z_isi_int_str, z_isi_int_list, z_isi_int_tuple, z_isi_bool_none, z_isi_bool_bool, z_isi_bool_int, z_isi_bool_str, z_isi_bool_list, z_isi_bool_tuple, z_isi_str_none, z_isi_str_bool, z_isi_str_int, z_isi_str_str, z_isi_str_list, z_isi_str_tuple, z_isi_list_none, z_isi_list_bool, z_isi_list_int, z_isi_list_str, z_isi_list_list, z_isi_list_tuple, z_isi_tuple_none, z_isi_tuple_bool, z_isi_tuple_int, z_isi_tuple_str, z_isi_tuple_list, z_isi_tuple_tuple, z_out_rt, z_out_nx, z_eqi, z_eqb, z_rng1, z_rng2, z_si_l, z_si_t, z_bind_nm, z_bind_tt, z_bind_tl, z_binds_n, z_binds_c, z_sl_l, z_sl_t, z_at0, z_at1, z_at2, z_at3, z_ixN0, z_intsn, z_intsc, z_boolsn, z_boolsc], .inr ⟨by simp only [↓reduceIte, Bool.not_true, Bool.not_false, decide_true, decide_false, wipeE, Bool.false_eq_true, y_e_c, y_e_v, y_e_g, y_e_never, y_e_bin, y_e_neg, y_e_tst, y_e_ite, y_e_tup, y_e_lst, y_e_box, y_e_ix, y_e_sl, y_e_rev, y_e_call, y_e_blt, y_e_isi, y_e_lc, y_es_nil, y_es_cons, y_o_no, y_o_yes, y_t_val, y_t_cmp, y_t_chn, y_t_isnt, y_t_isnf, z_nnr_dat, z_nnr_own, z_nnr_brw, z_nn_none, z_nn_bool, z_nn_int, z_nn_str, z_nn_list, z_nn_tuple, y_t_isb, y_t_and, y_t_or, y_t_not, y_h_last, y_h_link, y_al_one, y_al_cons, y_an_one, y_an_cons, y_c_no, y_c_yes, y_i_seq, y_i_rng, y_i_zip, y_i_enum, y_s_never, y_s_pass, y_s_asg, y_s_par, y_s_par3, y_s_setO, y_s_unp, y_s_setB, y_s_exp, y_s_app, y_s_ext, y_s_iff, y_s_whl, y_s_forr, y_s_ret, y_s_retv, y_s_frz, y_ss_nil, y_ss_cons, argsOf, views, caps, Option.map_some, Option.map_none, Option.bind_some, Option.bind_none, List.getElem?_cons_zero, List.getElem?_cons_succ, List.set_cons_zero, List.set_cons_succ, List.length_cons, List.length_nil, z_read_dat, z_read_ref, z_read_scr, z_read_own, z_view_own, z_view_brw, z_view_dat, z_cap_dat, z_cap_own, z_hold_dat, z_hold_ref, z_hold_scr, z_hold_own, z_arg_dat, z_arg_ref, z_arg_scr, z_arg_own, z_look_t, z_look_f, z_len_ref, z_len_scr, z_len_l, z_len_t, z_len_o, z_len_b, z_ix_ref, z_ix_scr, z_ix_l, z_ix_t, z_ix_o, z_ix_b, z_blt_len, z_blt_abs, z_blt_tup, z_blt_lst, z_blt_sum, z_blt_all, z_blt_any, z_blt_min, z_blt_max, z_blt_sorted, z_blt_repr, z_blt_str, z_blt_int, z_blt_divmod, z_d_abs, z_d_tupl, z_d_tupt, z_d_lstl, z_d_lstt, z_d_sum, z_d_all, z_d_any, z_d_minl, z_d_maxl, z_d_min, z_d_max, z_d_sorted, z_d_divmod, z_d_int, z_d_repr, z_d_str, z_bin_i, z_bin_ll, z_bin_tt, z_bin_rep, z_add, z_sub, z_mul, z_fdiv, z_mod, z_eq, z_ne, z_lt, z_le, z_gt, z_ge, z_inl, z_int, z_ninl, z_nint, z_isi_int_none, z_isi_int_bool, z_isi_int_int, z_isi_int_str, z_isi_int_list, z_isi_int_tuple, z_isi_bool_none, z_isi_bool_bool, z_isi_bool_int, z_isi_bool_str, z_isi_bool_list, z_isi_bool_tuple, z_isi_str_none, z_isi_str_bool, z_isi_str_int, z_isi_str_str, z_isi_str_list, z_isi_str_tuple, z_isi_list_none, z_isi_list_bool, z_isi_list_int, z_isi_list_str, z_isi_list_list, z_isi_list_tuple, z_isi_tuple_none, z_isi_tuple_bool, z_isi_tuple_int, z_isi_tuple_str, z_isi_tuple_list, z_isi_tuple_tuple, z_out_rt, z_out_nx, z_eqi, z_eqb, z_rng1, z_rng2, z_si_l, z_si_t, z_bind_nm, z_bind_tt, z_bind_tl, z_binds_n, z_binds_c, z_sl_l, z_sl_t, z_at0, z_at1, z_at2, z_at3, z_ixN0, z_intsn, z_intsc, z_boolsn, z_boolsc], .dat (.int (((L0.filter (Gq z)).length : Nat) : Int)), _, by simp (decide := true) only [↓reduceIte, Bool.not_true, Bool.not_false, decide_true, decide_false, wipeE, Bool.false_eq_true, y_e_c, y_e_v, y_e_g, y_e_never, y_e_bin, y_e_neg, y_e_tst, y_e_ite, y_e_tup, y_e_lst, y_e_box, y_e_ix, y_e_sl, y_e_rev, y_e_call, y_e_blt, y_e_isi, y_e_lc, y_es_nil, y_es_cons, y_o_no, y_o_yes, y_t_val, y_t_cmp, y_t_chn, y_t_isnt, y_t_isnf, z_nnr_dat, z_nnr_own, z_nnr_brw, z_nn_none, z_nn_bool, z_nn_int, z_nn_str, z_nn_list, z_nn_tuple, y_t_isb, y_t_and, y_t_or, y_t_not, y_h_last, y_h_link, y_al_one, y_al_cons, y_an_one, y_an_cons, y_c_no, y_c_yes, y_i_seq, y_i_rng, y_i_zip, y_i_enum, y_s_never, y_s_pass, y_s_asg, y_s_par, y_s_par3, y_s_setO, y_s_unp, y_s_setB, y_s_exp, y_s_app, y_s_ext, y_s_iff, y_s_whl, y_s_forr, y_s_ret, y_s_retv, y_s_frz, y_ss_nil, y_ss_cons, argsOf, views, caps, Option.map_some, Option.map_none, Option.bind_some, Option.bind_none, List.getElem?_cons_zero, List.getElem?_cons_succ, List.set_cons_zero, List.set_cons_succ, List.length_cons, List.length_nil, z_read_dat, z_read_ref, z_read_scr, z_read_own, z_view_own, z_view_brw, z_view_dat, z_cap_dat, z_cap_own, z_hold_dat, z_hold_ref, z_hold_scr, z_hold_own, z_arg_dat, z_arg_ref, z_arg_scr, z_arg_own, z_look_t, z_look_f, z_len_ref, z_len_scr, z_len_l, z_len_t, z_len_o, z_len_b, z_ix_ref, z_ix_scr, z_ix_l, z_ix_t, z_ix_o, z_ix_b, z_blt_len, z_blt_abs, z_blt_tup, z_blt_lst, z_blt_sum, z_blt_all, z_blt_any, z_blt_min, z_blt_max, z_blt_sorted, z_blt_repr, z_blt_str, z_blt_int, z_blt_divmod, z_d_abs, z_d_tupl, z_d_tupt, z_d_lstl, z_d_lstt, z_d_sum, z_d_all, z_d_any, z_d_minl, z_d_maxl, z_d_min, z_d_max, z_d_sorted, z_d_divmod, z_d_int, z_d_repr, z_d_str, z_bin_i, z_bin_ll, z_bin_tt, z_bin_rep, z_add, z_sub, z_mul, z_fdiv, z_mod, z_eq, z_ne, z_lt, z_le, z_gt, z_ge, z_inl, z_int, z_ninl, z_nint, z_isi_int_none, z_isi_int_bool, z_isi_int_int, z_isi_int_str, z_isi_int_list, z_isi_int_tuple, z_isi_bool_none, z_isi_bool_bool, z_isi_bool_int, z_isi_bool_str, z_isi_bool_list, z_isi_bool_tuple, z_isi_str_none, z_isi_str_bool, z_isi_str_int, z_isi_str_str, z_isi_str_list, z_isi_str_tuple, z_isi_list_none, z_isi_list_bool, z_isi_list_int, z_isi_list_str, z_isi_list_list, z_isi_list_tuple, z_isi_tuple_none, z_isi_tuple_bool, z_isi_tuple_int, z_isi_tuple_str, z_isi_tuple_list, z_isi_tuple_tuple, z_out_rt, z_out_nx, z_eqi, z_eqb, z_rng1, z_rng2, z_si_l, z_si_t, z_bind_nm, z_bind_tt, z_bind_tl, z_binds_n, z_binds_c, z_sl_l, z_sl_t, z_at0, z_at1, z_at2, z_at3, z_ixN0, z_intsn, z_intsc, z_boolsn, z_boolsc, e], rfl, rfl⟩⟩) (by rw [List.length_map]; omega)
    have e : (l.map Qd.p).filterMap (fun d => some (PyData.int (((L0.filter (Gq (decQ d))).length : Nat) : Int))) = (l.map fun z => (((L0.filter (Gq z)).length : Nat) : Int)).map PyData.int := by
      rw [List.filterMap_eq_map', List.map_map, List.map_map]
      rfl
    rw [e] at h
    exact h
  have hs := sum_pts (l := l) (g := gq2 x p) (p := p) L0 fun q hq => hc q (by
    rw [← hL0] at hq
    exact ((hL.mem q).mp (List.mem_filter.mp hq).1).1)
  have hi := ints_some (l.map fun z => (((L0.filter (Gq z)).length : Nat) : Int))
  have hsum : (l.map fun z => (((L0.filter (Gq z)).length : Nat) : Int)).sum = (L0.length : Int) + (p : Int) * (((L0.filter (Gq (gq2 x p))).length : Nat) : Int) := by
    rw [sum_cast (fun z => (L0.filter (Gq z)).length), hs, Int.natCast_add, Int.natCast_mul]
  exact ⟨_, by simp (decide := true) only [lb_law_1, ↓reduceIte, Bool.not_true, Bool.not_false, decide_true, decide_false, wipeE, Bool.false_eq_true, y_e_c, y_e_v, y_e_g, y_e_never, y_e_bin, y_e_neg, y_e_tst, y_e_ite, y_e_tup, y_e_lst, y_e_box, y_e_ix, y_e_sl, y_e_rev, y_e_call, y_e_blt, y_e_isi, y_e_lc, y_es_nil, y_es_cons, y_o_no, y_o_yes, y_t_val, y_t_cmp, y_t_chn, y_t_isnt, y_t_isnf, z_nnr_dat, z_nnr_own, z_nnr_brw, z_nn_none, z_nn_bool, z_nn_int, z_nn_str, z_nn_list, z_nn_tuple, y_t_isb, y_t_and, y_t_or, y_t_not, y_h_last, y_h_link, y_al_one, y_al_cons, y_an_one, y_an_cons, y_c_no, y_c_yes, y_i_seq, y_i_rng, y_i_zip, y_i_enum, y_s_never, y_s_pass, y_s_asg, y_s_par, y_s_par3, y_s_setO, y_s_unp, y_s_setB, y_s_exp, y_s_app, y_s_ext, y_s_iff, y_s_whl, y_s_forr, y_s_ret, y_s_retv, y_s_frz, y_ss_nil, y_ss_cons, argsOf, views, caps, Option.map_some, Option.map_none, Option.bind_some, Option.bind_none, List.getElem?_cons_zero, List.getElem?_cons_succ, List.set_cons_zero, List.set_cons_succ, List.length_cons, List.length_nil, z_read_dat, z_read_ref, z_read_scr, z_read_own, z_view_own, z_view_brw, z_view_dat, z_cap_dat, z_cap_own, z_hold_dat, z_hold_ref, z_hold_scr, z_hold_own, z_arg_dat, z_arg_ref, z_arg_scr, z_arg_own, z_look_t, z_look_f, z_len_ref, z_len_scr, z_len_l, z_len_t, z_len_o, z_len_b, z_ix_ref, z_ix_scr, z_ix_l, z_ix_t, z_ix_o, z_ix_b, z_blt_len, z_blt_abs, z_blt_tup, z_blt_lst, z_blt_sum, z_blt_all, z_blt_any, z_blt_min, z_blt_max, z_blt_sorted, z_blt_repr, z_blt_str, z_blt_int, z_blt_divmod, z_d_abs, z_d_tupl, z_d_tupt, z_d_lstl, z_d_lstt, z_d_sum, z_d_all, z_d_any, z_d_minl, z_d_maxl, z_d_min, z_d_max, z_d_sorted, z_d_divmod, z_d_int, z_d_repr, z_d_str, z_bin_i, z_bin_ll, z_bin_tt, z_bin_rep, z_add, z_sub, z_mul, z_fdiv, z_mod, z_eq, z_ne, z_lt, z_le, z_gt, z_ge, z_inl, z_int, z_ninl, z_nint, z_isi_int_none, z_isi_int_bool, z_isi_int_int, z_isi_int_str, z_isi_int_list, z_isi_int_tuple, z_isi_bool_none, z_isi_bool_bool, z_isi_bool_int, z_isi_bool_str, z_isi_bool_list, z_isi_bool_tuple, z_isi_str_none, z_isi_str_bool, z_isi_str_int, z_isi_str_str, z_isi_str_list, z_isi_str_tuple, z_isi_list_none, z_isi_list_bool, z_isi_list_int, z_isi_list_str, z_isi_list_list, z_isi_list_tuple, z_isi_tuple_none, z_isi_tuple_bool, z_isi_tuple_int, z_isi_tuple_str, z_isi_tuple_list, z_isi_tuple_tuple, z_out_rt, z_out_nx, z_eqi, z_eqb, z_rng1, z_rng2, z_si_l, z_si_t, z_bind_nm, z_bind_tt, z_bind_tl, z_binds_n, z_binds_c, z_sl_l, z_sl_t, z_at0, z_at1, z_at2, z_at3, z_ixN0, z_intsn, z_intsc, z_boolsn, z_boolsc, e1, e2, m1, hq, hi, hsum]; rfl⟩
theorem s_body (k : Nat) (ns : List Int) (j : Nat) (xs : En) (st : Bx) (hl : xs.length = 9) :
    ∃ env1 st1, Stms.den (callF tb (k + 7)) lb_law_3 (some (.scr ns) :: some (.dat (.int j)) :: xs) st = some (.nx env1 st1) ∧ ∃ y1 ys, env1 = some (.scr ns) :: y1 :: ys ∧ ys.length = 9 := by
  match xs, hl with
  | [x2, x3, x4, x5, x6, x7, x8, x9, x10], _ =>
    obtain ⟨m, hm, hbx⟩ := s_box (k + 5) ns j st
    have f2 : fitsL 2 = true := by decide
    have f4 : fitsL 4 = true := by decide
    have hg : ∀ z : Int, (st ++ [[PyData.int z]])[st.length]? = some [PyData.int z] := fun z => by simp
    have hs : ∀ y z : Int, (st ++ [[PyData.int y]]).set st.length [PyData.int z] = st ++ [[PyData.int z]] := fun y z => by
      rw [List.set_append_right _ _ (Nat.le_refl _), Nat.sub_self]; rfl
    obtain ⟨a, b, c, d, w2, a1, b1, c1, d1, dx, e1⟩ := s_pair (k + 3) st.length m 4 _ (hg m) (by decide) (by decide)
    rw [hs] at e1
    have t1 := s_take (k + 6) st.length 4 w2 _ (hg w2) (by decide) (by decide)
    rw [hs] at t1
    obtain ⟨p, hp, es⟩ : ∃ p : Nat, p ∈ [2, 3, 5, 7] ∧ atI [PyData.int 2, .int 3, .int 5, .int 7] (w2 % 4) = some (.int (p : Int)) := by
      have hc : w2 % 4 = 0 ∨ w2 % 4 = 1 ∨ w2 % 4 = 2 ∨ w2 % 4 = 3 := by omega
      rcases hc with q | q | q | q <;> rw [q]
      · exact ⟨2, by decide, z_at0 _ _⟩
      · exact ⟨3, by decide, z_at1 _ _ _⟩
      · exact ⟨5, by decide, z_at2 _ _ _ _⟩
      · exact ⟨7, by decide, z_at3 _ _ _ _ _⟩
    have hp7 := p_in hp
    obtain ⟨w3, hw3⟩ : ∃ w3, w2 / 4 = w3 := ⟨_, rfl⟩
    rw [hw3] at t1
    obtain ⟨x, hx⟩ : ∃ x : Qd, x = ⟨a, b, c, d⟩ := ⟨_, rfl⟩
    have ex : (PyData.tuple [PyData.tuple [PyData.int (a), PyData.int (b)], PyData.tuple [PyData.int (c), PyData.int (d)]]) = x.p := by rw [hx]; rfl
    rw [ex] at e1
    have dx' : x.det ≠ 0 := by rw [hx]; exact dx
    have sx : sm6 x := by rw [hx]; unfold sm6; dsimp only; omega
    have bx : x.Bdd := bdd_sm (K := 6) (by decide) sx.1 sx.2.1 sx.2.2.1 sx.2.2.2
    obtain ⟨l, hll, hz, hcn, e2⟩ := s_parts94 (k + 1) x p (st ++ [[.int w3]]) sx dx' hp
    obtain ⟨xa, xb, xc, xd⟩ := x.bds bx
    have u : ∀ {v : Int}, Bd 300 v → Bd 1000 v := fun h => h.mono (by decide)
    have e3 := s_grown (k + 2) x.a x.b x.c x.d p (st ++ [[.int w3]]) (u xa) (u xb) (u xc) (u xd) dx' (by omega) (by omega)
    have eg : PyData.tuple [.tuple [.int ((p : Int) * x.a), .int ((p : Int) * x.b)], .tuple [.int ((p : Int) * x.c), .int ((p : Int) * x.d)]] = (gq2 x p).p := rfl
    have eq : PyData.tuple [.tuple [.int x.a, .int x.b], .tuple [.int x.c, .int x.d]] = x.p := rfl
    rw [eg, eq] at e3
    have hlen : (((l.map Qd.p).length : Nat) : Int) = (p : Int) + 1 := by rw [List.length_map, hll]; omega
    obtain ⟨Ns, w4, hN, e4⟩ := s_lengths94 k st.length x w3 _ (hg w3) bx dx'
    rw [hs] at e4
    obtain ⟨env1, st2, e5, y3, y10, e6, e7⟩ := den_for (cf := callF tb (k + 7)) (tg := .nm 3) (it := .seq (.call "_law_lengths" (.cons (.v 2) (.cons (.v 6) .nil)))) (b := lb_law_1)
      (env := [some (.scr ns), some (.dat (.int j)), some (.ref st.length), x3, x4, x5, some (.dat x.p), some (.dat (.int (p : Int))), some (.dat (.list (l.map Qd.p))), some (.dat (gq2 x p).p), x10]) (st := st ++ [[.int w3]]) (st1 := st ++ [[.int w4]]) (items := Ns.map PyData.int) (by
        simp (decide := true) only [↓reduceIte, Bool.not_true, Bool.not_false, decide_true, decide_false, wipeE, Bool.false_eq_true, y_e_c, y_e_v, y_e_g, y_e_never, y_e_bin, y_e_neg, y_e_tst, y_e_ite, y_e_tup, y_e_lst, y_e_box, y_e_ix, y_e_sl, y_e_rev, y_e_call, y_e_blt, y_e_isi, y_e_lc, y_es_nil, y_es_cons, y_o_no, y_o_yes, y_t_val, y_t_cmp, y_t_chn, y_t_isnt, y_t_isnf, z_nnr_dat, z_nnr_own, z_nnr_brw, z_nn_none, z_nn_bool, z_nn_int, z_nn_str, z_nn_list, z_nn_tuple, y_t_isb, y_t_and, y_t_or, y_t_not, y_h_last, y_h_link, y_al_one, y_al_cons, y_an_one, y_an_cons, y_c_no, y_c_yes, y_i_seq, y_i_rng, y_i_zip, y_i_enum, y_s_never, y_s_pass, y_s_asg, y_s_par, y_s_par3, y_s_setO, y_s_unp, y_s_setB, y_s_exp, y_s_app, y_s_ext, y_s_iff, y_s_whl, y_s_forr, y_s_ret, y_s_retv, y_s_frz, y_ss_nil, y_ss_cons, argsOf, views, caps, Option.map_some, Option.map_none, Option.bind_some, Option.bind_none, List.getElem?_cons_zero, List.getElem?_cons_succ, List.set_cons_zero, List.set_cons_succ, List.length_cons, List.length_nil, z_read_dat, z_read_ref, z_read_scr, z_read_own, z_view_own, z_view_brw, z_view_dat, z_cap_dat, z_cap_own, z_hold_dat, z_hold_ref, z_hold_scr, z_hold_own, z_arg_dat, z_arg_ref, z_arg_scr, z_arg_own, z_look_t, z_look_f, z_len_ref, z_len_scr, z_len_l, z_len_t, z_len_o, z_len_b, z_ix_ref, z_ix_scr, z_ix_l, z_ix_t, z_ix_o, z_ix_b, z_blt_len, z_blt_abs, z_blt_tup, z_blt_lst, z_blt_sum, z_blt_all, z_blt_any, z_blt_min, z_blt_max, z_blt_sorted, z_blt_repr, z_blt_str, z_blt_int, z_blt_divmod, z_d_abs, z_d_tupl, z_d_tupt, z_d_lstl, z_d_lstt, z_d_sum, z_d_all, z_d_any, z_d_minl, z_d_maxl, z_d_min, z_d_max, z_d_sorted, z_d_divmod, z_d_int, z_d_repr, z_d_str, z_bin_i, z_bin_ll, z_bin_tt, z_bin_rep, z_add, z_sub, z_mul, z_fdiv, z_mod, z_eq, z_ne, z_lt, z_le, z_gt, z_ge, z_inl, z_int, z_ninl, z_nint, z_isi_int_none, z_isi_int_bool, z_isi_int_int, z_isi_int_str, z_isi_int_list, z_isi_int_tuple, z_isi_bool_none, z_isi_bool_bool, z_isi_bool_int, z_isi_bool_str, z_isi_bool_list, z_isi_bool_tuple, z_isi_str_none, z_isi_str_bool, z_isi_str_int, z_isi_str_str, z_isi_str_list, z_isi_str_tuple, z_isi_list_none, z_isi_list_bool, z_isi_list_int, z_isi_list_str, z_isi_list_list, z_isi_list_tuple, z_isi_tuple_none, z_isi_tuple_bool, z_isi_tuple_int, z_isi_tuple_str, z_isi_tuple_list, z_isi_tuple_tuple, z_out_rt, z_out_nx, z_eqi, z_eqb, z_rng1, z_rng2, z_si_l, z_si_t, z_bind_nm, z_bind_tt, z_bind_tl, z_binds_n, z_binds_c, z_sl_l, z_sl_t, z_at0, z_at1, z_at2, z_at3, z_ixN0, z_intsn, z_intsc, z_boolsn, z_boolsc, e4])
      (fun j1 env s => ∃ y3 y10, env = [some (.scr ns), some (.dat (.int j)), some (.ref st.length), y3, x4, x5, some (.dat x.p), some (.dat (.int (p : Int))), some (.dat (.list (l.map Qd.p))), some (.dat (gq2 x p).p), y10] ∧ s = st ++ [[.int w4]])
      ⟨x3, x10, rfl, rfl⟩ fun j1 d env s hd ⟨y3, y10, ee, es⟩ => by
        subst ee es
        obtain ⟨N, hNm, rfl⟩ := List.mem_map.mp (List.mem_of_getElem? hd)
        obtain ⟨N0, N60⟩ := hN N hNm
        obtain ⟨v10, e⟩ := s_one94 k x p l N (st ++ [[.int w4]]) sx bx dx' hp hll hz hcn N0 N60 (some (.scr ns)) (some (.dat (.int j))) (some (.ref st.length)) x4 x5 y10
        exact ⟨_, _, _, z_bind_nm _ _ _, e, _, _, rfl, rfl⟩
    subst e6 e7
    have e5' : Stm.den (callF tb (k + 7)) l_law_1 [some (.scr ns), some (.dat (.int j)), some (.ref st.length), x3, x4, x5, some (.dat x.p), some (.dat (.int (p : Int))), some (.dat (.list (l.map Qd.p))), some (.dat (gq2 x p).p), x10] (st ++ [[.int w3]]) = _ := e5
    obtain ⟨A, B, C, h0, h1, h2, h3, h4, g1, g2⟩ := s_shape94 (k + 1) x (st ++ [[.int w4]]) bx dx'
    have hd72 := det72 sx
    have hdd : (x.det * x.det).natAbs ≤ 72 * 72 := by rw [Int.natAbs_mul]; exact Nat.mul_le_mul (by omega) (by omega)
    have hpp : ((p : Int) * (p : Int)).natAbs ≤ 7 * 7 := by rw [Int.natAbs_mul]; exact Nat.mul_le_mul (by omega) (by omega)
    have m1 : mulOk (p : Int) (p : Int) = true := mulOk_s (by omega) (by omega) (by omega) (by omega)
    have m2 : mulOk ((p : Int) * (p : Int)) (x.det * x.det) = true := mulOk_s (by omega) (by omega) (by omega) (by omega)
    obtain ⟨env2, st3, e8, y5, e9, e10⟩ := den_for (cf := callF tb (k + 7)) (tg := .nm 5) (it := .seq (.v 8)) (b := lb_law_2)
      (env := [some (.scr ns), some (.dat (.int j)), some (.ref st.length), y3, some (.dat (.int ((p : Int) * p * (x.det * x.det)))), x5, some (.dat x.p), some (.dat (.int (p : Int))), some (.dat (.list (l.map Qd.p))), some (.dat (gq2 x p).p), y10]) (st := st ++ [[.int w4]]) (st1 := st ++ [[.int w4]]) (items := l.map Qd.p) (by
        simp (decide := true) only [↓reduceIte, Bool.not_true, Bool.not_false, decide_true, decide_false, wipeE, Bool.false_eq_true, y_e_c, y_e_v, y_e_g, y_e_never, y_e_bin, y_e_neg, y_e_tst, y_e_ite, y_e_tup, y_e_lst, y_e_box, y_e_ix, y_e_sl, y_e_rev, y_e_call, y_e_blt, y_e_isi, y_e_lc, y_es_nil, y_es_cons, y_o_no, y_o_yes, y_t_val, y_t_cmp, y_t_chn, y_t_isnt, y_t_isnf, z_nnr_dat, z_nnr_own, z_nnr_brw, z_nn_none, z_nn_bool, z_nn_int, z_nn_str, z_nn_list, z_nn_tuple, y_t_isb, y_t_and, y_t_or, y_t_not, y_h_last, y_h_link, y_al_one, y_al_cons, y_an_one, y_an_cons, y_c_no, y_c_yes, y_i_seq, y_i_rng, y_i_zip, y_i_enum, y_s_never, y_s_pass, y_s_asg, y_s_par, y_s_par3, y_s_setO, y_s_unp, y_s_setB, y_s_exp, y_s_app, y_s_ext, y_s_iff, y_s_whl, y_s_forr, y_s_ret, y_s_retv, y_s_frz, y_ss_nil, y_ss_cons, argsOf, views, caps, Option.map_some, Option.map_none, Option.bind_some, Option.bind_none, List.getElem?_cons_zero, List.getElem?_cons_succ, List.set_cons_zero, List.set_cons_succ, List.length_cons, List.length_nil, z_read_dat, z_read_ref, z_read_scr, z_read_own, z_view_own, z_view_brw, z_view_dat, z_cap_dat, z_cap_own, z_hold_dat, z_hold_ref, z_hold_scr, z_hold_own, z_arg_dat, z_arg_ref, z_arg_scr, z_arg_own, z_look_t, z_look_f, z_len_ref, z_len_scr, z_len_l, z_len_t, z_len_o, z_len_b, z_ix_ref, z_ix_scr, z_ix_l, z_ix_t, z_ix_o, z_ix_b, z_blt_len, z_blt_abs, z_blt_tup, z_blt_lst, z_blt_sum, z_blt_all, z_blt_any, z_blt_min, z_blt_max, z_blt_sorted, z_blt_repr, z_blt_str, z_blt_int, z_blt_divmod, z_d_abs, z_d_tupl, z_d_tupt, z_d_lstl, z_d_lstt, z_d_sum, z_d_all, z_d_any, z_d_minl, z_d_maxl, z_d_min, z_d_max, z_d_sorted, z_d_divmod, z_d_int, z_d_repr, z_d_str, z_bin_i, z_bin_ll, z_bin_tt, z_bin_rep, z_add, z_sub, z_mul, z_fdiv, z_mod, z_eq, z_ne, z_lt, z_le, z_gt, z_ge, z_inl, z_int, z_ninl, z_nint, z_isi_int_none, z_isi_int_bool, z_isi_int_int, z_isi_int_str, z_isi_int_list, z_isi_int_tuple, z_isi_bool_none, z_isi_bool_bool, z_isi_bool_int, z_isi_bool_str, z_isi_bool_list, z_isi_bool_tuple, z_isi_str_none, z_isi_str_bool, z_isi_str_int, z_isi_str_str, z_isi_str_list, z_isi_str_tuple, z_isi_list_none, z_isi_list_bool, z_isi_list_int, z_isi_list_str, z_isi_list_list, z_isi_list_tuple, z_isi_tuple_none, z_isi_tuple_bool, z_isi_tuple_int, z_isi_tuple_str, z_isi_tuple_list, z_isi_tuple_tuple, z_out_rt, z_out_nx, z_eqi, z_eqb, z_rng1, z_rng2, z_si_l, z_si_t, z_bind_nm, z_bind_tt, z_bind_tl, z_binds_n, z_binds_c, z_sl_l, z_sl_t, z_at0, z_at1, z_at2, z_at3, z_ixN0, z_intsn, z_intsc, z_boolsn, z_boolsc])
      (fun j1 env s => ∃ y5, env = [some (.scr ns), some (.dat (.int j)), some (.ref st.length), y3, some (.dat (.int ((p : Int) * p * (x.det * x.det)))), y5, some (.dat x.p), some (.dat (.int (p : Int))), some (.dat (.list (l.map Qd.p))), some (.dat (gq2 x p).p), y10] ∧ s = st ++ [[.int w4]])
      ⟨x5, rfl, rfl⟩ fun j1 d env s hd ⟨y5, ee, es⟩ => by
        subst ee es
        obtain ⟨z, hzm, rfl⟩ := List.mem_map.mp (List.mem_of_getElem? hd)
        have e := s_chk k x z p (st ++ [[.int w4]]) sx bx dx' (by omega) (hz z hzm) (some (.scr ns)) (some (.dat (.int j))) (some (.ref st.length)) y3 (some (.dat (.int (p : Int)))) (some (.dat (.list (l.map Qd.p)))) (some (.dat (gq2 x p).p)) y10 rfl
        exact ⟨_, _, _, z_bind_nm _ _ _, e, _, rfl, rfl⟩
    subst e9 e10
    have e8' : Stm.den (callF tb (k + 7)) l_law_2 [some (.scr ns), some (.dat (.int j)), some (.ref st.length), y3, some (.dat (.int ((p : Int) * p * (x.det * x.det)))), x5, some (.dat x.p), some (.dat (.int (p : Int))), some (.dat (.list (l.map Qd.p))), some (.dat (gq2 x p).p), y10] (st ++ [[.int w4]]) = _ := e8
    exact ⟨_, _, by simp (decide := true) only [lb_law_3, ↓reduceIte, Bool.not_true, Bool.not_false, decide_true, decide_false, wipeE, Bool.false_eq_true, y_e_c, y_e_v, y_e_g, y_e_never, y_e_bin, y_e_neg, y_e_tst, y_e_ite, y_e_tup, y_e_lst, y_e_box, y_e_ix, y_e_sl, y_e_rev, y_e_call, y_e_blt, y_e_isi, y_e_lc, y_es_nil, y_es_cons, y_o_no, y_o_yes, y_t_val, y_t_cmp, y_t_chn, y_t_isnt, y_t_isnf, z_nnr_dat, z_nnr_own, z_nnr_brw, z_nn_none, z_nn_bool, z_nn_int, z_nn_str, z_nn_list, z_nn_tuple, y_t_isb, y_t_and, y_t_or, y_t_not, y_h_last, y_h_link, y_al_one, y_al_cons, y_an_one, y_an_cons, y_c_no, y_c_yes, y_i_seq, y_i_rng, y_i_zip, y_i_enum, y_s_never, y_s_pass, y_s_asg, y_s_par, y_s_par3, y_s_setO, y_s_unp, y_s_setB, y_s_exp, y_s_app, y_s_ext, y_s_iff, y_s_whl, y_s_forr, y_s_ret, y_s_retv, y_s_frz, y_ss_nil, y_ss_cons, argsOf, views, caps, Option.map_some, Option.map_none, Option.bind_some, Option.bind_none, List.getElem?_cons_zero, List.getElem?_cons_succ, List.set_cons_zero, List.set_cons_succ, List.length_cons, List.length_nil, z_read_dat, z_read_ref, z_read_scr, z_read_own, z_view_own, z_view_brw, z_view_dat, z_cap_dat, z_cap_own, z_hold_dat, z_hold_ref, z_hold_scr, z_hold_own, z_arg_dat, z_arg_ref, z_arg_scr, z_arg_own, z_look_t, z_look_f, z_len_ref, z_len_scr, z_len_l, z_len_t, z_len_o, z_len_b, z_ix_ref, z_ix_scr, z_ix_l, z_ix_t, z_ix_o, z_ix_b, z_blt_len, z_blt_abs, z_blt_tup, z_blt_lst, z_blt_sum, z_blt_all, z_blt_any, z_blt_min, z_blt_max, z_blt_sorted, z_blt_repr, z_blt_str, z_blt_int, z_blt_divmod, z_d_abs, z_d_tupl, z_d_tupt, z_d_lstl, z_d_lstt, z_d_sum, z_d_all, z_d_any, z_d_minl, z_d_maxl, z_d_min, z_d_max, z_d_sorted, z_d_divmod, z_d_int, z_d_repr, z_d_str, z_bin_i, z_bin_ll, z_bin_tt, z_bin_rep, z_add, z_sub, z_mul, z_fdiv, z_mod, z_eq, z_ne, z_lt, z_le, z_gt, z_ge, z_inl, z_int, z_ninl, z_nint, z_isi_int_none, z_isi_int_bool, z_isi_int_int, z_isi_int_str, z_isi_int_list, z_isi_int_tuple, z_isi_bool_none, z_isi_bool_bool, z_isi_bool_int, z_isi_bool_str, z_isi_bool_list, z_isi_bool_tuple, z_isi_str_none, z_isi_str_bool, z_isi_str_int, z_isi_str_str, z_isi_str_list, z_isi_str_tuple, z_isi_list_none, z_isi_list_bool, z_isi_list_int, z_isi_list_str, z_isi_list_list, z_isi_list_tuple, z_isi_tuple_none, z_isi_tuple_bool, z_isi_tuple_int, z_isi_tuple_str, z_isi_tuple_list, z_isi_tuple_tuple, z_out_rt, z_out_nx, z_eqi, z_eqb, z_rng1, z_rng2, z_si_l, z_si_t, z_bind_nm, z_bind_tt, z_bind_tl, z_binds_n, z_binds_c, z_sl_l, z_sl_t, z_at0, z_at1, z_at2, z_at3, z_ixN0, z_intsn, z_intsc, z_boolsn, z_boolsc, hbx, f2, f4, e1, t1, es, e2, e3, hlen, e5', g1, g2, m1, m2, e8']; rfl, _, _, rfl, rfl⟩
theorem yes : Yes (callF tb 60 "law") 63 :=
  yes_of (cf := callF tb 59) (b := lb_law_3) (C := 3) 9 (by decide) (by decide) (fun ns => c_law 59 _ _) fun ns k xs st hl => s_body 52 ns k xs st hl

theorem all_has {P : Program} {w : World} {K : PySem.W.Frag} {h : Heap} {mg : Str → Option Value} {fa : Addr} (X : K.In h) (G : h.Ns mainGlobals mg) (hfa : mg (Str.ofString "law") = some (.ref fa))
    (h0 : HasK K "is_whole" (tx 9))
    (h1 : HasK K "are_whole" (tx 10))
    (h2 : HasK K "is_point" (tx 11))
    (h3 : HasK K "determinant" (tx 12))
    (h4 : HasK K "is_steps" (tx 13))
    (h5 : HasK K "need_steps" (tx 14))
    (h6 : HasK K "need_pair" (tx 15))
    (h7 : HasK K "product_of" (tx 16))
    (h8 : HasK K "product" (tx 17))
    (h9 : HasK K "room" (tx 18))
    (h10 : HasK K "sum_of" (tx 19))
    (h11 : HasK K "tops_of" (tx 20))
    (h12 : HasK K "numbers_for" (tx 21))
    (h13 : HasK K "is_within" (tx 22))
    (h14 : HasK K "products_of" (tx 24))
    (h15 : HasK K "moved_by" (tx 25))
    (h16 : HasK K "move_for" (tx 26))
    (h17 : HasK K "led" (tx 27))
    (h18 : HasK K "shape_of" (tx 29))
    (h19 : HasK K "shape" (tx 30))
    (h20 : HasK K "is_shape" (tx 31))
    (h21 : HasK K "by_matrix" (tx 32))
    (h22 : HasK K "need_shape" (tx 33))
    (h23 : HasK K "room_squared" (tx 34))
    (h24 : HasK K "common" (tx 37))
    (h25 : HasK K "led_flat" (tx 38))
    (h26 : HasK K "flat_by" (tx 39))
    (h27 : HasK K "need_both" (tx 40))
    (h28 : HasK K "times_of" (tx 41))
    (h29 : HasK K "parts_of" (tx 42))
    (h30 : HasK K "grown" (tx 45))
    (h31 : HasK K "need_length" (tx 48))
    (h32 : HasK K "root_of" (tx 49))
    (h33 : HasK K "near_points" (tx 50))
    (h34 : HasK K "many_of" (tx 51))
    (h35 : HasK K "up_to" (tx 52))
    (h36 : HasK K "need_between" (tx 55))
    (h37 : HasK K "shapes_by" (tx 56))
    (h38 : HasK K "shapes_of" (tx 57))
    (h39 : HasK K "_law_cell" (tx 59))
    (h40 : HasK K "_law_mix" (tx 60))
    (h41 : HasK K "_law_box" (tx 61))
    (h42 : HasK K "_law_take" (tx 62))
    (h43 : HasK K "_law_drawn_number" (tx 63))
    (h44 : HasK K "_law_drawn_point" (tx 64))
    (h45 : HasK K "_law_drawn_pair" (tx 65))
    (h46 : HasK K "_law_lengths" (tx 66))
    (h47 : HasK K "law" (tx 67))
    (z0 : PySem.W.nsIn K mainGlobals (Str.ofString "abs") = some none)
    (z1 : PySem.W.nsIn K mainGlobals (Str.ofString "all") = some none)
    (z2 : PySem.W.nsIn K mainGlobals (Str.ofString "any") = some none)
    (z3 : PySem.W.nsIn K mainGlobals (Str.ofString "bool") = some none)
    (z4 : PySem.W.nsIn K mainGlobals (Str.ofString "divmod") = some none)
    (z5 : PySem.W.nsIn K mainGlobals (Str.ofString "enumerate") = some none)
    (z6 : PySem.W.nsIn K mainGlobals (Str.ofString "int") = some none)
    (z7 : PySem.W.nsIn K mainGlobals (Str.ofString "isinstance") = some none)
    (z8 : PySem.W.nsIn K mainGlobals (Str.ofString "len") = some none)
    (z9 : PySem.W.nsIn K mainGlobals (Str.ofString "max") = some none)
    (z10 : PySem.W.nsIn K mainGlobals (Str.ofString "min") = some none)
    (z11 : PySem.W.nsIn K mainGlobals (Str.ofString "range") = some none)
    (z12 : PySem.W.nsIn K mainGlobals (Str.ofString "sorted") = some none)
    (z13 : PySem.W.nsIn K mainGlobals (Str.ofString "sum") = some none)
    (z14 : PySem.W.nsIn K mainGlobals (Str.ofString "tuple") = some none)
    (z15 : PySem.W.nsIn K mainGlobals (Str.ofString "zip") = some none)
    (c0 : ConK K "MOST_GROWN" (.int 9))
    (c1 : ConK K "MOST_LENGTH" (.int 60))
    (c2 : ConK K "MOST_TAKEN" (.int 200))
    (c3 : ConK K "MOST_TIMES" (.int 12))
    : ∃ fd : FuncData, Binds K fd d_law.ps [] ∧ ∀ base : Heap, K.In base → base.Ns mainGlobals mg → Fk P w K mg base 60 fa fd d_law.ps (callF tb 60 "law") := by
  refine head_ok (ds := ds) (S := sg) (d := d_law) 60 nd rfl ck (fun d hd => ?_) (fun x hx => ?_) (fun p hp => ?_) (by simp [ds]) hfa
  · simp only [ds, List.mem_cons, List.not_mem_nil, or_false] at hd
    rcases hd with rfl | rfl | rfl | rfl | rfl | rfl | rfl | rfl | rfl | rfl | rfl | rfl | rfl | rfl | rfl | rfl | rfl | rfl | rfl | rfl | rfl | rfl | rfl | rfl | rfl | rfl | rfl | rfl | rfl | rfl | rfl | rfl | rfl | rfl | rfl | rfl | rfl | rfl | rfl | rfl | rfl | rfl | rfl | rfl | rfl | rfl | rfl | rfl
    · exact h0.has X G fun _ _ _ _ _ _ us hl => match us, hl with | [_], _ => rfl
    · exact h1.has X G fun _ _ _ _ _ _ us hl => match us, hl with | [_, _], _ => rfl
    · exact h2.has X G fun _ _ _ _ _ _ us hl => match us, hl with | [_], _ => rfl
    · exact h3.has X G fun _ _ _ _ _ _ us hl => match us, hl with | [_], _ => rfl
    · exact h4.has X G fun _ _ _ _ _ _ us hl => match us, hl with | [_], _ => rfl
    · exact h5.has X G fun _ _ _ _ _ _ us hl => match us, hl with | [_], _ => rfl
    · exact h6.has X G fun _ _ _ _ _ _ us hl => match us, hl with | [_], _ => rfl
    · exact h7.has X G fun _ _ _ _ _ _ us hl => match us, hl with | [_, _], _ => rfl
    · exact h8.has X G fun _ _ _ _ _ _ us hl => match us, hl with | [_, _], _ => rfl
    · exact h9.has X G fun _ _ _ _ _ _ us hl => match us, hl with | [_], _ => rfl
    · exact h10.has X G fun _ _ _ _ _ _ us hl => match us, hl with | [_, _], _ => rfl
    · exact h11.has X G fun _ _ _ _ _ _ us hl => match us, hl with | [_, _], _ => rfl
    · exact h12.has X G fun _ _ _ _ _ _ us hl => match us, hl with | [_, _], _ => rfl
    · exact h13.has X G fun _ _ _ _ _ _ us hl => match us, hl with | [_, _], _ => rfl
    · exact h14.has X G fun _ _ _ _ _ _ us hl => match us, hl with | [_], _ => rfl
    · exact h15.has X G fun _ _ _ _ _ _ us hl => match us, hl with | [_, _], _ => rfl
    · exact h16.has X G fun _ _ _ _ _ _ us hl => match us, hl with | [_], _ => rfl
    · exact h17.has X G fun _ _ _ _ _ _ us hl => match us, hl with | [_], _ => rfl
    · exact h18.has X G fun _ _ _ _ _ _ us hl => match us, hl with | [_], _ => rfl
    · exact h19.has X G fun _ _ _ _ _ _ us hl => match us, hl with | [_], _ => rfl
    · exact h20.has X G fun _ _ _ _ _ _ us hl => match us, hl with | [_], _ => rfl
    · exact h21.has X G fun _ _ _ _ _ _ us hl => match us, hl with | [_, _], _ => rfl
    · exact h22.has X G fun _ _ _ _ _ _ us hl => match us, hl with | [_], _ => rfl
    · exact h23.has X G fun _ _ _ _ _ _ us hl => match us, hl with | [_], _ => rfl
    · exact h24.has X G fun _ _ _ _ _ _ us hl => match us, hl with | [_, _], _ => rfl
    · exact h25.has X G fun _ _ _ _ _ _ us hl => match us, hl with | [_, _], _ => rfl
    · exact h26.has X G fun _ _ _ _ _ _ us hl => match us, hl with | [_], _ => rfl
    · exact h27.has X G fun _ _ _ _ _ _ us hl => match us, hl with | [_, _], _ => rfl
    · exact h28.has X G fun _ _ _ _ _ _ us hl => match us, hl with | [_, _], _ => rfl
    · exact h29.has X G fun _ _ _ _ _ _ us hl => match us, hl with | [_, _], _ => rfl
    · exact h30.has X G fun _ _ _ _ _ _ us hl => match us, hl with | [_, _], _ => rfl
    · exact h31.has X G fun _ _ _ _ _ _ us hl => match us, hl with | [_], _ => rfl
    · exact h32.has X G fun _ _ _ _ _ _ us hl => match us, hl with | [_], _ => rfl
    · exact h33.has X G fun _ _ _ _ _ _ us hl => match us, hl with | [_, _], _ => rfl
    · exact h34.has X G fun _ _ _ _ _ _ us hl => match us, hl with | [_, _], _ => rfl
    · exact h35.has X G fun _ _ _ _ _ _ us hl => match us, hl with | [_, _], _ => rfl
    · exact h36.has X G fun _ _ _ _ _ _ us hl => match us, hl with | [_, _], _ => rfl
    · exact h37.has X G fun _ _ _ _ _ _ us hl => match us, hl with | [_], _ => rfl
    · exact h38.has X G fun _ _ _ _ _ _ us hl => match us, hl with | [_], _ => rfl
    · exact h39.has X G fun _ _ _ _ _ _ us hl => match us, hl with | [_, _], _ => rfl
    · exact h40.has X G fun _ _ _ _ _ _ us hl => match us, hl with | [_, _], _ => rfl
    · exact h41.has X G fun _ _ _ _ _ _ us hl => match us, hl with | [_, _], _ => rfl
    · exact h42.has X G fun _ _ _ _ _ _ us hl => match us, hl with | [_, _], _ => rfl
    · exact h43.has X G fun _ _ _ _ _ _ us hl => match us, hl with | [_, _], _ => rfl
    · exact h44.has X G fun _ _ _ _ _ _ us hl => match us, hl with | [_, _, _], _ => rfl
    · exact h45.has X G fun _ _ _ _ _ _ us hl => match us, hl with | [_, _], _ => rfl
    · exact h46.has X G fun _ _ _ _ _ _ us hl => match us, hl with | [_, _], _ => rfl
    · exact h47.has X G fun _ _ _ _ _ _ us hl => match us, hl with | [_], _ => rfl
  · simp only [sg, List.mem_cons, List.not_mem_nil, or_false] at hx
    rcases hx with rfl | rfl | rfl | rfl | rfl | rfl | rfl | rfl | rfl | rfl | rfl | rfl | rfl | rfl | rfl | rfl
    · exact PySem.W.mg_none_of X G z0
    · exact PySem.W.mg_none_of X G z1
    · exact PySem.W.mg_none_of X G z2
    · exact PySem.W.mg_none_of X G z3
    · exact PySem.W.mg_none_of X G z4
    · exact PySem.W.mg_none_of X G z5
    · exact PySem.W.mg_none_of X G z6
    · exact PySem.W.mg_none_of X G z7
    · exact PySem.W.mg_none_of X G z8
    · exact PySem.W.mg_none_of X G z9
    · exact PySem.W.mg_none_of X G z10
    · exact PySem.W.mg_none_of X G z11
    · exact PySem.W.mg_none_of X G z12
    · exact PySem.W.mg_none_of X G z13
    · exact PySem.W.mg_none_of X G z14
    · exact PySem.W.mg_none_of X G z15
  · simp only [sg, List.mem_cons, List.not_mem_nil, or_false] at hp
    rcases hp with rfl | rfl | rfl | rfl
    · exact c0.con X G
    · exact c1.con X G
    · exact c2.con X G
    · exact c3.con X G
end Lw
open PySem PySem.W PyProof.Rows
set_option maxHeartbeats 0 in
theorem PySem.Challenge.cw_shortsteps_k94_whole_points_by_parts_holds : PySem.Challenge.rw_shortsteps_k94_whole_points_by_parts.Holds := by
  w_on; o_law; k_head; (case hw => w_witness2)
  k_fill
  refine Sy.top_walk (l := PySem.Challenge.rw_shortsteps_k94_whole_points_by_parts) (n := 63) (k := 60) (x := Str.ofString "_law_script") (c := Sy.callF Lw.tb 60 "law") Lw.yes rfl (by decide) rfl ⟨rfl, by decide, by decide⟩ (fun w h Y => PySem.W.kIn_of Y) ?F
  case F =>
    intro w mg fa h KX G hmg
    refine' Lw.all_has KX G hmg ?h0 ?h1 ?h2 ?h3 ?h4 ?h5 ?h6 ?h7 ?h8 ?h9 ?h10 ?h11 ?h12 ?h13 ?h14 ?h15 ?h16 ?h17 ?h18 ?h19 ?h20 ?h21 ?h22 ?h23 ?h24 ?h25 ?h26 ?h27 ?h28 ?h29 ?h30 ?h31 ?h32 ?h33 ?h34 ?h35 ?h36 ?h37 ?h38 ?h39 ?h40 ?h41 ?h42 ?h43 ?h44 ?h45 ?h46 ?h47 ?z0 ?z1 ?z2 ?z3 ?z4 ?z5 ?z6 ?z7 ?z8 ?z9 ?z10 ?z11 ?z12 ?z13 ?z14 ?z15 ?c0 ?c1 ?c2 ?c3
    (case h0 => refine' Sy.hasK_mk ?a ?l ?c ?k; (case a => k_is); (case l => k_is); (case c => k_is); (case k => k_is))
    (case h1 => refine' Sy.hasK_mk ?a ?l ?c ?k; (case a => k_is); (case l => k_is); (case c => k_is); (case k => k_is))
    (case h2 => refine' Sy.hasK_mk ?a ?l ?c ?k; (case a => k_is); (case l => k_is); (case c => k_is); (case k => k_is))
    (case h3 => refine' Sy.hasK_mk ?a ?l ?c ?k; (case a => k_is); (case l => k_is); (case c => k_is); (case k => k_is))
    (case h4 => refine' Sy.hasK_mk ?a ?l ?c ?k; (case a => k_is); (case l => k_is); (case c => k_is); (case k => k_is))
    (case h5 => refine' Sy.hasK_mk ?a ?l ?c ?k; (case a => k_is); (case l => k_is); (case c => k_is); (case k => k_is))
    (case h6 => refine' Sy.hasK_mk ?a ?l ?c ?k; (case a => k_is); (case l => k_is); (case c => k_is); (case k => k_is))
    (case h7 => refine' Sy.hasK_mk ?a ?l ?c ?k; (case a => k_is); (case l => k_is); (case c => k_is); (case k => k_is))
    (case h8 => refine' Sy.hasK_mk ?a ?l ?c ?k; (case a => k_is); (case l => k_is); (case c => k_is); (case k => k_is))
    (case h9 => refine' Sy.hasK_mk ?a ?l ?c ?k; (case a => k_is); (case l => k_is); (case c => k_is); (case k => k_is))
    (case h10 => refine' Sy.hasK_mk ?a ?l ?c ?k; (case a => k_is); (case l => k_is); (case c => k_is); (case k => k_is))
    (case h11 => refine' Sy.hasK_mk ?a ?l ?c ?k; (case a => k_is); (case l => k_is); (case c => k_is); (case k => k_is))
    (case h12 => refine' Sy.hasK_mk ?a ?l ?c ?k; (case a => k_is); (case l => k_is); (case c => k_is); (case k => k_is))
    (case h13 => refine' Sy.hasK_mk ?a ?l ?c ?k; (case a => k_is); (case l => k_is); (case c => k_is); (case k => k_is))
    (case h14 => refine' Sy.hasK_mk ?a ?l ?c ?k; (case a => k_is); (case l => k_is); (case c => k_is); (case k => k_is))
    (case h15 => refine' Sy.hasK_mk ?a ?l ?c ?k; (case a => k_is); (case l => k_is); (case c => k_is); (case k => k_is))
    (case h16 => refine' Sy.hasK_mk ?a ?l ?c ?k; (case a => k_is); (case l => k_is); (case c => k_is); (case k => k_is))
    (case h17 => refine' Sy.hasK_mk ?a ?l ?c ?k; (case a => k_is); (case l => k_is); (case c => k_is); (case k => k_is))
    (case h18 => refine' Sy.hasK_mk ?a ?l ?c ?k; (case a => k_is); (case l => k_is); (case c => k_is); (case k => k_is))
    (case h19 => refine' Sy.hasK_mk ?a ?l ?c ?k; (case a => k_is); (case l => k_is); (case c => k_is); (case k => k_is))
    (case h20 => refine' Sy.hasK_mk ?a ?l ?c ?k; (case a => k_is); (case l => k_is); (case c => k_is); (case k => k_is))
    (case h21 => refine' Sy.hasK_mk ?a ?l ?c ?k; (case a => k_is); (case l => k_is); (case c => k_is); (case k => k_is))
    (case h22 => refine' Sy.hasK_mk ?a ?l ?c ?k; (case a => k_is); (case l => k_is); (case c => k_is); (case k => k_is))
    (case h23 => refine' Sy.hasK_mk ?a ?l ?c ?k; (case a => k_is); (case l => k_is); (case c => k_is); (case k => k_is))
    (case h24 => refine' Sy.hasK_mk ?a ?l ?c ?k; (case a => k_is); (case l => k_is); (case c => k_is); (case k => k_is))
    (case h25 => refine' Sy.hasK_mk ?a ?l ?c ?k; (case a => k_is); (case l => k_is); (case c => k_is); (case k => k_is))
    (case h26 => refine' Sy.hasK_mk ?a ?l ?c ?k; (case a => k_is); (case l => k_is); (case c => k_is); (case k => k_is))
    (case h27 => refine' Sy.hasK_mk ?a ?l ?c ?k; (case a => k_is); (case l => k_is); (case c => k_is); (case k => k_is))
    (case h28 => refine' Sy.hasK_mk ?a ?l ?c ?k; (case a => k_is); (case l => k_is); (case c => k_is); (case k => k_is))
    (case h29 => refine' Sy.hasK_mk ?a ?l ?c ?k; (case a => k_is); (case l => k_is); (case c => k_is); (case k => k_is))
    (case h30 => refine' Sy.hasK_mk ?a ?l ?c ?k; (case a => k_is); (case l => k_is); (case c => k_is); (case k => k_is))
    (case h31 => refine' Sy.hasK_mk ?a ?l ?c ?k; (case a => k_is); (case l => k_is); (case c => k_is); (case k => k_is))
    (case h32 => refine' Sy.hasK_mk ?a ?l ?c ?k; (case a => k_is); (case l => k_is); (case c => k_is); (case k => k_is))
    (case h33 => refine' Sy.hasK_mk ?a ?l ?c ?k; (case a => k_is); (case l => k_is); (case c => k_is); (case k => k_is))
    (case h34 => refine' Sy.hasK_mk ?a ?l ?c ?k; (case a => k_is); (case l => k_is); (case c => k_is); (case k => k_is))
    (case h35 => refine' Sy.hasK_mk ?a ?l ?c ?k; (case a => k_is); (case l => k_is); (case c => k_is); (case k => k_is))
    (case h36 => refine' Sy.hasK_mk ?a ?l ?c ?k; (case a => k_is); (case l => k_is); (case c => k_is); (case k => k_is))
    (case h37 => refine' Sy.hasK_mk ?a ?l ?c ?k; (case a => k_is); (case l => k_is); (case c => k_is); (case k => k_is))
    (case h38 => refine' Sy.hasK_mk ?a ?l ?c ?k; (case a => k_is); (case l => k_is); (case c => k_is); (case k => k_is))
    (case h39 => refine' Sy.hasK_mk ?a ?l ?c ?k; (case a => k_is); (case l => k_is); (case c => k_is); (case k => k_is))
    (case h40 => refine' Sy.hasK_mk ?a ?l ?c ?k; (case a => k_is); (case l => k_is); (case c => k_is); (case k => k_is))
    (case h41 => refine' Sy.hasK_mk ?a ?l ?c ?k; (case a => k_is); (case l => k_is); (case c => k_is); (case k => k_is))
    (case h42 => refine' Sy.hasK_mk ?a ?l ?c ?k; (case a => k_is); (case l => k_is); (case c => k_is); (case k => k_is))
    (case h43 => refine' Sy.hasK_mk ?a ?l ?c ?k; (case a => k_is); (case l => k_is); (case c => k_is); (case k => k_is))
    (case h44 => refine' Sy.hasK_mk ?a ?l ?c ?k; (case a => k_is); (case l => k_is); (case c => k_is); (case k => k_is))
    (case h45 => refine' Sy.hasK_mk ?a ?l ?c ?k; (case a => k_is); (case l => k_is); (case c => k_is); (case k => k_is))
    (case h46 => refine' Sy.hasK_mk ?a ?l ?c ?k; (case a => k_is); (case l => k_is); (case c => k_is); (case k => k_is))
    (case h47 => refine' Sy.hasK_mk ?a ?l ?c ?k; (case a => k_is); (case l => k_is); (case c => k_is); (case k => k_is))
    (case z0 => k_is)
    (case z1 => k_is)
    (case z2 => k_is)
    (case z3 => k_is)
    (case z4 => k_is)
    (case z5 => k_is)
    (case z6 => k_is)
    (case z7 => k_is)
    (case z8 => k_is)
    (case z9 => k_is)
    (case z10 => k_is)
    (case z11 => k_is)
    (case z12 => k_is)
    (case z13 => k_is)
    (case z14 => k_is)
    (case z15 => k_is)
    (case c0 => refine' Sy.conK_int ?a; (case a => k_is))
    (case c1 => refine' Sy.conK_int ?a; (case a => k_is))
    (case c2 => refine' Sy.conK_int ?a; (case a => k_is))
    (case c3 => refine' Sy.conK_int ?a; (case a => k_is))
