import PyProof.Rows.All
import Wide.All
import OpenK.AllK
import Wide.FinOn
import HandS.ForMost
import HandS.Exc
import HandS.ExcOwn
import HandS.TryMany
import HandS.TupAny
import HandS.TupLe
import HandS.Deep
import HandS.Wide
import HandS.Conv
import HandS.SortInts
import HandS.SortKw
import HandS.Zip
import HandS.IsInst
import HandS.Style
import PyProof.EnumMake
import KE.GoesMore
import PyProof.WalksMore
import HandS.TupMul
import HandS.SortOrd
import KE.KSortTup
import PyProof.Rows.SortKeyStr
import PyProof.TupleOfSeq
import HandS.Codes
import HandS.HeadEnd
import HandS.HeadHook1
import HandS.HeadHook2
import HandS.ExcInit
import HandS.HeadWalk
import KE.KStateDown
import HandS.Ends
import HandS.Words
import HandS.WordsExc
import HandS.Head0
import HandS.Head1
import HandS.Head2
import PySem.Challenge.RW_countsofties_k64_beats_and_scores
set_option Elab.async false
set_option linter.all false
set_option maxRecDepth 100000
/-! Pd1: own values, own syntax, own evaluator. -/
namespace Pd
open PySem

/-- a value: pure data (lists in it are never written again), an object of the store, a def, a range, a sequence that holds such -/
inductive W where
  | v (d : PyData) | loc (n : Nat) | fn (f : Nat) | rng (lo hi : Int) | set (xs : List PyData) | ro (ds : List PyData) | seq (t : Bool) (ws : List W)
/-- an object that is written -/
inductive Ob where
  | lst (ws : List W) | fz (ws : List W) | dic (kvs : List (PyData × W)) | ins (c : Nat) (fs : List (Nat × W)) | gone
abbrev Sto := List Ob
abbrev Env := List (Option W)
structure Exn where
  cls : Nat
  fld : Option PyData
inductive R (α : Type) where
  | ok (a : α) (S : Sto) | exc (e : Exn) (S : Sto) | bad
def R.bind {α β : Type} (r : R α) (f : α → Sto → R β) : R β :=
  match r with
  | .ok a S => f a S
  | .exc e S => .exc e S
  | .bad => .bad
@[simp] theorem R.bind_ok {α β : Type} (a : α) (S : Sto) (f : α → Sto → R β) : (R.ok a S).bind f = f a S := rfl
@[simp] theorem R.bind_exc {α β : Type} (e : Exn) (S : Sto) (f : α → Sto → R β) : (R.exc e S).bind f = .exc e S := rfl
@[simp] theorem R.bind_bad {α β : Type} (f : α → Sto → R β) : (R.bad).bind f = .bad := rfl
def R.of {α : Type} (o : Option α) (S : Sto) : R α := match o with | some a => .ok a S | none => .bad
@[simp] theorem R.of_some {α : Type} (a : α) (S : Sto) : R.of (some a) S = .ok a S := rfl
@[simp] theorem R.of_none {α : Type} (S : Sto) : R.of (none : Option α) S = .bad := rfl
/-- an exception does not leave a comprehension -/
def R.calm {α : Type} (r : R α) : R α := match r with | .exc _ _ => .bad | r => r
@[simp] theorem R.calm_ok {α : Type} (a : α) (S : Sto) : (R.ok a S).calm = .ok a S := rfl
@[simp] theorem R.calm_exc {α : Type} (e : Exn) (S : Sto) : (R.exc e S : R α).calm = .bad := rfl
@[simp] theorem R.calm_bad {α : Type} : (R.bad : R α).calm = .bad := rfl

/-! ### syntax -/
inductive Bo where | add | sub | mul | fdiv | mod | pow
  deriving DecidableEq
inductive Co where | eq | ne | lt | le | gt | ge | is | isn | mem | nmem
  deriving DecidableEq
inductive Ty where | int | bool | str | tuple | list
  deriving DecidableEq
/-- built-ins called with values -/
inductive Bi where | len | sum | all | any | abs | int | tuple | list | min1 | max1 | min2 | max2 | min3 | sorted | set | str | repr | dict0 | dict
  deriving DecidableEq
/-- methods of built-in types -/
inductive Mt where | append | extend | pop0 | pop | index | count | get | update | items | values | join | split | startswith | endswith | remove
  deriving DecidableEq
/-- a target of names -/
inductive Tgt where | nm (i : Nat) | tup (ts : List Tgt)
mutual
inductive Ex where
  | nm (i : Nat)
  | cst (d : PyData)
  | glb (g : Nat) (d : PyData)
  | fnv (f : Nat)
  | bin (op : Bo) (a b : Ex)
  | neg (a : Ex)
  | and (a b : Ex)
  | or (a b : Ex)
  | not (a : Ex)
  | cmp (op : Co) (a b : Ex)
  | chain (op op' : Co) (a b c : Ex)
  | ite (c a b : Ex)
  | call (sh : Bool) (f : Nat) (args : Exs)
  | callK (sh : Bool) (f : Nat) (args : Exs) (kws : List Nat) (vals : Exs)
  | blt (b : Bi) (args : Exs)
  | dflt (mx : Bool) (a d : Ex)
  | isi (e : Ex) (tys : List Ty) (one : Bool)
  | mth (m : Mt) (o : Ex) (args : Exs)
  | ix (a b : Ex)
  | sl (a lo hi : Ex)
  | slr (a : Ex)
  | nil
  | tup (es : Exs)
  | lst (es : Exs)
  | rng1 (a : Ex)
  | rng2 (a b : Ex)
  | lc (elt : Ex) (tg : Tgt) (it : It) (cs : Exs) (own : List Nat)
  | lc2 (elt : Ex) (tg : Tgt) (it : It) (cs : Exs) (tg1 : Tgt) (it1 : It) (cs1 : Exs) (own own1 : List Nat)
  | box (e : Ex)
inductive Exs where
  | nil | cons (e : Ex) (es : Exs)
/-- what is walked -/
inductive It where
  | seq (e : Ex) | rng1 (a : Ex) | rng2 (a b : Ex) | rng3 (a b c : Ex) | zip (a b : Ex) | enum (e : Ex)
end
mutual
inductive Stm where
  | asg (t : Tgt) (e : Ex)
  | par (is : List Nat) (es : Exs)
  | aug (op : Bo) (i : Nat) (e : Ex)
  | asgS (o i e : Ex)
  | augS (op : Bo) (o i e : Ex)
  | expr (e : Ex)
  | ifs (c : Ex) (a b : Sts)
  | fors (t : Tgt) (it : It) (b : Sts)
  | whl (c : Ex) (b : Sts)
  | ret (e : Ex)
  | retN
  | raise (c : Nat) (arg : Ex)
  | tryS (b : Sts) (hs : Hds)
  | brk | cont | pass
inductive Sts where
  | nil | cons (s : Stm) (ss : Sts)
inductive Hds where
  | nil | cons (c : Nat) (slot : Option Nat) (b : Sts) (hs : Hds)
end
/-- a def: how many parameters, how many slots, the body -/
structure Fd where
  np : Nat
  ns : Nat
  body : Sts

/-! ### values -/
def allV : List W → Option (List PyData)
  | [] => some []
  | .v d :: ws => (allV ws).map (d :: ·)
  | _ :: _ => none
def mkSeq (t : Bool) (ws : List W) : W :=
  match allV ws with
  | some ds => .v (if t then .tuple ds else .list ds)
  | none => .seq t ws
@[simp] theorem allV_map (ds : List PyData) : allV (ds.map W.v) = some ds := by
  induction ds with
  | nil => rfl
  | cons d ds ih => show (allV (ds.map W.v)).map _ = _; rw [ih]; rfl
@[simp] theorem mkSeq_map (t : Bool) (ds : List PyData) : mkSeq t (ds.map W.v) = .v (if t then .tuple ds else .list ds) := by
  unfold mkSeq; rw [allV_map]
theorem allV_some : ∀ {ws : List W} {ds : List PyData}, allV ws = some ds → ws = ds.map W.v
  | [], ds, h => by cases h; rfl
  | .v d :: ws, ds, h => by
    have h' : (allV ws).map (d :: ·) = some ds := h
    cases e : allV ws with
    | none => rw [e] at h'; cases h'
    | some ds' => rw [e] at h'; cases h'; rw [allV_some e]; rfl
  | .loc _ :: _, _, h => nomatch h
  | .fn _ :: _, _, h => nomatch h
  | .rng _ _ :: _, _, h => nomatch h
  | .set _ :: _, _, h => nomatch h
  | .ro _ :: _, _, h => nomatch h
  | .seq _ _ :: _, _, h => nomatch h
/-- the items of a list of the store (fz: walked just now, not to be written) -/
def lstAt (S : Sto) (l : Nat) : Option (List W) :=
  match S[l]? with
  | some (.lst ws) => some ws
  | some (.fz ws) => some ws
  | _ => none
/-- a sequence's items: whether it is a tuple -/
def items : W → Sto → Option (Bool × List W)
  | .v (.tuple ds), _ => some (true, ds.map W.v)
  | .v (.list ds), _ => some (false, ds.map W.v)
  | .seq t ws, _ => some (t, ws)
  | .ro ds, _ => some (false, ds.map W.v)
  | .loc l, S => (lstAt S l).map fun ws => (false, ws)
  | _, _ => none
def roW : W → Bool
  | .ro _ => true
  | _ => false
def asInt : W → Option Int
  | .v (.int i) => some i
  | _ => none
def asBool : W → Option Bool
  | .v (.bool b) => some b
  | _ => none
def small (i : Int) : Bool := decide (-(2 ^ 64) < i ∧ i < 2 ^ 64)
/-- below 2 ^ 4000 -/
def wide (i : Int) : Bool := decide (i.natAbs < 2 ^ 4000)
def LIM : Nat := 1000000
/-- two data that may be compared: one of them not too deep -/
def okD (x y : PyData) : Bool := x.canLay0 && y.canLay0 && decide (min x.depth y.depth ≤ 50)
def okM (x : PyData) (ys : List PyData) : Bool := x.canLay0 && PyData.canLayAll0 ys && decide (min (PyData.depthAll ys) x.depth ≤ 50)
mutual
/-- order of data: less, and whether both can be compared -/
def dlt : PyData → PyData → Bool
  | .int a, .int b => decide (a < b)
  | .str a, .str b => decide (a.cps.toList < b.cps.toList)
  | .tuple xs, .tuple ys => dlts xs ys
  | _, _ => false
def dlts : List PyData → List PyData → Bool
  | [], [] => false
  | [], _ :: _ => true
  | _ :: _, [] => false
  | x :: xs, y :: ys => if PyData.eqv x y then dlts xs ys else dlt x y
end
mutual
def dcm : PyData → PyData → Bool
  | .int _, .int _ => true
  | .str _, .str _ => true
  | .tuple xs, .tuple ys => dcms xs ys
  | _, _ => false
def dcms : List PyData → List PyData → Bool
  | x :: xs, y :: ys => dcm x y && dcms xs ys
  | _, _ => true
end
def insB (lt : PyData → PyData → Bool) (x : PyData) : List PyData → List PyData
  | [] => [x]
  | y :: ys => if lt x y then x :: y :: ys else y :: insB lt x ys
/-- sorted, stable -/
def isort (lt : PyData → PyData → Bool) : List PyData → List PyData
  | [] => []
  | x :: xs => insB (fun a b => !lt b a) x (isort lt xs)
def sumInts : List W → Option Int
  | [] => some 0
  | w :: ws => (asInt w).bind fun i => (sumInts ws).map (i + ·)
def bools : List W → Option (List Bool)
  | [] => some []
  | w :: ws => (asBool w).bind fun i => (bools ws).map (i :: ·)
/-- by HandS's own cut -/
def cutL {α : Type} (xs : List α) (lo hi : Option Int) : List α := (xs.drop (HT.sIx xs.length 0 lo)).take (HT.sIx xs.length xs.length hi - HT.sIx xs.length 0 lo)
def aset {β : Type} (l : List (PyData × β)) (k : PyData) (v : β) : List (PyData × β) :=
  match l with
  | [] => [(k, v)]
  | (k', v') :: r => if PyData.eqv k' k then (k', v) :: r else (k', v') :: aset r k v
def aget {β : Type} (l : List (PyData × β)) (k : PyData) : Option β :=
  match l with
  | [] => none
  | (k', v') :: r => if PyData.eqv k' k then some v' else aget r k
def pureD : W → Option PyData
  | .v d => some d
  | _ => none
@[simp] theorem pureD_v (d : PyData) : pureD (.v d) = some d := rfl

/-! ### operations on values -/
/-- a binary operation: the value, whether it is new -/
def bop (op : Bo) (a b : W) (S : Sto) : Option (W × Bool) :=
  match op, a, b with
  | .add, .v (.int i), .v (.int j) => some (.v (.int (i + j)), false)
  | .sub, .v (.int i), .v (.int j) => some (.v (.int (i - j)), false)
  | .mul, .v (.int i), .v (.int j) => if small i || small j || (wide i && wide j) then some (.v (.int (i * j)), false) else none
  | .fdiv, .v (.int i), .v (.int j) => if decide (0 < j) && wide j then some (.v (.int (i / j)), false) else none
  | .mod, .v (.int i), .v (.int j) => if decide (0 < j) then some (.v (.int (i % j)), false) else none
  | .pow, .v (.int i), .v (.int j) => if decide (0 ≤ j ∧ j ≤ 4000) && wide i then some (.v (.int (i ^ j.toNat)), false) else none
  | .add, .v (.str x), .v (.str y) => if x.length + y.length ≤ LIM then some (.v (.str (x ++ y)), false) else none
  | .add, a, b =>
    match items a S, items b S with
    | some (true, xs), some (true, ys) => if xs.length + ys.length ≤ LIM then some (mkSeq true (xs ++ ys), false) else none
    | some (false, xs), some (false, ys) => if !roW a && !roW b && decide (xs.length + ys.length ≤ LIM) then some (mkSeq false (xs ++ ys), true) else none
    | _, _ => none
  | .mul, a, .v (.int k) =>
    match items a S with
    | some (false, xs) => if !roW a && decide (-1000000 ≤ k ∧ k ≤ 1000000) && decide (xs.length * k.toNat ≤ LIM) then some (mkSeq false (List.replicate k.toNat xs).flatten, true) else none
    | some (true, xs) => if k = 1 then some (mkSeq true xs, false) else if !xs.isEmpty && decide (2 ≤ k ∧ k ≤ 1000 ∧ xs.length ≤ 1000) then some (mkSeq true (List.replicate k.toNat xs).flatten, false) else none
    | none => none
  | _, _, _ => none
/-- == of data -/
def eqW (a b : W) (S : Sto) : Option Bool :=
  let d (w : W) : Option PyData := match w with
    | .v d => some d
    | .loc _ => (items w S).bind fun p => (allV p.2).map fun ds => .list ds
    | _ => none
  (d a).bind fun x => (d b).bind fun y => if okD x y then some (PyData.eqv x y) else none
def ltW : W → W → Option Bool
  | .v x, .v y => if okD x y && dcm x y then some (dlt x y) else none
  | _, _ => none
def memW (a b : W) (S : Sto) : Option Bool :=
  match pureD a with
  | none => none
  | some x =>
    match b with
    | .v (.str z) => match x with | .str y => some (!(Builtin.Str.occurrences z y 0 z.length 1).isEmpty) | _ => none
    | b => (items b S).bind fun p => (allV p.2).bind fun ds => if okM x ds then some (ds.any fun z => PyData.eqv z x) else none
def isNone : W → Bool
  | .v .none => true
  | _ => false
def cop (op : Co) (a b : W) (S : Sto) : Option Bool :=
  match op with
  | .eq => eqW a b S
  | .ne => (eqW a b S).map (!·)
  | .lt => ltW a b
  | .gt => match a, b with | .v (.int i), .v (.int j) => some (decide (j < i)) | _, _ => none
  | .le => match a, b with | .v (.int i), .v (.int j) => some (decide (i ≤ j)) | _, _ => none
  | .ge => match a, b with | .v (.int i), .v (.int j) => some (decide (j ≤ i)) | _, _ => none
  | .is => if isNone b then some (isNone a) else none
  | .isn => if isNone b then some (!isNone a) else none
  | .mem => memW a b S
  | .nmem => (memW a b S).map (!·)
def ixW (a b : W) (S : Sto) : Option W :=
  match a, b with
  | .v (.str z), .v (.int i) => if z.length ≤ LIM then (L2.atI z.cps.toList i).map fun c => .v (.str ⟨#[c]⟩) else none
  | .loc l, b => match S[l]? with
    | some (.dic _) => none
    | some (.ins _ _) => none
    | _ => (lstAt S l).bind fun ws => (asInt b).bind fun i => L2.atI ws i
  | a, .v (.int i) => (items a S).bind fun p => L2.atI p.2 i
  | _, _ => none
def isNilE : Ex → Bool
  | .nil => true
  | _ => false
/-- a bound of a slice: left out, or an int -/
def bndE (e : Ex) (w : W) : Option (Option Int) := if isNilE e then some none else (asInt w).map some
def slW (a : W) (lo hi : Option Int) (S : Sto) : Option (W × Bool) :=
  match a with
  | .v (.str z) => if z.length ≤ LIM then some (.v (.str (L2.cutS z lo hi)), false) else none
  | a => (items a S).map fun p => (mkSeq p.1 (cutL p.2 lo hi), !p.1)
def tyOf : W → Sto → Option Ty
  | .v (.int _), _ => some .int
  | .v (.bool _), _ => some .bool
  | .v (.str _), _ => some .str
  | .v (.tuple _), _ => some .tuple
  | .v (.list _), _ => some .list
  | .seq t _, _ => some (if t then .tuple else .list)
  | .ro _, _ => some .list
  | .loc l, S => (lstAt S l).map fun _ => .list
  | _, _ => none
def isNoneTy : W → Bool
  | .v .none => true
  | .v (.dict _) => false
  | _ => false
def isTy (w : W) (S : Sto) (t : Ty) : Option Bool :=
  match tyOf w S with
  | some t' => some (t == t' || (t == .int && t' == .bool))
  | none => if isNone w then some false else none
def isTys (w : W) (S : Sto) : List Ty → Option Bool
  | [] => some false
  | t :: ts => (isTy w S t).bind fun b => (isTys w S ts).map (b || ·)
def lenW (a : W) (S : Sto) : Option Int :=
  match a with
  | .v (.str z) => if z.length ≤ LIM then some z.length else none
  | .set _ => none
  | .loc l => match S[l]? with
    | some (.dic _) => none
    | some (.ins _ _) => none
    | _ => (lstAt S l).map fun ws => (ws.length : Int)
  | a => (items a S).map fun p => (p.2.length : Int)
def least (lt : PyData → PyData → Bool) : PyData → List PyData → PyData
  | m, [] => m
  | m, x :: xs => least lt (if lt x m then x else m) xs
def isIntD : PyData → Bool
  | .int _ => true
  | _ => false
def allCm (ds : List PyData) : Bool := ds.all isIntD
/-- the first item of a tuple: int, text, tuple -/
def headK (k : Nat) : PyData → Bool
  | .tuple (.int _ :: _) => k == 0
  | .tuple (.str _ :: _) => k == 1
  | .tuple (.tuple _ :: _) => k == 2
  | _ => false
def hdOk (ds : List PyData) (k : Nat) : Bool := ds.all (headK k)
def dep50 (d : PyData) : Bool := decide (d.depth ≤ 50)
def cmAll (ds : List PyData) : Bool := ds.all fun d => ds.all fun e => dcm d e
/-- data that sorted takes: ints, or tuples that compare -/
def srtOk (ds : List PyData) : Bool :=
  ds.all isIntD || ((hdOk ds 0 || hdOk ds 1 || hdOk ds 2) && cmAll ds && ds.all PyData.canLay0 && ds.all dep50)
/-- min, max of data: the first least, the first greatest -/
def bestOf (mx : Bool) (ds : List PyData) : Option PyData :=
  match ds with
  | [] => none
  | d :: r => if allCm ds then some (least (if mx then fun x m => dlt m x else fun x m => dlt x m) d r) else none
def dataOf (a : W) (S : Sto) : Option (List PyData) := (items a S).bind fun p => allV p.2
def biF (b : Bi) (ws : List W) (S : Sto) : Option (W × Bool) :=
  match b, ws with
  | .len, [a] => (lenW a S).map fun n => (.v (.int n), false)
  | .sum, [a] => (items a S).bind fun p => if p.1 then none else (sumInts p.2).map fun n => (.v (.int n), false)
  | .all, [a] => (items a S).bind fun p => if p.1 then none else (bools p.2).map fun bs => (.v (.bool (bs.all id)), false)
  | .any, [a] => (items a S).bind fun p => if p.1 then none else (bools p.2).map fun bs => (.v (.bool (bs.any id)), false)
  | .abs, [.v (.int i)] => some (.v (.int (if i < 0 then -i else i)), false)
  | .int, [.v (.int i)] => some (.v (.int i), false)
  | .int, [.v (.bool b)] => some (.v (.int (if b then 1 else 0)), false)
  | .tuple, [a] => (items a S).map fun p => (mkSeq true p.2, false)
  | .list, [.rng _ _] => none
  | .list, [a] => (items a S).map fun p => (mkSeq false p.2, true)
  | .min2, [.v (.int i), .v (.int j)] => some (.v (.int (if j < i then j else i)), false)
  | .max2, [.v (.int i), .v (.int j)] => some (.v (.int (if j > i then j else i)), false)
  | .min1, [a] => (dataOf a S).bind fun ds => (bestOf false ds).map fun d => (.v d, false)
  | .max1, [a] => (dataOf a S).bind fun ds => (bestOf true ds).map fun d => (.v d, false)
  | .sorted, [a] => (dataOf a S).bind fun ds => if srtOk ds then some (.v (.list (isort dlt ds)), true) else none
  | _, _ => none
def setAt (l : Nat) (o : Ob) (S : Sto) : Sto := S.set l o
/-- a method of a built-in type: the value, whether it is new, the store -/
def mtF (m : Mt) (o : W) (ws : List W) (S : Sto) : Option (W × Bool × Sto) :=
  match m, o, ws with
  | .append, .loc l, [w] => match S[l]? with
    | some (.lst xs) => if xs.length < LIM then some (.v .none, false, S.set l (.lst (xs ++ [w]))) else none
    | _ => none
  | .extend, .loc l, [w] => match S[l]? with
    | some (.lst xs) => (match items w S with
      | some (false, ys) => if !roW w && decide (xs.length + ys.length ≤ LIM) then some (.v .none, false, S.set l (.lst (xs ++ ys))) else none
      | _ => none)
    | _ => none
  | _, _, _ => none
/-- an item of a list of the store -/
def ixL (a b : W) (S : Sto) : Option W :=
  match a with
  | .loc l => (lstAt S l).bind fun ws => (asInt b).bind fun i => L2.atI ws i
  | _ => none
/-- whose method it is -/
def mtK (m : Mt) (w : W) (S : Sto) : Option Unit :=
  match m, w with
  | .append, .loc l => (lstAt S l).map fun _ => ()
  | .extend, .loc l => (lstAt S l).map fun _ => ()
  | _, _ => none
/-- o[i] = w -/
def setW (o i w : W) (S : Sto) : Option Sto :=
  match o with
  | .loc l => match S[l]? with
    | some (.lst xs) => (asInt i).bind fun k => (L2.ixN xs.length k).map fun j => S.set l (.lst (xs.set j w))
    | _ => none
  | _ => none
/-! ### targets -/
mutual
def bindT : Tgt → W → Env → Option Env
  | .nm i, w, ρ => some (ρ.set i (some w))
  | .tup ts, w, ρ => match w with
    | .v (.tuple ds) => bindTs ts (ds.map W.v) ρ
    | .seq true ws => bindTs ts ws ρ
    | _ => none
def bindTs : List Tgt → List W → Env → Option Env
  | [], [], ρ => some ρ
  | t :: ts, w :: ws, ρ => (bindT t w ρ).bind fun ρ' => bindTs ts ws ρ'
  | _, _, _ => none
end
def wipeE (ρ : Env) : List Nat → Env
  | [] => ρ
  | v :: vs => (wipeE ρ vs).set v none
/-- a comprehension's walk -/
def lcLoop (f : W → Sto → R (List W)) : List W → Sto → R (List W)
  | [], S => .ok [] S
  | x :: xs, S => (f x S).bind fun ys S1 => (lcLoop f xs S1).bind fun ws S2 => .ok (ys ++ ws) S2
def idxL {α : Type} : Nat → List α → List (Nat × α)
  | _, [] => []
  | i, x :: xs => (i, x) :: idxL (i + 1) xs
def placeGo {α : Type} (L : List (Nat × α)) : Nat → Nat → List α
  | 0, _ => []
  | n + 1, i => match L.lookup i with
    | some v => v :: placeGo L n (i + 1)
    | none => placeGo L n (i + 1)
/-- positional values, then keywords' ones by their place -/
def place {α : Type} (us : List α) (kws : List Nat) (ws : List α) : List α := placeGo (idxL 0 us ++ kws.zip ws) (us.length + ws.length) 0
abbrev CallS := Nat → List W → Sto → R (W × Bool)
def unboxW (w : W) (fr : Bool) (S : Sto) : Option (W × Bool) :=
  match w with
  | .v d => some (.v d, fr)
  | .fn f => some (.fn f, false)
  | .loc l => match S[l]? with
    | some (.lst ws) => (allV ws).map fun ds => (.v (.list ds), true)
    | _ => none
  | _ => none
/-- a call: of pure arguments over an empty store; shared: over this one -/
def callR (C : CallS) (sh : Bool) (f : Nat) (ws : List W) (S : Sto) : R (W × Bool) :=
  if sh then C f ws S else
  match allV ws with
  | none => .bad
  | some _ => match C f ws [] with
    | .ok (w, fr) S1 => R.of (unboxW w fr S1) S
    | .exc e _ => .exc e S
    | .bad => .bad
end Pd
set_option Elab.async false
set_option linter.all false
set_option maxRecDepth 100000
/-! Pd2: the evaluator. -/
namespace Pd
open PySem
/-- while a list of the store is walked it is locked -/
def lockAt (w : W) (S : Sto) : Option Nat × Sto :=
  match w with
  | .loc l => match S[l]? with
    | some (.lst ws) => (some l, S.set l (.fz ws))
    | _ => (none, S)
  | _ => (none, S)
def unlock (o : Option Nat) (S : Sto) : Sto :=
  match o with
  | none => S
  | some l => match S[l]? with
    | some (.fz ws) => S.set l (.lst ws)
    | _ => S
@[simp] theorem unlock_none (S : Sto) : unlock none S = S := rfl
@[simp] theorem lockAt_v (d : PyData) (S : Sto) : lockAt (.v d) S = (none, S) := rfl
@[simp] theorem lockAt_seq (t : Bool) (ws : List W) (S : Sto) : lockAt (.seq t ws) S = (none, S) := rfl
def R.sto {α : Type} (r : R α) (f : Sto → Sto) : R α :=
  match r with
  | .ok a S => .ok a (f S)
  | .exc e S => .exc e (f S)
  | .bad => .bad
@[simp] theorem R.sto_ok {α : Type} (a : α) (S : Sto) (f : Sto → Sto) : (R.ok a S).sto f = .ok a (f S) := rfl
@[simp] theorem R.sto_exc {α : Type} (a : Exn) (S : Sto) (f : Sto → Sto) : (R.exc a S : R α).sto f = .exc a (f S) := rfl
@[simp] theorem R.sto_bad {α : Type} (f : Sto → Sto) : (R.bad : R α).sto f = .bad := rfl
def zipW : List W → List W → List W
  | x :: xs, y :: ys => mkSeq true [x, y] :: zipW xs ys
  | _, _ => []
def enumW : Nat → List W → List W
  | _, [] => []
  | n, x :: xs => mkSeq true [.v (.int n), x] :: enumW (n + 1) xs
def rngL (lo : Int) (n : Nat) : List W := (List.range n).map fun (i : Nat) => W.v (.int (lo + i))
/-- a step's turns: lo, lo + c, .. before hi -/
def turns (lo hi c : Int) : Nat := (Builtin.Range.rangeSize lo hi c).toNat
def rngC (lo c : Int) (n : Nat) : List W := (List.range n).map fun (i : Nat) => W.v (.int (lo + i * c))
def inR (i : Int) : Bool := decide (-1000000000 ≤ i ∧ i ≤ 1000000000)

/-- a turn of a comprehension -/
def lcStep (tg : Tgt) (ρ : Env) (own : List Nat) (t : Env → Sto → R Bool) (g : Env → Sto → R (List W)) (w : W) (S : Sto) : R (List W) :=
  match bindT tg w (wipeE ρ own) with
  | none => .bad
  | some ρ1 => (t ρ1 S).bind fun b S2 => if b then g ρ1 S2 else .ok [] S2
def isLoc : W → Bool
  | .loc _ => true
  | _ => false
mutual
def evE (C : CallS) : Ex → Env → Sto → R (W × Bool)
  | .nm i, ρ, S => match ρ[i]? with | some (some w) => .ok (w, false) S | _ => .bad
  | .cst d, _, S => .ok (.v d, false) S
  | .glb _ d, _, S => .ok (.v d, false) S
  | .fnv f, _, S => .ok (.fn f, false) S
  | .bin op a b, ρ, S => (evE C a ρ S).bind fun x S1 => (evE C b ρ S1).bind fun y S2 => R.of (bop op x.1 y.1 S2) S2
  | .neg a, ρ, S => (evE C a ρ S).bind fun x S1 => R.of ((asInt x.1).map fun i => (W.v (.int (-i)), false)) S1
  | .and a b, ρ, S => (evE C a ρ S).bind fun x S1 => (R.of (asBool x.1) S1).bind fun t S1 => if t then evE C b ρ S1 else .ok (.v (.bool false), false) S1
  | .or a b, ρ, S => (evE C a ρ S).bind fun x S1 => (R.of (asBool x.1) S1).bind fun t S1 => if t then .ok (.v (.bool true), false) S1 else evE C b ρ S1
  | .not a, ρ, S => (evE C a ρ S).bind fun x S1 => (R.of (asBool x.1) S1).bind fun t S1 => .ok (.v (.bool (!t)), false) S1
  | .cmp op a b, ρ, S => (evE C a ρ S).bind fun x S1 => (evE C b ρ S1).bind fun y S2 => R.of ((cop op x.1 y.1 S2).map fun t => (W.v (.bool t), false)) S2
  | .chain op op' a b c, ρ, S => (evE C a ρ S).bind fun x S1 => (evE C b ρ S1).bind fun y S2 => (R.of (cop op x.1 y.1 S2) S2).bind fun t S2 =>
      if t then (evE C c ρ S2).bind fun z S3 => R.of ((cop op' y.1 z.1 S3).map fun t => (W.v (.bool t), false)) S3 else .ok (.v (.bool false), false) S2
  | .ite c a b, ρ, S => (evE C c ρ S).bind fun x S1 => (R.of (asBool x.1) S1).bind fun t S1 => if t then evE C a ρ S1 else evE C b ρ S1
  | .call sh f args, ρ, S => (evEs C args ρ S).bind fun ws S1 => callR C sh f ws S1
  | .callK sh f args kws vals, ρ, S => (evEs C args ρ S).bind fun ws S1 => (evEs C vals ρ S1).bind fun us S2 => callR C sh f (place ws kws us) S2
  | .blt b args, ρ, S => (evEs C args ρ S).bind fun ws S1 => R.of (biF b ws S1) S1
  | .dflt mx a d, ρ, S => (evE C a ρ S).bind fun x S1 => (evE C d ρ S1).bind fun y S2 => R.of ((dataOf x.1 S2).bind fun ds => if ds.isEmpty then some (y.1, false) else (bestOf mx ds).map fun d => (W.v d, false)) S2
  | .isi e tys _, ρ, S => (evE C e ρ S).bind fun x S1 => R.of ((isTys x.1 S1 tys).map fun t => (W.v (.bool t), false)) S1
  | .mth m o args, ρ, S => (evE C o ρ S).bind fun x S1 => (R.of (mtK m x.1 S1) S1).bind fun _ S1 => (evEs C args ρ S1).bind fun ws S2 => (R.of (mtF m x.1 ws S2) S2).bind fun r _ => .ok (r.1, r.2.1) r.2.2
  | .ix a b, ρ, S => (evE C a ρ S).bind fun x S1 => (evE C b ρ S1).bind fun y S2 => R.of ((ixW x.1 y.1 S2).map fun w => (w, false)) S2
  | .sl a lo hi, ρ, S => (evE C a ρ S).bind fun x S1 => (evE C lo ρ S1).bind fun l S2 => (R.of (bndE lo l.1) S2).bind fun l' S2 => (evE C hi ρ S2).bind fun h S3 =>
      R.of ((bndE hi h.1).bind fun h' => slW x.1 l' h' S3) S3
  | .slr a, ρ, S => (evE C a ρ S).bind fun x S1 => R.of ((items x.1 S1).map fun p => (mkSeq p.1 p.2.reverse, !p.1)) S1
  | .nil, _, S => .ok (.v .none, false) S
  | .tup es, ρ, S => (evEs C es ρ S).bind fun ws S1 => .ok (mkSeq true ws, false) S1
  | .lst es, ρ, S => (evEs C es ρ S).bind fun ws S1 => .ok (mkSeq false ws, true) S1
  | .rng1 a, ρ, S => (evE C a ρ S).bind fun x S1 => R.of ((asInt x.1).bind fun n => if inR n then some (W.rng 0 n, false) else none) S1
  | .rng2 a b, ρ, S => (evE C a ρ S).bind fun x S1 => (evE C b ρ S1).bind fun y S2 => R.of ((asInt x.1).bind fun n => (asInt y.1).bind fun m => if inR n && inR m then some (W.rng n m, false) else none) S2
  | .lc elt tg it cs own, ρ, S => (evI C it ρ S).bind fun p S1 =>
      ((lcLoop (lcStep tg ρ own (evCs C cs) fun ρ1 S2 => (evE C elt ρ1 S2).bind fun y S3 => .ok [y.1] S3) p.1 S1).calm.sto (unlock p.2)).bind fun ws S2 => .ok (mkSeq false ws, true) S2
  | .lc2 elt tg it cs tg1 it1 cs1 own own1, ρ, S => (evI C it ρ S).bind fun p S1 =>
      ((lcLoop (lcStep tg ρ own (evCs C cs) fun ρ1 S2 => (evI C it1 ρ1 S2).bind fun q S3 =>
        (lcLoop (lcStep tg1 ρ1 own1 (evCs C cs1) fun ρ2 S4 => (evE C elt ρ2 S4).bind fun y S5 => .ok [y.1] S5) q.1 S3).sto (unlock q.2)) p.1 S1).calm.sto (unlock p.2)).bind fun ws S2 =>
      if ws.length ≤ LIM then .ok (mkSeq false ws, true) S2 else .bad
  | .box e, ρ, S => (evE C e ρ S).bind fun x S1 => match x with
      | (.v (.list ds), true) => .ok (.loc S1.length, false) (S1 ++ [.lst (ds.map W.v)])
      | (.seq false ws, true) => .ok (.loc S1.length, false) (S1 ++ [.lst ws])
      | _ => .bad
def evEs (C : CallS) : Exs → Env → Sto → R (List W)
  | .nil, _, S => .ok [] S
  | .cons e es, ρ, S => (evE C e ρ S).bind fun x S1 => (evEs C es ρ S1).bind fun ws S2 => .ok (x.1 :: ws) S2
/-- the tests of a comprehension -/
def evCs (C : CallS) : Exs → Env → Sto → R Bool
  | .nil, _, S => .ok true S
  | .cons e es, ρ, S => (evE C e ρ S).bind fun x S1 => (R.of (asBool x.1) S1).bind fun t S1 => if t then evCs C es ρ S1 else .ok false S1
/-- the items that are walked, the list that is locked meanwhile -/
def evI (C : CallS) : It → Env → Sto → R (List W × Option Nat)
  | .seq e, ρ, S => (evE C e ρ S).bind fun x S1 => (R.of (items x.1 S1) S1).bind fun p S1 => .ok (p.2, (lockAt x.1 S1).1) (lockAt x.1 S1).2
  | .rng1 a, ρ, S => (evE C a ρ S).bind fun x S1 => R.of ((asInt x.1).bind fun n => if decide (n ≤ LIM) && inR n then some (rngL 0 n.toNat, none) else none) S1
  | .rng2 a b, ρ, S => (evE C a ρ S).bind fun x S1 => (evE C b ρ S1).bind fun y S2 => R.of ((asInt x.1).bind fun n => (asInt y.1).bind fun m =>
      if decide (m - n ≤ LIM) && inR n && inR m then some (rngL n (m - n).toNat, none) else none) S2
  | .rng3 a b c, ρ, S => (evE C a ρ S).bind fun x S1 => (evE C b ρ S1).bind fun y S2 => (evE C c ρ S2).bind fun z S3 => R.of ((asInt x.1).bind fun n => (asInt y.1).bind fun m => (asInt z.1).bind fun k =>
      if decide (turns n m k ≤ LIM) && Builtin.Range.small n m k && decide (k ≠ 0 ∧ k.natAbs < 1073741824) then some (rngC n k (turns n m k), none) else none) S3
  | .zip a b, ρ, S => (evE C a ρ S).bind fun x S1 => (evE C b ρ S1).bind fun y S2 => (R.of (items x.1 S2) S2).bind fun p S2 => (R.of (items y.1 S2) S2).bind fun q S2 =>
      if isLoc x.1 || isLoc y.1 || p.1 != q.1 then .bad else .ok (zipW p.2 q.2, none) S2
  | .enum e, ρ, S => (evE C e ρ S).bind fun x S1 => (R.of (items x.1 S1) S1).bind fun p S1 => .ok (enumW 0 p.2, (lockAt x.1 S1).1) (lockAt x.1 S1).2
end
/-- where a statement ends -/
inductive Out where
  | next (ρ : Env) | ret (w : W) (fr : Bool) | brk (ρ : Env) | cont (ρ : Env) | exc (e : Exn) (ρ : Env)
/-- an expression's exception is the statement's -/
def R.stm {α : Type} (r : R α) (ρ : Env) (f : α → Sto → R Out) : R Out :=
  match r with
  | .ok a S => f a S
  | .exc e S => .ok (.exc e ρ) S
  | .bad => .bad
@[simp] theorem R.stm_ok {α : Type} (a : α) (S : Sto) (ρ : Env) (f : α → Sto → R Out) : (R.ok a S).stm ρ f = f a S := rfl
@[simp] theorem R.stm_exc {α : Type} (e : Exn) (S : Sto) (ρ : Env) (f : α → Sto → R Out) : (R.exc e S : R α).stm ρ f = .ok (.exc e ρ) S := rfl
@[simp] theorem R.stm_bad {α : Type} (ρ : Env) (f : α → Sto → R Out) : (R.bad : R α).stm ρ f = .bad := rfl
def forLoop (f : W → Env → Sto → R Out) : List W → Env → Sto → R Out
  | [], ρ, S => .ok (.next ρ) S
  | x :: xs, ρ, S => (f x ρ S).bind fun o S1 => match o with
    | .next ρ1 => forLoop f xs ρ1 S1
    | .cont ρ1 => forLoop f xs ρ1 S1
    | .brk ρ1 => .ok (.next ρ1) S1
    | o => .ok o S1
def whLoop (c : Env → Sto → R (W × Bool)) (f : Env → Sto → R Out) : Nat → Env → Sto → R Out
  | 0, _, _ => .bad
  | n + 1, ρ, S => (c ρ S).stm ρ fun x S1 => (R.of (asBool x.1) S1).stm ρ fun t S1 => if t then (f ρ S1).bind fun o S2 => (match o with
    | .next ρ1 => whLoop c f n ρ1 S2
    | .cont ρ1 => whLoop c f n ρ1 S2
    | .brk ρ1 => .ok (.next ρ1) S2
    | o => .ok o S2) else .ok (.next ρ) S1
def setNs : List Nat → List W → Env → Option Env
  | [], [], ρ => some ρ
  | i :: is, w :: ws, ρ => setNs is ws (ρ.set i (some w))
  | _, _, _ => none
mutual
/-- n: turns of a while; sub: whether a class of errors is of the kind of another one; own: a class that keeps a field -/
def evS (C : CallS) (n : Nat) (sub : Nat → Nat → Option Bool) (keeps : Nat → Bool) : Stm → Env → Sto → R Out
  | .asg t e, ρ, S => (evE C e ρ S).stm ρ fun x S1 => (R.of (bindT t x.1 ρ) S1).stm ρ fun ρ1 S1 => .ok (.next ρ1) S1
  | .par is es, ρ, S => (evEs C es ρ S).stm ρ fun ws S1 => (R.of (setNs is ws ρ) S1).stm ρ fun ρ1 S1 => .ok (.next ρ1) S1
  | .aug op i e, ρ, S => match ρ[i]? with
    | some (some x) => (evE C e ρ S).stm ρ fun y S1 => match x, y.1 with
      | .v (.int _), .v (.int _) => (R.of (bop op x y.1 S1) S1).stm ρ fun z S1 => .ok (.next (ρ.set i (some z.1))) S1
      | _, _ => .bad
    | _ => .bad
  | .asgS o i e, ρ, S => (evE C e ρ S).stm ρ fun z S1 => (evE C o ρ S1).stm ρ fun x S2 => (evE C i ρ S2).stm ρ fun y S3 => (R.of (setW x.1 y.1 z.1 S3) S3).stm ρ fun S4 _ => .ok (.next ρ) S4
  | .augS op o i e, ρ, S => (evE C o ρ S).stm ρ fun x S1 => (evE C i ρ S1).stm ρ fun y S2 => (R.of (ixL x.1 y.1 S2) S2).stm ρ fun v S2 => (evE C e ρ S2).stm ρ fun z S3 =>
      match v, z.1 with
      | .v (.int _), .v (.int _) => (R.of (bop op v z.1 S3) S3).stm ρ fun u S3 => (R.of (setW x.1 y.1 u.1 S3) S3).stm ρ fun S4 _ => .ok (.next ρ) S4
      | _, _ => .bad
  | .expr e, ρ, S => (evE C e ρ S).stm ρ fun _ S1 => .ok (.next ρ) S1
  | .ifs c a b, ρ, S => (evE C c ρ S).stm ρ fun x S1 => (R.of (asBool x.1) S1).stm ρ fun t S1 => if t then evSs C n sub keeps a ρ S1 else evSs C n sub keeps b ρ S1
  | .fors t it b, ρ, S => (evI C it ρ S).stm ρ fun p S1 =>
      (forLoop (fun w ρ S => match bindT t w ρ with | none => .bad | some ρ1 => evSs C n sub keeps b ρ1 S) p.1 ρ S1).sto (unlock p.2)
  | .whl c b, ρ, S => whLoop (evE C c) (evSs C n sub keeps b) n ρ S
  | .ret e, ρ, S => (evE C e ρ S).stm ρ fun x S1 => .ok (.ret x.1 x.2) S1
  | .retN, _, S => .ok (.ret (.v .none) false) S
  | .raise c a, ρ, S => (evE C a ρ S).stm ρ fun x S1 => (R.of (pureD x.1) S1).stm ρ fun d S1 => .ok (.exc ⟨c, if keeps c then some d else none⟩ ρ) S1
  | .tryS b hs, ρ, S => (evSs C n sub keeps b ρ S).bind fun o S1 => match o with
    | .exc e ρ1 => evHs C n sub keeps hs e ρ1 S1
    | o => .ok o S1
  | .brk, ρ, S => .ok (.brk ρ) S
  | .cont, ρ, S => .ok (.cont ρ) S
  | .pass, ρ, S => .ok (.next ρ) S
def evSs (C : CallS) (n : Nat) (sub : Nat → Nat → Option Bool) (keeps : Nat → Bool) : Sts → Env → Sto → R Out
  | .nil, ρ, S => .ok (.next ρ) S
  | .cons s ss, ρ, S => (evS C n sub keeps s ρ S).bind fun o S1 => match o with
    | .next ρ1 => evSs C n sub keeps ss ρ1 S1
    | o => .ok o S1
def evHs (C : CallS) (n : Nat) (sub : Nat → Nat → Option Bool) (keeps : Nat → Bool) : Hds → Exn → Env → Sto → R Out
  | .nil, e, ρ, S => .ok (.exc e ρ) S
  | .cons c slot b hs, e, ρ, S => match sub e.cls c, slot with
    | some true, none => evSs C n sub keeps b ρ S
    | some false, none => evHs C n sub keeps hs e ρ S
    | _, _ => .bad
end
/-- a program: its defs, its errors -/
structure Prg where
  fd : Nat → Option Fd
  cs : Nat → Option PyData
  sub : Nat → Nat → Option Bool
  keeps : Nat → Bool
  fuel : Nat
def start (fd : Fd) (ws : List W) : Env := ws.map some ++ List.replicate (fd.ns - ws.length) none
def finish (r : R Out) : R (W × Bool) :=
  match r with
  | .ok (.next _) S => .ok (.v .none, false) S
  | .ok (.ret w fr) S => .ok (w, fr) S
  | .ok (.exc e _) S => .exc e S
  | _ => .bad
def runF (P : Prg) (C : CallS) : CallS := fun f ws S =>
  match P.fd f with
  | none => .bad
  | some fd => if ws.length = fd.np then finish (evSs C P.fuel P.sub P.keeps fd.body (start fd ws) S) else .bad
/-- calls at a depth -/
def callN (P : Prg) : Nat → CallS
  | 0 => fun _ _ _ => .bad
  | d + 1 => runF P (callN P d)
end Pd
set_option Elab.async false
set_option linter.all false
set_option maxRecDepth 100000
set_option maxHeartbeats 1000000
/-! Pd2k: what is locked stays as it is. -/
namespace Pd
open PySem
def Kp (S S' : Sto) : Prop := ∀ (l : Nat) (u : List W), S[l]? = some (Ob.fz u) → S'[l]? = some (Ob.fz u)
theorem Kp.refl (S : Sto) : Kp S S := fun _ _ h => h
theorem Kp.trans {S S1 S2 : Sto} (a : Kp S S1) (b : Kp S1 S2) : Kp S S2 := fun l u h => b l u (a l u h)
def KR {α : Type} (S : Sto) : R α → Prop
  | .ok _ S' => Kp S S'
  | .exc _ S' => Kp S S'
  | .bad => True
theorem KR.bind {α β : Type} {S : Sto} {r : R α} {f : α → Sto → R β} (h : KR S r) (k : ∀ a S1, KR S1 (f a S1)) : KR S (r.bind f) := by
  cases r with
  | ok a S1 =>
    have q := k a S1
    show KR S (f a S1)
    cases e : f a S1 with
    | ok b S2 => rw [e] at q; exact Kp.trans h q
    | exc b S2 => rw [e] at q; exact Kp.trans h q
    | bad => trivial
  | exc e S1 => exact h
  | bad => trivial
theorem KR.of {α : Type} (o : Option α) (S : Sto) : KR S (R.of o S) := by cases o <;> first | trivial | exact Kp.refl S
theorem R.bind_assoc' {α β γ : Type} {r : R α} {f : α → Sto → R β} {g : β → Sto → R γ} : (r.bind f).bind g = r.bind fun a S => (f a S).bind g := by cases r <;> rfl
theorem KR.ok {α : Type} (a : α) (S : Sto) : KR S (R.ok a S) := Kp.refl S
theorem KR.exc {α : Type} (a : Exn) (S : Sto) : KR S (R.exc a S : R α) := Kp.refl S
theorem KR.bad {α : Type} (S : Sto) : KR S (R.bad : R α) := trivial
theorem KR.calm {α : Type} {S : Sto} {r : R α} (h : KR S r) : KR S r.calm := by cases r <;> first | exact h | trivial
theorem KR.stm {α : Type} {S : Sto} {r : R α} {ρ : Env} {f : α → Sto → R Out} (h : KR S r) (k : ∀ a S1, KR S1 (f a S1)) : KR S (r.stm ρ f) := by
  cases r with
  | ok a S1 => exact KR.bind (r := .ok a S1) h k
  | exc e S1 => exact h
  | bad => trivial
/-- locking, then a walk, then unlocking -/
theorem lock_kp (w : W) (S : Sto) : Kp S (lockAt w S).2 := by
  intro l u h
  unfold lockAt
  split
  · rename_i l'
    split
    · rename_i ws hl
      by_cases e : l' = l
      · subst e; rw [hl] at h; cases h
      · show (S.set l' _)[l]? = _
        rw [List.getElem?_set_ne e]; exact h
    · exact h
  · exact h
theorem lock_unlock (w : W) (S S' : Sto) (h : Kp (lockAt w S).2 S') : Kp S (unlock (lockAt w S).1 S') := by
  intro l u hl
  have h1 := h l u (lock_kp w S l u hl)
  unfold lockAt
  split
  · rename_i l'
    split
    · rename_i ws hw
      show (match S'[l']? with | some (Ob.fz ws) => S'.set l' (.lst ws) | _ => S')[l]? = _
      split
      · by_cases e : l' = l
        · subst e; rw [hw] at hl; cases hl
        · rw [List.getElem?_set_ne e]; exact h1
      · exact h1
    · exact h1
  · exact h1
/-- an iterable: what is locked stays, and unlocking gives back what was -/
def KI (S : Sto) (r : R (List W × Option Nat)) : Prop :=
  match r with
  | .ok p S1 => Kp S S1 ∧ ∀ S', Kp S1 S' → Kp S (unlock p.2 S')
  | .exc _ S1 => Kp S S1
  | .bad => True
theorem KI.bind {α : Type} {S : Sto} {r : R α} {f : α → Sto → R (List W × Option Nat)} (h : KR S r) (k : ∀ a S1, KI S1 (f a S1)) : KI S (r.bind f) := by
  cases r with
  | ok a S1 =>
    have q := k a S1
    show KI S (f a S1)
    cases e : f a S1 with
    | ok b S2 => rw [e] at q; exact ⟨Kp.trans h q.1, fun S' z => Kp.trans h (q.2 S' z)⟩
    | exc b S2 => rw [e] at q; exact Kp.trans h q
    | bad => trivial
  | exc e S1 => exact h
  | bad => trivial
theorem KI.none (ws : List W) (S : Sto) : KI S (.ok (ws, none) S) := ⟨Kp.refl S, fun _ h => h⟩
theorem KI.ofN {S : Sto} {o : Option (List W × Option Nat)} (h : ∀ p, o = some p → p.2 = Option.none) : KI S (R.of o S) := by
  cases o with
  | none => trivial
  | some p => exact ⟨Kp.refl S, fun S' z => by rw [h p rfl]; exact z⟩
theorem KI.walk {β : Type} {S : Sto} {r : R (List W × Option Nat)} {g : (List W × Option Nat) → Sto → R β} (h : KI S r) (k : ∀ p S1, KR S1 (g p S1)) :
    KR S (r.bind fun p S1 => (g p S1).sto (unlock p.2)) := by
  cases r with
  | ok p S1 =>
    have q := k p S1
    show KR S ((g p S1).sto (unlock p.2))
    cases e : g p S1 with
    | ok b S2 => rw [e] at q; exact h.2 _ q
    | exc b S2 => rw [e] at q; exact h.2 _ q
    | bad => trivial
  | exc e S1 => exact h
  | bad => trivial
theorem KI.bound {S : Sto} {r : R (List W × Option Nat)} (h : KI S r) : KR S r := by
  cases r with
  | ok p S1 => exact h.1
  | exc e S1 => exact h
  | bad => trivial
theorem lcLoop_kr {f : W → Sto → R (List W)} (h : ∀ w S, KR S (f w S)) : ∀ (ws : List W) (S : Sto), KR S (lcLoop f ws S)
  | [], S => Kp.refl S
  | w :: ws, S => KR.bind (h w S) fun _ S1 => KR.bind (lcLoop_kr h ws S1) fun _ S2 => KR.ok _ S2
theorem setAt_kp {S : Sto} {l : Nat} {ws : List W} {o : Ob} (h : S[l]? = some (.lst ws)) : Kp S (S.set l o) := by
  intro l' u hl
  by_cases e : l = l'
  · subst e; rw [h] at hl; cases hl
  · rw [List.getElem?_set_ne e]; exact hl
theorem mtF_kp {m : Mt} {o : W} {ws : List W} {S : Sto} {r : W × Bool × Sto} (h : mtF m o ws S = some r) : Kp S r.2.2 := by
  unfold mtF at h
  split at h
  · split at h
    · rename_i hl
      split at h
      · cases h; exact setAt_kp hl
      · cases h
    · cases h
  · split at h
    · rename_i hl
      split at h
      · split at h
        · cases h; exact setAt_kp hl
        · cases h
      · cases h
    · cases h
  · cases h
theorem append_kp (S : Sto) (o : Ob) : Kp S (S ++ [o]) := by
  intro l u h
  have hl := (List.getElem?_eq_some_iff.mp h).1
  rw [List.getElem?_append_left hl]; exact h
theorem callR_kr {C : CallS} (hC : ∀ f ws S, KR S (C f ws S)) (sh : Bool) (f : Nat) (ws : List W) (S : Sto) : KR S (callR C sh f ws S) := by
  unfold callR
  split
  · exact hC f ws S
  · split
    · trivial
    · split
      · exact KR.of _ S
      · exact KR.exc _ S
      · trivial
theorem KR.ite {α : Type} {S : Sto} {c : Prop} [Decidable c] {a b : R α} (ha : KR S a) (hb : KR S b) : KR S (if c then a else b) := by
  split
  · exact ha
  · exact hb
theorem lcStep_kr {tg : Tgt} {ρ : Env} {own : List Nat} {t : Env → Sto → R Bool} {g : Env → Sto → R (List W)} (ht : ∀ ρ S, KR S (t ρ S)) (hg : ∀ ρ S, KR S (g ρ S)) (w : W) (S : Sto) : KR S (lcStep tg ρ own t g w S) := by
  unfold lcStep
  split
  · trivial
  · exact KR.bind (ht _ S) fun b S2 => KR.ite (hg _ S2) (KR.ok _ S2)
mutual
theorem evE_kr {C : CallS} (hC : ∀ f ws S, KR S (C f ws S)) : ∀ (e : Ex) (ρ : Env) (S : Sto), KR S (evE C e ρ S)
  | .nm i, ρ, S => by unfold evE; split <;> first | exact KR.ok _ S | trivial
  | .cst d, ρ, S => KR.ok _ S
  | .glb g d, ρ, S => KR.ok _ S
  | .fnv f, ρ, S => KR.ok _ S
  | .bin op a b, ρ, S => by unfold evE; exact KR.bind (evE_kr hC a ρ S) fun _ S1 => KR.bind (evE_kr hC b ρ S1) fun _ S2 => KR.of _ S2
  | .neg a, ρ, S => by unfold evE; exact KR.bind (evE_kr hC a ρ S) fun _ S1 => KR.of _ S1
  | .and a b, ρ, S => by unfold evE; exact KR.bind (evE_kr hC a ρ S) fun _ S1 => KR.bind (KR.of _ S1) fun _ S2 => KR.ite (evE_kr hC b ρ S2) (KR.ok _ S2)
  | .or a b, ρ, S => by unfold evE; exact KR.bind (evE_kr hC a ρ S) fun _ S1 => KR.bind (KR.of _ S1) fun _ S2 => KR.ite (KR.ok _ S2) (evE_kr hC b ρ S2)
  | .not a, ρ, S => by unfold evE; exact KR.bind (evE_kr hC a ρ S) fun _ S1 => KR.bind (KR.of _ S1) fun _ S2 => KR.ok _ S2
  | .cmp op a b, ρ, S => by unfold evE; exact KR.bind (evE_kr hC a ρ S) fun _ S1 => KR.bind (evE_kr hC b ρ S1) fun _ S2 => KR.of _ S2
  | .chain op op' a b c, ρ, S => by
    unfold evE
    exact KR.bind (evE_kr hC a ρ S) fun _ S1 => KR.bind (evE_kr hC b ρ S1) fun _ S2 => KR.bind (KR.of _ S2) fun _ S2 => KR.ite (KR.bind (evE_kr hC c ρ S2) fun _ S3 => KR.of _ S3) (KR.ok _ S2)
  | .ite c a b, ρ, S => by unfold evE; exact KR.bind (evE_kr hC c ρ S) fun _ S1 => KR.bind (KR.of _ S1) fun _ S2 => KR.ite (evE_kr hC a ρ S2) (evE_kr hC b ρ S2)
  | .call sh f args, ρ, S => by unfold evE; exact KR.bind (evEs_kr hC args ρ S) fun _ S1 => callR_kr hC _ _ _ S1
  | .callK sh f args kws vals, ρ, S => by unfold evE; exact KR.bind (evEs_kr hC args ρ S) fun _ S1 => KR.bind (evEs_kr hC vals ρ S1) fun _ S2 => callR_kr hC _ _ _ S2
  | .blt b args, ρ, S => by unfold evE; exact KR.bind (evEs_kr hC args ρ S) fun _ S1 => KR.of _ S1
  | .dflt mx a d, ρ, S => by unfold evE; exact KR.bind (evE_kr hC a ρ S) fun _ S1 => KR.bind (evE_kr hC d ρ S1) fun _ S2 => KR.of _ S2
  | .isi e tys _, ρ, S => by unfold evE; exact KR.bind (evE_kr hC e ρ S) fun _ S1 => KR.of _ S1
  | .mth m o args, ρ, S => by
    unfold evE
    refine KR.bind (evE_kr hC o ρ S) fun x S1 => KR.bind (KR.of _ S1) fun _ S1 => KR.bind (evEs_kr hC args ρ S1) fun ws S2 => ?_
    cases h : mtF m x.1 ws S2 with
    | none => trivial
    | some r => exact mtF_kp h
  | .ix a b, ρ, S => by unfold evE; exact KR.bind (evE_kr hC a ρ S) fun _ S1 => KR.bind (evE_kr hC b ρ S1) fun _ S2 => KR.of _ S2
  | .sl a lo hi, ρ, S => by
    unfold evE
    exact KR.bind (evE_kr hC a ρ S) fun _ S1 => KR.bind (evE_kr hC lo ρ S1) fun _ S2 => KR.bind (KR.of _ S2) fun _ S2 => KR.bind (evE_kr hC hi ρ S2) fun _ S3 => KR.of _ S3
  | .slr a, ρ, S => by unfold evE; exact KR.bind (evE_kr hC a ρ S) fun _ S1 => KR.of _ S1
  | .nil, ρ, S => KR.ok _ S
  | .tup es, ρ, S => by unfold evE; exact KR.bind (evEs_kr hC es ρ S) fun _ S1 => KR.ok _ S1
  | .lst es, ρ, S => by unfold evE; exact KR.bind (evEs_kr hC es ρ S) fun _ S1 => KR.ok _ S1
  | .rng1 a, ρ, S => by unfold evE; exact KR.bind (evE_kr hC a ρ S) fun _ S1 => KR.of _ S1
  | .rng2 a b, ρ, S => by unfold evE; exact KR.bind (evE_kr hC a ρ S) fun _ S1 => KR.bind (evE_kr hC b ρ S1) fun _ S2 => KR.of _ S2
  | .lc elt tg it cs own, ρ, S => by
    unfold evE
    rw [← R.bind_assoc']
    exact KR.bind (KI.walk (evI_kr hC it ρ S) fun p S1 => KR.calm (lcLoop_kr (lcStep_kr (fun ρ S => evCs_kr hC cs ρ S) fun ρ S => KR.bind (evE_kr hC elt ρ S) fun _ S3 => KR.ok _ S3) _ S1)) fun _ S2 => KR.ok _ S2
  | .lc2 elt tg it cs tg1 it1 cs1 own own1, ρ, S => by
    unfold evE
    rw [← R.bind_assoc']
    exact KR.bind (KI.walk (evI_kr hC it ρ S) fun p S1 => KR.calm (lcLoop_kr (lcStep_kr (fun ρ S => evCs_kr hC cs ρ S) fun ρ S =>
      KI.walk (evI_kr hC it1 ρ S) fun q S3 => lcLoop_kr (lcStep_kr (fun ρ S => evCs_kr hC cs1 ρ S) fun ρ S => KR.bind (evE_kr hC elt ρ S) fun _ S3 => KR.ok _ S3) _ S3) _ S1)) fun _ S2 => KR.ite (KR.ok _ S2) (KR.bad S2)
  | .box e, ρ, S => by
    unfold evE
    refine KR.bind (evE_kr hC e ρ S) fun x S1 => ?_
    split <;> first | exact append_kp S1 _ | trivial
theorem evEs_kr {C : CallS} (hC : ∀ f ws S, KR S (C f ws S)) : ∀ (es : Exs) (ρ : Env) (S : Sto), KR S (evEs C es ρ S)
  | .nil, ρ, S => KR.ok _ S
  | .cons e es, ρ, S => by unfold evEs; exact KR.bind (evE_kr hC e ρ S) fun _ S1 => KR.bind (evEs_kr hC es ρ S1) fun _ S2 => KR.ok _ S2
theorem evCs_kr {C : CallS} (hC : ∀ f ws S, KR S (C f ws S)) : ∀ (es : Exs) (ρ : Env) (S : Sto), KR S (evCs C es ρ S)
  | .nil, ρ, S => KR.ok _ S
  | .cons e es, ρ, S => by unfold evCs; exact KR.bind (evE_kr hC e ρ S) fun _ S1 => KR.bind (KR.of _ S1) fun _ S2 => KR.ite (evCs_kr hC es ρ S2) (KR.ok _ S2)
theorem evI_kr {C : CallS} (hC : ∀ f ws S, KR S (C f ws S)) : ∀ (it : It) (ρ : Env) (S : Sto), KI S (evI C it ρ S)
  | .seq e, ρ, S => by
    unfold evI
    refine KI.bind (evE_kr hC e ρ S) fun x S1 => KI.bind (KR.of _ S1) fun p S1 => ⟨lock_kp x.1 S1, fun S' h => lock_unlock x.1 S1 S' h⟩
  | .rng1 a, ρ, S => by
    unfold evI
    refine KI.bind (evE_kr hC a ρ S) fun x S1 => KI.ofN fun p h => ?_
    cases q : asInt x.1 with
    | none => rw [q] at h; cases h
    | some n => rw [q] at h; simp at h; rw [← h.2]
  | .rng2 a b, ρ, S => by
    unfold evI
    refine KI.bind (evE_kr hC a ρ S) fun x S1 => KI.bind (evE_kr hC b ρ S1) fun y S2 => KI.ofN fun p h => ?_
    cases q : asInt x.1 with
    | none => rw [q] at h; cases h
    | some n =>
      cases q2 : asInt y.1 with
      | none => rw [q, q2] at h; cases h
      | some m => rw [q, q2] at h; simp at h; rw [← h.2]
  | .rng3 a b c, ρ, S => by
    unfold evI
    refine KI.bind (evE_kr hC a ρ S) fun x S1 => KI.bind (evE_kr hC b ρ S1) fun y S2 => KI.bind (evE_kr hC c ρ S2) fun z S3 => KI.ofN fun p h => ?_
    cases q : asInt x.1 with
    | none => rw [q] at h; cases h
    | some n =>
      cases q2 : asInt y.1 with
      | none => rw [q, q2] at h; cases h
      | some m =>
        cases q3 : asInt z.1 with
        | none => rw [q, q2, q3] at h; cases h
        | some m => rw [q, q2, q3] at h; simp at h; rw [← h.2]
  | .zip a b, ρ, S => by
    unfold evI
    refine KI.bind (evE_kr hC a ρ S) fun x S1 => KI.bind (evE_kr hC b ρ S1) fun y S2 => KI.bind (KR.of _ S2) fun p S2 => KI.bind (KR.of _ S2) fun q S2 => ?_
    split
    · trivial
    · exact KI.none _ S2
  | .enum e, ρ, S => by
    unfold evI
    refine KI.bind (evE_kr hC e ρ S) fun x S1 => KI.bind (KR.of _ S1) fun p S1 => ⟨lock_kp x.1 S1, fun S' h => lock_unlock x.1 S1 S' h⟩
end
theorem forLoop_kr {f : W → Env → Sto → R Out} (h : ∀ w ρ S, KR S (f w ρ S)) : ∀ (ws : List W) (ρ : Env) (S : Sto), KR S (forLoop f ws ρ S)
  | [], ρ, S => KR.ok _ S
  | w :: ws, ρ, S => by
    unfold forLoop
    refine KR.bind (h w ρ S) fun o S1 => ?_
    split <;> first | exact forLoop_kr h ws _ S1 | exact KR.ok _ S1
theorem whLoop_kr {c : Env → Sto → R (W × Bool)} {f : Env → Sto → R Out} (hc : ∀ ρ S, KR S (c ρ S)) (h : ∀ ρ S, KR S (f ρ S)) : ∀ (n : Nat) (ρ : Env) (S : Sto), KR S (whLoop c f n ρ S)
  | 0, ρ, S => trivial
  | n + 1, ρ, S => by
    unfold whLoop
    refine KR.stm (hc ρ S) fun x S1 => KR.stm (KR.of _ S1) fun t S1 => KR.ite (KR.bind (h ρ S1) fun o S2 => ?_) (KR.ok _ S1)
    split <;> first | exact whLoop_kr hc h n _ S2 | exact KR.ok _ S2
theorem setW_kp {o i w : W} {S S' : Sto} (h : setW o i w S = some S') : Kp S S' := by
  unfold setW at h
  split at h
  · split at h
    · rename_i hl
      cases hi : asInt i with
      | none => rw [hi] at h; cases h
      | some k =>
        rw [hi] at h
        simp only [Option.bind_some] at h
        rename_i l xs
        cases hj : L2.ixN xs.length k with
        | none => rw [hj] at h; cases h
        | some j => rw [hj] at h; cases h; exact setAt_kp hl
    · cases h
  · cases h
theorem setW_kr {o i w : W} {S : Sto} {ρ : Env} : KR S ((R.of (setW o i w S) S).stm ρ fun S4 _ => R.ok (Out.next ρ) S4) := by
  cases h : setW o i w S with
  | none => trivial
  | some S' => exact setW_kp h
theorem KI.walkS {S : Sto} {r : R (List W × Option Nat)} {ρ : Env} {g : (List W × Option Nat) → Sto → R Out} (h : KI S r) (k : ∀ p S1, KR S1 (g p S1)) :
    KR S (r.stm ρ fun p S1 => (g p S1).sto (unlock p.2)) := by
  cases r with
  | ok p S1 => exact KI.walk (r := .ok p S1) h k
  | exc e S1 => exact h
  | bad => trivial
mutual
theorem evS_kr {C : CallS} (hC : ∀ f ws S, KR S (C f ws S)) (n : Nat) (sub : Nat → Nat → Option Bool) (keeps : Nat → Bool) : ∀ (s : Stm) (ρ : Env) (S : Sto), KR S (evS C n sub keeps s ρ S)
  | .asg t e, ρ, S => by unfold evS; exact KR.stm (evE_kr hC e ρ S) fun _ S1 => KR.stm (KR.of _ S1) fun _ S1 => KR.ok _ S1
  | .par is es, ρ, S => by unfold evS; exact KR.stm (evEs_kr hC es ρ S) fun _ S1 => KR.stm (KR.of _ S1) fun _ S1 => KR.ok _ S1
  | .aug op i e, ρ, S => by
    unfold evS
    split
    · refine KR.stm (evE_kr hC e ρ S) fun y S1 => ?_
      split
      · exact KR.stm (KR.of _ S1) fun _ S1 => KR.ok _ S1
      · trivial
    · trivial
  | .asgS o i e, ρ, S => by
    unfold evS
    exact KR.stm (evE_kr hC e ρ S) fun _ S1 => KR.stm (evE_kr hC o ρ S1) fun _ S2 => KR.stm (evE_kr hC i ρ S2) fun _ S3 => setW_kr
  | .augS op o i e, ρ, S => by
    unfold evS
    refine KR.stm (evE_kr hC o ρ S) fun _ S1 => KR.stm (evE_kr hC i ρ S1) fun _ S2 => KR.stm (KR.of _ S2) fun v S2 => KR.stm (evE_kr hC e ρ S2) fun z S3 => ?_
    split
    · exact KR.stm (KR.of _ S3) fun _ S3 => setW_kr
    · trivial
  | .expr e, ρ, S => by unfold evS; exact KR.stm (evE_kr hC e ρ S) fun _ S1 => KR.ok _ S1
  | .ifs c a b, ρ, S => by unfold evS; exact KR.stm (evE_kr hC c ρ S) fun _ S1 => KR.stm (KR.of _ S1) fun _ S1 => KR.ite (evSs_kr hC n sub keeps a ρ S1) (evSs_kr hC n sub keeps b ρ S1)
  | .fors t it b, ρ, S => by
    unfold evS
    refine KI.walkS (evI_kr hC it ρ S) fun p S1 => forLoop_kr (fun w ρ S => ?_) _ _ S1
    split
    · trivial
    · exact evSs_kr hC n sub keeps b _ S
  | .whl c b, ρ, S => by unfold evS; exact whLoop_kr (fun ρ S => evE_kr hC c ρ S) (fun ρ S => evSs_kr hC n sub keeps b ρ S) _ _ S
  | .ret e, ρ, S => by unfold evS; exact KR.stm (evE_kr hC e ρ S) fun _ S1 => KR.ok _ S1
  | .retN, ρ, S => KR.ok _ S
  | .raise c a, ρ, S => by unfold evS; exact KR.stm (evE_kr hC a ρ S) fun _ S1 => KR.stm (KR.of _ S1) fun _ S1 => KR.ok _ S1
  | .tryS b hs, ρ, S => by
    unfold evS
    refine KR.bind (evSs_kr hC n sub keeps b ρ S) fun o S1 => ?_
    split
    · exact evHs_kr hC n sub keeps hs _ _ S1
    · exact KR.ok _ S1
  | .brk, ρ, S => KR.ok _ S
  | .cont, ρ, S => KR.ok _ S
  | .pass, ρ, S => KR.ok _ S
theorem evSs_kr {C : CallS} (hC : ∀ f ws S, KR S (C f ws S)) (n : Nat) (sub : Nat → Nat → Option Bool) (keeps : Nat → Bool) : ∀ (ss : Sts) (ρ : Env) (S : Sto), KR S (evSs C n sub keeps ss ρ S)
  | .nil, ρ, S => KR.ok _ S
  | .cons s ss, ρ, S => by
    unfold evSs
    refine KR.bind (evS_kr hC n sub keeps s ρ S) fun o S1 => ?_
    split
    · exact evSs_kr hC n sub keeps ss _ S1
    · exact KR.ok _ S1
theorem evHs_kr {C : CallS} (hC : ∀ f ws S, KR S (C f ws S)) (n : Nat) (sub : Nat → Nat → Option Bool) (keeps : Nat → Bool) : ∀ (hs : Hds) (e : Exn) (ρ : Env) (S : Sto), KR S (evHs C n sub keeps hs e ρ S)
  | .nil, e, ρ, S => KR.ok _ S
  | .cons c slot b hs, e, ρ, S => by
    unfold evHs
    split
    · exact evSs_kr hC n sub keeps b ρ S
    · exact evHs_kr hC n sub keeps hs e ρ S
    · trivial
end
theorem runF_kr (P : Prg) {C : CallS} (hC : ∀ f ws S, KR S (C f ws S)) (f : Nat) (ws : List W) (S : Sto) : KR S (runF P C f ws S) := by
  unfold runF
  split
  · trivial
  · rename_i fd _
    refine KR.ite ?_ trivial
    have h := evSs_kr hC P.fuel P.sub P.keeps fd.body (start fd ws) S
    cases e : evSs C P.fuel P.sub P.keeps fd.body (start fd ws) S with
    | bad => trivial
    | exc _ _ => trivial
    | ok o S1 =>
      rw [e] at h
      cases o <;> first | exact h | trivial
theorem callN_kr (P : Prg) : ∀ (d : Nat) (f : Nat) (ws : List W) (S : Sto), KR S (callN P d f ws S)
  | 0, _, _, _ => trivial
  | d + 1, f, ws, S => runF_kr P (callN_kr P d) f ws S
end Pd
set_option Elab.async false
set_option linter.all false
set_option maxRecDepth 100000
/-! Pd3: what stands for what: own values and HandS's heap; steps of the heap. -/
namespace Pd
open PySem PySem.Spec PyProof.Rows L2

/-- the fixed part: the written part, where defs and classes stand, the errors' fields -/
structure Gl0 where
  K : PySem.W.Frag
  fa : Nat → Addr
  ca : Nat → Addr
  fld : Nat → Str
/-- the moving part: the store's addresses, the frozen ones -/
structure Tk where
  m : Nat → Addr
  F : Addr → Prop

def FzT (T : Tk) (H : Hp) (a : Addr) (xs : List V) : Prop := T.F a ∧ H a = some (.tup xs) ∧ xs.length ≤ sizeLine
def SqLK (K : PySem.W.Frag) (a : Addr) (xs : List V) : Prop :=
  ∃ (o : Obj) (its : Array Value) (n : Nat), K.lookup a = some o ∧ o.cls = .type "list" ∧ o.dict = none ∧ o.data = .seq its n ∧ its.size ≤ sizeLine ∧ Vals xs its.toList
def FzL (T : Tk) (H : Hp) (a : Addr) (xs : List V) : Prop := T.F a ∧ H a = some (.lst xs) ∧ xs.length ≤ sizeLine
/-- a list that is read alone (the script) -/
def FzR (K : PySem.W.Frag) (T : Tk) (H : Hp) (a : Addr) (xs : List V) : Prop := xs.length ≤ sizeLine ∧ ((T.F a ∧ ∃ o, H a = some (.frz o (.lst xs))) ∨ SqLK K a xs)
theorem FzT.sq {K : PySem.W.Frag} {T : Tk} {H : Hp} {a : Addr} {xs : List V} (h : FzT T H a xs) : SqT K H a xs := SqT.of h.2.1
theorem FzL.sq {K : PySem.W.Frag} {T : Tk} {H : Hp} {a : Addr} {xs : List V} (h : FzL T H a xs) : SqL K H a xs := SqL.of h.2.1
theorem FzR.sq {K : PySem.W.Frag} {T : Tk} {H : Hp} {a : Addr} {xs : List V} (h : FzR K T H a xs) : SqL K H a xs := by
  rcases h.2 with h | h
  · exact .inl (.inr h.2)
  · exact .inr h

mutual
inductive VD (K : PySem.W.Frag) (T : Tk) (H : Hp) : V → PyData → Prop
  | none : VD K T H .non .none
  | bool (b : Bool) : VD K T H (.bl b) (.bool b)
  | int (i : Int) : VD K T H (.int i) (.int i)
  | str (s : Str) : VD K T H (.str s) (.str s)
  | tup {a : Addr} {xs : List V} {ds : List PyData} : FzT T H a xs → VDs K T H xs ds → VD K T H (.ref a) (.tuple ds)
  | lst {a : Addr} {xs : List V} {ds : List PyData} : FzL T H a xs → VDs K T H xs ds → VD K T H (.ref a) (.list ds)
inductive VDs (K : PySem.W.Frag) (T : Tk) (H : Hp) : List V → List PyData → Prop
  | nil : VDs K T H [] []
  | cons {x : V} {xs : List V} {d : PyData} {ds : List PyData} : VD K T H x d → VDs K T H xs ds → VDs K T H (x :: xs) (d :: ds)
end
mutual
inductive VR (G : Gl0) (T : Tk) (n : Nat) (H : Hp) : V → W → Prop
  | v {x : V} {d : PyData} : VD G.K T H x d → VR G T n H x (.v d)
  | loc {l : Nat} : l < n → VR G T n H (.ref (T.m l)) (.loc l)
  | fn (f : Nat) : VR G T n H (.ref (G.fa f)) (.fn f)
  | rng {a : Addr} {lo hi : Int} : T.F a → H a = some (.rng lo hi) → VR G T n H (.ref a) (.rng lo hi)
  | ro {a : Addr} {xs : List V} {ds : List PyData} : FzR G.K T H a xs → VDs G.K T H xs ds → VR G T n H (.ref a) (.ro ds)
  | seqT {a : Addr} {xs : List V} {ws : List W} : FzT T H a xs → VRs G T n H xs ws → VR G T n H (.ref a) (.seq true ws)
  | seqL {a : Addr} {xs : List V} {ws : List W} : FzL T H a xs → VRs G T n H xs ws → VR G T n H (.ref a) (.seq false ws)
inductive VRs (G : Gl0) (T : Tk) (n : Nat) (H : Hp) : List V → List W → Prop
  | nil : VRs G T n H [] []
  | cons {x : V} {xs : List V} {w : W} {ws : List W} : VR G T n H x w → VRs G T n H xs ws → VRs G T n H (x :: xs) (w :: ws)
end
/-- an object of the store -/
def OR (G : Gl0) (T : Tk) (n : Nat) (H : Hp) (a : Addr) : Ob → Prop
  | .lst ws => ∃ xs, H a = some (.lst xs) ∧ xs.length ≤ sizeLine ∧ VRs G T n H xs ws
  | .fz ws => ∃ xs, H a = some (.lst xs) ∧ xs.length ≤ sizeLine ∧ VRs G T n H xs ws
  | .gone => ∃ o, H a = some o
  | _ => False
structure Rel (G : Gl0) (T : Tk) (S : Sto) (H : Hp) : Prop where
  obj : ∀ l o, S[l]? = some o → OR G T S.length H (T.m l) o
  inj : ∀ i j, i < S.length → j < S.length → T.m i = T.m j → i = j
  nf : ∀ i, i < S.length → ¬ T.F (T.m i)
  ft : ∀ a, T.F a → H a ≠ none
/-- from a state to a later one -/
structure Step (T : Tk) (n : Nat) (H : Hp) (T' : Tk) (n' : Nat) (H' : Hp) : Prop where
  le : n ≤ n'
  mm : ∀ i, i < n → T'.m i = T.m i
  mn : ∀ i, n ≤ i → i < n' → H (T'.m i) = none
  ff : ∀ a, T.F a → T'.F a
  fn : ∀ a, T'.F a → T.F a ∨ H a = none
  kp : ∀ a o, H a = some o → (∀ i, i < n → T.m i ≠ a) → H' a = some o
  tr : ∀ a, H a ≠ none → H' a ≠ none
theorem OR.there {G : Gl0} {T : Tk} {n : Nat} {H : Hp} {a : Addr} : ∀ {o : Ob}, OR G T n H a o → ∃ u, H a = some u
  | .lst _, ⟨_, h, _⟩ => ⟨_, h⟩
  | .fz _, ⟨_, h, _⟩ => ⟨_, h⟩
  | .gone, h => h
theorem Rel.there {G : Gl0} {T : Tk} {S : Sto} {H : Hp} (r : Rel G T S H) {i : Nat} (hi : i < S.length) : H (T.m i) ≠ none := by
  obtain ⟨u, hu⟩ := (r.obj i S[i] (by simp [hi])).there
  rw [hu]; simp
theorem Step.refl (T : Tk) (n : Nat) (H : Hp) : Step T n H T n H :=
  ⟨Nat.le_refl _, fun _ _ => rfl, fun i h1 h2 => absurd h2 (by omega), fun _ h => h, fun _ h => .inl h, fun _ _ h _ => h, fun _ h => h⟩
theorem Step.trans {T T1 T2 : Tk} {n n1 n2 : Nat} {H H1 H2 : Hp} (a : Step T n H T1 n1 H1) (b : Step T1 n1 H1 T2 n2 H2) : Step T n H T2 n2 H2 where
  le := Nat.le_trans a.le b.le
  mm := fun i hi => (b.mm i (Nat.lt_of_lt_of_le hi a.le)).trans (a.mm i hi)
  mn := fun i h1 h2 => by
    by_cases h : i < n1
    · rw [b.mm i h]; exact a.mn i h1 h
    · have q := b.mn i (by omega) h2
      cases e : H (T2.m i) with
      | none => rfl
      | some u => exact absurd q (a.tr _ (by rw [e]; simp))
  ff := fun x h => b.ff x (a.ff x h)
  fn := fun x h => by
    rcases b.fn x h with h | h
    · exact a.fn x h
    · right
      cases e : H x with
      | none => rfl
      | some u => exact absurd h (a.tr _ (by rw [e]; simp))
  kp := fun x o h q => by
    refine b.kp x o (a.kp x o h q) fun i hi e => ?_
    by_cases h1 : i < n
    · rw [a.mm i h1] at e; exact q i h1 e
    · have := a.mn i (by omega) hi
      rw [e, h] at this; cases this
  tr := fun x h => b.tr x (a.tr x h)

section
variable {K : PySem.W.Frag} {G : Gl0} {T T' : Tk} {n n' : Nat} {H H' : Hp}
theorem FzT.step {a : Addr} {xs : List V} (h : FzT T H a xs) (nf : ∀ i, i < n → ¬ T.F (T.m i)) (s : Step T n H T' n' H') : FzT T' H' a xs :=
  ⟨s.ff _ h.1, s.kp _ _ h.2.1 fun i hi e => nf i hi (by rw [e]; exact h.1), h.2.2⟩
theorem FzL.step {a : Addr} {xs : List V} (h : FzL T H a xs) (nf : ∀ i, i < n → ¬ T.F (T.m i)) (s : Step T n H T' n' H') : FzL T' H' a xs :=
  ⟨s.ff _ h.1, s.kp _ _ h.2.1 fun i hi e => nf i hi (by rw [e]; exact h.1), h.2.2⟩
theorem FzR.step {a : Addr} {xs : List V} (h : FzR K T H a xs) (nf : ∀ i, i < n → ¬ T.F (T.m i)) (s : Step T n H T' n' H') : FzR K T' H' a xs := by
  refine ⟨h.1, ?_⟩
  rcases h.2 with ⟨hf, o, hr⟩ | h
  · exact .inl ⟨s.ff _ hf, o, s.kp _ _ hr fun i hi e => nf i hi (by rw [e]; exact hf)⟩
  · exact .inr h
mutual
theorem VD.step (nf : ∀ i, i < n → ¬ T.F (T.m i)) (s : Step T n H T' n' H') : ∀ {x : V} {d : PyData}, VD K T H x d → VD K T' H' x d
  | _, _, .none => .none
  | _, _, .bool b => .bool b
  | _, _, .int i => .int i
  | _, _, .str i => .str i
  | _, _, .tup h r => .tup (h.step nf s) (VDs.step nf s r)
  | _, _, .lst h r => .lst (h.step nf s) (VDs.step nf s r)
theorem VDs.step (nf : ∀ i, i < n → ¬ T.F (T.m i)) (s : Step T n H T' n' H') : ∀ {xs : List V} {ds : List PyData}, VDs K T H xs ds → VDs K T' H' xs ds
  | _, _, .nil => .nil
  | _, _, .cons h r => .cons (VD.step nf s h) (VDs.step nf s r)
end
mutual
theorem VR.step (nf : ∀ i, i < n → ¬ T.F (T.m i)) (s : Step T n H T' n' H') : ∀ {x : V} {w : W}, VR G T n H x w → VR G T' n' H' x w
  | _, _, .v h => .v (h.step nf s)
  | _, _, .loc h => by rw [← s.mm _ h]; exact .loc (Nat.lt_of_lt_of_le h s.le)
  | _, _, .fn f => .fn f
  | _, _, .rng h e => .rng (s.ff _ h) (s.kp _ _ e fun i hi q => nf i hi (by rw [q]; exact h))
  | _, _, .ro h r => .ro (h.step nf s) (r.step nf s)
  | _, _, .seqT h r => .seqT (h.step nf s) (VRs.step nf s r)
  | _, _, .seqL h r => .seqL (h.step nf s) (VRs.step nf s r)
theorem VRs.step (nf : ∀ i, i < n → ¬ T.F (T.m i)) (s : Step T n H T' n' H') : ∀ {xs : List V} {ws : List W}, VRs G T n H xs ws → VRs G T' n' H' xs ws
  | _, _, .nil => .nil
  | _, _, .cons h r => .cons (VR.step nf s h) (VRs.step nf s r)
end
end
/-- the slots -/
structure SR (G : Gl0) (T : Tk) (n : Nat) (H : Hp) (σ : L2.St) (ρ : Env) : Prop where
  len : σ.length = ρ.length
  at_ : ∀ (i : Nat) (w : W), ρ[i]? = some (some w) → ∃ x, σ[i]? = some (some x) ∧ VR G T n H x w
section
variable {G : Gl0} {T T' : Tk} {n n' : Nat} {H H' : Hp} {σ : L2.St} {ρ : Env}
theorem SR.step (r : SR G T n H σ ρ) (nf : ∀ i, i < n → ¬ T.F (T.m i)) (s : Step T n H T' n' H') : SR G T' n' H' σ ρ :=
  ⟨r.len, fun i w e => let ⟨x, h1, h2⟩ := r.at_ i w e; ⟨x, h1, h2.step nf s⟩⟩
theorem SR.set (r : SR G T n H σ ρ) {i : Nat} {x : V} {w : W} (h : VR G T n H x w) : SR G T n H (σ.set i (some x)) (ρ.set i (some w)) := by
  refine ⟨by simp [r.len], fun j w' e => ?_⟩
  by_cases hj : i = j
  · subst hj
    by_cases hl : i < ρ.length
    · rw [List.getElem?_set_self hl] at e
      cases e
      exact ⟨x, by rw [List.getElem?_set_self (by rw [r.len]; exact hl)], h⟩
    · rw [List.getElem?_eq_none (by simp; omega)] at e; cases e
  · rw [List.getElem?_set_ne hj] at e ⊢
    exact r.at_ j w' e
theorem SR.setNone (r : SR G T n H σ ρ) (i : Nat) : SR G T n H (σ.set i none) (ρ.set i none) := by
  refine ⟨by simp [r.len], fun j w' e => ?_⟩
  by_cases hj : i = j
  · subst hj
    by_cases hl : i < ρ.length
    · rw [List.getElem?_set_self hl] at e; cases e
    · rw [List.getElem?_eq_none (by simp; omega)] at e; cases e
  · rw [List.getElem?_set_ne hj] at e ⊢
    exact r.at_ j w' e
theorem SR.wipe (r : SR G T n H σ ρ) : ∀ vs : List Nat, SR G T n H (L2.wipe σ vs) (wipeE ρ vs)
  | [] => r
  | v :: vs => (SR.wipe r vs).setNone v
end
/-- what a value is behind an evaluation that began at H0: frozen, or a new object that nothing else knows -/
def RR (G : Gl0) (H0 : Hp) (T : Tk) (n : Nat) (H : Hp) (x : V) (w : W) : Bool → Prop
  | false => VR G T n H x w
  | true => ∃ a xs, x = .ref a ∧ ¬ T.F a ∧ (∀ i, i < n → T.m i ≠ a) ∧ H0 a = none ∧ H a = some (.lst xs) ∧ xs.length ≤ sizeLine ∧
      ((∃ ds, w = .v (.list ds) ∧ VDs G.K T H xs ds) ∨ ∃ ws, w = .seq false ws ∧ VRs G T n H xs ws)
/-- one more frozen address -/
def Tk.fz (T : Tk) (a : Addr) : Tk := { T with F := fun b => T.F b ∨ b = a }
section
variable {G : Gl0} {T T' : Tk} {n n' : Nat} {H H' H0 : Hp} {S : Sto} {x : V} {w : W} {a : Addr}
theorem Step.fz (s : Step T n H T' n' H') (ha : H a = none) : Step T n H (T'.fz a) n' H' :=
  ⟨s.le, s.mm, s.mn, fun b h => .inl (s.ff b h), fun b h => by
    rcases h with h | rfl
    · exact s.fn b h
    · exact .inr ha, s.kp, s.tr⟩
mutual
theorem VD.fz {K : PySem.W.Frag} (a : Addr) : ∀ {x : V} {d : PyData}, VD K T H x d → VD K (T.fz a) H x d
  | _, _, .none => .none
  | _, _, .bool b => .bool b
  | _, _, .int i => .int i
  | _, _, .str i => .str i
  | _, _, .tup h r => .tup ⟨.inl h.1, h.2⟩ (VDs.fz a r)
  | _, _, .lst h r => .lst ⟨.inl h.1, h.2⟩ (VDs.fz a r)
theorem VDs.fz {K : PySem.W.Frag} (a : Addr) : ∀ {xs : List V} {ds : List PyData}, VDs K T H xs ds → VDs K (T.fz a) H xs ds
  | _, _, .nil => .nil
  | _, _, .cons h r => .cons (VD.fz a h) (VDs.fz a r)
end
mutual
theorem VR.fz (a : Addr) : ∀ {x : V} {w : W}, VR G T n H x w → VR G (T.fz a) n H x w
  | _, _, .v h => .v (h.fz a)
  | _, _, .loc h => .loc (T := T.fz a) h
  | _, _, .fn f => .fn f
  | _, _, .rng h e => .rng (.inl h) e
  | _, _, .seqT h r => .seqT ⟨.inl h.1, h.2⟩ (VRs.fz a r)
  | _, _, .ro h r => .ro ⟨h.1, h.2.imp (fun q => ⟨.inl q.1, q.2⟩) id⟩ (r.fz a)
  | _, _, .seqL h r => .seqL ⟨.inl h.1, h.2⟩ (VRs.fz a r)
theorem VRs.fz (a : Addr) : ∀ {xs : List V} {ws : List W}, VRs G T n H xs ws → VRs G (T.fz a) n H xs ws
  | _, _, .nil => .nil
  | _, _, .cons h r => .cons (VR.fz a h) (VRs.fz a r)
end
theorem OR.fz (b : Addr) : ∀ {o : Ob}, OR G T n H a o → OR G (T.fz b) n H a o
  | .lst _, ⟨xs, h, l, r⟩ => ⟨xs, h, l, r.fz b⟩
  | .fz _, ⟨xs, h, l, r⟩ => ⟨xs, h, l, r.fz b⟩
  | .gone, h => h
theorem Rel.fz (r : Rel G T S H) (ha : ∀ i, i < S.length → T.m i ≠ a) (ht : H a ≠ none) : Rel G (T.fz a) S H :=
  ⟨fun l o e => (r.obj l o e).fz a, r.inj, fun i hi h => h.elim (r.nf i hi) (ha i hi), fun b h => h.elim (r.ft b) fun e => by rw [e]; exact ht⟩
/-- a value is frozen -/
theorem RR.freeze {fr : Bool} (s : Step T n H0 T' n' H) (hn : n' = S.length) (r : Rel G T' S H) (h : RR G H0 T' n' H x w fr) :
    ∃ T2, Step T n H0 T2 n' H ∧ Rel G T2 S H ∧ VR G T2 n' H x w := by
  subst hn
  cases fr with
  | false => exact ⟨T', s, r, h⟩
  | true =>
    obtain ⟨a, xs, rfl, hf, hm, h0, ha, hl, q⟩ := h
    refine ⟨T'.fz a, s.fz h0, r.fz hm (by rw [ha]; simp), ?_⟩
    rcases q with ⟨ds, rfl, q⟩ | ⟨ws, rfl, q⟩
    · exact .v (.lst ⟨.inr rfl, ha, hl⟩ (q.fz a))
    · exact .seqL ⟨.inr rfl, ha, hl⟩ (q.fz a)
end
end Pd
set_option Elab.async false
set_option linter.all false
set_option maxRecDepth 100000
/-! Pd4: readings of the evaluator's ends; what is the own syntax of a text. -/
namespace Pd
open PySem PySem.Spec PyProof.Rows L2

/-- an exception's own dict -/
def XR (G : Gl0) (T : Tk) (H : Hp) (e : Exn) (d : Option Addr) : Prop :=
  match e.fld with
  | none => d = none
  | some f => ∃ dd v, d = some dd ∧ H dd = some (.xd [(G.fld e.cls, v)]) ∧ VD G.K T H v f
/-- what is wanted behind an end -/
def Post (G : Gl0) {α : Type} (T : Tk) (n : Nat) (H : Hp) (r : R α) (ok : α → Sto → Tk → Hp → Prop) (X : Exn → Sto → Tk → Hp → Prop) : Prop :=
  match r with
  | .ok a S' => ∀ T' H', Step T n H T' S'.length H' → Rel G T' S' H' → ok a S' T' H'
  | .exc e S' => ∀ T' H', Step T n H T' S'.length H' → Rel G T' S' H' → X e S' T' H'
  | .bad => False
section
variable {G : Gl0} {α β : Type} {T T1 : Tk} {n n1 : Nat} {H H1 : Hp} {r : R α} {ok ok' : α → Sto → Tk → Hp → Prop} {X X' : Exn → Sto → Tk → Hp → Prop}
theorem Post.imp (h : Post G T n H r ok X) (f : ∀ a S' T' H', Step T n H T' S'.length H' → Rel G T' S' H' → ok a S' T' H' → ok' a S' T' H')
    (g : ∀ e S' T' H', Step T n H T' S'.length H' → Rel G T' S' H' → X e S' T' H' → X' e S' T' H') : Post G T n H r ok' X' := by
  cases r with
  | ok a S' => exact fun T' H' s q => f a S' T' H' s q (h T' H' s q)
  | exc e S' => exact fun T' H' s q => g e S' T' H' s q (h T' H' s q)
  | bad => exact h
theorem Post.impO (h : Post G T n H r ok X) (f : ∀ a S' T' H', Step T n H T' S'.length H' → Rel G T' S' H' → ok a S' T' H' → ok' a S' T' H') : Post G T n H r ok' X :=
  h.imp f fun _ _ _ _ _ _ q => q
theorem Post.later (s : Step T n H T1 n1 H1) (h : Post G T n H r ok X) : Post G T1 n1 H1 r ok X := by
  cases r with
  | ok a S' => exact fun T' H' s1 q => h T' H' (s.trans s1) q
  | exc e S' => exact fun T' H' s1 q => h T' H' (s.trans s1) q
  | bad => exact h
/-- a part, then what follows -/
theorem Post.split {f : α → Sto → R β} {ok : β → Sto → Tk → Hp → Prop} (h : Post G T n H (r.bind f) ok X) :
    Post G T n H r (fun a S1 T1 H1 => Post G T1 S1.length H1 (f a S1) ok X) X := by
  cases r with
  | ok a S' => exact fun T' H' s q => Post.later s h
  | exc e S' => exact h
  | bad => exact h
theorem Post.of {o : Option α} {S : Sto} (h : Post G T n H (R.of o S) ok X) : ∃ a, o = some a ∧ Post G T n H (.ok a S) ok X := by
  cases o with
  | none => exact h.elim
  | some a => exact ⟨a, rfl, h⟩
theorem Post.ofBind {f : α → Sto → R β} {ok : β → Sto → Tk → Hp → Prop} {o : Option α} {S : Sto} (h : Post G T n H ((R.of o S).bind f) ok X) :
    ∃ a, o = some a ∧ Post G T n H (f a S) ok X := by
  cases o with
  | none => exact h.elim
  | some a => exact ⟨a, rfl, h⟩
theorem Post.eq (h : Post G T n H r ok X) : Post G T n H r (fun a S' T' H' => r = .ok a S' ∧ ok a S' T' H') X := by
  cases r with
  | ok a S' => exact fun T' H' s q => ⟨rfl, h T' H' s q⟩
  | exc e S' => exact h
  | bad => exact h
theorem Post.here {a : α} {S : Sto} (h : Post G T S.length H (.ok a S) ok X) (r : Rel G T S H) : ok a S T H := h T H (Step.refl _ _ _) r
end

abbrev EvE := Env → Sto → R (W × Bool)
/-- what is wanted of an exception that leaves an expression -/
def XW (G : Gl0) (Wx : WX) (σ : L2.St) : Exn → Sto → Tk → Hp → Prop := fun e S' T' H' => ∀ d, XR G T' H' e d → Wx (.ref (G.ca e.cls)) d σ H'
/-- the reading of an expression: its value as it comes (new or frozen) -/
def RE (G : Gl0) (r : EvE) (Wx : WX) : TE := fun σ H Q => ∃ T ρ S, Rel G T S H ∧ SR G T S.length H σ ρ ∧
  Post G T S.length H (r ρ S) (fun p S' T' H' => ∀ x, RR G H T' S'.length H' x p.1 p.2 → Q x H') (XW G Wx σ)
/-- its value frozen, for a known state -/
def RV (G : Gl0) (r : EvE) (Wx : WX) : TE := fun σ H Q => ∃ T ρ S, Rel G T S H ∧ SR G T S.length H σ ρ ∧
  Post G T S.length H (r ρ S) (fun p S' T' H' => ∀ x, VR G T' S'.length H' x p.1 → Q x H') (XW G Wx σ)
def RT (G : Gl0) (r : EvE) (Wx : WX) : TT := fun σ H Q => ∃ T ρ S, Rel G T S H ∧ SR G T S.length H σ ρ ∧
  Post G T S.length H (r ρ S) (fun p S' T' H' => ∃ b, p.1 = .v (.bool b) ∧ Q b H') (XW G Wx σ)
/-- an argument list, frozen -/
def RA (G : Gl0) (r : Env → Sto → R (List W)) (Wx : WX) : TA := fun σ H Q => ∃ T ρ S, Rel G T S H ∧ SR G T S.length H σ ρ ∧
  Post G T S.length H (r ρ S) (fun ws S' T' H' => ∀ xs, VRs G T' S'.length H' xs ws → Q xs H') (XW G Wx σ)
section
variable {X : Cx} {e : Expr} {t t' : TE} {G : Gl0} {r : EvE} {Wx : WX}
theorem pe_weak (h : PE X e t) (i : ∀ σ H Q, t' σ H Q → t σ H Q) : PE X e t' := ⟨fun pins s σ H Q I q => h.run pins s σ H Q I (i σ H Q q)⟩
theorem pt_weak {t t' : TT} (h : PT X e t) (i : ∀ σ H Q, t' σ H Q → t σ H Q) : PT X e t' := ⟨fun pins s σ H Q I q => h.run pins s σ H Q I (i σ H Q q)⟩
theorem pw_weak {t t' : TT} (h : PW X e t) (i : ∀ σ H Q, t' σ H Q → t σ H Q) : PW X e t' := ⟨fun wh pins s σ H Q I q => h.run wh pins s σ H Q I (i σ H Q q)⟩
theorem pa_weak {es : List Expr} {t t' : TA} (h : PA X es t) (i : ∀ σ H Q, t' σ H Q → t σ H Q) : PA X es t' := ⟨fun wh pins s σ H Q I q => h.run wh pins s σ H Q I (i σ H Q q)⟩
theorem Rel.nfz {T : Tk} {S : Sto} {H : Hp} (r : Rel G T S H) : ∀ i, i < S.length → ¬ T.F (T.m i) := r.nf
/-- freezing -/
theorem RE.frozen {σ : L2.St} {H : Hp} {Q : VK} (h : RV G r Wx σ H Q) : RE G r Wx σ H Q := by
  obtain ⟨T, ρ, S, rl, sr, p⟩ := h
  refine ⟨T, ρ, S, rl, sr, ?_⟩
  cases e : r ρ S with
  | bad => rw [e] at p; exact p
  | exc ex S' => rw [e] at p; exact p
  | ok a S' =>
    rw [e] at p
    intro T' H' s rl' x hx
    obtain ⟨T2, s2, rl2, hv⟩ := RR.freeze s rfl rl' hx
    exact p T2 H' s2 rl2 x hv
theorem pe_frozen (h : PE X e (RE G r Wx)) : PE X e (RV G r Wx) := pe_weak h fun _ _ _ q => RE.frozen q
/-- a value that is never new -/
theorem RE.old {σ : L2.St} {H : Hp} {Q : VK} {T : Tk} {n : Nat} {p : W × Bool} {S' : Sto} {T' : Tk} {H' : Hp} (hp : p.2 = false) (h : ∀ x, RR G H T' S'.length H' x p.1 p.2 → Q x H') : ∀ x, VR G T' S'.length H' x p.1 → Q x H' := by
  rw [hp] at h
  exact h
end

/-! ### what is the own syntax of a text -/
structure Sym where
  sym : Nat → Str
  ok : Nat → Bool
  ps : Nat → List Str
  cs : Nat → Option PyData
  cok : Nat → Bool
  kp : Nat → Bool
def atomEq : PyData → PyData → Bool
  | .none, .none => true
  | .bool b, .bool c => b == c
  | .int i, .int j => i == j
  | .str s, .str z => s == z
  | _, _ => false
theorem atomEq_eq : ∀ {d e : PyData}, atomEq d e = true → d = e
  | .none, .none, _ => rfl
  | .bool _, .bool _, h => by rw [beq_iff_eq.mp h]
  | .int _, .int _, h => by rw [beq_iff_eq.mp h]
  | .str _, .str _, h => by rw [beq_iff_eq.mp h]
/-- the names, the scope, the names whose cells may be written -/
structure Sx where
  N : List Str
  sc : Scope
  fnx : Str → Bool
def visB (c : Sx) (x : Str) : Bool := c.sc.names.lookup x == some .local || c.sc.names.lookup x == some .cell || c.sc.names.lookup x == some .free
def locB (c : Sx) (x : Str) : Bool := c.sc.names.lookup x == some .local || (c.sc.names.lookup x == some .cell && c.fnx x)
def glB (c : Sx) (x : Str) : Bool := c.sc.names.lookup x == some .globalImplicit
def okNm (x : Str) : Bool := !(x == ("__debug__" : Str)) && !(x == ("__classdict__" : Str)) && !(x == ("__name__" : Str))
def boOp : Bo → Operator
  | .add => .Add | .sub => .Sub | .mul => .Mult | .fdiv => .FloorDiv | .mod => .Mod | .pow => .Pow
def coOp : Co → CmpOp
  | .eq => .Eq | .ne => .NotEq | .lt => .Lt | .le => .LtE | .gt => .Gt | .ge => .GtE | .is => .Is | .isn => .IsNot | .mem => .In | .nmem => .NotIn
def biNm : Bi → String
  | .len => "len" | .sum => "sum" | .all => "all" | .any => "any" | .abs => "abs" | .int => "int" | .tuple => "tuple" | .list => "list" | .min1 => "min" | .max1 => "max" | .min2 => "min" | .max2 => "max" | .min3 => "min"
  | .sorted => "sorted" | .set => "set" | .str => "str" | .repr => "repr" | .dict0 => "dict" | .dict => "dict"
def tyNm : Ty → String
  | .int => "int" | .bool => "bool" | .str => "str" | .tuple => "tuple" | .list => "list"
def mtNm : Mt → String
  | .append => "append" | .extend => "extend" | .pop0 => "pop" | .pop => "pop" | .index => "index" | .count => "count" | .get => "get" | .update => "update" | .items => "items" | .values => "values" | .join => "join" | .split => "split"
  | .startswith => "startswith" | .endswith => "endswith" | .remove => "remove"
def cstB : PyData → Const → Bool
  | .none, .none => true
  | .bool b, .bool c => b == c
  | .int i, .int j => i == j
  | .str s, .str z => s == z
  | _, _ => false
/-- a name that is a built-in's (or what stands for one) -/
def bltB (c : Sx) (nm : String) : Expr → Bool
  | .Name x _ => x == Str.ofString nm && glB c x
  | _ => false
def isTyE (c : Sx) : List Ty → Bool → Expr → Bool
  | [t], true, e => bltB c (tyNm t) e
  | t :: ts, false, .Tuple es _ _ => decide (es.length ≤ 1000) && (t :: ts).length == es.length && ((t :: ts).zip es).all fun p => bltB c (tyNm p.1) p.2
  | _, _, _ => false
mutual
def isTg (c : Sx) : Tgt → Expr → Bool
  | .nm i, .Name x _ => c.N[i]? == some x && locB c x
  | .tup ts, .Tuple es _ _ => isTgs c ts es
  | _, _ => false
def isTgs (c : Sx) : List Tgt → List Expr → Bool
  | [], [] => true
  | t :: ts, e :: es => isTg c t e && isTgs c ts es
  | _, _ => false
end
/-- the scope within a comprehension -/
def inLc (c : Sx) (s : Scope) : Sx := { N := c.N, sc := relS s c.sc, fnx := fun x => s.names.lookup x == some .cell }
/-- the names of a comprehension's block, by computation -/
def blkB (c : Sx) (s : Scope) (own : List Nat) : Bool :=
  let ow := own.filterMap fun i => (c.N[i]?).map fun x => (x, i)
  s.kind == .function && ow.length == own.length &&
  s.names.all (fun y => s.names.lookup y.1 == some y.2) &&
  s.names.all (fun y => !(y.2 == .free) || c.sc.names.lookup y.1 == some .cell || c.sc.names.lookup y.1 == some .free) &&
  s.names.all (fun y => !(y.2 == .local || y.2 == .cell) || (ow.map (·.1)).contains y.1 || !c.N.contains y.1)
/-- what may stand as a test -/
def tst : Ex → Bool
  | .box _ => false
  | _ => true
/-- the keywords: other places than the first na, no place twice, all of them -/
def kwGood (na : Nat) (kws : List Nat) (np : Nat) : Bool := decide kws.Nodup && kws.all (fun i => decide (na ≤ i ∧ i < np)) && decide (na + kws.length = np) && (List.range np).all fun i => decide (i < na) || kws.contains i
def notBoolOp : Expr → Bool
  | .BoolOp _ _ _ => false
  | _ => true
def isNilEs : Exs → Bool
  | .nil => true
  | _ => false
mutual
/-- the target's slots are among the own ones -/
def tgIn (own : List Nat) : Tgt → Bool
  | .nm i => own.contains i
  | .tup ts => tgsIn own ts
def tgsIn (own : List Nat) : List Tgt → Bool
  | [] => true
  | t :: ts => tgIn own t && tgsIn own ts
end
def tgOk : It → Tgt → Bool
  | .zip _ _, .tup _ => true
  | .zip _ _, .nm _ => false
  | .enum _, .tup _ => true
  | .enum _, .nm _ => false
  | _, _ => true
mutual
def isE (y : Sym) (c : Sx) : Ex → Expr → Bool
  | .nm i, .Name x _ => c.N[i]? == some x && visB c x && okNm x
  | .cst d, .Constant k _ _ => cstB d k
  | .glb g d, .Name x _ => x == y.sym g && (match y.cs g with | some e => atomEq e d | none => false) && glB c x && okNm x
  | .fnv f, .Name x _ => x == y.sym f && y.ok f && glB c x && okNm x
  | .bin op a b, .BinOp l o r _ => o == boOp op && isE y c a l && isE y c b r
  | .neg a, .UnaryOp .USub l _ => isE y c a l
  | .and a b, .BoolOp .And (l :: r :: rest) p => tst a && tst b && isE y c a l && (match rest with | [] => isE y c b r | _ :: _ => isE y c b (.BoolOp .And (r :: rest) p))
  | .or a b, .BoolOp .Or (l :: r :: rest) p => tst a && tst b && isE y c a l && (match rest with | [] => isE y c b r | _ :: _ => isE y c b (.BoolOp .Or (r :: rest) p))
  | .not a, .UnaryOp .Not l _ => tst a && isE y c a l
  | .cmp op a b, .Compare l [o] [r] _ => o == coOp op && isE y c a l && isE y c b r
  | .chain op op' a b d, .Compare l [o, o'] [r, q] _ => o == coOp op && o' == coOp op' && isE y c a l && isE y c b r && isE y c d q
  | .ite t a b, .IfExp l r q _ => tst t && tst a && tst b && isE y c t l && isE y c a r && isE y c b q
  | .call _ f args, .Call (.Name x _) (e :: es) [] _ => x == y.sym f && y.ok f && glB c x && okNm x && isEs y c args (e :: es)
  | .callK _ f args kws vals, .Call (.Name x _) es (k :: ks) _ => x == y.sym f && y.ok f && glB c x && okNm x && kwGood es.length kws (y.ps f).length && isEs y c args es && isKs y c f kws vals (k :: ks)
  | .blt b args, .Call g (e :: es) [] _ => bltB c (biNm b) g && isEs y c args (e :: es)
  | .isi e ts one, .Call g [l, t] [] _ => bltB c "isinstance" g && isE y c e l && isTyE c ts one t
  | .mth m o args, .Call (.Attribute l a p) (e :: es) [] q => decide (m = .append ∨ m = .extend) && p.endLine == q.line && decide ((e :: es).length < 20) && a == Str.ofString (mtNm m) && isE y c o l && isEs y c args (e :: es)
  | .ix a b, .Subscript l r _ => isE y c a l && isE y c b r
  | .sl a lo hi, .Subscript l (.Slice p q none _) _ => isE y c a l && (match p with | some l => isE y c lo l | none => isNilE lo) && (match q with | some l => isE y c hi l | none => isNilE hi)
  | .slr a, .Subscript l (.Slice none none (some (.UnaryOp .USub (.Constant (.int 1) _ _) _)) _) _ => isE y c a l
  | .tup es, .Tuple ls _ _ => decide (ls.length ≤ 1000) && isEs y c es ls
  | .lst es, .List ls _ => decide (ls.length ≤ 1000) && isEs y c es ls
  | .lc elt tg it cs own, .ListComp l [⟨t, i, fs, 0⟩] s _ =>
      blkB c s own && tgOk it tg && tgIn own tg && isI y c it i && isTg (inLc c s) tg t && isCs y (inLc c s) cs fs && isE y (inLc c s) elt l
  | .box e, l => notBoolOp l && isE y c e l
  | _, _ => false
def isEs (y : Sym) (c : Sx) : Exs → List Expr → Bool
  | .nil, [] => true
  | .cons e es, l :: ls => isE y c e l && isEs y c es ls
  | _, _ => false
/-- keywords -/
def isKs (y : Sym) (c : Sx) (f : Nat) : List Nat → Exs → List Keyword → Bool
  | [], .nil, [] => true
  | k :: kws, .cons e es, l :: ls => (y.ps f)[k]? == l.arg && l.arg.isSome && isE y c e l.value && isKs y c f kws es ls
  | _, _, _ => false
/-- tests: none, or one -/
def isCs (y : Sym) (c : Sx) : Exs → List Expr → Bool
  | .nil, [] => true
  | .cons e es, [l] => isNilEs es && tst e && isE y c e l
  | _, _ => false
def isI (y : Sym) (c : Sx) : It → Expr → Bool
  | .seq e, l => isE y c e l
  | .rng1 a, .Call g [l] [] _ => bltB c "range" g && isE y c a l
  | .rng2 a b, .Call g [l, r] [] _ => bltB c "range" g && isE y c a l && isE y c b r
  | .rng3 a b d, .Call g [l, r, q] [] _ => bltB c "range" g && isE y c a l && isE y c b r && isE y c d q
  | .zip a b, .Call g [l, r] [] _ => bltB c "zip" g && isE y c a l && isE y c b r
  | .enum e, .Call g [l] [] _ => bltB c "enumerate" g && isE y c e l
  | _, _ => false
end
/-- no tuple as written -/
def notTup : Expr → Bool
  | .Tuple _ _ _ => false
  | _ => true
def isCstE : Ex → Bool
  | .cst _ => true
  | _ => false
def strC : Expr → Bool
  | .Constant (.str _) _ _ => true
  | _ => false
def notLc : Expr → Bool
  | .ListComp _ _ _ _ => false
  | _ => true
/-- a, b = x, y that is stored as any tuple -/
def swapNone (sc : Scope) : Expr → Expr → Bool
  | .Tuple ts _ _, .Tuple vs _ _ => !(ts.length == 2 || ts.length == 3) || vs.length != ts.length || ((ts.filterMap fun
    | .Name id pos => if sc.names.lookup id == some .local && pos.line == (ts.head?.map (·.pos.line)).getD 0 then some id else none
    | _ => none).length != ts.length) || (!(vs.any fun | .Starred .. => true | _ => false) && vs.all (foldedForSure 8))
  | .Tuple _ _ _, _ => true
  | _, _ => false
theorem swapNone_ok {t l : Expr} {env : PySem.Env} (h : swapNone env.scope t l = true) : swappedStores [t] l env = pure none := by
  unfold swapNone at h
  split at h
  · rename_i ts k p vs k2 p2
    unfold swappedStores
    simp only [pure_bind]
    simp only [Bool.or_eq_true] at h
    rcases h with ((h | h) | h) | h
    · rw [if_pos (by simp only [Bool.or_eq_true]; exact .inl (.inl h))]
    · rw [if_pos (by simp only [Bool.or_eq_true]; exact .inl (.inr h))]
    · split
      · rfl
      · split
        · rfl
        · refine if_pos ?_
          simp only [Bool.or_eq_true]
          exact .inl h
    · split
      · rfl
      · split
        · rfl
        · split
          · rfl
          · rw [if_pos (Bool.and_eq_true_iff.mp h).2]
  · unfold swappedStores
    cases l <;> first | rfl | (rename_i q; exact absurd rfl (q _ _ _))
  · cases h
/-- local names, one line -/
def isNms (c : Sx) (line : Nat) : List Nat → List Expr → Bool
  | [], [] => true
  | i :: is, .Name x p :: es => c.N[i]? == some x && c.sc.names.lookup x == some .local && p.line == line && isNms c line is es
  | _, _ => false
/-- a, b = x, y: stored from the right, or (constants) one after the other -/
def parB (c : Sx) (is : List Nat) (ts vs : List Expr) : Bool :=
  decide is.Nodup && is.length == vs.length && c.sc.kind == .function && isNms c ((ts.head?.map (·.pos.line)).getD 0) is ts && ts.length == vs.length
def raiseOf : Stmt → Option (Str × Expr)
  | .Raise (some (.Call (.Name x _) [l] [] _)) none _ => some (x, l)
  | _ => none
theorem raiseOf_some {l : Stmt} {x : Str} {v : Expr} (h : raiseOf l = some (x, v)) : ∃ (p q pos : Pos), l = .Raise (some (.Call (.Name x p) [v] [] q)) none pos := by
  unfold raiseOf at h
  split at h
  · cases h; exact ⟨_, _, _, rfl⟩
  · cases h
/-- a handler's suite: one plain step -/
def isH (y : Sym) (c : Sx) : Sts → List Stmt → Bool
  | .cons (.asg (.nm i) (.cst d)) .nil, [.Assign [.Name x _] (.Constant k _ _) _] => isTg c (.nm i) (.Name x ⟨0, 0, 0, 0⟩) && cstB d k
  | .cons (.ret (.cst d)) .nil, [.Return (some (.Constant k _ _)) _] => cstB d k
  | .cons .pass .nil, [.Pass _] => true
  | _, _ => false
def isHs (y : Sym) (c : Sx) : Hds → List ExceptHandler → Bool
  | .nil, [] => true
  | .cons k none b hs, .ExceptHandler (some (.Name x _)) none (s :: ss) _ :: r => y.cok k && x == y.sym k && glB c x && okNm x && isH y c b (s :: ss) && isHs y c hs r
  | _, _ => false
mutual
def isS (y : Sym) (c : Sx) : Stm → Stmt → Bool
  | .asg (.nm i) e, .Assign [.Name x p] l _ => isTg c (.nm i) (.Name x p) && isE y c e l
  | .asg (.tup ts) e, .Assign [t] l _ => isTg c (.tup ts) t && swapNone c.sc t l && isE y c e l
  | .par is es, .Assign [.Tuple ts _ _] (.Tuple vs _ _) _ => parB c is ts vs && (is.length == 2 || is.length == 3) && !(vs.all (foldedForSure 8)) && !(vs.all (constantsAlone 8)) && isEs y c es vs
  | .aug op i e, .AugAssign (.Name x _) o l _ => c.N[i]? == some x && locB c x && o == boOp op && (op == .add || op == .sub) && isE y c e l
  | .asgS a i e, .Assign [.Subscript o k _] l _ => isE y c a o && isE y c i k && isE y c e l
  | .augS op a i e, .AugAssign (.Subscript o k _) q l _ => q == boOp op && (op == .add || op == .sub) && isE y c a o && isE y c i k && isE y c e l
  | .expr e, .Expr l _ => notLc l && isE y c e l
  | .ifs t a b, .If l p q _ => tst t && isE y c t l && isSs y c a p && isSs y c b q
  | .fors t it b, .For tg l p [] _ => isTg c t tg && tgOk it t && isI y c it l && isSs y c b p
  | .whl t b, .While l p [] _ => tst t && isE y c t l && isSs y c b p
  | .ret e, .Return (some l) _ => isE y c e l
  | .retN, .Return none _ => true
  | .raise k a, l => (match raiseOf l with
    | some (x, v) => y.cok k && x == y.sym k && glB c x && okNm x && (y.kp k || (strC v && isCstE a)) && isE y c a v
    | none => false)
  | .tryS b hs, .Try p (h :: r) [] [] _ => isSs y c b p && isHs y c hs (h :: r)
  | .brk, .Break _ => true
  | .cont, .Continue _ => true
  | .pass, .Pass _ => true
  | _, _ => false
def isSs (y : Sym) (c : Sx) : Sts → List Stmt → Bool
  | .nil, [] => true
  | .cons s ss, l :: ls => isS y c s l && isSs y c ss ls
  | _, _ => false
end
/-- no own syntax is a starred expression, a set -/
theorem isE_plain {y : Sym} {c : Sx} : ∀ {e : Ex} {l : Expr}, isE y c e l = true → (∀ a p, l ≠ .Starred a p) ∧ (∀ a k p, l ≠ .Set a k p) ∧ (∀ a b d p, l ≠ .Slice a b d p) := by
  intro e
  induction e using Ex.rec (motive_2 := fun _ => True) (motive_3 := fun _ => True) with
  | box e ih => intro l h; simp only [isE, Bool.and_eq_true] at h; exact ih (l := l) h.2
  | _ =>
    first
      | trivial
      | (intro l h
         refine ⟨fun a p q => ?_, fun a k p q => ?_, fun a b d p q => ?_⟩ <;> subst q <;> simp [isE] at h)
end Pd
set_option Elab.async false
set_option linter.all false
set_option maxRecDepth 100000
set_option maxHeartbeats 1000000
namespace Pd
open PySem PySem.Spec PyProof.Rows L2
structure PlainP (p : Arguments) (ps : List Str) : Prop where
  po : p.posonlyargs = []
  ko : p.kwonlyargs = []
  va : p.vararg = none
  ka : p.kwarg = none
  ar : p.args.map (·.arg) = ps
theorem lookup_zip_some : ∀ {ps : List Str} {us : List Value} {n : Str}, us.length = ps.length → n ∈ ps → (List.lookup n (ps.zip us)).isSome = true
  | [], _, _, _, h => by cases h
  | p :: ps, [], _, hl, _ => by cases hl
  | p :: ps, u :: us, n, hl, h => by
    rw [List.zip_cons_cons, List.lookup_cons]
    cases e : n == p with
    | true => rfl
    | false =>
      have : n ≠ p := beq_eq_false_iff_ne.mp e
      exact lookup_zip_some (by simpa using hl) ((List.mem_cons.mp h).resolve_left this)
theorem fm_skip {p : Str} {u : Value} {L : List (Str × Value)} : ∀ {qs : List Str}, p ∉ qs → qs.filterMap (fun n => (List.lookup n ((p, u) :: L)).map (n, ·)) = qs.filterMap (fun n => (List.lookup n L).map (n, ·))
  | [], _ => rfl
  | q :: qs, h => by
    have e : (q == p) = false := beq_eq_false_iff_ne.mpr fun e => h (e ▸ List.mem_cons_self)
    rw [List.filterMap_cons, List.filterMap_cons, List.lookup_cons, e, fm_skip fun m => h (List.mem_cons_of_mem _ m)]
theorem fm_zip : ∀ {ps : List Str} {us : List Value}, ps.Nodup → us.length = ps.length → ps.filterMap (fun n => (List.lookup n (ps.zip us)).map (n, ·)) = ps.zip us
  | [], _, _, _ => by simp
  | p :: ps, [], _, hl => by cases hl
  | p :: ps, u :: us, nd, hl => by
    obtain ⟨h1, h2⟩ := List.nodup_cons.mp nd
    rw [List.zip_cons_cons, List.filterMap_cons, fm_skip h1, fm_zip h2 (by simpa using hl)]
    simp
theorem binds_plain (fd : FuncData) (ps : List Str) (h : PlainP fd.params ps) (hd : fd.defaults = .none) (nd : ps.Nodup) (us : List Value) (hl : us.length = ps.length) : bindArgs fd ⟨us, []⟩ = pure (ps.zip us) := by
  have e : seqItems? Value.none = pure none := rfl
  unfold bindArgs
  have f1 : List.filter (fun n => (List.lookup n (ps.zip us)).isNone) ps = [] := by
    rw [List.filter_eq_nil_iff]
    intro n hn
    have := lookup_zip_some hl hn
    cases q : List.lookup n (ps.zip us) with
    | none => rw [q] at this; cases this
    | some _ => simp
  simp [h.po, h.ko, h.va, h.ka, h.ar, hd, e, hl, f1, fm_zip nd hl]

theorem for_kw {ps : List Str} {f : Str × Value → (List (Str × Value) × List (Str × Value)) → Sem (ForInStep (List (Str × Value) × List (Str × Value)))}
    (hf : ∀ x sl, x.1 ∈ ps → (List.lookup x.1 sl).isSome = false → f x (sl, []) = pure (.yield (sl ++ [x], []))) : ∀ (L sl : List (Str × Value)), (∀ x ∈ L, x.1 ∈ ps ∧ x.1 ∉ sl.map (·.1)) → (L.map (·.1)).Nodup →
    forIn L (sl, []) f = pure (sl ++ L, [])
  | [], sl, _, _ => by simp
  | x :: L, sl, h, nd => by
    obtain ⟨h1, h2⟩ := h x List.mem_cons_self
    have hn : (List.lookup x.1 sl).isSome = false := by
      cases e : List.lookup x.1 sl with
      | none => rfl
      | some v =>
        exact absurd (List.mem_map.mpr ⟨(x.1, v), PySem.mem_of_lookup e, rfl⟩) h2
    rw [List.map_cons] at nd
    obtain ⟨n1, n2⟩ := List.nodup_cons.mp nd
    rw [List.forIn_cons, hf x sl h1 hn, pure_bind]
    show forIn L (sl ++ [x], []) f = _
    rw [for_kw hf L (sl ++ [x]) (fun y hy => ⟨(h y (List.mem_cons_of_mem _ hy)).1, fun m => ?_⟩) n2, List.append_assoc]
    · rfl
    · rw [List.map_append, List.mem_append] at m
      rcases m with m | m
      · exact (h y (List.mem_cons_of_mem _ hy)).2 m
      · simp at m
        exact n1 (m ▸ List.mem_map.mpr ⟨y, hy, rfl⟩)
/-- names for indices -/
def nmL (ps : List Str) : List (Nat × Value) → List (Str × Value)
  | [] => []
  | (i, v) :: L => match ps[i]? with
    | some n => (n, v) :: nmL ps L
    | none => nmL ps L
theorem lookup_nm {ps : List Str} (nd : ps.Nodup) {i : Nat} {n : Str} (hi : ps[i]? = some n) : ∀ L : List (Nat × Value), (nmL ps L).lookup n = L.lookup i
  | [] => rfl
  | (j, v) :: L => by
    unfold nmL
    cases e : ps[j]? with
    | none =>
      have : (i == j) = false := beq_eq_false_iff_ne.mpr fun q => by rw [q, e] at hi; cases hi
      simp only [List.lookup_cons, this]
      exact lookup_nm nd hi L
    | some m =>
      simp only [List.lookup_cons]
      by_cases q : i = j
      · subst q; rw [hi] at e; cases e; simp
      · have h1 : (i == j) = false := beq_eq_false_iff_ne.mpr q
        have h2 : (n == m) = false := beq_eq_false_iff_ne.mpr fun z => q (by
          subst z
          obtain ⟨a, ha⟩ := List.getElem?_eq_some_iff.mp hi
          obtain ⟨b, hb⟩ := List.getElem?_eq_some_iff.mp e
          exact (List.getElem_inj nd).mp (ha.trans hb.symm))
        rw [h1, h2]
        exact lookup_nm nd hi L
theorem fm_place {ps : List Str} (nd : ps.Nodup) (L : List (Nat × Value)) : ∀ (qs : List Str) (i : Nat), ps.drop i = qs → (∀ j, i ≤ j → j < ps.length → (L.lookup j).isSome = true) →
    qs.filterMap (fun n => ((nmL ps L).lookup n).map (n, ·)) = qs.zip (placeGo L qs.length i)
  | [], i, _, _ => by simp
  | q :: qs, i, e, h => by
    have hi : ps[i]? = some q := by
      have := congrArg (·[0]?) e
      simpa using this
    have hl : i < ps.length := (List.getElem?_eq_some_iff.mp hi).1
    have hd : ps.drop (i + 1) = qs := by
      rw [← List.tail_drop, e]; rfl
    have h1 := h i (Nat.le_refl _) hl
    cases z : L.lookup i with
    | none => rw [z] at h1; cases h1
    | some v =>
      rw [List.filterMap_cons, lookup_nm nd hi, z]
      show (q, v) :: _ = _
      rw [fm_place nd L qs (i + 1) hd fun j hj hk => h j (by omega) hk]
      show _ = (q :: qs).zip (placeGo L (qs.length + 1) i)
      conv => rhs; rw [placeGo, z]
      rfl
theorem nm_idx (ps : List Str) : ∀ (us : List Value) (i : Nat), i + us.length ≤ ps.length → nmL ps (idxL i us) = (ps.drop i).zip us
  | [], i, _ => by simp [idxL, nmL]
  | u :: us, i, h => by
    rw [List.length_cons] at h
    have hl : i < ps.length := by omega
    rw [List.drop_eq_getElem_cons hl, List.zip_cons_cons, ← nm_idx ps us (i + 1) (by omega)]
    show nmL ps ((i, u) :: idxL (i + 1) us) = _
    rw [nmL, List.getElem?_eq_getElem hl]
theorem nm_append (ps : List Str) : ∀ (A B : List (Nat × Value)), nmL ps (A ++ B) = nmL ps A ++ nmL ps B
  | [], _ => rfl
  | (i, v) :: A, B => by
    show nmL ps ((i, v) :: (A ++ B)) = _
    rw [nmL, nmL, nm_append ps A B]
    split <;> rfl
theorem nm_kw (ps : List Str) : ∀ (kws : List Nat) (ws : List Value), (∀ i ∈ kws, i < ps.length) → nmL ps (kws.zip ws) = (kws.filterMap (ps[·]?)).zip ws
  | [], _, _ => rfl
  | _ :: _, [], _ => by simp [nmL]
  | k :: kws, w :: ws, h => by
    have hk := h k List.mem_cons_self
    rw [List.zip_cons_cons, nmL, List.filterMap_cons, List.getElem?_eq_getElem hk]
    simp only [List.zip_cons_cons]
    rw [nm_kw ps kws ws fun i hi => h i (List.mem_cons_of_mem _ hi)]
theorem lookup_idx {α : Type} : ∀ (us : List α) (i j : Nat), i ≤ j → j < i + us.length → ((idxL i us).lookup j).isSome = true
  | [], i, j, h1, h2 => by simp at h2; omega
  | u :: us, i, j, h1, h2 => by
    rw [idxL, List.lookup_cons]
    by_cases e : j = i
    · simp [e]
    · rw [beq_eq_false_iff_ne.mpr e]
      exact lookup_idx us (i + 1) j (by omega) (by simp at h2; omega)
theorem lookup_app {α : Type} (j : Nat) : ∀ (A B : List (Nat × α)), ((A ++ B).lookup j).isSome = ((A.lookup j).isSome || (B.lookup j).isSome)
  | [], B => rfl
  | (i, v) :: A, B => by
    rw [List.cons_append, List.lookup_cons, List.lookup_cons]
    cases j == i with
    | true => rfl
    | false => exact lookup_app j A B
theorem lookup_zip_kw {α : Type} (j : Nat) : ∀ (kws : List Nat) (ws : List α), kws.length = ws.length → j ∈ kws → ((kws.zip ws).lookup j).isSome = true
  | [], _, _, h => by cases h
  | k :: kws, [], h, _ => by cases h
  | k :: kws, w :: ws, h, m => by
    rw [List.zip_cons_cons, List.lookup_cons]
    by_cases e : j = k
    · simp [e]
    · rw [beq_eq_false_iff_ne.mpr e]
      exact lookup_zip_kw j kws ws (by simpa using h) ((List.mem_cons.mp m).resolve_left e)
theorem good_all {α : Type} {us ws : List α} {kws : List Nat} {np : Nat} (g : kwGood us.length kws np = true) (hw : kws.length = ws.length) (j : Nat) (hj : j < np) : ((idxL 0 us ++ kws.zip ws).lookup j).isSome = true := by
  unfold kwGood at g
  simp only [Bool.and_eq_true, List.all_eq_true, decide_eq_true_eq, Bool.or_eq_true, List.mem_range, List.contains_iff_mem] at g
  rw [lookup_app, Bool.or_eq_true]
  rcases g.2 j hj with h | h
  · exact .inl (lookup_idx us 0 j (Nat.zero_le _) (by omega))
  · exact .inr (lookup_zip_kw j kws ws hw h)
theorem binds_kw (fd : FuncData) (ps : List Str) (h : PlainP fd.params ps) (hd : fd.defaults = .none) (nd : ps.Nodup) (us ws : List Value) (kws : List Nat) (g : kwGood us.length kws ps.length = true) (hw : kws.length = ws.length) :
    bindArgs fd ⟨us, (kws.filterMap (ps[·]?)).zip ws⟩ = pure (ps.zip (place us kws ws)) := by
  have e : seqItems? Value.none = pure none := rfl
  have all := good_all g hw
  have g' := g
  unfold kwGood at g'
  simp only [Bool.and_eq_true, List.all_eq_true, decide_eq_true_eq] at g'
  obtain ⟨⟨⟨g1, g2⟩, g3⟩, g4⟩ := g'
  have hks : ∀ i ∈ kws, i < ps.length := fun i hi => (g2 i hi).2
  have hsl : ps.zip us ++ (kws.filterMap (ps[·]?)).zip ws = nmL ps (idxL 0 us ++ kws.zip ws) := by
    rw [nm_append, nm_idx ps us 0 (by omega), nm_kw ps kws ws hks, List.drop_zero]
  have fin : ps.filterMap (fun n => (List.lookup n (ps.zip us ++ (kws.filterMap (ps[·]?)).zip ws)).map (n, ·)) = ps.zip (place us kws ws) := by
    rw [hsl, fm_place nd _ ps 0 (List.drop_zero) fun j _ hj => all j hj]
    unfold place
    rw [← hw, g3]
  have f1 : List.filter (fun n => (List.lookup n (ps.zip us ++ (kws.filterMap (ps[·]?)).zip ws)).isNone) ps = [] := by
    rw [List.filter_eq_nil_iff, hsl]
    intro n hn
    obtain ⟨i, hi⟩ := List.mem_iff_getElem?.mp hn
    rw [lookup_nm nd hi]
    have := all i (List.getElem?_eq_some_iff.mp hi).1
    cases q : List.lookup i (idxL 0 us ++ kws.zip ws) with
    | none => rw [q] at this; cases this
    | some _ => simp
  have hle : ¬ ps.length < us.length := by omega
  have kl : ∀ x ∈ (kws.filterMap (ps[·]?)).zip ws, x.1 ∈ ps ∧ x.1 ∉ (ps.zip us).map (·.1) := by
    intro x hx
    have h1 := (List.of_mem_zip (a := x.1) (b := x.2) hx).1
    obtain ⟨i, hi, hi2⟩ := List.mem_filterMap.mp h1
    refine ⟨List.mem_of_getElem? hi2, fun m => ?_⟩
    obtain ⟨y, hy, e⟩ := List.mem_map.mp m
    obtain ⟨j, hj⟩ := List.mem_iff_getElem?.mp hy
    rw [List.getElem?_zip_eq_some] at hj
    have hj1 := hj.1
    have hj2 := (List.getElem?_eq_some_iff.mp hj.2).1
    rw [e] at hj1
    obtain ⟨a, ha⟩ := List.getElem?_eq_some_iff.mp hi2
    obtain ⟨b, hb⟩ := List.getElem?_eq_some_iff.mp hj1
    have : i = j := (List.getElem_inj nd).mp (ha.trans hb.symm)
    have := (g2 i hi).1
    omega
  have kn : (((kws.filterMap (ps[·]?)).zip ws).map (·.1)).Nodup := by
    have zt : ∀ (A : List Str) (B : List Value), (A.zip B).map (·.1) = A.take B.length := by
      intro A
      induction A with
      | nil => intro B; simp
      | cons a A ih => intro B; cases B with
        | nil => simp
        | cons b B => simp [ih B]
    have h1 := zt (kws.filterMap (ps[·]?)) ws
    rw [h1]
    refine List.Nodup.sublist (List.take_sublist _ _) ?_
    clear fin f1 kl hsl all g3 g4 g hw h1
    induction kws with
    | nil => simp
    | cons k kws ih =>
      have hk := hks k List.mem_cons_self
      rw [List.filterMap_cons, List.getElem?_eq_getElem hk]
      obtain ⟨n1, n2⟩ := List.nodup_cons.mp g1
      refine List.nodup_cons.mpr ⟨fun m => ?_, ih n2 (fun i hi => g2 i (List.mem_cons_of_mem _ hi)) fun i hi => hks i (List.mem_cons_of_mem _ hi)⟩
      obtain ⟨i, hi, q⟩ := List.mem_filterMap.mp m
      obtain ⟨a, ha⟩ := List.getElem?_eq_some_iff.mp q
      have : i = k := (List.getElem_inj nd).mp ha
      exact n1 (this ▸ hi)
  unfold bindArgs
  simp only [h.po, h.ko, h.va, h.ka, h.ar, hd, e, List.map_nil, List.nil_append]
  rw [for_kw (ps := ps) (fun x sl h1 h2 => by simp [h1, h2]) _ _ kl kn]
  simp [hd, e, f1, fin, hle]
end Pd
set_option Elab.async false
set_option linter.all false
set_option maxRecDepth 100000
set_option maxHeartbeats 4000000
/-! PdRev: t[::-1] of a tuple. -/
namespace Pd
open PySem PySem.Spec PyProof.Rows L2 HT
section
variable {prog : Program} {w : World} {A : Around} {E : Value → Shared → Prop} {s : Shared}
theorem adjust_rev (n : Nat) : Builtin.Slice.sliceAdjust none none (-1) (n : Int) = ((n : Int) - 1, -1) := by
  unfold Builtin.Slice.sliceAdjust
  simp
theorem places_rev (n : Nat) : Builtin.Slice.slicePlaces ((n : Int) - 1) (-1) (-1) = n := by
  unfold Builtin.Slice.slicePlaces
  simp
  split <;> omega
theorem pick_rev (xs : Array Value) : ((List.range xs.size).filterMap fun (m : Nat) => xs[((xs.size : Int) - 1 + (m : Int) * (-1)).toNat]?).toArray = xs.toList.reverse.toArray := by
  have e : (fun (m : Nat) => xs[((xs.size : Int) - 1 + (m : Int) * (-1)).toNat]?) = (xs[·]?) ∘ fun m => xs.size - 1 - m := by
    funext m
    have : ((xs.size : Int) - 1 + (m : Int) * (-1)).toNat = xs.size - 1 - m := by omega
    rw [this]
    rfl
  rw [e, ← List.filterMap_map, PySem.W.krv_range, List.filterMap_reverse, PySem.W.krv_all]
theorem sliceApplied_rev {sl : Addr} {vs : Value} {n : Nat} {Q : Int × Int × Nat → Shared → Prop} (hs : s.heap.IsSliceOf sl .none .none vs) (ps : IsPart vs (some (-1)))
    (h : Q ((n : Int) - 1, -1, n) s) : wpAny (model prog w) A (Builtin.Slice.sliceApplied (.ref sl) (pure (n : Int))) Q E s := by
  obtain ⟨os, hos, hcs, hds⟩ := id hs
  unfold Builtin.Slice.sliceApplied Builtin.Slice.sliceFields
  refine wpAny_bind (wpAny_bind (wpAny_field hos hds (x := .none) rfl (wpAny_bind (wpAny_field hos hds (x := .none) rfl (wpAny_bind (wpAny_field hos hds (x := vs) rfl (wpAny_pure ?_)))))))
  refine wpAny_bind (slicePart_ ps ?_)
  show wpAny _ _ (if ((-1 : Int) == 0) = true then _ else _) _ _ s
  rw [if_neg (by decide)]
  refine wpAny_bind (slicePart_none (wpAny_bind (slicePart_none (wpAny_bind (wpAny_pure ?_)))))
  show wpAny _ _ (match Builtin.Slice.sliceAdjust none none (-1) (n : Int) with | (lo, hi) => pure (lo, (-1 : Int), Builtin.Slice.slicePlaces lo hi (-1))) _ _ s
  rw [adjust_rev n]
  show wpAny _ _ (pure (((n : Int) - 1), (-1 : Int), Builtin.Slice.slicePlaces ((n : Int) - 1) (-1) (-1))) _ _ s
  rw [places_rev]
  exact wpAny_pure h
theorem getItem_tuple_rev {t sl : Addr} {items : Array Value} {vs : Value} {Q : Value → Shared → Prop} (ht : IsTup s.heap t items) (hs : s.heap.IsSliceOf sl .none .none vs) (ps : IsPart vs (some (-1)))
    (h : Q (.ref s.heap.objs.size) { s with heap := s.heap.push { cls := .type "tuple", data := .seq items.toList.reverse.toArray } })
    (hsz : items.size ≤ sizeLine) : wpAny (model prog w) A (getItem (.ref t) (.ref sl)) Q E s := by
  have htake : sizeOk (.seq items.toList.reverse.toArray) := by
    show items.toList.reverse.toArray.size ≤ sizeLine
    rw [List.size_toArray, List.length_reverse, Array.length_toList]
    exact hsz
  obtain ⟨os, hos, hcs, hds⟩ := id hs
  have hTs : s.TypeIs (.ref sl) "slice" := ⟨os, hos, hcs⟩
  unfold getItem
  try with_reducible refine wpAny_holding ?_
  first | refine wpAny_bind (wpAny_pure ?_) | skip
  refine wpAny_bind (wpAny_sequenceKey ht.typeIs (by decide) ?_)
  refine wpAny_bind (wpAny_callSpecial?_slot (name := Str.ofString "__getitem__") ht.typeIs PyProof.Rows.slot_tuple_getitem
    (wpAny_call_entry PyProof.Rows.slot_tuple_getitem ht.typeIs entry_tuple_getitem ?_ (args_tuple_getitem _ _)))
  show wpAny _ _ (Builtin.Tuple.tupleItemsOf (.ref t) >>= _) _ _ s
  refine wpAny_bind (tupleItemsOf_ ht ?_)
  refine wpAny_bind (wpAny_typeOf hTs ?_)
  rw [if_pos (by decide)]
  refine wpAny_bind (sliceApplied_rev hs ps ?_)
  have hno : ¬ ((((items.size : Int) - 1) == 0 && (-1 : Int) == 1 && items.size == items.size) = true) := by simp
  show wpAny _ _ (if (((items.size : Int) - 1) == 0 && (-1 : Int) == 1 && items.size == items.size) = true then _ else _) _ _ s
  rw [if_neg hno, pick_rev]
  first
    | exact wpAny_bind (m := Builtin.Tuple.tupleExact _) (wpAny_newObj_type (wpAny_pure ⟨_, rfl, wpAny_pure h⟩) htake)
    | exact wpAny_bind (m := Builtin.Tuple.tupleExact _) (wpAny_newObj_type (wpAny_bind (wpAny_pure (wpAny_pure ⟨_, rfl, wpAny_pure h⟩))) htake)
    | exact wpAny_bind (wpAny_bind (m := Builtin.Tuple.tupleExact _) (wpAny_newObj_type (wpAny_pure (wpAny_pure ⟨_, rfl, wpAny_pure h⟩)) htake))
    | exact wpAny_bind (wpAny_bind (m := Builtin.Tuple.tupleExact _) (wpAny_newObj_type (wpAny_pure ⟨_, rfl, wpAny_pure h⟩) htake))
end
def tRevA (K : PySem.W.Frag) (te : TE) : TE := fun σ H Q => te σ H fun x H1 => ∃ a xs, x = .ref a ∧ ((SqL K H1 a xs ∧ ∀ p, H1 p = none → Q (.ref p) (upd H1 p (.lst xs.reverse))) ∨ (SqT K H1 a xs ∧ ∀ p, H1 p = none → Q (.ref p) (upd H1 p (.tup xs.reverse))))
section
variable {X : Cx}
theorem pe_revA {e : Expr} {te : TE} {k k2 : Nat} {p1 p2 p3 pos : Pos} (he : PE X e te) : PE X (.Subscript e (.Slice none none (some (.UnaryOp .USub (.Constant (.int 1) k p1) p2)) p3) pos) (tRevA X.K te) := by
  refine ⟨fun pins s σ H Q I h => ?_⟩
  refine Subscript_ (thn (he.run pins s σ H _ I h) fun v s1 ⟨x, H1, I1, r1, q1⟩ => ?_)
  obtain ⟨a, xs, ex, q⟩ := q1
  subst ex
  cases r1
  have hst : PO X (some (.UnaryOp .USub (.Constant (.int 1) k p1) p2)) (tPart (tUn (rU fun i => .int (-i)) (tC (.int 1)))) := po_some (pe_un un_neg pe_int)
  refine wpAny_Slice (thn (po_none.run pins s1 σ H1 (fun o H2 => o = none ∧ H2 = H1) I1 ⟨rfl, rfl⟩) fun vl s2 ⟨l, H2, I2, pl, el, e2⟩ => ?_)
  subst el e2
  refine thn (po_none.run pins s2 σ H2 (fun o H3 => o = none ∧ H3 = H2) I2 ⟨rfl, rfl⟩) fun vu s3 ⟨u, H3, I3, pu, eu, e3⟩ => ?_
  subst eu e3
  refine thn (hst.run pins s3 σ H3 (fun o H4 => o = some (-1) ∧ H4 = H3) I3 ⟨1, rfl, -1, rfl, rfl, rfl⟩) fun vs s4 ⟨o, H4, I4, ps, eo, e4⟩ => ?_
  subst eo e4
  have I5 : Inv X pins σ H4 { s4 with heap := s4.heap.push { cls := .type "slice", data := .fields #[vl, vu, vs] } } := I4.kept (t' := s4.toks) fun b ob q => Heap.get?_push_of_some _ q
  show wpAny (model X.prog X.w) X.A (subscriptTail e (.Slice none none (some (.UnaryOp .USub (.Constant (.int 1) k p1) p2)) p3) (.ref a) (.ref s4.heap.objs.size)) (EP X pins σ Q) X.xe { s4 with heap := s4.heap.push { cls := .type "slice", data := .fields #[vl, vu, vs] } }
  rcases q with ⟨hx, q⟩ | ⟨hx, q⟩
  · obtain ⟨its, r, ht, hz⟩ := I5.list hx
    have hlen := r.length
    refine tail_any (ops := [.ref a, .ref s4.heap.objs.size]) ht.isList.typeIs (PySem.slot_list_getitem.lookup) ?_ (by with_unfolding_all rfl)
    refine wpAny_getItem_list_slice ht.isList (Heap.IsSliceOf.new _ vl vu vs) pl pu ps (by decide) ?_ (by rw [List.size_toArray]; omega)
    rw [PySem.W.krv_pick]
    refine ⟨.ref _, _, I5.laid (t' := s4.toks) (o := .lst xs.reverse) (fun b ob q => Heap.get?_push_of_some _ q) (Nat.le_refl _) ?_, rfl, q _ (I5.hok.fresh (Nat.le_refl _))⟩
    exact ⟨by rw [List.length_reverse]; exact hz, _, 0, r.reverse, Heap.get?_push_size _ rfl⟩
  · obtain ⟨its, r, ht, hz⟩ := I5.tuple hx
    have hlen := r.length
    refine tail_any (ops := [.ref a, .ref s4.heap.objs.size]) ht.typeIs PyProof.Rows.slot_tuple_getitem.lookup ?_ (by with_unfolding_all rfl)
    cases pl
    cases pu
    refine getItem_tuple_rev ht (Heap.IsSliceOf.new _ .none .none vs) ps ?_ (by rw [List.size_toArray]; omega)
    refine ⟨.ref _, _, I5.laid (t' := s4.toks) (o := .tup xs.reverse) (fun b ob q => Heap.get?_push_of_some _ q) (Nat.le_refl _) ?_, rfl, q _ (I5.hok.fresh (Nat.le_refl _))⟩
    exact ⟨by rw [List.length_reverse]; exact hz, its.reverse, r.reverse, _, Heap.get?_push_size _ rfl, rfl, 0, rfl⟩
end
end Pd
set_option Elab.async false
set_option linter.all false
set_option maxRecDepth 100000
set_option maxHeartbeats 4000000
/-! PdEnum: enumerate(tuple). -/
namespace Pd
open PySem PySem.Spec PyProof.Rows L2
open Sem (wp)
open AutoSeq1 (wpAny_loadPart')
theorem tup_enum_meets (l : Addr) (items : Array Value) (n : Nat) (dct : Option Addr) (sl : Array (Option Value)) :
    Meets (Builtin.«enumerate.__new__» ⟨[.type "enumerate", .ref l], []⟩) (fun _ R s => s.heap.get? l = some { cls := .type "tuple", dict := dct, data := .seq items n, slots := sl } ∧
      R (.ok (.ret (.ref (s.heap.push { cls := .type "tuple_iterator", data := .fields #[.ref l, .int 0 0] }).objs.size)))
        { s with heap := (s.heap.push { cls := .type "tuple_iterator", data := .fields #[.ref l, .int 0 0] }).push { cls := .type "enumerate", data := .fields #[.none, .bool false, .ref s.heap.objs.size, rawInt 0, .none, .none] } }) :=
  .of_wp fun prog w A R s h => by
    obtain ⟨hp, g, d, tk, os⟩ := s; obtain ⟨hl, h⟩ := h
    have hsub := sub_enumerate
    have hL : Heap.IsTuple (Shared.heap ⟨hp, g, d, tk, os⟩) l items := ⟨_, hl, rfl, n, rfl⟩
    wp_walk using wpAny_loadPart' hl
    refine wpAny_stack_any fun st => wpAny_pure ?_
    split
    · rename_i c _ _ _ _ _
      cases (c == Value.type "enumerate")
      · wp_walk using wpAny_loadPart' hl, wpAny_pyIter_tuple hL
        exact ⟨_, rfl, h⟩
      · wp_walk using wpAny_loadPart' hl, wpAny_pyIter_tuple hL
        exact ⟨_, rfl, h⟩
    · wp_walk using wpAny_loadPart' hl, wpAny_pyIter_tuple hL
      exact ⟨_, rfl, h⟩
section
variable {prog : Program} {w : World} {A : Around} {E : Value → Shared → Prop} {s : Shared}
theorem tup_enum_call {l : Addr} {items : Array Value} {Q : Value → Shared → Prop} (hL : s.heap.IsTuple l items)
    (h : ∀ h', IsEnum h' (s.heap.objs.size + 1) s.heap.objs.size 0 .none → h'.IsTupleIter s.heap.objs.size l 0 → h'.objs.size = s.heap.objs.size + 2 →
      (∀ b o, s.heap.get? b = some o → h'.get? b = some o) → Q (.ref (s.heap.objs.size + 1)) { s with heap := h' }) :
    wpAny (model prog w) A (call (.type "enumerate") [.ref l]) Q E s := by
  obtain ⟨⟨c, dct, dt, sl⟩, hl, hc, n, hd⟩ := hL
  replace hc : c = .type "tuple" := hc
  replace hd : dt = .seq items n := hd
  subst hc hd
  refine callType_new F.called_enumerate (by decide) (F.typeCall_enumerate_1 _) (F.newCall_enumerate_1 _) (fun obj => F.args_object_init_2 obj _) F.entry_enumerate_new
    (tup_enum_meets l items n dct sl) ⟨hl, ?_⟩
  have hz : (s.heap.push { cls := .type "tuple_iterator", data := .fields #[.ref l, .int 0 0] }).objs.size = s.heap.objs.size + 1 := Heap.size_push ..
  show _ ∧ _
  rw [hz]
  have he : IsEnum ((s.heap.push { cls := .type "tuple_iterator", data := .fields #[.ref l, .int 0 0] }).push
      { cls := .type "enumerate", data := .fields #[.none, .bool false, .ref s.heap.objs.size, rawInt 0, .none, .none] }) (s.heap.objs.size + 1) s.heap.objs.size 0 .none := by
    have := Heap.get?_push_size (s.heap.push { cls := .type "tuple_iterator", data := .fields #[.ref l, .int 0 0] })
      (o := { cls := .type "enumerate", data := .fields #[.none, .bool false, .ref s.heap.objs.size, rawInt 0, .none, .none] }) rfl
    rw [hz] at this; exact this
  refine ⟨⟨_, he, rfl⟩, h _ he ⟨_, Heap.get?_push_of_some _ (Heap.get?_push_size _ rfl), rfl, rfl⟩ (by rw [Heap.size_push, hz]) fun b o x => Heap.get?_push_of_some _ (Heap.get?_push_of_some _ x)⟩
end
/-- the tuple at a, each item in a new pair -/
def IteT (K : PySem.W.Frag) (a : Addr) : L2.It :=
  ⟨fun i H => ∃ (xs : List V) (x : V), SqT K H a xs ∧ xs[i]? = some x, fun i H v H' => ∃ T x, v = .ref T ∧ H T = none ∧ H' = upd H T (.tup [.int (i : Nat), x]) ∧ ∀ xs, SqT K H a xs → xs[i]? = some x, fun i H => ∃ xs : List V, SqT K H a xs ∧ xs.length ≤ i⟩
theorem turn_enumT {P : Program} {w : World} {K : PySem.W.Frag} {elts : List Expr} {kk : Nat} {tpos : Pos} (a e it : Addr) :
    Turn P w K (.Tuple elts kk tpos) (IteT K a) [e, it] e (fun i h => (∃ old, IsEnum h e it ((i : Nat) : Int) old) ∧ h.IsTupleIter it a i ∧ e ≠ it ∧ a ≠ it ∧ a ≠ e) where
  mem := by simp
  obj := fun i h st b hb => by
    obtain ⟨⟨old, he⟩, ⟨o, ho, hc, hd⟩, _⟩ := st
    have e' : b = e ∨ b = it := by simpa using hb
    rcases e' with z | z
    · rw [z]; exact ⟨_, he, fun v q => nomatch q⟩
    · rw [z]; exact ⟨o, ho, fun v q => by rw [hd] at q; cases q⟩
  keep := fun i h h' st k => let ⟨⟨old, he⟩, hi, hne⟩ := st; ⟨⟨old, k e (by simp) _ he⟩, hi.at fun o q => k it (by simp) o q, hne⟩
  item := by
    intro X hP hw hK hc i pins s σ H E I hf st hg
    subst hP hw hK
    obtain ⟨⟨old, he⟩, hit, hne, hai, hae⟩ := st
    obtain ⟨xs, x, hq, hx⟩ := hg
    obtain ⟨its, rv, p, hz⟩ := I.tuple hq
    obtain ⟨u, hu, ru⟩ := rv.get hx
    have hel : e < s.heap.objs.size := Heap.lt_size he
    have hil : it < s.heap.objs.size := by obtain ⟨_, q, _⟩ := hit; exact Heap.lt_size q
    have hli : i < its.toArray.size := by simpa using (List.getElem?_eq_some_iff.mp hu).1
    refine wpAny_pyNext_enum_itemD (Draws.tuple (prog := X.prog) (w := X.w) (A := X.A.in1) (show X.A.in1.handled = none from I.ok.hd hc) it a hai its.toArray) he ⟨hit, p⟩ hli hne (by simp [hne, Ne.symm hae]) fun y h' tk hy ho hit' hT hsz hk => ?_
    have ey : y = u := by
      have h1 : its[i]? = some y := by simpa using hy
      rw [hu] at h1; cases h1; rfl
    subst ey
    refine ⟨_, rfl, wpAny_letOwnedTupleGo_enum (s := { s with heap := h', toks := tk + 1 }) ho fun h'' he' sb => ?_⟩
    have hT2 : h''.get? s.heap.objs.size = some { cls := .type "tuple", data := .seq #[.int i tk, y] } := (sb.2 _ (Nat.ne_of_gt hel)).trans hT
    have new : ObjOk X.prog X.w (upd H s.heap.objs.size (.tup [.int (i : Nat), x])) h'' s.heap.objs.size (.tup [.int (i : Nat), x]) :=
      ⟨by show 2 ≤ sizeLine; decide, [.int i tk, y], .cons ⟨_, rfl⟩ (.cons ru .nil), ⟨_, hT2, rfl, _, rfl⟩⟩
    have I1 : Inv X pins σ (upd H s.heap.objs.size (.tup [.int (i : Nat), x])) { s with heap := h'', toks := tk + 1 } :=
      I.turnedNew (ch := [e, it]) (fun b ob hb q => (sb.2 b (fun z => hb (by simp [z]))).trans (hk b ob (fun z => hb (by simp [z])) (fun z => hb (by simp [z])) q)) hf (Nat.le_refl _) new
    refine ⟨.ref s.heap.objs.size, _, I1, rfl, ⟨_, x, rfl, I.hok.fresh (Nat.le_refl _), rfl, fun ys hy => by rw [I.tuple_inj hy hq]; exact hx⟩, ⟨⟨y, ?_⟩, hit'.1.at fun o q => (sb.2 it (Ne.symm hne)).trans q, hne, hai, hae⟩, fun b hb => ?_⟩
    · have e1 : ((i + 1 : Nat) : Int) = (i : Int) + 1 := by omega
      rw [e1]; exact he'
    · have hb' : b < s.heap.objs.size := by
        have e' : b = e ∨ b = it := by simpa using hb
        rcases e' with z | z
        · rw [z]; exact hel
        · rw [z]; exact hil
      rw [upd_ne (Nat.ne_of_lt hb')]
      exact (hf b hb).1
  done := by
    intro X hP hw hK hc i pins s σ H E I hf st hg
    subst hP hw hK
    obtain ⟨⟨old, he⟩, hit, hne, hai, hae⟩ := st
    obtain ⟨xs, hq, hx⟩ := hg
    obtain ⟨its, rv, p, hz⟩ := I.tuple hq
    obtain ⟨f0, f1, f2, f3, f4, f5⟩ := hf it (by simp)
    have hl := rv.length
    have hh : X.A.handled = none := I.ok.hd hc
    have hT : s.TypeIs (.ref e) "enumerate" := ⟨_, he, rfl⟩
    unfold pyNext
    refine wpAny_bind (wpAny_attempt (wpAny_callSpecial?_slot (name := Str.ofString "__next__") hT F.slot_enumerate_next
      (wpAny_call_entry F.slot_enumerate_next hT F.entry_enumerate_next ?_ (F.args_enumerate_next_1 _))))
    show wpAny _ _ (field (.ref e) 2 >>= _) _ _ _
    refine wpAny_bind (wpAny_field he rfl (x := .ref it) rfl ?_)
    refine wpAny_bind (wpAny_nextOf_tuple_end hh hit (show s.heap.IsTuple a its.toArray from p) (by simp; omega) fun h' x he' hx' => ?_)
    obtain ⟨o, ho, hc⟩ := hx'
    refine wpAny_bind (wpAny_isInstance (T := "StopIteration") (b := true) ⟨o, ho, hc⟩ isSubtype_stop ?_)
    exact wpAny_pure ⟨rfl, I.turned (t' := s.toks) (fun b o hb q => he' b o hb q) f0 f1 f3 f4 f5⟩
  self := fun A i s Q E st h => let ⟨⟨_, he⟩, _⟩ := st; wpAny_pyIter_enum he h
def iEnumA (K : PySem.W.Frag) (ta : TA) : TI := fun σ H R => ta σ H fun vs H1 => ∃ a xs, vs = [.ref a] ∧ ((SqL K H1 a xs ∧ R (Ite K a) H1) ∨ (SqT K H1 a xs ∧ R (IteT K a) H1))
theorem pi_enumA {X : Cx} {e : Expr} {ta : TA} {p pos tpos : Pos} {elts : List Expr} {kk : Nat} (hg : Gl X "enumerate") (hm : X.mg "enumerate" = none) (ha : PA X [e] ta) (hs : starEach [e] X.env = [(false, eval e X.env)] := by rfl) :
    PI X (.Tuple elts kk tpos) (.Call (.Name "enumerate" p) [e] [] pos) (iEnumA X.K ta) := by
  refine ⟨fun pins s σ H R I h => ?_⟩
  refine Call_ (ld_blt I hg hm boot_enumerate (PyProof.Rows.callWith_type1 (thn (ha.run pos pins s σ H _ I h) fun us s1 ⟨vs, H1, I1, r1, q1⟩ => ?_) hs rfl))
  obtain ⟨a, xs, ex, q⟩ := q1
  subst ex
  cases r1 with
  | cons r rr =>
    cases rr
    cases r
    have fresh2 : ∀ b ∈ [s1.heap.objs.size + 1, s1.heap.objs.size], FpOk X pins H1 b := fun b hb => by
      have e' : b = s1.heap.objs.size + 1 ∨ b = s1.heap.objs.size := by simpa using hb
      have hle : s1.heap.objs.size ≤ b := by
        rcases e' with z | z
        · rw [z]; exact Nat.le_add_right _ _
        · rw [z]; exact Nat.le_refl _
      exact I1.fpOk hle (I1.hok.fresh hle)
    rcases q with ⟨hq, q⟩ | ⟨hq, q⟩
    · obtain ⟨its, rv, p', hz⟩ := I1.list hq
      refine call_enumerate_list p'.isList fun h' he hit hsz hk => wpAny_pyIter_enum he ?_
      have I2 : Inv X pins σ H1 { s1 with heap := h' } := I1.kept (t' := s1.toks) hk
      exact ⟨s1.heap.objs.size + 1, [s1.heap.objs.size + 1, s1.heap.objs.size], _, _, H1, rfl, I2, turn_enum a (s1.heap.objs.size + 1) s1.heap.objs.size, ⟨⟨.none, he⟩, hit, Nat.succ_ne_self _⟩, fresh2, q⟩
    · obtain ⟨its, rv, p', hz⟩ := I1.tuple hq
      have hal : a < s1.heap.objs.size := by obtain ⟨o, ho, _⟩ := id p'; exact Heap.lt_size ho
      refine tup_enum_call (show s1.heap.IsTuple a its.toArray from p') fun h' he hit hsz hk => wpAny_pyIter_enum he ?_
      have I2 : Inv X pins σ H1 { s1 with heap := h' } := I1.kept (t' := s1.toks) hk
      exact ⟨s1.heap.objs.size + 1, [s1.heap.objs.size + 1, s1.heap.objs.size], _, _, H1, rfl, I2, turn_enumT a (s1.heap.objs.size + 1) s1.heap.objs.size, ⟨⟨.none, he⟩, hit, Nat.succ_ne_self _, Nat.ne_of_lt hal, Nat.ne_of_lt (Nat.lt_succ_of_lt hal)⟩, fresh2, q⟩
end Pd
set_option Elab.async false
set_option linter.all false
set_option maxRecDepth 100000
set_option maxHeartbeats 2000000
/-! PdMin: min, max of a list or a tuple of ints. -/
namespace Pd
open PySem PySem.Spec PyProof.Rows L2
def rBestA (K : PySem.W.Frag) (mx : Bool) : List V → Hp → VK → Prop := fun vs H Q => ∃ (a : Addr) (ns : List Int), vs = [V.ref a] ∧ (SqL K H a (ns.map V.int) ∨ SqT K H a (ns.map V.int)) ∧ 0 < ns.length ∧
  ∀ m, m ∈ ns → (∀ y, y ∈ ns → if mx then y ≤ m else m ≤ y) → Q (.int m) H
section
variable {X : Cx}
theorem val_at {ns : List Int} {its : List Value} (rv : Vals (ns.map V.int) its) {i : Nat} {v : Value} (h : its.toArray[i]? = some v) : ∃ t, v = .int (ns.getD i 0) t := by
  have h : its[i]? = some v := by simpa using h
  have hi := (List.getElem?_eq_some_iff.mp h).1
  have hl := rv.length
  rw [List.length_map] at hl
  obtain ⟨u, hu, ru⟩ := rv.get (i := i) (x := V.int (ns.getD i 0)) (by rw [List.getElem?_map, List.getElem?_eq_getElem (by omega)]; simp [List.getD, List.getElem?_eq_getElem (show i < ns.length by omega)])
  rw [h] at hu
  cases hu
  obtain ⟨t, rfl⟩ := ru
  exact ⟨t, rfl⟩
theorem getD_at {ns : List Int} {i : Nat} (h : i < ns.length) : ns.getD i 0 ∈ ns := by
  rw [List.getD, List.getElem?_eq_getElem h]; exact List.getElem_mem h
theorem at_getD {ns : List Int} {y : Int} (h : y ∈ ns) : ∃ i, i < ns.length ∧ ns.getD i 0 = y := by
  obtain ⟨i, hi, e⟩ := List.mem_iff_getElem.mp h
  exact ⟨i, hi, by rw [List.getD, List.getElem?_eq_getElem hi]; exact e⟩
theorem cr_bestA (hc : X.calm = true) (mx : Bool) : CallR X (.builtin (if mx then "max" else "min")) (rBestA X.K mx) := by
  intro pins s σ H vs us Q I r h
  obtain ⟨a, ns, rfl, hs, hne, q⟩ := h
  rw [Vals.ref1 r]
  have hh := I.ok.hd hc
  have fin : ∀ {its : List Value} (rv : Vals (ns.map V.int) its) (v : Value) (h' : Heap) (tk : Nat) (k : Nat), (∀ b o, s.heap.get? b = some o → h'.get? b = some o) → its.toArray[k]? = some v → k ≤ ns.length - 1 → (∀ j, j ≤ ns.length - 1 → if mx then ns.getD j 0 ≤ ns.getD k 0 else ns.getD k 0 ≤ ns.getD j 0) →
      EP X pins σ Q v { s with heap := h', toks := tk } := by
    intro its rv v h' tk k hk hv hle hb
    obtain ⟨t, rfl⟩ := val_at rv hv
    refine ⟨.int _, H, I.kept hk, ⟨_, rfl⟩, q _ (getD_at (by omega)) fun y hy => ?_⟩
    obtain ⟨j, hj, rfl⟩ := at_getD hy
    exact hb j (by omega)
  have old : ∀ {h' : Heap} {o0 : Obj}, (∀ b o, b ∉ [s.heap.objs.size] → (s.heap.push o0).get? b = some o → h'.get? b = some o) → ∀ b o, s.heap.get? b = some o → h'.get? b = some o := fun {h' o0} hk b o e => by
    refine hk b o (fun hm => ?_) (Heap.get?_push_of_some _ e)
    rcases List.mem_cons.mp hm with e1 | hm
    · exact absurd (e1 ▸ Heap.lt_size e) (Nat.lt_irrefl _)
    · cases hm
  have two : ∀ {a : Addr} {o0 : Obj}, a < s.heap.objs.size → ∀ b ∈ [s.heap.objs.size, a], b < (s.heap.push o0).objs.size := fun {a o0} ha b hb => by
    rw [Heap.size_push]
    rcases List.mem_cons.mp hb with rfl | hb
    · exact Nat.lt_succ_self _
    · rcases List.mem_cons.mp hb with rfl | hb
      · exact Nat.lt_succ_of_lt ha
      · cases hb
  have ab_gt := argBest_gt (fun i => ns.getD i 0)
  have ab_lt := argBest_lt (fun i => ns.getD i 0)
  rcases hs with hs | hs
  · obtain ⟨its, rv, hl, _⟩ := I.list hs
    have hlen : its.toArray.size = ns.length := by have := rv.length; simp at this; simp; omega
    cases mx with
    | true =>
      refine call_max_walk (wpAny_pyIter_list hl.isList ?_)
      refine ⟨_, _, _, _, _, _, _, rfl, Walks.list (A := X.A.in1) hh _ a (Nat.ne_of_lt hl.lt) its.toArray, ⟨⟨_, Heap.get?_push_size _ rfl, rfl, rfl⟩, hl.isList.push _⟩, two hl.lt, by rw [hlen]; exact hne, CmpOf.ints_gt (fun i => ns.getD i 0) (fun i v h => val_at rv h), fun v h' tk hP hk => ?_⟩
      rw [hlen] at hP
      exact fin rv v h' tk _ (old hk) hP (ab_gt _).1 (ab_gt _).2
    | false =>
      refine call_min_walk (wpAny_pyIter_list hl.isList ?_)
      refine ⟨_, _, _, _, _, _, _, rfl, Walks.list (A := X.A.in1) hh _ a (Nat.ne_of_lt hl.lt) its.toArray, ⟨⟨_, Heap.get?_push_size _ rfl, rfl, rfl⟩, hl.isList.push _⟩, two hl.lt, by rw [hlen]; exact hne, CmpOf.ints_lt (fun i => ns.getD i 0) (fun i v h => val_at rv h), fun v h' tk hP hk => ?_⟩
      rw [hlen] at hP
      exact fin rv v h' tk _ (old hk) hP (ab_lt _).1 (ab_lt _).2
  · obtain ⟨its, rv, hl, _⟩ := I.tuple hs
    have hlen : its.toArray.size = ns.length := by have := rv.length; simp at this; simp; omega
    have hT : s.heap.IsTuple a its.toArray := hl
    have hlt : a < s.heap.objs.size := by obtain ⟨o, ho, _⟩ := id hl; exact Heap.lt_size ho
    have hT2 : ∀ o0, (s.heap.push o0).IsTuple a its.toArray := fun o0 => hT.at fun o e => Heap.get?_push_of_some _ e
    cases mx with
    | true =>
      refine call_max_walk (wpAny_pyIter_tuple hT ?_)
      refine ⟨_, _, _, _, _, _, _, rfl, Walks.tuple (A := X.A.in1) hh _ a (Nat.ne_of_lt hlt) its.toArray, ⟨⟨_, Heap.get?_push_size _ rfl, rfl, rfl⟩, hT2 _⟩, two hlt, by rw [hlen]; exact hne, CmpOf.ints_gt (fun i => ns.getD i 0) (fun i v h => val_at rv h), fun v h' tk hP hk => ?_⟩
      rw [hlen] at hP
      exact fin rv v h' tk _ (old hk) hP (ab_gt _).1 (ab_gt _).2
    | false =>
      refine call_min_walk (wpAny_pyIter_tuple hT ?_)
      refine ⟨_, _, _, _, _, _, _, rfl, Walks.tuple (A := X.A.in1) hh _ a (Nat.ne_of_lt hlt) its.toArray, ⟨⟨_, Heap.get?_push_size _ rfl, rfl, rfl⟩, hT2 _⟩, two hlt, by rw [hlen]; exact hne, CmpOf.ints_lt (fun i => ns.getD i 0) (fun i v h => val_at rv h), fun v h' tk hP hk => ?_⟩
      rw [hlen] at hP
      exact fin rv v h' tk _ (old hk) hP (ab_lt _).1 (ab_lt _).2
end
end Pd
set_option Elab.async false
set_option linter.all false
set_option maxRecDepth 100000
set_option maxHeartbeats 1000000
/-! Pd5: the operations on values, by HandS's rules. -/
namespace Pd
open PySem PySem.Spec PyProof.Rows L2

section
variable {G : Gl0} {T T' : Tk} {n n' : Nat} {H H' : Hp} {S : Sto} {x : V} {w : W} {p : Addr} {xs : List V} {ws : List W} {ds : List PyData} {K : PySem.W.Frag}
theorem VDs.length : ∀ {xs : List V} {ds : List PyData}, VDs K T H xs ds → xs.length = ds.length
  | _, _, .nil => rfl
  | _, _, .cons _ r => congrArg (· + 1) (VDs.length r)
theorem VRs.length : ∀ {xs : List V} {ws : List W}, VRs G T n H xs ws → xs.length = ws.length
  | _, _, .nil => rfl
  | _, _, .cons _ r => congrArg (· + 1) (VRs.length r)
theorem VDs.lift : ∀ {xs : List V} {ds : List PyData}, VDs G.K T H xs ds → VRs G T n H xs (ds.map W.v)
  | _, _, .nil => .nil
  | _, _, .cons h r => .cons (.v h) (VDs.lift r)
theorem VRs.data : ∀ {xs : List V} {ds : List PyData}, VRs G T n H xs (ds.map W.v) → VDs G.K T H xs ds
  | _, [], .nil => .nil
  | _, _ :: _, .cons (.v h) r => .cons h (VRs.data r)
theorem VRs.append : ∀ {xs ys : List V} {ws us : List W}, VRs G T n H xs ws → VRs G T n H ys us → VRs G T n H (xs ++ ys) (ws ++ us)
  | _, _, _, _, .nil, r => r
  | _, _, _, _, .cons h s, r => .cons h (VRs.append s r)
theorem VRs.get : ∀ {xs : List V} {ws : List W} {i : Nat} {w : W}, VRs G T n H xs ws → ws[i]? = some w → ∃ x, xs[i]? = some x ∧ VR G T n H x w
  | _, _, _, _, .nil, e => by simp at e
  | _, _, 0, _, .cons h _, e => by simp at e; subst e; exact ⟨_, rfl, h⟩
  | _, _, i + 1, _, .cons _ r, e => by
    obtain ⟨x, h1, h2⟩ := VRs.get (i := i) r (by simpa using e)
    exact ⟨x, by simpa using h1, h2⟩
theorem VRs.getV : ∀ {xs : List V} {ws : List W} {i : Nat} {x : V}, VRs G T n H xs ws → xs[i]? = some x → ∃ w, ws[i]? = some w ∧ VR G T n H x w
  | _, _, _, _, .nil, e => by simp at e
  | _, _, 0, _, .cons h _, e => by simp at e; subst e; exact ⟨_, rfl, h⟩
  | _, _, i + 1, _, .cons _ r, e => by
    obtain ⟨w, h1, h2⟩ := VRs.getV (i := i) r (by simpa using e)
    exact ⟨w, by simpa using h1, h2⟩
theorem VRs.take : ∀ {xs : List V} {ws : List W} (k : Nat), VRs G T n H xs ws → VRs G T n H (xs.take k) (ws.take k)
  | _, _, 0, _ => by simpa using VRs.nil
  | _, _, k + 1, .nil => by simpa using VRs.nil
  | _, _, k + 1, .cons h r => by simpa using VRs.cons h (VRs.take k r)
theorem VRs.drop : ∀ {xs : List V} {ws : List W} (k : Nat), VRs G T n H xs ws → VRs G T n H (xs.drop k) (ws.drop k)
  | _, _, 0, r => by simpa using r
  | _, _, k + 1, .nil => by simpa using VRs.nil
  | _, _, k + 1, .cons _ r => by simpa using VRs.drop k r
theorem VRs.set (h : VR G T n H x w) : ∀ {xs : List V} {ws : List W} (k : Nat), VRs G T n H xs ws → VRs G T n H (xs.set k x) (ws.set k w)
  | _, _, _, .nil => by simpa using VRs.nil
  | _, _, 0, .cons _ r => by simpa using VRs.cons h r
  | _, _, k + 1, .cons q r => by simpa using VRs.cons q (VRs.set h k r)
theorem VRs.reverse : ∀ {xs : List V} {ws : List W}, VRs G T n H xs ws → VRs G T n H xs.reverse ws.reverse
  | _, _, .nil => by simpa using VRs.nil
  | _, _, .cons h r => by simpa using VRs.append (VRs.reverse r) (.cons h .nil)
theorem VRs.rep (r : VRs G T n H xs ws) : ∀ k : Nat, VRs G T n H (List.replicate k xs).flatten (List.replicate k ws).flatten
  | 0 => by simpa using VRs.nil
  | k + 1 => by
    rw [List.replicate_succ, List.replicate_succ, List.flatten_cons, List.flatten_cons]
    exact VRs.append r (VRs.rep r k)
/-- an object is made -/
theorem Step.new (o : HO) (hp : H p = none) : Step T n H T n (upd H p o) :=
  ⟨Nat.le_refl _, fun _ _ => rfl, fun i h1 h2 => absurd h2 (by omega), fun _ h => h, fun _ h => .inl h, fun a u h _ => by rw [upd_ne (ne_of_none h hp)]; exact h, fun a h => by
    by_cases e : a = p
    · subst e; rw [upd_same]; simp
    · rw [upd_ne e]; exact h⟩
theorem Rel.step_same (r : Rel G T S H) (s : Step T S.length H T' S.length H') (kp : ∀ i u, i < S.length → H (T.m i) = some u → H' (T.m i) = some u) (hf : ∀ i, i < S.length → ¬ T'.F (T.m i)) (ht : ∀ a, T'.F a → H' a ≠ none) : Rel G T' S H' := by
  refine ⟨fun l o e => ?_, fun i j hi hj e => ?_, fun i hi => ?_, ht⟩
  · have hl : l < S.length := (List.getElem?_eq_some_iff.mp e).1
    have q := r.obj l o e
    rw [s.mm l hl]
    cases o with
    | lst ws => obtain ⟨xs, h1, h2, h3⟩ := q; exact ⟨xs, kp l _ hl h1, h2, h3.step r.nf s⟩
    | fz ws => obtain ⟨xs, h1, h2, h3⟩ := q; exact ⟨xs, kp l _ hl h1, h2, h3.step r.nf s⟩
    | gone => obtain ⟨u, h1⟩ := q; exact ⟨u, kp l _ hl h1⟩
    | dic _ => exact q.elim
    | ins _ _ => exact q.elim
  · rw [s.mm i hi, s.mm j hj] at e
    exact r.inj i j hi hj e
  · rw [s.mm i hi]; exact hf i hi
theorem Rel.new (r : Rel G T S H) (o : HO) (hp : H p = none) : Rel G T S (upd H p o) :=
  r.step_same (Step.new o hp) (fun i u _ h => by rw [upd_ne (ne_of_none h hp)]; exact h) r.nf fun a h => (Step.new (T := T) (n := 0) o hp).tr a (r.ft a h)
theorem Rel.apart (r : Rel G T S H) (hp : H p = none) : ∀ i, i < S.length → T.m i ≠ p := fun i hi e => by
  have := r.there hi
  rw [e, hp] at this; exact this rfl
/-- a tuple is made: it is frozen -/
theorem new_tup (r : Rel G T S H) (hp : H p = none) (h : VRs G T S.length H xs ws) (hl : xs.length ≤ sizeLine) :
    Step T S.length H (T.fz p) S.length (upd H p (.tup xs)) ∧ Rel G (T.fz p) S (upd H p (.tup xs)) ∧ VR G (T.fz p) S.length (upd H p (.tup xs)) (.ref p) (mkSeq true ws) := by
  have s : Step T S.length H T S.length (upd H p (.tup xs)) := Step.new _ hp
  have r1 : Rel G T S (upd H p (.tup xs)) := r.new _ hp
  have ap := r.apart hp
  refine ⟨s.fz hp, r1.fz ap (by rw [upd_same]; simp), ?_⟩
  have hv := (h.step r.nf s).fz p
  have hz : FzT (T.fz p) (upd H p (.tup xs)) p xs := ⟨.inr rfl, upd_same, hl⟩
  unfold mkSeq
  cases e : allV ws with
  | none => exact .seqT hz hv
  | some ds =>
    obtain rfl := allV_some e
    exact .v (.tup hz hv.data)
/-- a list is made: it is new -/
theorem new_lst (r : Rel G T S H) (hp : H p = none) (h : VRs G T S.length H xs ws) (hl : xs.length ≤ sizeLine) :
    Step T S.length H T S.length (upd H p (.lst xs)) ∧ Rel G T S (upd H p (.lst xs)) ∧ RR G H T S.length (upd H p (.lst xs)) (.ref p) (mkSeq false ws) true := by
  have s : Step T S.length H T S.length (upd H p (.lst xs)) := Step.new _ hp
  refine ⟨s, r.new _ hp, p, xs, rfl, ?_, r.apart hp, hp, upd_same, hl, ?_⟩
  · exact fun h => r.ft p h hp
  · have hv := h.step r.nf s
    unfold mkSeq
    cases e : allV ws with
    | none => exact .inr ⟨ws, rfl, hv⟩
    | some ds =>
      obtain rfl := allV_some e
      exact .inl ⟨ds, rfl, hv.data⟩
end
end Pd

namespace Pd
open PySem PySem.Spec PyProof.Rows L2
section
variable {G : Gl0} {T T' : Tk} {n n' : Nat} {H H' : Hp} {S : Sto} {x : V} {w : W} {p : Addr} {xs : List V} {ws : List W} {ds : List PyData} {K : PySem.W.Frag} {t : Bool}
theorem lstAt_rel (r : Rel G T S H) {l : Nat} (e : lstAt S l = some ws) : l < S.length ∧ ∃ xs, H (T.m l) = some (.lst xs) ∧ xs.length ≤ sizeLine ∧ VRs G T S.length H xs ws := by
  unfold lstAt at e
  split at e
  · rename_i us h
    cases e
    exact ⟨(List.getElem?_eq_some_iff.mp h).1, r.obj l _ h⟩
  · rename_i us h
    cases e
    exact ⟨(List.getElem?_eq_some_iff.mp h).1, r.obj l _ h⟩
  · cases e
/-- a sequence's items in the heap -/
theorem VR.items (r : Rel G T S H) (h : VR G T S.length H x w) (e : items w S = some (t, ws)) :
    ∃ a xs, x = .ref a ∧ xs.length ≤ sizeLine ∧ VRs G T S.length H xs ws ∧ (t = true → FzT T H a xs) ∧ (t = false → SqL G.K H a xs) := by
  cases h with
  | v h =>
    cases h with
    | tup hz hv => cases e; exact ⟨_, _, rfl, hz.2.2, hv.lift, fun _ => hz, (fun q => nomatch q)⟩
    | lst hz hv => cases e; exact ⟨_, _, rfl, hz.2.2, hv.lift, (fun q => nomatch q), fun _ => hz.sq⟩
    | none => cases e
    | bool _ => cases e
    | int _ => cases e
    | str _ => cases e
  | @loc l hl =>
    have e' : (lstAt S l).map (fun ws => (false, ws)) = some (t, ws) := e
    cases q : lstAt S l with
    | none => rw [q] at e'; cases e'
    | some us =>
      rw [q] at e'; cases e'
      obtain ⟨_, xs, h1, h2, h3⟩ := lstAt_rel r q
      exact ⟨_, xs, rfl, h2, h3, (fun q => nomatch q), fun _ => SqL.of h1⟩
  | fn f => cases e
  | rng _ _ => cases e
  | seqT hz hv => cases e; exact ⟨_, _, rfl, hz.2.2, hv, fun _ => hz, (fun q => nomatch q)⟩
  | ro hz hv => cases e; exact ⟨_, _, rfl, hz.1, hv.lift, (fun q => nomatch q), fun _ => hz.sq⟩
  | seqL hz hv => cases e; exact ⟨_, _, rfl, hz.2.2, hv, (fun q => nomatch q), fun _ => hz.sq⟩
theorem LIM_le {n : Nat} (h : n ≤ LIM) : n ≤ sizeLine := Nat.le_trans h (by rw [sizeLine_eq]; decide)
/-- a list that may be written or is frozen: tracked -/
theorem VR.lst (r : Rel G T S H) (h : VR G T S.length H x w) (e : Pd.items w S = some (false, ws)) (hr : roW w = false) :
    ∃ a xs, x = .ref a ∧ xs.length ≤ sizeLine ∧ VRs G T S.length H xs ws ∧ H a = some (.lst xs) := by
  cases h with
  | v h =>
    cases h with
    | lst hz hv => cases e; exact ⟨_, _, rfl, hz.2.2, hv.lift, hz.2.1⟩
    | tup hz hv => cases e
    | none => cases e
    | bool _ => cases e
    | int _ => cases e
    | str _ => cases e
  | @loc l hl =>
    have e' : (lstAt S l).map (fun ws => (false, ws)) = some (false, ws) := e
    cases q : lstAt S l with
    | none => rw [q] at e'; cases e'
    | some us =>
      rw [q] at e'; cases e'
      obtain ⟨_, xs, h1, h2, h3⟩ := lstAt_rel r q
      exact ⟨_, xs, rfl, h2, h3, h1⟩
  | fn f => cases e
  | rng _ _ => cases e
  | ro _ _ => cases hr
  | seqT hz hv => cases e
  | seqL hz hv => cases e; exact ⟨_, _, rfl, hz.2.2, hv, hz.2.1⟩
/-- a two-place operation of own values -/
def rOpW (G : Gl0) (f : W → W → Sto → Option (W × Bool)) : R2 := fun x y H Q => ∃ T S a b p, Rel G T S H ∧ VR G T S.length H x a ∧ VR G T S.length H y b ∧ f a b S = some p ∧
  ∀ T' H' z, Step T S.length H T' S.length H' → Rel G T' S H' → RR G H T' S.length H' z p.1 p.2 → Q z H'
theorem small_ok {i : Int} (h : small i = true) : -(2 ^ 64) < i ∧ i < 2 ^ 64 := of_decide_eq_true h
theorem wide_ok {i : Int} (h : wide i = true) : i.natAbs < 2 ^ 4000 := of_decide_eq_true h
/-- ** of a great base -/
def CPowW (i j : Int) : Prop := 0 ≤ j ∧ (Builtin.Int.intBits i : Int) * j ≤ 2 ^ 27
theorem op_powW {X : Cx} : OpR X (binaryOp .Pow) (rI CPowW fun i j => .int (i ^ j.toNat)) := opI fun _ _ _ _ _ _ _ hc q => pow_int hc.1 hc.2 q
theorem wide_pow {i j : Int} (h0 : 0 ≤ j) (h1 : j ≤ 4000) (h : i.natAbs < 2 ^ 4000) : CPowW i j := by
  have hb : Builtin.Int.intBits i ≤ 4000 := by
    have := PySem.Flt.log2_lt_of (by decide) h
    unfold Builtin.Int.intBits
    split <;> omega
  refine ⟨h0, ?_⟩
  have : (Builtin.Int.intBits i : Int) * j ≤ 4000 * 4000 := Int.mul_le_mul (by omega) h1 h0 (by decide)
  omega
theorem RR.here {d : PyData} {x : V} (h : VD G.K T H x d) {H0 : Hp} : RR G H0 T n H x (.v d) false := VR.v h
theorem vd_int {x : V} {i : Int} (h : VR G T n H x (.v (.int i))) : x = .int i := by cases h with | v h => cases h; rfl
theorem vd_str {x : V} {i : Str} (h : VR G T n H x (.v (.str i))) : x = .str i := by cases h with | v h => cases h; rfl
theorem vd_bool {x : V} {i : Bool} (h : VR G T n H x (.v (.bool i))) : x = .bl i := by cases h with | v h => cases h; rfl
theorem vd_none {x : V} (h : VR G T n H x (.v .none)) : x = .non := by cases h with | v h => cases h; rfl
theorem mkSeq_true_ne (ws : List W) : mkSeq true ws = (match allV ws with | some ds => .v (.tuple ds) | none => .seq true ws) := by
  unfold mkSeq; cases allV ws <;> rfl
/-- a tuple that is there, told by its items -/
theorem VR.tupOf {a : Addr} (hz : FzT T H a xs) (hv : VRs G T n H xs ws) : VR G T n H (.ref a) (mkSeq true ws) := by
  unfold mkSeq
  cases e : allV ws with
  | none => exact .seqT hz hv
  | some ds => obtain rfl := allV_some e; exact .v (.tup hz hv.data)
theorem VR.lstOf {a : Addr} (hz : FzL T H a xs) (hv : VRs G T n H xs ws) : VR G T n H (.ref a) (mkSeq false ws) := by
  unfold mkSeq
  cases e : allV ws with
  | none => exact .seqL hz hv
  | some ds => obtain rfl := allV_some e; exact .v (.lst hz hv.data)
end
/-- t * 1 -/
theorem tuple_mul1 (l : Addr) (ite : Array Value) (n : Nat) (dd : Option Addr) (sl : Array (Option Value)) (u : Tok) :
    Meets (Builtin.«tuple.__mul__» ⟨[.ref l, .int 1 u], []⟩) (fun _ R s => s.heap.get? l = some ⟨.type "tuple", dd, .seq ite n, sl⟩ ∧ R (.ok (.ret (.ref l))) s) :=
  .of_wp fun P W A R s h => by
    obtain ⟨hp, g, d, tk, os⟩ := s
    obtain ⟨hl, h⟩ := h
    have f1 := PySem.AutoSeq1.idx_int
    wp_walk using PySem.AutoSeq1.wpAny_loadPart' hl
    repeat (first
      | (refine wpAny_ite_false (decide_eq_false (by decide)) ?_; wp_walk using PySem.AutoSeq1.wpAny_loadPart' hl)
      | (refine wpAny_ite_true (decide_eq_true (by rw [Bool.or_eq_true]; exact .inr rfl)) ?_; wp_walk using PySem.AutoSeq1.wpAny_loadPart' hl))
    exact ⟨_, rfl, h⟩
/-- t * 1: the same tuple -/
theorem op_repT1 {X : Cx} : OpR X (binaryOp .Mult) (fun x y H Q => ∃ l xs, x = .ref l ∧ y = .int 1 ∧ SqT X.K H l xs ∧ Q (.ref l) H) := by
  intro pins s σ H x y v u Q I rx ry ⟨l, xs, ex, ey, hT, q⟩
  subst ex; subst ey
  cases rx
  obtain ⟨t, rfl⟩ := ry
  obtain ⟨its, r, ⟨⟨cls, dd, data, sl⟩, ho, hc, n, hd⟩, hs⟩ := I.tuple hT
  simp only at hc hd
  subst hc hd
  exact wpAny_binaryOp_repeat_ref (T := "tuple") (U := "int") (by decide) ⟨_, ho, rfl⟩ (fun s' => typeIs_int s' 1 t) noFill_tuple_mul PySem.F.fills_int_mul PySem.F.slot_int_rmul repeat_tuple PySem.F.slot_int_index.lookup
    (call_meets PySem.F.slot_int_rmul (typeIs_int s 1 t) PySem.F.entry_int_rmul (PySem.F.args_int_rmul_2 _ _) (int_rmul_tuple 1 t l its.toArray n dd sl)
      ⟨ho, rfl, ⟨_, ho, rfl⟩, call_meets PySem.F.slot_tuple_mul ⟨_, ho, rfl⟩ PySem.F.entry_tuple_mul (PySem.F.args_tuple_mul_2 _ _) (tuple_mul1 l its.toArray n dd sl t) ⟨ho, ⟨.ref l, H, I, rfl, q⟩⟩⟩)
theorem flat_rep_len {α : Type} (xs : List α) : ∀ k : Nat, (List.replicate k xs).flatten.length = xs.length * k
  | 0 => by simp
  | k + 1 => by rw [List.replicate_succ, List.flatten_cons, List.length_append, flat_rep_len xs k, Nat.mul_succ, Nat.add_comm]
section
variable {X : Cx} {G : Gl0}
theorem op_bop (hK : X.K = G.K) (op : Bo) : OpR X (binaryOp (boOp op)) (rOpW G (bop op)) := by
  intro pins s σ H x y v u Q I rx ry ⟨T, S, a, b, p, rl, ha, hb, e, q⟩
  have q0 : ∀ z d, p = (.v d, false) → VD G.K T H z d → Q z H := fun z d hp h => q T H z (Step.refl _ _ _) rl (by rw [hp]; exact VR.v h)
  unfold bop at e
  split at e
  · -- +
    cases e; obtain rfl := vd_int ha; obtain rfl := vd_int hb
    exact op_add pins s σ H _ _ v u Q I rx ry ⟨_, _, rfl, rfl, q0 _ _ rfl (.int _)⟩
  · cases e; obtain rfl := vd_int ha; obtain rfl := vd_int hb
    exact op_sub pins s σ H _ _ v u Q I rx ry ⟨_, _, rfl, rfl, q0 _ _ rfl (.int _)⟩
  · split at e
    · rename_i i j hc
      cases e; obtain rfl := vd_int ha; obtain rfl := vd_int hb
      simp only [Bool.or_eq_true, Bool.and_eq_true] at hc
      rcases hc with (h1 | h1) | ⟨h1, h2⟩
      · exact op_mul pins s σ H _ _ v u Q I rx ry ⟨_, _, rfl, rfl, .inl (small_ok h1), q0 _ _ rfl (.int _)⟩
      · exact op_mul pins s σ H _ _ v u Q I rx ry ⟨_, _, rfl, rfl, .inr (small_ok h1), q0 _ _ rfl (.int _)⟩
      · exact op_mulW pins s σ H _ _ v u Q I rx ry ⟨_, _, rfl, rfl, wide_mul (wide_ok h1) (wide_ok h2) (by decide) (by decide) (by decide), q0 _ _ rfl (.int _)⟩
    · cases e
  · split at e
    · rename_i i j hc
      cases e; obtain rfl := vd_int ha; obtain rfl := vd_int hb
      simp only [Bool.and_eq_true, decide_eq_true_eq] at hc
      exact op_fdivW pins s σ H _ _ v u Q I rx ry ⟨_, _, rfl, rfl, wide_div hc.1 (wide_ok hc.2) (by decide) (by decide), q0 _ _ rfl (.int _)⟩
    · cases e
  · split at e
    · rename_i i j hc
      cases e; obtain rfl := vd_int ha; obtain rfl := vd_int hb
      exact op_mod pins s σ H _ _ v u Q I rx ry ⟨_, _, rfl, rfl, of_decide_eq_true hc, q0 _ _ rfl (.int _)⟩
    · cases e
  · split at e
    · rename_i i j hc
      cases e; obtain rfl := vd_int ha; obtain rfl := vd_int hb
      simp only [Bool.and_eq_true, decide_eq_true_eq] at hc
      exact op_powW pins s σ H _ _ v u Q I rx ry ⟨_, _, rfl, rfl, wide_pow hc.1.1 hc.1.2 (wide_ok hc.2), q0 _ _ rfl (.int _)⟩
    · cases e
  · split at e
    · rename_i i j hc
      cases e; obtain rfl := vd_str ha; obtain rfl := vd_str hb
      exact op_add_str pins s σ H _ _ v u Q I rx ry ⟨_, _, rfl, rfl, LIM_le hc, q0 _ _ rfl (.str _)⟩
    · cases e
  · -- sequences
    split at e
    · rename_i xs' ys' h1 h2
      split at e
      · rename_i hc
        cases e
        obtain ⟨a1, xs1, rfl, l1, r1, t1, _⟩ := ha.items rl h1
        obtain ⟨a2, xs2, rfl, l2, r2, t2, _⟩ := hb.items rl h2
        have z1 := t1 rfl
        have z2 := t2 rfl
        have len1 := r1.length
        have len2 := r2.length
        refine op_catA pins s σ H _ _ v u Q I rx ry ⟨a1, a2, xs1, xs2, rfl, rfl, z1.sq, z2.sq, LIM_le (by omega), fun hx => ?_, fun hx hy => ?_, fun hx hy p hp => ?_⟩
        · subst hx
          have : xs' = [] := by cases xs' with | nil => rfl | cons _ _ => simp at len1
          subst this
          exact q T H _ (Step.refl _ _ _) rl (show VR _ _ _ _ _ _ by simpa using VR.tupOf z2 r2)
        · subst hy
          have : ys' = [] := by cases ys' with | nil => rfl | cons _ _ => simp at len2
          subst this
          exact q T H _ (Step.refl _ _ _) rl (show VR _ _ _ _ _ _ by simpa using VR.tupOf z1 r1)
        · obtain ⟨s1, s2, s3⟩ := new_tup rl hp (r1.append r2) (LIM_le (by rw [List.length_append]; omega))
          exact q _ _ _ s1 s2 s3
      · cases e
    · rename_i xs' ys' h1 h2
      split at e
      · rename_i hc
        cases e
        simp only [Bool.and_eq_true, Bool.not_eq_true', decide_eq_true_eq] at hc
        obtain ⟨a1, xs1, rfl, l1, r1, t1⟩ := ha.lst rl h1 hc.1.1
        obtain ⟨a2, xs2, rfl, l2, r2, t2⟩ := hb.lst rl h2 hc.1.2
        have len1 := r1.length
        have len2 := r2.length
        have hl : xs1.length + xs2.length ≤ sizeLine := LIM_le (by omega)
        refine op_cat pins s σ H _ _ v u Q I rx ry ⟨a1, a2, xs1, xs2, rfl, rfl, t1, t2, hl, fun p hp => ?_⟩
        obtain ⟨s1, s2, s3⟩ := new_lst rl hp (r1.append r2) (by rw [List.length_append]; exact hl)
        exact q _ _ _ s1 s2 s3
      · cases e
    · cases e
  · split at e
    · rename_i k _ _ xs' h1
      split at e
      · rename_i hc
        cases e
        simp only [Bool.and_eq_true, Bool.not_eq_true', decide_eq_true_eq] at hc
        obtain ⟨a1, xs1, rfl, l1, r1, t1⟩ := ha.lst rl h1 hc.1.1
        obtain rfl := vd_int hb
        have len1 := r1.length
        have hl : xs1.length * k.toNat ≤ sizeLine := LIM_le (by rw [len1]; exact hc.2)
        refine op_rep pins s σ H _ _ v u Q I rx ry ⟨a1, k, xs1, rfl, rfl, t1, by omega, by omega, hl, fun p hp => ?_⟩
        obtain ⟨s1, s2, s3⟩ := new_lst rl hp (r1.rep k.toNat) (by rw [flat_rep_len]; exact hl)
        exact q _ _ _ s1 s2 s3
      · cases e
    · rename_i k _ _ xs' h1
      split at e
      · rename_i hk
        cases e
        subst hk
        obtain ⟨a1, xs1, rfl, l1, r1, t1, _⟩ := ha.items rl h1
        obtain rfl := vd_int hb
        have z1 := t1 rfl
        exact op_repT1 pins s σ H _ _ v u Q I rx ry ⟨a1, xs1, rfl, rfl, z1.sq, q T H _ (Step.refl _ _ _) rl (VR.tupOf z1 r1)⟩
      split at e
      · rename_i hc
        cases e
        simp only [Bool.and_eq_true, Bool.not_eq_true', decide_eq_true_eq] at hc
        obtain ⟨a1, xs1, rfl, l1, r1, t1, _⟩ := ha.items rl h1
        obtain rfl := vd_int hb
        have z1 := t1 rfl
        have len1 := r1.length
        have hne : xs1 ≠ [] := fun h => by
          subst h
          have : xs' = [] := by cases xs' with | nil => rfl | cons _ _ => simp at len1
          rw [this] at hc; simp at hc
        refine op_repT pins s σ H _ _ v u Q I rx ry ⟨a1, k, xs1, rfl, rfl, z1.sq, hne, hc.2.1, hc.2.2.1, by omega, fun p hp => ?_⟩
        have hl : xs1.length * k.toNat ≤ sizeLine := by
          have : xs1.length * k.toNat ≤ 1000 * 1000 := Nat.mul_le_mul (by omega) (by omega)
          exact LIM_le this
        obtain ⟨s1, s2, s3⟩ := new_tup rl hp (r1.rep k.toNat) (by rw [flat_rep_len]; exact hl)
        exact q _ _ _ s1 s2 s3
      · cases e
    · cases e
  · cases e
end
/-! ### comparisons -/
section
variable {K : PySem.W.Frag} {T : Tk} {H : Hp} {G : Gl0} {n : Nat}
mutual
theorem VD.dp : ∀ {x : V} {d : PyData}, VD K T H x d → Dp K H x d
  | _, _, .none => .non
  | _, _, .bool b => .bl b
  | _, _, .int i => .int i
  | _, _, .str i => .str i
  | _, _, .tup h r => .tup h.sq (VDs.dp r)
  | _, _, .lst h r => .lst h.sq (VDs.dp r)
theorem VDs.dp : ∀ {xs : List V} {ds : List PyData}, VDs K T H xs ds → DpAll K H xs ds
  | _, _, .nil => .nil
  | _, _, .cons h r => .cons (VD.dp h) (VDs.dp r)
end
end
section
variable {X : Cx} {pins : List (Addr × Obj)} {s : Shared} {σ : L2.St} {H : Hp} {T : Tk}
theorem VDs.get {K : PySem.W.Frag} : ∀ {xs : List V} {ds : List PyData} {i : Nat} {x : V}, VDs K T H xs ds → xs[i]? = some x → ∃ d, ds[i]? = some d ∧ VD K T H x d
  | _, _, _, _, .nil, e => by simp at e
  | _, _, 0, _, .cons h _, e => by simp at e; subst e; exact ⟨_, rfl, h⟩
  | _, _, i + 1, _, .cons _ r, e => by
    obtain ⟨w, h1, h2⟩ := VDs.get (i := i) r (by simpa using e)
    exact ⟨w, by simpa using h1, h2⟩
theorem canLayAll_get : ∀ {ds : List PyData} {i : Nat} {d : PyData}, PyData.canLayAll0 ds = true → ds[i]? = some d → d.canLay0 = true
  | [], _, _, _, e => by simp at e
  | x :: xs, 0, d, h, e => by simp at e; subst e; exact (Bool.and_eq_true_iff.mp h).1
  | x :: xs, i + 1, d, h, e => canLayAll_get (i := i) (Bool.and_eq_true_iff.mp h).2 (by simpa using e)
theorem depthAll_get : ∀ {ds : List PyData} {i : Nat} {d : PyData}, ds[i]? = some d → d.depth ≤ PyData.depthAll ds
  | [], _, _, e => by simp at e
  | x :: xs, 0, d, e => by simp at e; subst e; exact Nat.le_max_left _ _
  | x :: xs, i + 1, d, e => Nat.le_trans (depthAll_get (i := i) (by simpa using e)) (Nat.le_max_right _ _)
/-- dlts by places -/
theorem dlts_lex : ∀ (xs ys : List PyData), dlts xs ys = Ob.lexAt (fun j => PyData.eqv (xs.getD j .none) (ys.getD j .none)) (fun j => dlt (xs.getD j .none) (ys.getD j .none)) (decide (xs.length < ys.length)) 0 (min xs.length ys.length)
  | [], [] => by simp [dlts, Ob.lexAt]
  | [], _ :: _ => by simp [dlts, Ob.lexAt]
  | _ :: _, [] => by simp [dlts, Ob.lexAt]
  | x :: xs, y :: ys => by
    have ih := dlts_lex xs ys
    have sh : ∀ (e r : Nat → Bool) (z : Bool) (k i : Nat), Ob.lexAt e r z (i + 1) k = Ob.lexAt (fun j => e (j + 1)) (fun j => r (j + 1)) z i k := by
      intro e r z k
      induction k with
      | zero => intro i; rfl
      | succ k ih => intro i; simp only [Ob.lexAt_succ]; rw [ih]
    have hm : min (x :: xs).length (y :: ys).length = min xs.length ys.length + 1 := by simp [Nat.add_min_add_right]
    rw [hm, Ob.lexAt_succ, sh]
    simp only [dlts, List.getD_cons_zero, List.getD_cons_succ, List.length_cons, Nat.add_lt_add_iff_right]
    rw [ih]
theorem dcms_get : ∀ {xs ys : List PyData} {j : Nat} {a b : PyData}, dcms xs ys = true → xs[j]? = some a → ys[j]? = some b → dcm a b = true
  | [], _, _, _, _, _, e, _ => by simp at e
  | _ :: _, [], _, _, _, _, _, e => by simp at e
  | x :: xs, y :: ys, 0, a, b, h, e1, e2 => by simp at e1 e2; subst e1; subst e2; exact (Bool.and_eq_true_iff.mp (by simpa [dcms] using h)).1
  | x :: xs, y :: ys, j + 1, a, b, h, e1, e2 => dcms_get (j := j) (Bool.and_eq_true_iff.mp (by simpa [dcms] using h)).2 (by simpa using e1) (by simpa using e2)
theorem getD_some {α : Type} {xs : List α} {j : Nat} {a d : α} (h : xs[j]? = some a) : xs.getD j d = a := by
  rw [List.getD_eq_getElem?_getD, h]; rfl
/-- < of data -/
theorem rc_lt (I : Inv X pins σ H s) : ∀ (k : Nat) (A : Around) (d e : PyData) (x y : V) (v u : Value), VD X.K T H x d → VD X.K T H y e → RelV x v → RelV y u → d.canLay0 = true → e.canLay0 = true → dcm d e = true →
    min d.depth e.depth ≤ k → A.units + k + 1 < cLine → Ob.RcOp .Lt A s v u (dlt d e) := by
  intro k
  induction k with
  | zero =>
    intro A d e x y v u hd he rx ry cd ce hc hk hu
    cases hd with
    | int i =>
      cases he with
      | int j => obtain ⟨t, rfl⟩ := rx; obtain ⟨t', rfl⟩ := ry; exact Ob.RcOp.lt_int _ _ _ _
      | _ => cases hc
    | str i =>
      cases he with
      | str j => obtain ⟨t, rfl⟩ := rx; obtain ⟨t', rfl⟩ := ry; exact fun _ _ _ _ h => PyProof.Rows.lt_str h
      | _ => cases hc
    | tup h r =>
      cases he with
      | tup h' r' => simp [PyData.depth] at hk
      | _ => cases hc
    | _ => cases hc
  | succ k ih =>
    intro A d e x y v u hd he rx ry cd ce hc hk hu
    cases hd with
    | int i =>
      cases he with
      | int j => obtain ⟨t, rfl⟩ := rx; obtain ⟨t', rfl⟩ := ry; exact Ob.RcOp.lt_int _ _ _ _
      | _ => cases hc
    | str i =>
      cases he with
      | str j => obtain ⟨t, rfl⟩ := rx; obtain ⟨t', rfl⟩ := ry; exact fun _ _ _ _ h => PyProof.Rows.lt_str h
      | _ => cases hc
    | @tup a xs ds h r =>
      cases he with
      | @tup b ys es h' r' =>
        cases rx
        cases ry
        obtain ⟨its, r1, p1, _⟩ := I.tuple h.sq
        obtain ⟨its2, r2, p2, _⟩ := I.tuple h'.sq
        have l1 := r.length
        have l2 := r'.length
        have l3 := r1.length
        have l4 := r2.length
        have hk' : min (PyData.depthAll ds) (PyData.depthAll es) ≤ k := by
          have : min (PyData.depthAll ds + 1) (PyData.depthAll es + 1) ≤ k + 1 := hk
          omega
        have at_ : ∀ j (h1 : j < its.toArray.size) (h2 : j < its2.toArray.size), ∃ x y d e, xs[j]? = some x ∧ ys[j]? = some y ∧ ds[j]? = some d ∧ es[j]? = some e ∧ VD X.K T H x d ∧ VD X.K T H y e ∧ RelV x its.toArray[j] ∧ RelV y its2.toArray[j] := by
          intro j h1 h2
          simp only [List.size_toArray] at h1 h2
          obtain ⟨x, hx⟩ : ∃ x, xs[j]? = some x := ⟨xs[j], List.getElem?_eq_getElem (by omega)⟩
          obtain ⟨y, hy⟩ : ∃ y, ys[j]? = some y := ⟨ys[j], List.getElem?_eq_getElem (by omega)⟩
          obtain ⟨d, hd, vd⟩ := r.get hx
          obtain ⟨e, he, ve⟩ := r'.get hy
          obtain ⟨u1, hu1, ru1⟩ := r1.get hx
          obtain ⟨u2, hu2, ru2⟩ := r2.get hy
          refine ⟨x, y, d, e, hx, hy, hd, he, vd, ve, ?_, ?_⟩
          · have : its.toArray[j] = u1 := by
              have := (List.getElem?_eq_some_iff.mp hu1).2; simpa using this
            rw [this]; exact ru1
          · have : its2.toArray[j] = u2 := by
              have := (List.getElem?_eq_some_iff.mp hu2).2; simpa using this
            rw [this]; exact ru2
        have R := Ob.RcOp.tuples_lt (A := A) (s := s) (e := fun j => PyData.eqv (ds.getD j .none) (es.getD j .none)) (r := fun j => dlt (ds.getD j .none) (es.getD j .none)) p1 p2 (by omega) (fun j h1 h2 => by
          obtain ⟨x, y, d, e, hx, hy, hd, he, vd, ve, rx, ry⟩ := at_ j h1 h2
          obtain ⟨as, q1⟩ := Dp.reads I d x _ vd.dp rx
          obtain ⟨bs, q2⟩ := Dp.reads I e y _ ve.dp ry
          have m1 := depthAll_get hd
          have m2 := depthAll_get he
          show SeqAt.EqAt A.in1 s its.toArray[j] its2.toArray[j] (PyData.eqv (ds.getD j .none) (es.getD j .none))
          rw [getD_some hd, getD_some he]
          exact SeqAt.eqAt_reads d e A.in1 s _ _ as bs q1 q2 (canLayAll_get cd hd) (canLayAll_get ce he) (by show A.units + 1 + _ < _; omega)) (fun j h1 h2 _ => by
          obtain ⟨x, y, d, e, hx, hy, hd, he, vd, ve, rx, ry⟩ := at_ j h1 h2
          have m1 := depthAll_get hd
          have m2 := depthAll_get he
          show Ob.RcOp .Lt A.in1 s its.toArray[j] its2.toArray[j] (dlt (ds.getD j .none) (es.getD j .none))
          rw [getD_some hd, getD_some he]
          exact ih A.in1 d e x y _ _ vd ve rx ry (canLayAll_get cd hd) (canLayAll_get ce he) (dcms_get (by simpa [dcm] using hc) hd he) (by omega) (by show A.units + 1 + k + 1 < _; omega))
        have e1 : its.toArray.size = ds.length := by rw [List.size_toArray]; omega
        have e2 : its2.toArray.size = es.length := by rw [List.size_toArray]; omega
        rw [e1, e2, ← dlts_lex] at R
        exact R
      | _ => cases hc
    | _ => cases hc
end
end Pd
set_option Elab.async false
set_option linter.all false
set_option maxRecDepth 100000
set_option maxHeartbeats 1000000
/-! Pd6: comparisons, items, slices, built-ins, methods. -/
namespace Pd
open PySem PySem.Spec PyProof.Rows L2

/-- a comparison of own values -/
def rCW (G : Gl0) (f : W → W → Sto → Option Bool) : R2 := fun x y H Q => ∃ T S a b t, Rel G T S H ∧ VR G T S.length H x a ∧ VR G T S.length H y b ∧ f a b S = some t ∧ Q (.bl t) H
section
variable {X : Cx} {G : Gl0} {T : Tk} {H : Hp} {n : Nat} {S : Sto}
/-- the data that == sees -/
def eqD (w : W) (S : Sto) : Option PyData := match w with
  | .v d => some d
  | .loc _ => (items w S).bind fun p => (allV p.2).map fun ds => .list ds
  | _ => none
theorem eqD_dp {x : V} {w : W} {d : PyData} (r : Rel G T S H) (h : VR G T S.length H x w) (e : eqD w S = some d) : Dp G.K H x d := by
  cases h with
  | v h => cases e; exact h.dp
  | @loc l hl =>
    have e' : (items (.loc l) S).bind (fun p => (allV p.2).map fun ds => PyData.list ds) = some d := e
    cases q : items (.loc l) S with
    | none => rw [q] at e'; cases e'
    | some p =>
      rw [q] at e'
      obtain ⟨t, ws⟩ := p
      have ht : t = false := by
        have q' : (lstAt S l).map (fun ws => (false, ws)) = some (t, ws) := q
        cases z : lstAt S l with
        | none => rw [z] at q'; cases q'
        | some _ => rw [z] at q'; cases q'; rfl
      subst ht
      have e2 : (allV ws).map (fun ds => PyData.list ds) = some d := e'
      cases z : allV ws with
      | none => rw [z] at e2; cases e2
      | some ds =>
        rw [z] at e2; cases e2
        obtain rfl := allV_some z
        obtain ⟨a, xs, e1, l1, r1, h1⟩ := VR.lst r (VR.loc hl) q rfl
        rw [e1]
        exact .lst (SqL.of h1) r1.data.dp
  | _ => cases e
theorem eqW_some {a b : W} {t : Bool} (e : eqW a b S = some t) : ∃ x y, eqD a S = some x ∧ eqD b S = some y ∧ okD x y = true ∧ t = PyData.eqv x y := by
  have e' : (eqD a S).bind (fun x => (eqD b S).bind fun y => if okD x y then some (PyData.eqv x y) else none) = some t := e
  cases q : eqD a S with
  | none => rw [q] at e'; cases e'
  | some x =>
    rw [q] at e'
    have e' : (eqD b S).bind (fun y => if okD x y then some (PyData.eqv x y) else none) = some t := e'
    cases z : eqD b S with
    | none => rw [z] at e'; cases e'
    | some y =>
      rw [z] at e'
      have e' : (if okD x y then some (PyData.eqv x y) else none) = some t := e'
      split at e'
      · rename_i h; cases e'; exact ⟨x, y, rfl, rfl, h, rfl⟩
      · cases e'
theorem okD_parts {x y : PyData} (h : okD x y = true) : x.canLay0 = true ∧ y.canLay0 = true ∧ min x.depth y.depth ≤ 50 := by
  unfold okD at h
  simp only [Bool.and_eq_true, decide_eq_true_eq] at h
  exact ⟨h.1.1, h.1.2, h.2⟩
theorem okM_parts {x : PyData} {ys : List PyData} (h : okM x ys = true) : x.canLay0 = true ∧ PyData.canLayAll0 ys = true ∧ min (PyData.depthAll ys) x.depth ≤ 50 := by
  unfold okM at h
  simp only [Bool.and_eq_true, decide_eq_true_eq] at h
  exact ⟨h.1.1, h.1.2, h.2⟩
theorem vr_pure {x : V} {w : W} {d : PyData} (h : VR G T n H x w) (e : pureD w = some d) : VD G.K T H x d := by
  cases h with
  | v h => cases e; exact h
  | _ => cases e
theorem vr_none {x : V} {w : W} (h : VR G T n H x w) : decide (x = .non) = isNone w := by
  cases h with
  | v h => cases h <;> first | rfl | simp [isNone]
  | _ => simp [isNone]
theorem memW_some {a b : W} {t : Bool} (e : memW a b S = some t) : ∃ x, pureD a = some x ∧ ((∃ y z, x = .str y ∧ b = .v (.str z) ∧ t = !(Builtin.Str.occurrences z y 0 z.length 1).isEmpty) ∨
    ∃ p ds, items b S = some p ∧ allV p.2 = some ds ∧ okM x ds = true ∧ t = ds.any fun z => PyData.eqv z x) := by
  unfold memW at e
  split at e
  · cases e
  · rename_i x hx
    refine ⟨x, hx, ?_⟩
    split at e
    · rename_i z
      split at e
      · rename_i y; cases e; exact .inl ⟨y, z, rfl, rfl, rfl⟩
      · cases e
    · right
      cases q : items b S with
      | none => rw [q] at e; cases e
      | some p =>
        rw [q] at e
        have e : (allV p.2).bind (fun ds => if okM x ds then some (ds.any fun z => PyData.eqv z x) else none) = some t := e
        cases z : allV p.2 with
        | none => rw [z] at e; cases e
        | some ds =>
          rw [z] at e
          have e : (if okM x ds then some (ds.any fun z => PyData.eqv z x) else none) = some t := e
          split at e
          · rename_i h; cases e; exact ⟨p, ds, rfl, z, h, rfl⟩
          · cases e
/-- what in, not in ask -/
theorem mem_core (hK : X.K = G.K) (hu : X.A.units + 64 < cLine) (neg : Bool) {pins : List (Addr × Obj)} {s : Shared} {σ : L2.St} {x y : V} {v u : Value} {Q : VK} {a b : W} {t0 : Bool} (I : Inv X pins σ H s) (rx : RelV x v) (ry : RelV y u)
    (rl : Rel G T S H) (ha : VR G T S.length H x a) (hb : VR G T S.length H y b) (em : memW a b S = some t0) (q : Q (.bl (if neg then !t0 else t0)) H) :
    wpAny (model X.prog X.w) X.A (compareOp (if neg then .NotIn else .In) v u) (EP X pins σ Q) X.xe s := by
  obtain ⟨d, hd, h⟩ := memW_some em
  have vd := vr_pure ha hd
  rcases h with ⟨y1, z1, rfl, rfl, ht⟩ | ⟨p, ds, h1, h2, h3, ht⟩
  · obtain rfl : x = .str y1 := by cases vd; rfl
    obtain rfl := vd_str hb
    subst ht
    cases neg with
    | false => exact op_in_str pins s σ H _ _ v u Q I rx ry ⟨_, _, rfl, rfl, q⟩
    | true => exact op_notin_str pins s σ H _ _ v u Q I rx ry ⟨_, _, rfl, rfl, q⟩
  · obtain ⟨c1, c2, c3⟩ := okM_parts h3
    obtain ⟨tt, ws⟩ := p
    obtain rfl := allV_some h2
    obtain ⟨as, q1⟩ := Dp.reads I d x v (hK ▸ vd.dp) rx
    have hm : X.A.units + 1 + min (PyData.depthAll ds) d.depth < cLine := by omega
    obtain ⟨a1, xs, rfl, _, r1, t1, t2⟩ := hb.items rl h1
    subst ht
    cases tt with
    | true =>
      have dp : Dp X.K H (.ref a1) (.tuple ds) := hK ▸ .tup (t1 rfl).sq r1.data.dp
      obtain ⟨bs, q2⟩ := Dp.reads I (.tuple ds) _ u dp ry
      cases neg with
      | false => exact SeqAt.in_tuple_reads q2 q1 c2 c1 hm ⟨.bl _, H, I, rfl, q⟩
      | true => exact SeqAt.notIn_tuple_reads q2 q1 c2 c1 hm ⟨.bl _, H, I, rfl, q⟩
    | false =>
      have dp : Dp X.K H (.ref a1) (.list ds) := hK ▸ .lst (t2 rfl) r1.data.dp
      obtain ⟨bs, q2⟩ := Dp.reads I (.list ds) _ u dp ry
      cases neg with
      | false => exact SeqAt.in_list_reads q2 q1 c2 c1 hm ⟨.bl _, H, I, rfl, q⟩
      | true => exact SeqAt.notIn_list_reads q2 q1 c2 c1 hm ⟨.bl _, H, I, rfl, q⟩
theorem op_lt_data (hK : X.K = G.K) (hu : X.A.units + 64 < cLine) : OpR X (compareOp .Lt) (rCW G fun a b _ => ltW a b) := by
  intro pins s σ H x y v u Q I rx ry ⟨T, S, a, b, t, rl, ha, hb, e, q⟩
  have e : ltW a b = some t := e
  unfold ltW at e
  split at e
  · rename_i d d'
    split at e
    · rename_i hc
      cases e
      simp only [Bool.and_eq_true] at hc
      obtain ⟨c1, c2, c3⟩ := okD_parts hc.1
      have v1 := hK ▸ vr_pure ha rfl
      have v2 := hK ▸ vr_pure hb rfl
      have z : wpAny (model X.prog X.w) X.A (compareOp .Lt v u) (EP X pins σ Q) X.xe s :=
        rc_lt I 50 X.A _ _ _ _ _ _ (hK ▸ vr_pure ha rfl) (hK ▸ vr_pure hb rfl) rx ry c1 c2 hc.2 c3 (by omega) X.prog X.w X.xe _ ⟨.bl _, H, I, rfl, q⟩
      exact z
    · cases e
  · cases e
theorem op_cop (hK : X.K = G.K) (hu : X.A.units + 64 < cLine) (op : Co) : OpR X (compareOp (coOp op)) (rCW G (cop op)) := by
  cases op with
  | eq =>
    intro pins s σ H x y v u Q I rx ry ⟨T, S, a, b, t, rl, ha, hb, e, q⟩
    obtain ⟨d, d', h1, h2, h3, rfl⟩ := eqW_some e
    obtain ⟨c1, c2, c3⟩ := okD_parts h3
    obtain ⟨as, q1⟩ := Dp.reads I d x v (hK ▸ eqD_dp rl ha h1) rx
    obtain ⟨bs, q2⟩ := Dp.reads I d' y u (hK ▸ eqD_dp rl hb h2) ry
    exact SeqAt.compareEq_reads q1 q2 c1 c2 (by omega) ⟨.bl _, H, I, rfl, q⟩
  | ne =>
    intro pins s σ H x y v u Q I rx ry ⟨T, S, a, b, t, rl, ha, hb, e, q⟩
    have e : (eqW a b S).map (!·) = some t := e
    cases q0 : eqW a b S with
    | none => rw [q0] at e; cases e
    | some t0 =>
      rw [q0] at e; cases e
      obtain ⟨d, d', h1, h2, h3, rfl⟩ := eqW_some q0
      obtain ⟨c1, c2, c3⟩ := okD_parts h3
      obtain ⟨as, q1⟩ := Dp.reads I d x v (hK ▸ eqD_dp rl ha h1) rx
      obtain ⟨bs, q2⟩ := Dp.reads I d' y u (hK ▸ eqD_dp rl hb h2) ry
      exact SeqAt.compareNe_reads q1 q2 c1 c2 (by omega) ⟨.bl _, H, I, rfl, q⟩
  | lt => exact op_lt_data hK hu
  | gt =>
    intro pins s σ H x y v u Q I rx ry ⟨T, S, a, b, t, rl, ha, hb, e, q⟩
    simp only [cop] at e
    split at e
    · cases e; obtain rfl := vd_int ha; obtain rfl := vd_int hb
      exact op_gt pins s σ H _ _ v u Q I rx ry ⟨_, _, rfl, rfl, q⟩
    · cases e
  | le =>
    intro pins s σ H x y v u Q I rx ry ⟨T, S, a, b, t, rl, ha, hb, e, q⟩
    simp only [cop] at e
    split at e
    · cases e; obtain rfl := vd_int ha; obtain rfl := vd_int hb
      exact op_le pins s σ H _ _ v u Q I rx ry ⟨_, _, rfl, rfl, q⟩
    · cases e
  | ge =>
    intro pins s σ H x y v u Q I rx ry ⟨T, S, a, b, t, rl, ha, hb, e, q⟩
    simp only [cop] at e
    split at e
    · cases e; obtain rfl := vd_int ha; obtain rfl := vd_int hb
      exact op_ge pins s σ H _ _ v u Q I rx ry ⟨_, _, rfl, rfl, q⟩
    · cases e
  | is =>
    intro pins s σ H x y v u Q I rx ry ⟨T, S, a, b, t, rl, ha, hb, e, q⟩
    have e : (if isNone b then some _ else none) = some t := e
    split at e
    · rename_i hn; cases e
      have hy : y = .non := by have := vr_none hb; rw [hn] at this; exact of_decide_eq_true this
      exact op_isN pins s σ H _ _ v u Q I rx ry ⟨hy, by rw [vr_none ha]; exact q⟩
    · cases e
  | isn =>
    intro pins s σ H x y v u Q I rx ry ⟨T, S, a, b, t, rl, ha, hb, e, q⟩
    have e : (if isNone b then some _ else none) = some t := e
    split at e
    · rename_i hn; cases e
      have hy : y = .non := by have := vr_none hb; rw [hn] at this; exact of_decide_eq_true this
      exact op_notN pins s σ H _ _ v u Q I rx ry ⟨hy, by rw [vr_none ha]; exact q⟩
    · cases e
  | mem =>
    intro pins s σ H x y v u Q I rx ry ⟨T, S, a, b, t, rl, ha, hb, e, q⟩
    exact mem_core hK hu false I rx ry rl ha hb e q
  | nmem =>
    intro pins s σ H x y v u Q I rx ry ⟨T, S, a, b, t, rl, ha, hb, e, q⟩
    have e : (memW a b S).map (!·) = some t := e
    cases z : memW a b S with
    | none => rw [z] at e; cases e
    | some t0 => rw [z] at e; cases e; exact mem_core hK hu true I rx ry rl ha hb z q
end
end Pd
set_option Elab.async false
set_option linter.all false
set_option maxRecDepth 100000
set_option maxHeartbeats 1000000
/-! Pd7: items, slices, types, built-ins, methods. -/
namespace Pd
open PySem PySem.Spec PyProof.Rows L2
section
variable {X : Cx} {G : Gl0} {T : Tk} {H : Hp} {n : Nat} {S : Sto}
theorem ixN_len {α β : Type} {xs : List α} {ys : List β} (h : xs.length = ys.length) (i : Int) : ixN xs.length i = ixN ys.length i := by rw [h]
theorem atI_rel {xs : List V} {ws : List W} {i : Int} {w : W} (r : VRs G T n H xs ws) (e : atI ws i = some w) : ∃ x, atI xs i = some x ∧ VR G T n H x w := by
  unfold atI at e ⊢
  rw [r.length]
  cases q : ixN ws.length i with
  | none => rw [q] at e; cases e
  | some j =>
    rw [q] at e
    have e : ws[j]? = some w := e
    obtain ⟨x, h1, h2⟩ := r.get e
    exact ⟨x, h1, h2⟩
theorem asInt_some {w : W} {i : Int} (h : asInt w = some i) : w = .v (.int i) := by
  unfold asInt at h
  split at h
  · cases h; rfl
  · cases h
theorem asBool_some {w : W} {i : Bool} (h : asBool w = some i) : w = .v (.bool i) := by
  unfold asBool at h
  split at h
  · cases h; rfl
  · cases h
def rIW (G : Gl0) : R2 := fun x y H Q => ∃ T S a b w, Rel G T S H ∧ VR G T S.length H x a ∧ VR G T S.length H y b ∧ ixW a b S = some w ∧ ∀ z, VR G T S.length H z w → Q z H
/-- an item of a sequence -/
theorem ix_seqW (hK : X.K = G.K) {x y : V} {a : W} {i : Int} {w : W} {Q : VK} {p : Bool × List W} (rl : Rel G T S H) (ha : VR G T S.length H x a) (hp : items a S = some p) (hy : y = .int i) (e : atI p.2 i = some w)
    (q : ∀ z, VR G T S.length H z w → Q z H) : rIx X.K x y H Q := by
  obtain ⟨t, ws⟩ := p
  obtain ⟨a1, xs, rfl, _, r1, t1, t2⟩ := ha.items rl hp
  obtain ⟨z, h1, h2⟩ := atI_rel r1 e
  cases t with
  | true => exact .inr (.inl ⟨a1, xs, i, z, rfl, hy, (t1 rfl).sq, h1, q z h2⟩)
  | false => exact .inl ⟨a1, xs, i, z, rfl, hy, hK ▸ t2 rfl, h1, q z h2⟩
theorem rIW_ix (hK : X.K = G.K) {x y : V} {Q : VK} (h : rIW G x y H Q) : rIx X.K x y H Q := by
  obtain ⟨T, S, a, b0, w, rl, ha, hb, e, q⟩ := h
  unfold ixW at e
  split at e
  · rename_i z i
    split at e
    · rename_i hz
      cases h1 : atI z.cps.toList i with
      | none => rw [h1] at e; cases e
      | some c =>
        rw [h1] at e; cases e
        obtain rfl := vd_str ha; obtain rfl := vd_int hb
        exact .inr (.inr ⟨z, i, c, rfl, rfl, LIM_le hz, h1, q _ (.v (.str _))⟩)
    · cases e
  · rename_i l
    have e : (lstAt S l).bind (fun ws => (asInt b0).bind fun i => atI ws i) = some w := by
      split at e
      · cases e
      · cases e
      · exact e
    cases h1 : lstAt S l with
    | none => rw [h1] at e; cases e
    | some ws =>
      rw [h1] at e
      have e : (asInt b0).bind (fun i => atI ws i) = some w := e
      cases h2 : asInt b0 with
      | none => rw [h2] at e; cases e
      | some i =>
        rw [h2] at e
        obtain rfl := asInt_some h2
        exact ix_seqW hK rl ha (p := (false, ws)) (by show (lstAt S l).map _ = _; rw [h1]; rfl) (vd_int hb) e q
  · rename_i i _ _
    cases h1 : items a S with
    | none => rw [h1] at e; cases e
    | some p =>
      rw [h1] at e
      exact ix_seqW hK rl ha h1 (vd_int hb) e q
  · cases e
theorem cutL_rel {xs : List V} {ws : List W} (r : VRs G T n H xs ws) (lo hi : Option Int) : VRs G T n H (cutV xs lo hi) (cutL ws lo hi) := by
  unfold cutV cutL
  rw [r.length]
  exact (r.drop _).take _
theorem cutV_whole {xs : List V} {ws : List W} (r : VRs G T n H xs ws) {lo hi : Option Int} (h : HT.sIx xs.length 0 lo = 0 ∧ HT.sIx xs.length xs.length hi = xs.length) : cutL ws lo hi = ws := by
  unfold cutL
  rw [← r.length, h.1, h.2]
  simp [r.length]
def rSlWd (G : Gl0) : V → Option Int → Option Int → Hp → VK → Prop := fun x lo hi H Q => ∃ T S a p, Rel G T S H ∧ VR G T S.length H x a ∧ slW a lo hi S = some p ∧
  ∀ T' H' z, Step T S.length H T' S.length H' → Rel G T' S H' → RR G H T' S.length H' z p.1 p.2 → Q z H'
theorem sl_any (hK : X.K = G.K) : SlR X (rSlWd G) := by
  have h := SlR.or (sl_list (X := X)) (SlR.or (sl_tupA (X := X)) (sl_str (X := X)))
  intro pins s σ H x v vl vu lo hi sl Q I rx hs pl pu q
  refine h pins s σ H x v vl vu lo hi sl Q I rx hs pl pu ?_
  obtain ⟨T, S, a, p, rl, ha, e, q⟩ := q
  unfold slW at e
  split at e
  · rename_i z
    split at e
    · rename_i hz
      cases e
      obtain rfl := vd_str ha
      exact .inr (.inr ⟨z, rfl, LIM_le hz, q T H _ (Step.refl _ _ _) rl (VR.v (.str _))⟩)
    · cases e
  · cases h1 : items a S with
    | none => rw [h1] at e; cases e
    | some p0 =>
      rw [h1] at e
      cases e
      obtain ⟨t, ws⟩ := p0
      obtain ⟨a1, xs, rfl, hl, r1, t1, t2⟩ := ha.items rl h1
      have hc : (cutV xs lo hi).length ≤ sizeLine := Nat.le_trans (cutV_length xs lo hi) hl
      cases t with
      | true =>
        refine .inr (.inl ⟨a1, xs, rfl, (t1 rfl).sq, fun hw => ?_, fun hw p hp => ?_⟩)
        · refine q T H _ (Step.refl _ _ _) rl ?_
          show VR G T S.length H (.ref a1) (mkSeq true (cutL ws lo hi))
          rw [cutV_whole r1 hw]
          exact VR.tupOf (t1 rfl) r1
        · obtain ⟨s1, s2, s3⟩ := new_tup rl hp (cutL_rel r1 lo hi) hc
          exact q _ _ _ s1 s2 s3
      | false =>
        refine .inl ⟨a1, xs, rfl, hK ▸ t2 rfl, fun p hp => ?_⟩
        obtain ⟨s1, s2, s3⟩ := new_lst rl hp (cutL_rel r1 lo hi) hc
        exact q _ _ _ s1 s2 s3
end
end Pd

namespace Pd
open PySem PySem.Spec PyProof.Rows L2
section
variable {X : Cx} {G : Gl0} {T : Tk} {H : Hp} {n : Nat} {S : Sto}
def tyV' : Ty → Value := fun t => .type (tyNm t)
theorem tyOf_ty {x : V} {w : W} {t : Ty} (r : Rel G T S H) (h : VR G T S.length H x w) (e : tyOf w S = some t) : TyX G.K H x (tyV' t) := by
  cases h with
  | v h =>
    cases h with
    | none => cases e
    | bool b => cases e; exact .base (.bl b)
    | int b => cases e; exact .base (.int b)
    | str b => cases e; exact .base (.str b)
    | tup h _ => cases e; exact .base (.tup h.2.1)
    | lst h _ => cases e; exact .base (.lst h.2.1)
  | @loc l hl =>
    have e : (lstAt S l).map (fun _ => Ty.list) = some t := e
    cases q : lstAt S l with
    | none => rw [q] at e; cases e
    | some ws =>
      rw [q] at e; cases e
      obtain ⟨_, xs, h1, _⟩ := lstAt_rel r q
      exact .base (.lst h1)
  | fn _ => cases e
  | rng _ _ => cases e
  | ro h _ =>
    cases e
    rcases h.2 with ⟨_, o, h⟩ | ⟨o, its, n, h1, h2, _⟩
    · exact .base (.frz h)
    · exact .kList h1 h2
  | seqT h _ => cases e; exact .base (.tup h.2.1)
  | seqL h _ => cases e; exact .base (.lst h.2.1)
theorem none_ty {x : V} {w : W} (h : VR G T n H x w) (e : isNone w = true) : TyX G.K H x (.type "NoneType") := by
  have := vr_none h
  rw [e] at this
  obtain rfl := of_decide_eq_true this
  exact .base .non
def subTy (t t' : Ty) : Bool := t == t' || (t == .int && t' == .bool)
theorem kit_tab (t t' : Ty) : PySem.W.kitOne G.K (tyV' t') (tyV' t) = some (subTy t t') := by
  refine kit_ty ?_
  cases t <;> cases t' <;> decide +kernel
theorem kit_none (t : Ty) : PySem.W.kitOne G.K (.type "NoneType") (tyV' t) = some false := by
  refine kit_ty ?_
  cases t <;> decide +kernel
theorem isTy_kit {x : V} {w : W} {t : Ty} {b : Bool} (r : Rel G T S H) (h : VR G T S.length H x w) (e : isTy w S t = some b) : ∃ ty, TyX G.K H x ty ∧ PySem.W.kitOne G.K ty (tyV' t) = some b ∧
    (tyOf w S = none → ty = .type "NoneType") ∧ ∀ t', tyOf w S = some t' → ty = tyV' t' := by
  unfold isTy at e
  cases q : tyOf w S with
  | some t' =>
    rw [q] at e; cases e
    exact ⟨_, tyOf_ty r h q, kit_tab t t', (fun z => nomatch z), fun _ z => by cases z; rfl⟩
  | none =>
    rw [q] at e
    have e : (if isNone w then some false else none) = some b := e
    split at e
    · rename_i hn; cases e
      exact ⟨_, none_ty h hn, kit_none t, fun _ => rfl, fun _ z => nomatch z⟩
    · cases e
theorem isTys_kit {x : V} {w : W} (r : Rel G T S H) (h : VR G T S.length H x w) : ∀ {ts : List Ty} {b : Bool}, ts ≠ [] → isTys w S ts = some b → ∃ ty, TyX G.K H x ty ∧ PySem.W.kitAny G.K ty (ts.map tyV') = some b ∧
    (tyOf w S = none → ty = .type "NoneType") ∧ ∀ t', tyOf w S = some t' → ty = tyV' t'
  | [], _, hn, _ => absurd rfl hn
  | t :: ts, b, _, e => by
    have e : (isTy w S t).bind (fun b => (isTys w S ts).map (b || ·)) = some b := e
    cases h1 : isTy w S t with
    | none => rw [h1] at e; cases e
    | some b1 =>
      rw [h1] at e
      have e : (isTys w S ts).map (b1 || ·) = some b := e
      obtain ⟨ty, k1, k2, k3, k4⟩ := isTy_kit r h h1
      cases h2 : isTys w S ts with
      | none => rw [h2] at e; cases e
      | some b2 =>
        rw [h2] at e; cases e
        cases ts with
        | nil =>
          cases h2
          exact ⟨ty, k1, kitAny_cons k2 (fun hb => by rw [hb]; exact kitAny_nil) (fun hb => by rw [hb]; rfl), k3, k4⟩
        | cons t2 ts2 =>
          obtain ⟨ty', q1, q2, q3, q4⟩ := isTys_kit r h (ts := t2 :: ts2) (by simp) h2
          have ee : ty' = ty := by
            cases z : tyOf w S with
            | none => rw [q3 z, k3 z]
            | some t' => rw [q4 _ z, k4 _ z]
          subst ee
          exact ⟨ty', q1, kitAny_cons k2 (fun hb => by rw [hb]; simpa using q2) (fun hb => by rw [hb]; rfl), q3, q4⟩
/-- len -/
theorem lenW_len {x : V} {w : W} {k : Int} (hK : X.K = G.K) (r : Rel G T S H) (h : VR G T S.length H x w) (e : lenW w S = some k) : ∃ n : Nat, LenV X.K x H n ∧ k = n := by
  have seqc : ∀ {t ws}, items w S = some (t, ws) → k = (ws.length : Int) → ∃ n : Nat, LenV X.K x H n ∧ k = n := fun {t ws} h1 h2 => by
    obtain ⟨a1, xs, rfl, _, r1, t1, t2⟩ := h.items r h1
    refine ⟨xs.length, ?_, by rw [h2, r1.length]⟩
    cases t with
    | true => exact .inr ⟨xs, (t1 rfl).sq, rfl⟩
    | false => exact .inl ⟨xs, hK ▸ t2 rfl, rfl⟩
  unfold lenW at e
  split at e
  · rename_i z
    split at e
    · rename_i hz; cases e
      obtain rfl := vd_str h
      exact ⟨z.length, ⟨LIM_le hz, rfl⟩, rfl⟩
    · cases e
  · cases e
  · rename_i l
    have e : (lstAt S l).map (fun ws => (ws.length : Int)) = some k := by
      split at e
      · cases e
      · cases e
      · exact e
    cases h1 : lstAt S l with
    | none => rw [h1] at e; cases e
    | some ws =>
      rw [h1] at e; cases e
      exact seqc (t := false) (ws := ws) (by show (lstAt S l).map _ = _; rw [h1]; rfl) rfl
  · cases h1 : items w S with
    | none => rw [h1] at e; cases e
    | some p =>
      rw [h1] at e; cases e
      exact seqc (t := p.1) (ws := p.2) h1 rfl
theorem sumInts_rel : ∀ {xs : List V} {ws : List W} {k : Int}, VRs G T n H xs ws → sumInts ws = some k → ∃ ns : List Int, xs = ns.map V.int ∧ k = ns.sum
  | _, _, _, .nil, e => by cases e; exact ⟨[], rfl, rfl⟩
  | _, _, _, @VRs.cons _ _ _ _ x xs w ws h r, e => by
    have e : (asInt w).bind (fun i => (sumInts ws).map (i + ·)) = some _ := e
    cases h1 : asInt w with
    | none => rw [h1] at e; cases e
    | some i =>
      rw [h1] at e
      have e : (sumInts ws).map (i + ·) = some _ := e
      cases h2 : sumInts ws with
      | none => rw [h2] at e; cases e
      | some k =>
        rw [h2] at e; cases e
        obtain ⟨ns, rfl, rfl⟩ := sumInts_rel r h2
        obtain rfl := asInt_some h1
        obtain rfl := vd_int h
        exact ⟨i :: ns, rfl, by simp⟩
theorem bools_rel : ∀ {xs : List V} {ws : List W} {bs : List Bool}, VRs G T n H xs ws → bools ws = some bs → xs = bs.map V.bl
  | _, _, _, .nil, e => by cases e; rfl
  | _, _, _, @VRs.cons _ _ _ _ x xs w ws h r, e => by
    have e : (asBool w).bind (fun i => (bools ws).map (i :: ·)) = some _ := e
    cases h1 : asBool w with
    | none => rw [h1] at e; cases e
    | some i =>
      rw [h1] at e
      have e : (bools ws).map (i :: ·) = some _ := e
      cases h2 : bools ws with
      | none => rw [h2] at e; cases e
      | some k =>
        rw [h2] at e; cases e
        obtain rfl := bools_rel r h2
        obtain rfl := asBool_some h1
        obtain rfl := vd_bool h
        rfl
/-- a list's own heap place, whatever it is -/
theorem listAt {x : V} {w : W} {ws : List W} (r : Rel G T S H) (h : VR G T S.length H x w) (e : items w S = some (false, ws)) : ∃ a xs, x = .ref a ∧ xs.length ≤ sizeLine ∧ VRs G T S.length H xs ws ∧ SqL G.K H a xs := by
  obtain ⟨a1, xs, rfl, hl, r1, _, t2⟩ := h.items r e
  exact ⟨a1, xs, rfl, hl, r1, t2 rfl⟩
end
end Pd
set_option Elab.async false
set_option linter.all false
set_option maxRecDepth 100000
set_option maxHeartbeats 1000000
/-! Pd8: built-ins called with values. -/
namespace Pd
open PySem PySem.Spec PyProof.Rows L2

/-! ### sorting, least -/
theorem insB_perm (lt : PyData → PyData → Bool) (x : PyData) : ∀ l : List PyData, (insB lt x l).Perm (x :: l)
  | [] => .refl _
  | y :: ys => by
    unfold insB
    split
    · exact .refl _
    · exact ((insB_perm lt x ys).cons y).trans (.swap x y ys)
theorem isort_perm (lt : PyData → PyData → Bool) : ∀ l : List PyData, (isort lt l).Perm l
  | [] => .refl _
  | x :: xs => (insB_perm _ x _).trans ((isort_perm lt xs).cons x)
theorem ints_of : ∀ {ds : List PyData}, allCm ds = true → ∃ ns : List Int, ds = ns.map PyData.int
  | [], _ => ⟨[], rfl⟩
  | d :: ds, h => by
    have h : isIntD d = true ∧ allCm ds = true := by simpa [allCm] using h
    obtain ⟨ns, rfl⟩ := ints_of h.2
    cases d with
    | int i => exact ⟨i :: ns, rfl⟩
    | _ => exact absurd h.1 (by simp [isIntD])
theorem insB_int (i : Int) : ∀ ns : List Int, ∃ ms : List Int, insB (fun a b => !dlt b a) (.int i) (ns.map PyData.int) = ms.map PyData.int ∧ (ns.Pairwise (· ≤ ·) → ms.Pairwise (· ≤ ·)) ∧ (∀ y, y ∈ ms ↔ y = i ∨ y ∈ ns)
  | [] => ⟨[i], rfl, fun _ => by simp, by simp⟩
  | n :: ns => by
    obtain ⟨ms, e, hs, hm⟩ := insB_int i ns
    have e0 : insB (fun a b => !dlt b a) (.int i) ((n :: ns).map PyData.int) = if (!decide (n < i)) = true then PyData.int i :: (n :: ns).map PyData.int else PyData.int n :: insB (fun a b => !dlt b a) (.int i) (ns.map PyData.int) := by
      simp [insB, dlt]
    rw [e0]
    by_cases h : n < i
    · refine ⟨n :: ms, by rw [if_neg (by simp [h]), e]; rfl, fun hp => ?_, fun y => ?_⟩
      · obtain ⟨h1, h2⟩ := List.pairwise_cons.mp hp
        refine List.pairwise_cons.mpr ⟨fun y hy => ?_, hs h2⟩
        rcases (hm y).mp hy with rfl | hy
        · omega
        · exact h1 y hy
      · simp only [List.mem_cons, hm y]
        constructor
        · rintro (h | h | h)
          · exact .inr (.inl h)
          · exact .inl h
          · exact .inr (.inr h)
        · rintro (h | h | h)
          · exact .inr (.inl h)
          · exact .inl h
          · exact .inr (.inr h)
    · refine ⟨i :: n :: ns, by rw [if_pos (by simp [h])]; rfl, fun hp => ?_, fun y => by simp⟩
      obtain ⟨h1, h2⟩ := List.pairwise_cons.mp hp
      refine List.pairwise_cons.mpr ⟨fun y hy => ?_, hp⟩
      rcases List.mem_cons.mp hy with rfl | hy
      · omega
      · have := h1 y hy; omega
theorem isort_int : ∀ ns : List Int, ∃ ms : List Int, isort dlt (ns.map PyData.int) = ms.map PyData.int ∧ ms.Pairwise (· ≤ ·)
  | [] => ⟨[], rfl, .nil⟩
  | n :: ns => by
    obtain ⟨ms, e, hs⟩ := isort_int ns
    obtain ⟨ms', e', hs', _⟩ := insB_int n ms
    exact ⟨ms', by show insB _ (.int n) (isort dlt (ns.map PyData.int)) = _; rw [e]; exact e', hs' hs⟩
theorem perm_int {ns ms : List Int} (h : (ns.map PyData.int).Perm (ms.map PyData.int)) : ns.Perm ms := by
  have h2 := h.map fun d => match d with | PyData.int i => i | _ => 0
  have id : ∀ l : List Int, (l.map PyData.int).map (fun d => match d with | PyData.int i => i | _ => 0) = l := fun l => by
    rw [List.map_map]
    have : ((fun d => match d with | PyData.int i => i | _ => 0) ∘ PyData.int) = id := by funext i; rfl
    rw [this, List.map_id]
  rwa [id, id] at h2
theorem sorted_unique : ∀ {ns ms : List Int}, ns.Perm ms → ns.Pairwise (· ≤ ·) → ms.Pairwise (· ≤ ·) → ns = ms
  | [], ms, h, _, _ => by simpa using h.nil_eq
  | n :: ns, [], h, _, _ => by simpa using h.symm.nil_eq
  | n :: ns, m :: ms, h, h1, h2 => by
    obtain ⟨a1, a2⟩ := List.pairwise_cons.mp h1
    obtain ⟨b1, b2⟩ := List.pairwise_cons.mp h2
    have e : n = m := by
      have x1 : m ∈ n :: ns := h.mem_iff.mpr List.mem_cons_self
      have x2 : n ∈ m :: ms := h.mem_iff.mp List.mem_cons_self
      rcases List.mem_cons.mp x1 with e | x1
      · exact e.symm
      · rcases List.mem_cons.mp x2 with e | x2
        · exact e
        · have := a1 m x1; have := b1 n x2; omega
    subst e
    rw [sorted_unique (List.perm_cons n |>.mp h) a2 b2]
theorem least_int (mx : Bool) : ∀ (ns : List Int) (i : Int), ∃ m, least (if mx then fun x m => dlt m x else fun x m => dlt x m) (.int i) (ns.map PyData.int) = .int m ∧ (m = i ∨ m ∈ ns) ∧
    ∀ y, (y = i ∨ y ∈ ns) → if mx then y ≤ m else m ≤ y
  | [], i => ⟨i, rfl, .inl rfl, fun y hy => by
      rcases hy with rfl | hy
      · cases mx <;> simp
      · cases hy⟩
  | n :: ns, i => by
    cases mx with
    | true =>
      by_cases h : i < n
      · obtain ⟨m, e, hm, hl⟩ := least_int true ns n
        refine ⟨m, by simpa [least, dlt, h] using e, ?_, fun y hy => ?_⟩
        · rcases hm with hm | hm
          · exact .inr (by simp [hm])
          · exact .inr (by simp [hm])
        · have h2 := hl n (.inl rfl)
          simp only [if_true] at hl h2 ⊢
          rcases hy with rfl | hy
          · omega
          · rcases List.mem_cons.mp hy with rfl | hy
            · omega
            · exact hl y (.inr hy)
      · obtain ⟨m, e, hm, hl⟩ := least_int true ns i
        refine ⟨m, by simpa [least, dlt, h] using e, ?_, fun y hy => ?_⟩
        · rcases hm with hm | hm
          · exact .inl hm
          · exact .inr (by simp [hm])
        · have h2 := hl i (.inl rfl)
          simp only [if_true] at hl h2 ⊢
          rcases hy with rfl | hy
          · omega
          · rcases List.mem_cons.mp hy with rfl | hy
            · omega
            · exact hl y (.inr hy)
    | false =>
      by_cases h : n < i
      · obtain ⟨m, e, hm, hl⟩ := least_int false ns n
        refine ⟨m, by simpa [least, dlt, h] using e, ?_, fun y hy => ?_⟩
        · rcases hm with hm | hm
          · exact .inr (by simp [hm])
          · exact .inr (by simp [hm])
        · have h2 := hl n (.inl rfl)
          simp only [Bool.false_eq_true, if_false] at hl h2 ⊢
          rcases hy with rfl | hy
          · omega
          · rcases List.mem_cons.mp hy with rfl | hy
            · omega
            · exact hl y (.inr hy)
      · obtain ⟨m, e, hm, hl⟩ := least_int false ns i
        refine ⟨m, by simpa [least, dlt, h] using e, ?_, fun y hy => ?_⟩
        · rcases hm with hm | hm
          · exact .inl hm
          · exact .inr (by simp [hm])
        · have h2 := hl i (.inl rfl)
          simp only [Bool.false_eq_true, if_false] at hl h2 ⊢
          rcases hy with rfl | hy
          · omega
          · rcases List.mem_cons.mp hy with rfl | hy
            · omega
            · exact hl y (.inr hy)
end Pd
set_option Elab.async false
set_option linter.all false
set_option maxRecDepth 100000
set_option maxHeartbeats 1000000
/-! PdOrd: the order of data as the order of lists of ints. -/
namespace Pd
open PySem
/-- lexicographic order of lists of ints -/
def lexI : List Int → List Int → Bool
  | [], [] => false
  | [], _ :: _ => true
  | _ :: _, [] => false
  | a :: as, b :: bs => if a = b then lexI as bs else decide (a < b)
theorem lexI_irrefl : ∀ as : List Int, lexI as as = false
  | [] => rfl
  | a :: as => by rw [lexI, if_pos rfl]; exact lexI_irrefl as
theorem lexI_asym : ∀ as bs : List Int, lexI as bs = true → lexI bs as = false
  | [], [], h => by cases h
  | [], _ :: _, _ => rfl
  | _ :: _, [], h => by cases h
  | a :: as, b :: bs, h => by
    unfold lexI at h ⊢
    by_cases e : a = b
    · rw [if_pos e] at h; rw [if_pos e.symm]; exact lexI_asym as bs h
    · rw [if_neg e, decide_eq_true_eq] at h; rw [if_neg (Ne.symm e)]; exact decide_eq_false (by omega)
theorem lexI_tr : ∀ as bs cs : List Int, lexI bs as = false → lexI cs bs = false → lexI cs as = false
  | [], [], [], _, _ => rfl
  | [], [], _ :: _, _, h => h
  | [], _ :: _, [], _, _ => rfl
  | [], _ :: _, _ :: _, _, _ => rfl
  | _ :: _, [], _, h, _ => by cases h
  | _ :: _, _ :: _, [], _, h => by cases h
  | a :: as, b :: bs, c :: cs, h1, h2 => by
    unfold lexI at h1 h2 ⊢
    by_cases e1 : b = a
    · rw [if_pos e1] at h1
      by_cases e2 : c = b
      · rw [if_pos e2] at h2
        rw [if_pos (e2.trans e1)]
        exact lexI_tr as bs cs h1 h2
      · rw [if_neg e2] at h2
        rw [if_neg (by omega)]
        have := of_decide_eq_false h2
        exact decide_eq_false (by omega)
    · rw [if_neg e1] at h1
      have q1 := of_decide_eq_false h1
      by_cases e2 : c = b
      · rw [if_neg (by omega)]; exact decide_eq_false (by omega)
      · rw [if_neg e2] at h2
        have q2 := of_decide_eq_false h2
        rw [if_neg (by omega)]
        exact decide_eq_false (by omega)
theorem lexI_total : ∀ as bs : List Int, lexI as bs = false → lexI bs as = false → as = bs
  | [], [], _, _ => rfl
  | [], _ :: _, h, _ => by cases h
  | _ :: _, [], _, h => by cases h
  | a :: as, b :: bs, h1, h2 => by
    unfold lexI at h1 h2
    by_cases e : a = b
    · rw [if_pos e] at h1; rw [if_pos e.symm] at h2; rw [e, lexI_total as bs h1 h2]
    · rw [if_neg e] at h1; rw [if_neg (Ne.symm e)] at h2
      have q1 := of_decide_eq_false h1
      have q2 := of_decide_eq_false h2
      omega
theorem lexI_app (ps : List Int) (as bs : List Int) : lexI (ps ++ as) (ps ++ bs) = lexI as bs := by
  induction ps with
  | nil => rfl
  | cons p ps ih => show lexI (p :: (ps ++ as)) (p :: (ps ++ bs)) = _; rw [lexI, if_pos rfl, ih]
mutual
/-- data as a list of ints: none is the beginning of another one of its kind -/
def enc : PyData → List Int
  | .int i => [i]
  | .str s => encC s.cps.toList
  | .tuple xs => encs xs
  | _ => []
def encs : List PyData → List Int
  | [] => [0]
  | x :: xs => 1 :: (enc x ++ encs xs)
def encC : List Nat → List Int
  | [] => [0]
  | c :: cs => 1 :: (c : Int) :: encC cs
end
theorem encC_cmp : ∀ (a b : List Nat), a ≠ b → ∀ A B : List Int, lexI (encC a ++ A) (encC b ++ B) = decide (a < b)
  | [], [], h, _, _ => absurd rfl h
  | [], c :: cs, _, A, B => by
    show lexI (0 :: A) (1 :: _) = _
    rw [lexI, if_neg (by omega)]
    simp
  | c :: cs, [], _, A, B => by
    show lexI (1 :: _) (0 :: B) = _
    rw [lexI, if_neg (by omega)]
    simp
  | c :: cs, d :: ds, h, A, B => by
    show lexI (1 :: (c : Int) :: (encC cs ++ A)) (1 :: (d : Int) :: (encC ds ++ B)) = _
    rw [lexI, if_pos rfl, lexI]
    by_cases e : c = d
    · subst e
      rw [if_pos rfl, encC_cmp cs ds (fun q => h (by rw [q])) A B]
      simp [List.cons_lt_cons_iff]
    · rw [if_neg (by omega)]
      simp [List.cons_lt_cons_iff, e]
mutual
theorem enc_cmp : ∀ x y : PyData, dcm x y = true → (PyData.eqv x y = true → enc x = enc y ∧ dlt x y = false) ∧ (PyData.eqv x y = false → ∀ A B, lexI (enc x ++ A) (enc y ++ B) = dlt x y)
  | .int i, .int j, _ => by
    refine ⟨fun h => ?_, fun h A B => ?_⟩
    · have : i = j := by simpa [PyData.eqv] using h
      subst this
      exact ⟨rfl, by simp [dlt]⟩
    · have : i ≠ j := by simpa [PyData.eqv] using h
      show lexI (i :: A) (j :: B) = _
      rw [lexI, if_neg this]
      rfl
  | .str a, .str b, _ => by
    refine ⟨fun h => ?_, fun h A B => ?_⟩
    · have : a = b := by simpa [PyData.eqv] using h
      subst this
      exact ⟨rfl, by simp [dlt]⟩
    · have hne : a ≠ b := by simpa [PyData.eqv] using h
      show lexI (encC a.cps.toList ++ A) (encC b.cps.toList ++ B) = _
      rw [encC_cmp]
      · rfl
      · intro q
        apply hne
        cases a; cases b
        simp at q
        exact congrArg Str.mk (by rw [q])
  | .tuple xs, .tuple ys, h => by
    have h : dcms xs ys = true := by simpa [dcm] using h
    obtain ⟨h1, h2⟩ := encs_cmp xs ys h
    exact ⟨fun e => h1 (by simpa [PyData.eqv] using e), fun e A B => h2 (by simpa [PyData.eqv] using e) A B⟩
theorem encs_cmp : ∀ xs ys : List PyData, dcms xs ys = true → (PyData.eqvAll xs ys = true → encs xs = encs ys ∧ dlts xs ys = false) ∧ (PyData.eqvAll xs ys = false → ∀ A B, lexI (encs xs ++ A) (encs ys ++ B) = dlts xs ys)
  | [], [], _ => ⟨fun _ => ⟨rfl, rfl⟩, fun h => by simp [PyData.eqvAll] at h⟩
  | [], y :: ys, _ => ⟨fun h => by simp [PyData.eqvAll] at h, fun _ A B => by
      show lexI (0 :: A) (1 :: _) = _
      rw [lexI, if_neg (by omega)]; simp [dlts]⟩
  | x :: xs, [], _ => ⟨fun h => by simp [PyData.eqvAll] at h, fun _ A B => by
      show lexI (1 :: _) (0 :: B) = _
      rw [lexI, if_neg (by omega)]; simp [dlts]⟩
  | x :: xs, y :: ys, h => by
    have h : dcm x y = true ∧ dcms xs ys = true := by simpa [dcms] using h
    obtain ⟨p1, p2⟩ := enc_cmp x y h.1
    obtain ⟨q1, q2⟩ := encs_cmp xs ys h.2
    cases e : PyData.eqv x y with
    | true =>
      obtain ⟨e1, e2⟩ := p1 e
      refine ⟨fun z => ?_, fun z A B => ?_⟩
      · have z : PyData.eqvAll xs ys = true := by simpa [PyData.eqvAll, e] using z
        obtain ⟨f1, f2⟩ := q1 z
        exact ⟨by simp [encs, e1, f1], by simp [dlts, e, f2]⟩
      · have z : PyData.eqvAll xs ys = false := by simpa [PyData.eqvAll, e] using z
        show lexI (1 :: ((enc x ++ encs xs) ++ A)) (1 :: ((enc y ++ encs ys) ++ B)) = _
        rw [lexI, if_pos rfl, List.append_assoc, List.append_assoc, e1, lexI_app, q2 z A B]
        simp [dlts, e]
    | false =>
      refine ⟨fun z => by simp [PyData.eqvAll, e] at z, fun _ A B => ?_⟩
      show lexI (1 :: ((enc x ++ encs xs) ++ A)) (1 :: ((enc y ++ encs ys) ++ B)) = _
      rw [lexI, if_pos rfl, List.append_assoc, List.append_assoc, p2 e]
      simp [dlts, e]
end
/-- order of comparable data = order of the encodings -/
theorem dlt_enc {x y : PyData} (h : dcm x y = true) : dlt x y = lexI (enc x) (enc y) := by
  obtain ⟨p1, p2⟩ := enc_cmp x y h
  cases e : PyData.eqv x y with
  | true => obtain ⟨e1, e2⟩ := p1 e; rw [e2, e1, lexI_irrefl]
  | false => have := p2 e [] []; rw [List.append_nil, List.append_nil] at this; exact this.symm
end Pd
set_option Elab.async false
set_option linter.all false
set_option maxRecDepth 100000
set_option maxHeartbeats 1000000
/-! PdOrd2: sorting comparable data has one outcome. -/
namespace Pd
open PySem
mutual
theorem eqv_eq : ∀ {x y : PyData}, dcm x y = true → PyData.eqv x y = true → x = y
  | .int i, .int j, _, h => by have : i = j := by simpa [PyData.eqv] using h
                               rw [this]
  | .str i, .str j, _, h => by have : i = j := by simpa [PyData.eqv] using h
                               rw [this]
  | .tuple xs, .tuple ys, c, h => by
    have e : xs = ys := eqvs_eq (by simpa [dcm] using c) (by simpa [PyData.eqv] using h)
    rw [e]
theorem eqvs_eq : ∀ {xs ys : List PyData}, dcms xs ys = true → PyData.eqvAll xs ys = true → xs = ys
  | [], [], _, _ => rfl
  | [], _ :: _, _, h => by simp [PyData.eqvAll] at h
  | _ :: _, [], _, h => by simp [PyData.eqvAll] at h
  | x :: xs, y :: ys, c, h => by
    have c : dcm x y = true ∧ dcms xs ys = true := by simpa [dcms] using c
    have h : PyData.eqv x y = true ∧ PyData.eqvAll xs ys = true := by simpa [PyData.eqvAll] using h
    rw [eqv_eq c.1 h.1, eqvs_eq c.2 h.2]
end
theorem enc_inj {x y : PyData} (c : dcm x y = true) (h : enc x = enc y) : x = y := by
  cases e : PyData.eqv x y with
  | true => exact eqv_eq c e
  | false =>
    have p := (enc_cmp x y c).2 e
    have p1 := p [0] [1]
    have p2 := p [1] [0]
    rw [h, lexI_app] at p1 p2
    have e1 : lexI [0] [1] = true := rfl
    have e2 : lexI [1] [0] = false := rfl
    rw [e1] at p1; rw [e2] at p2
    rw [← p1] at p2; cases p2
/-- x is not above y -/
def leD (x y : PyData) : Prop := lexI (enc y) (enc x) = false
theorem leD_anti {x y : PyData} (c : dcm x y = true) (h1 : leD x y) (h2 : leD y x) : x = y := enc_inj c (lexI_total _ _ h2 h1)
theorem uniq : ∀ {l m : List PyData}, (∀ x ∈ l, ∀ y ∈ l, dcm x y = true) → l.Perm m → l.Pairwise leD → m.Pairwise leD → l = m
  | [], m, _, p, _, _ => by rw [List.nil_perm] at p; exact p.symm
  | x :: l, [], _, p, _, _ => by have := p.length_eq; simp at this
  | x :: l, y :: m, c, p, h1, h2 => by
    obtain ⟨a1, a2⟩ := List.pairwise_cons.mp h1
    obtain ⟨b1, b2⟩ := List.pairwise_cons.mp h2
    have hy : y ∈ x :: l := p.mem_iff.mpr List.mem_cons_self
    have hx : x ∈ y :: m := p.mem_iff.mp List.mem_cons_self
    have irr : ∀ z, leD z z := fun z => lexI_irrefl _
    have e : x = y := by
      refine leD_anti (c x List.mem_cons_self y hy) ?_ ?_
      · rcases List.mem_cons.mp hy with e | h
        · rw [e]; exact irr _
        · exact a1 y h
      · rcases List.mem_cons.mp hx with e | h
        · rw [e]; exact irr _
        · exact b1 x h
    subst e
    rw [uniq (fun u hu v hv => c u (List.mem_cons_of_mem _ hu) v (List.mem_cons_of_mem _ hv)) (List.Perm.cons_inv p) a2 b2]
theorem ins_mem {lt : PyData → PyData → Bool} {x z : PyData} : ∀ {l : List PyData}, z ∈ insB lt x l ↔ z = x ∨ z ∈ l := fun {l} => by
  rw [(insB_perm lt x l).mem_iff, List.mem_cons]
theorem ins_sorted {x : PyData} : ∀ {l : List PyData}, (∀ u ∈ x :: l, ∀ v ∈ x :: l, dcm u v = true) → l.Pairwise leD → (insB (fun a b => !dlt b a) x l).Pairwise leD
  | [], _, _ => List.pairwise_singleton _ _
  | y :: l, c, h => by
    obtain ⟨a1, a2⟩ := List.pairwise_cons.mp h
    have cyx := c y (by simp) x (by simp)
    unfold insB
    cases e : dlt y x with
    | false =>
      simp only [Bool.not_false, if_true]
      have q : leD x y := by unfold leD; rw [← dlt_enc cyx]; exact e
      refine List.pairwise_cons.mpr ⟨fun z hz => ?_, h⟩
      rcases List.mem_cons.mp hz with rfl | hz
      · exact q
      · exact lexI_tr _ _ _ q (a1 z hz)
    | true =>
      simp only [Bool.not_true, Bool.false_eq_true, if_false]
      have q : leD y x := by
        unfold leD
        rw [dlt_enc cyx] at e
        exact lexI_asym _ _ e
      refine List.pairwise_cons.mpr ⟨fun z hz => ?_, ins_sorted (fun u hu v hv => c u (by
        rcases List.mem_cons.mp hu with rfl | hu
        · simp
        · simp [hu]) v (by
        rcases List.mem_cons.mp hv with rfl | hv
        · simp
        · simp [hv])) a2⟩
      rcases ins_mem.mp hz with rfl | hz
      · exact q
      · exact a1 z hz
theorem isort_sorted : ∀ {l : List PyData}, (∀ u ∈ l, ∀ v ∈ l, dcm u v = true) → (isort dlt l).Pairwise leD
  | [], _ => List.Pairwise.nil
  | x :: l, c => by
    refine ins_sorted (fun u hu v hv => c u ?_ v ?_) (isort_sorted fun u hu v hv => c u (List.mem_cons_of_mem _ hu) v (List.mem_cons_of_mem _ hv))
    · rcases List.mem_cons.mp hu with rfl | hu
      · simp
      · exact List.mem_cons_of_mem _ ((isort_perm dlt l).mem_iff.mp hu)
    · rcases List.mem_cons.mp hv with rfl | hv
      · simp
      · exact List.mem_cons_of_mem _ ((isort_perm dlt l).mem_iff.mp hv)
/-- what any sort of these data gives -/
theorem sort_is {ds es : List PyData} (c : ∀ u ∈ ds, ∀ v ∈ ds, dcm u v = true) (p : es.Perm ds) (h : es.Pairwise leD) : es = isort dlt ds :=
  uniq (fun x hx y hy => c x (p.mem_iff.mp hx) y (p.mem_iff.mp hy)) (p.trans (isort_perm dlt ds).symm) h (isort_sorted c)
/-- the order of values by what they stand for -/
theorem swo_enc {α : Type} (k : α → PyData) : SrtO.Swo fun v u => lexI (enc (k v)) (enc (k u)) :=
  ⟨fun x y h => lexI_asym _ _ h, fun x y z h1 h2 => lexI_tr _ _ _ h1 h2⟩
end Pd
set_option Elab.async false
set_option linter.all false
set_option maxRecDepth 100000
set_option maxHeartbeats 2000000
/-! PdSort: sorted of tuples, texts, ints. -/
namespace Pd
open PySem PySem.Spec PyProof.Rows L2 SrtO
section
variable {K : PySem.W.Frag} {T : Tk} {H : Hp}
mutual
theorem VD.fn : ∀ {x : V} {d e : PyData}, VD K T H x d → VD K T H x e → d = e
  | _, _, _, .none, .none => rfl
  | _, _, _, .bool _, .bool _ => rfl
  | _, _, _, .int _, .int _ => rfl
  | _, _, _, .str _, .str _ => rfl
  | _, _, _, .tup h r, .tup h' r' => by
    have e := h.2.1.symm.trans h'.2.1
    cases e
    have q := VDs.fn r r'
    rw [q]
  | _, _, _, .lst h r, .lst h' r' => by
    have e := h.2.1.symm.trans h'.2.1
    cases e
    have q := VDs.fn r r'
    rw [q]
  | _, _, _, .tup h _, .lst h' _ => by have e := h.2.1.symm.trans h'.2.1; cases e
  | _, _, _, .lst h _, .tup h' _ => by have e := h.2.1.symm.trans h'.2.1; cases e
theorem VDs.fn : ∀ {xs : List V} {ds es : List PyData}, VDs K T H xs ds → VDs K T H xs es → ds = es
  | _, _, _, .nil, .nil => rfl
  | _, _, _, .cons h r, .cons h' r' => by
    have e1 := VD.fn h h'
    have e2 := VDs.fn r r'
    rw [e1, e2]
end
open Classical in
/-- what a value stands for -/
noncomputable def dec (K : PySem.W.Frag) (T : Tk) (H : Hp) (v : Value) : PyData := if h : ∃ d, ∃ x, RelV x v ∧ VD K T H x d then Classical.choose h else .none
theorem dec_at {x : V} {v : Value} {d : PyData} (r : RelV x v) (h : VD K T H x d) : dec K T H v = d := by
  have ex : ∃ d, ∃ x, RelV x v ∧ VD K T H x d := ⟨d, x, r, h⟩
  unfold dec
  rw [dif_pos ex]
  obtain ⟨y, ry, hy⟩ := Classical.choose_spec ex
  rw [ry.inj r] at hy
  exact hy.fn h
theorem dec_all : ∀ {xs : List V} {vs : List Value} {ds : List PyData}, Vals xs vs → VDs K T H xs ds → vs.map (dec K T H) = ds
  | _, _, _, .nil, .nil => rfl
  | _, _, _, .cons r rs, .cons h hs => by rw [List.map_cons, dec_at r h, dec_all rs hs]
theorem dec_mem : ∀ {xs : List V} {vs : List Value} {ds : List PyData}, Vals xs vs → VDs K T H xs ds → ∀ v ∈ vs, ∃ x d, x ∈ xs ∧ d ∈ ds ∧ RelV x v ∧ VD K T H x d
  | _, _, _, .nil, .nil, v, h => by cases h
  | _, _, _, .cons r rs, .cons h hs, v, hv => by
    rcases List.mem_cons.mp hv with rfl | hv
    · exact ⟨_, _, List.mem_cons_self, List.mem_cons_self, r, h⟩
    · obtain ⟨x, d, h1, h2, h3, h4⟩ := dec_mem rs hs v hv
      exact ⟨x, d, List.mem_cons_of_mem _ h1, List.mem_cons_of_mem _ h2, h3, h4⟩
/-- the outcome of a sort stands for the sorted data -/
theorem out_rel {xs : List V} {its out : List Value} {ds : List PyData} (rv : Vals xs its) (rd : VDs K T H xs ds) (c : ∀ u ∈ ds, ∀ v ∈ ds, dcm u v = true) (hs : Srtd (fun v u => lexI (enc (dec K T H v)) (enc (dec K T H u))) out) (hp : out.Perm its) :
    ∃ ys, Vals ys out ∧ VDs K T H ys (isort dlt ds) ∧ ys.length = xs.length := by
  have e : out.map (dec K T H) = isort dlt ds := by
    refine sort_is c ?_ ?_
    · have := hp.map (dec K T H); rw [dec_all rv rd] at this; exact this
    · exact List.pairwise_map.mpr (hs.imp fun {x y} h => h)
  have back : ∀ (l : List Value), (∀ v ∈ l, v ∈ its) → ∃ ys, Vals ys l ∧ VDs K T H ys (l.map (dec K T H)) ∧ ys.length = l.length := by
    intro l
    induction l with
    | nil => intro _; exact ⟨[], .nil, .nil, rfl⟩
    | cons v l ih =>
      intro hl
      obtain ⟨ys, h1, h2, h3⟩ := ih fun u hu => hl u (List.mem_cons_of_mem _ hu)
      obtain ⟨x, d, _, _, r, hd⟩ := dec_mem rv rd v (hl v List.mem_cons_self)
      refine ⟨x :: ys, .cons r h1, ?_, by simp [h3]⟩
      rw [List.map_cons, dec_at r hd]
      exact .cons hd h2
  obtain ⟨ys, h1, h2, h3⟩ := back out fun v hv => hp.mem_iff.mp hv
  rw [e] at h2
  exact ⟨ys, h1, h2, by rw [h3, hp.length_eq, rv.length]⟩
end
section
variable {X : Cx} {pins : List (Addr × Obj)} {s : Shared} {σ : L2.St} {H : Hp} {T : Tk}
/-- the comparison of two tuples, item by item -/
theorem kat_data (I : Inv X pins σ H s) {A : Around} {b fin : Bool} {Q : Bool → Shared → Prop} (hu : A.units + 55 < cLine) : ∀ {xs ys : List V} {its its2 : List Value} {ds es : List PyData} {i : Nat}, VDs X.K T H xs ds → VDs X.K T H ys es → Vals xs its → Vals ys its2 →
    PyData.canLayAll0 ds = true → PyData.canLayAll0 es = true → PyData.depthAll ds ≤ 50 → PyData.depthAll es ≤ 50 → dcms ds es = true → fin = decide (ds.length < es.length) →
    (b = true → i = 0 → ∀ d e ds' es', ds = d :: ds' → es = e :: es' → (∃ n m, d = .int n ∧ e = .int m) ∨ ∃ n m, d = .str n ∧ e = .str m) → Q (dlts ds es) s → PySem.W.KatLex X.prog X.w A b fin Q (its.zip its2) i s
  | [], [], _, _, _, _, i, .nil, .nil, .nil, .nil, _, _, _, _, _, hf, _, q => by
    subst hf; exact PySem.W.kat_nil q
  | [], _ :: _, _, _, _, _, i, .nil, .cons _ _, .nil, .cons _ _, _, _, _, _, _, hf, _, q => by
    subst hf; exact PySem.W.kat_nil (by simpa [dlts] using q)
  | _ :: _, [], _, _, _, _, i, .cons _ _, .nil, .cons _ _, .nil, _, _, _, _, _, hf, _, q => by
    subst hf; exact PySem.W.kat_nil (by simpa [dlts] using q)
  | x :: xs, y :: ys, p :: its, u :: its2, d :: ds, e :: es, i, .cons hd hds, .cons he hes, .cons rd rds, .cons re res, c1, c2, k1, k2, hc, hf, hb, q => by
    have c1' : d.canLay0 = true ∧ PyData.canLayAll0 ds = true := by simpa [PyData.canLayAll0] using c1
    have c2' : e.canLay0 = true ∧ PyData.canLayAll0 es = true := by simpa [PyData.canLayAll0] using c2
    have hc' : dcm d e = true ∧ dcms ds es = true := by simpa [dcms] using hc
    have m1 : d.depth ≤ PyData.depthAll (d :: ds) := depthAll_get (i := 0) rfl
    have m2 : e.depth ≤ PyData.depthAll (e :: es) := depthAll_get (i := 0) rfl
    have n1 : PyData.depthAll ds ≤ PyData.depthAll (d :: ds) := by simp [PyData.depthAll]; omega
    have n2 : PyData.depthAll es ≤ PyData.depthAll (e :: es) := by simp [PyData.depthAll]; omega
    obtain ⟨as, q1⟩ := Dp.reads I d x _ hd.dp rd
    obtain ⟨bs, q2⟩ := Dp.reads I e y _ he.dp re
    refine PySem.W.kat_cons (SeqAt.eqAt_reads d e A s _ _ as bs q1 q2 c1'.1 c2'.1 (by omega) X.prog X.w _ _ ?_)
    refine PySem.W.kat_go (fun ee => ?_) (fun ee => ?_)
    · refine PySem.W.kat_yes (kat_data I hu hds hes rds res c1'.2 c2'.2 (by omega) (by omega) hc'.2 (by rw [hf]; simp) (fun _ h0 => by cases h0) ?_)
      simpa [dlts, ee] using q
    · have q : Q (dlt d e) s := by simpa [dlts, ee] using q
      refine PySem.W.kat_no ?_
      cases hfl : (b && i == 0) with
      | false =>
        refine PySem.W.kat_one _ _ ?_
        exact rc_lt I 50 A d e x y p u hd he rd re c1'.1 c2'.1 hc'.1 (by omega) (by omega) X.prog X.w _ _ q
      | true =>
        simp only [Bool.and_eq_true, beq_iff_eq] at hfl
        rcases hb hfl.1 hfl.2 d e ds es rfl rfl with ⟨n, m, rfl, rfl⟩ | ⟨n, m, rfl, rfl⟩
        · cases hd; cases he
          obtain ⟨t, rfl⟩ := rd
          obtain ⟨t', rfl⟩ := re
          exact oneLt_int q
        · cases hd; cases he
          obtain ⟨t, rfl⟩ := rd
          obtain ⟨t', rfl⟩ := re
          exact oneLt_str q
/-- the heads of tuples: all ints, all texts, all tuples -/
def headT : Nat → Value
  | 0 => .type "int"
  | 1 => .type "str"
  | _ => .type "tuple"
theorem firsts_data {k : Nat} {h : Heap} {M : Model} : ∀ {xs : List V} {its : List Value} {ds : List PyData}, Inv X pins σ H { s with heap := h } → VDs X.K T H xs ds → Vals xs its → ds.all (headK k) = true → k < 3 →
    ∃ fs : List Value, PySem.W.KatTups h its fs ∧ fs.length = its.length ∧ ∀ f ∈ fs, PySem.W.Looks M h (typeOf f) (headT k)
  | _, _, _, I, .nil, .nil, _, _ => ⟨[], trivial, rfl, fun _ h => by cases h⟩
  | _, _, _, I, .cons hd hds, .cons r rs, ha, hk => by
    rw [List.all_cons, Bool.and_eq_true] at ha
    obtain ⟨fs, f1, f2, f3⟩ := firsts_data (M := M) I hds rs ha.2 hk
    cases hd with
    | @tup a xs ds hz hr =>
      cases r
      obtain ⟨its, rv, p, _⟩ := I.tuple hz.sq
      obtain ⟨o, ho, hc, n, hdt⟩ := p
      cases hr with
      | nil => simp [headK] at ha
      | @cons x0 xs d0 ds h0 hr =>
        cases rv with
        | @cons _ u0 _ us r0 rs0 =>
          refine ⟨u0 :: fs, PySem.W.KatTups.cons ho hc hdt (by simp) f1, by simp [f2], fun f hf => ?_⟩
          rcases List.mem_cons.mp hf with rfl | hf
          · cases h0 with
            | int i =>
              obtain ⟨t, rfl⟩ := r0
              have : k = 0 := by simpa [headK] using ha.1
              subst this
              exact PySem.W.Looks.now
            | str i =>
              obtain ⟨t, rfl⟩ := r0
              have : k = 1 := by simpa [headK] using ha.1
              subst this
              exact PySem.W.Looks.now
            | @tup b ys es hz2 hr2 =>
              cases r0
              have : k = 2 := by simpa [headK] using ha.1
              subst this
              obtain ⟨its2, rv2, p2, _⟩ := I.tuple hz2.sq
              obtain ⟨o2, ho2, hc2, _⟩ := p2
              have e2 : PySem.W.Looks M h (typeOf (.ref b)) o2.cls := (PySem.W.Looks.ld ho2).andThen .now
              rw [hc2] at e2
              exact e2
            | none => simp [headK] at ha
            | bool _ => simp [headK] at ha
            | lst _ _ => simp [headK] at ha
          · exact f3 f hf
    | none => simp [headK] at ha
    | bool _ => simp [headK] at ha
    | int _ => simp [headK] at ha
    | str _ => simp [headK] at ha
    | lst _ _ => simp [headK] at ha
end
end Pd
set_option Elab.async false
set_option linter.all false
set_option maxRecDepth 100000
set_option maxHeartbeats 2000000
/-! PdSort2: sorted of comparable data, in the form of sorted_ord. -/
namespace Pd
open PySem PySem.Spec PyProof.Rows L2 SrtO
theorem ints_cm {ds : List PyData} (h : ds.all isIntD = true) : ∀ u ∈ ds, ∀ v ∈ ds, dcm u v = true := fun u hu v hv => by
  have h1 := List.all_eq_true.mp h u hu
  have h2 := List.all_eq_true.mp h v hv
  cases u <;> first | (simp [isIntD] at h1; done) | skip
  cases v <;> first | (simp [isIntD] at h2; done) | rfl
theorem cm_all {ds : List PyData} (h : cmAll ds = true) : ∀ u ∈ ds, ∀ v ∈ ds, dcm u v = true := fun u hu v hv =>
  List.all_eq_true.mp (List.all_eq_true.mp h u hu) v hv
theorem srtOk_cm {ds : List PyData} (h : srtOk ds = true) : ∀ u ∈ ds, ∀ v ∈ ds, dcm u v = true := by
  unfold srtOk at h
  rcases Bool.or_eq_true _ _ ▸ h with h | h
  · exact ints_cm h
  · simp only [Bool.and_eq_true] at h
    exact cm_all h.1.1.2
section
variable {X : Cx} {pins : List (Addr × Obj)} {s : Shared} {σ : L2.St} {H : Hp} {T : Tk}
theorem tup_cmp (I : Inv X pins σ H s) {A : Around} {k : Nat} (hu : A.units + 55 < cLine) {xs : List V} {its : List Value} {ds : List PyData} (rd : VDs X.K T H xs ds) (rv : Vals xs its) (hk : ds.all (headK k) = true)
    (hc : cmAll ds = true) (hl : ds.all PyData.canLay0 = true) (hd : ds.all dep50 = true) :
    SrtO.Cmp X.prog X.w A s (tuples' (headT k != Value.type "tuple")) (fun p => p.1 ∈ its) (lt2 fun v u => lexI (enc (dec X.K T H v)) (enc (dec X.K T H u))) := by
  intro p q hm hm'
  obtain ⟨x, d, hx, hdm, r, vd⟩ := dec_mem rv rd _ hm
  obtain ⟨y, e, hy, hem, r', ve⟩ := dec_mem rv rd _ hm'
  show wpAny (model X.prog X.w) A (keyLt' (tuples' _) p.1 q.1) (fun b s' => s' = s ∧ b = lexI (enc (dec X.K T H p.1)) (enc (dec X.K T H q.1))) (fun _ _ => False) s
  rw [dec_at r vd, dec_at r' ve, ← dlt_enc (cm_all hc d hdm e hem)]
  have hcm := cm_all hc d hdm e hem
  have h1 := List.all_eq_true.mp hk d hdm
  have h2 := List.all_eq_true.mp hk e hem
  have l1 := List.all_eq_true.mp hl d hdm
  have l2 := List.all_eq_true.mp hl e hem
  have d1 : d.depth ≤ 50 := of_decide_eq_true (List.all_eq_true.mp hd d hdm)
  have d2 : e.depth ≤ 50 := of_decide_eq_true (List.all_eq_true.mp hd e hem)
  generalize p.1 = pv at r ⊢
  generalize q.1 = qv at r' ⊢
  cases vd with
  | @tup a xs1 ds1 hz hr =>
    cases ve with
    | @tup b ys1 es1 hz2 hr2 =>
      cases r
      cases r'
      obtain ⟨i1, rv1, ⟨o1, ho1, _, n1, hd1⟩, _⟩ := I.tuple hz.sq
      obtain ⟨i2, rv2, ⟨o2, ho2, _, n2, hd2⟩, _⟩ := I.tuple hz2.sq
      refine PySem.W.kat_lt ho1 hd1 ho2 hd2 ?_
      have e1 : i1.length = ds1.length := by rw [← rv1.length, hr.length]
      have e2 : i2.length = es1.length := by rw [← rv2.length, hr2.length]
      have c1 : PyData.canLayAll0 ds1 = true := by simpa [PyData.canLay0] using l1
      have c2 : PyData.canLayAll0 es1 = true := by simpa [PyData.canLay0] using l2
      have k1 : PyData.depthAll ds1 ≤ 50 := by simp [PyData.depth] at d1; omega
      have k2 : PyData.depthAll es1 ≤ 50 := by simp [PyData.depth] at d2; omega
      have kk := kat_data (X := X) (I := I) (A := A) (b := headT k != Value.type "tuple") (fin := decide (i1.toArray.size < i2.toArray.size)) (Q := fun b s' => s' = s ∧ b = dlt (.tuple ds1) (.tuple es1)) hu (i := 0) hr hr2 rv1 rv2 c1 c2 k1 k2 (by simpa [dcm] using hcm) (by simp [e1, e2]) ?_ ⟨rfl, by simp [dlt]⟩
      · simpa using kk
      · intro hb _ d0 e0 ds' es' q1 q2
        subst q1; subst q2
        match k, d0, h1, e0, h2, hb with
        | 0, .int n, _, .int m, _, _ => exact .inl ⟨n, m, rfl, rfl⟩
        | 1, .str n, _, .str m, _, _ => exact .inr ⟨n, m, rfl, rfl⟩
        | k + 2, _, _, _, _, hb => exact absurd hb (by simp [headT])
        | 0, .str _, h, _, _, _ => simp [headK] at h
        | 0, .tuple _, h, _, _, _ => simp [headK] at h
        | 0, .int _, _, .str _, h, _ => simp [headK] at h
        | 0, .int _, _, .tuple _, h, _ => simp [headK] at h
        | 1, .int _, h, _, _, _ => simp [headK] at h
        | 1, .tuple _, h, _, _, _ => simp [headK] at h
        | 1, .str _, _, .int _, h, _ => simp [headK] at h
        | 1, .str _, _, .tuple _, h, _ => simp [headK] at h
        | _, .none, h, _, _, _ => simp [headK] at h
        | _, .bool _, h, _, _, _ => simp [headK] at h
        | _, .list _, h, _, _, _ => simp [headK] at h
        | _, _, _, .none, h, _ => simp [headK] at h
        | _, _, _, .bool _, h, _ => simp [headK] at h
        | _, _, _, .list _, h, _ => simp [headK] at h
    | _ => simp [headK] at h2
  | _ => simp [headK] at h1
end
end Pd
set_option Elab.async false
set_option linter.all false
set_option maxRecDepth 100000
set_option maxHeartbeats 2000000
/-! PdSort3: sorted of comparable data, of a list or a tuple. -/
namespace Pd
open PySem PySem.Spec PyProof.Rows L2 SrtO
section
variable {X : Cx} {pins : List (Addr × Obj)} {s : Shared} {σ : L2.St} {H : Hp} {T : Tk}
/-- how two values of data stand in a sort -/
noncomputable def ltD (K : PySem.W.Frag) (T : Tk) (H : Hp) (v u : Value) : Bool := lexI (enc (dec K T H v)) (enc (dec K T H u))
theorem int_dec {its : List Value} {xs : List V} {ds : List PyData} (rd : VDs X.K T H xs ds) (rv : Vals xs its) (hi : ds.all isIntD = true) : ∀ v ∈ its, ∃ i t, v = Value.int i t ∧ dec X.K T H v = .int i := by
  intro v hv
  obtain ⟨x, d, hx, hd, r, vd⟩ := dec_mem rv rd v hv
  have h1 := List.all_eq_true.mp hi d hd
  cases vd with
  | int i =>
    obtain ⟨t, rfl⟩ := r
    exact ⟨i, t, rfl, dec_at (x := .int i) ⟨t, rfl⟩ (.int i)⟩
  | _ => simp [isIntD] at h1
theorem data_sortable (I : Inv X pins σ H s) {A : Around} (hu : A.units + 55 < cLine) {xs : List V} {its : List Value} {ds : List PyData} (rd : VDs X.K T H xs ds) (rv : Vals xs its) (hs : srtOk ds = true) (h2 : 2 ≤ its.length)
    {h₁ : Heap} {a : Addr} (keep : ∀ b o, s.heap.get? b = some o → b ≠ a ∧ h₁.get? b = some o) : SortableO X.prog X.w A { s with heap := h₁ } a its (ltD X.K T H) := by
  intro h' keep'
  have I' : Inv X pins σ H { s with heap := h' } := I.kept (t' := s.toks) fun b o e => keep' b o (keep b o e).1 (keep b o e).2
  by_cases hi : ds.all isIntD = true
  · have hd := int_dec rd rv hi
    have hI : IntsAre its (its.map iv) := ints_iv fun v hv => by obtain ⟨i, t, e, _⟩ := hd v hv; exact ⟨i, t, e⟩
    refine ⟨oneType', fun Q E hq => ?_, ?_⟩
    · match its, hI, h2 with
      | v1 :: v2 :: rest, hI, _ =>
        rw [keyKind_ints hI]
        exact wpAny_pure hq
      | [], _, h => exact absurd h (by decide)
      | [v], _, h => exact absurd h (by simp)
    · intro p q hm hm'
      obtain ⟨i, t, e1, d1⟩ := hd _ hm
      obtain ⟨j, u, e2, d2⟩ := hd _ hm'
      show wpAny (model X.prog X.w) A (keyLt' oneType' p.1 q.1) (fun r s' => s' = { s with heap := h' } ∧ r = ltD X.K T H p.1 q.1) (fun _ _ => False) { s with heap := h' }
      have ee : ltD X.K T H p.1 q.1 = decide (i < j) := by
        unfold ltD
        rw [d1, d2]
        by_cases h : i = j
        · subst h; simp [enc, lexI]
        · simp [enc, lexI, h]
      rw [ee, e1, e2, keyLt'_oneType]
      exact oneLt_int ⟨rfl, rfl⟩
  · have hs' : ((hdOk ds 0 || hdOk ds 1 || hdOk ds 2) && cmAll ds && ds.all PyData.canLay0 && ds.all dep50) = true := by
      unfold srtOk at hs
      rw [Bool.or_eq_true] at hs
      rcases hs with h | h
      · exact absurd h hi
      · exact h
    simp only [Bool.and_eq_true] at hs'
    obtain ⟨⟨⟨hh, hc⟩, hl⟩, hdp⟩ := hs'
    have hk : ∃ k, k < 3 ∧ ds.all (headK k) = true := by
      rw [Bool.or_eq_true, Bool.or_eq_true] at hh
      rcases hh with (h | h) | h
      · exact ⟨0, by decide, h⟩
      · exact ⟨1, by decide, h⟩
      · exact ⟨2, by decide, h⟩
    obtain ⟨k, hk3, hka⟩ := hk
    obtain ⟨fs, f1, f2, f3⟩ := firsts_data (M := model X.prog X.w) I' rd rv hka hk3
    refine ⟨tuples' (headT k != Value.type "tuple"), fun Q E hq => ?_, tup_cmp I' hu rd rv hka hc hl hdp⟩
    refine PySem.W.kat_kind f1 (by omega) f3 ?_ hq
    match k, hk3 with
    | 0, _ => rfl
    | 1, _ => rfl
    | 2, _ => rfl
theorem swo_ltD {K : PySem.W.Frag} : Swo (ltD K T H) := swo_enc (dec K T H)
/-- sorted of a list or a tuple of data -/
theorem cr_sortedD (hu : X.A.units + 64 < cLine) : CallR X (.builtin "sorted") (fun vs H Q => ∃ (T : Tk) (a : Addr) (xs : List V) (ds : List PyData), vs = [.ref a] ∧ (SqL X.K H a xs ∨ SqT X.K H a xs) ∧ VDs X.K T H xs ds ∧ srtOk ds = true ∧
    ∀ (ys : List V) (p : Addr), H p = none → VDs X.K T H ys (isort dlt ds) → ys.length = xs.length → Q (.ref p) (upd H p (.lst ys))) := by
  intro pins s σ H vs us Q I r h
  obtain ⟨T, a, xs, ds, rfl, hsq, rd, hs, q⟩ := h
  rw [Vals.ref1 r]
  obtain ⟨its, rv, hz, Ty, o, items, n, hT, ho, hc, hd, hit⟩ : ∃ its : List Value, Vals xs its ∧ xs.length ≤ sizeLine ∧ ∃ (Ty : String) (o : Obj) (items : Array Value) (n : Nat), (Ty = "list" ∨ Ty = "tuple") ∧ s.heap.get? a = some o ∧ o.cls = .type Ty ∧ o.data = .seq items n ∧ items = its.toArray := by
    rcases hsq with h | h
    · obtain ⟨its, rv, pl, hz⟩ := I.list h
      obtain ⟨o, ho, hc, n, hd⟩ := pl.isList
      exact ⟨its, rv, hz, "list", o, _, n, .inl rfl, ho, hc, hd, rfl⟩
    · obtain ⟨its, rv, pl, hz⟩ := I.tuple h
      obtain ⟨o, ho, hc, n, hd⟩ := pl
      exact ⟨its, rv, hz, "tuple", o, _, n, .inr rfl, ho, hc, hd, rfl⟩
  subst hit
  have hlen : its.length = xs.length := rv.length.symm
  refine Calls.call_function_entry kind_sorted plain_sorted entry_sorted (args_sorted1 _) ?_
  unfold Builtin.«sorted»
  refine wpAny_bind (m := checkCount "sorted" 1 1 _) (wpAny_pure ?_)
  refine wpAny_bind (wpAny_collect_seq a hT ho hc hd (fun h' hk => ?_) (by rw [List.size_toArray, hlen]; exact hz))
  refine wpAny_bind (wpAny_newList ?_ (by simpa [hlen] using hz))
  have hoL : (h'.push (seqObj "list" its.toArray 0)).get? h'.objs.size = some (seqObj "list" its.toArray 0) := Heap.get?_push_size _ rfl
  have keep : ∀ b o, s.heap.get? b = some o → b ≠ h'.objs.size ∧ (h'.push (seqObj "list" its.toArray 0)).get? b = some o := fun b o e =>
    ⟨Nat.ne_of_lt (Heap.lt_size (hk b o e)), Heap.get?_push_of_some _ (hk b o e)⟩
  have hus : X.A.in1.in1.units + 55 < cLine := by simp; omega
  refine wpAny_bind (wpAny_holding (wpAny_call_entry slot_list_sort ⟨_, hoL, rfl⟩ entry_list_sort (list_sort_ord (swo_ltD (T := T) (H := H) (K := X.K)) hoL (by rw [hlen]; exact hz)
    (fun h2 => data_sortable I hus rd rv hs h2 keep) fun out h1 h2 => ⟨.none, rfl, ?_⟩) (args_list_sort _)))
  obtain ⟨ys, r1, r2, r3⟩ := out_rel rv rd (srtOk_cm hs) h1 h2.perm
  obtain ⟨ep, he⟩ := PyProof.Rows.sortedHeap_at (out := out.toArray) hoL
  have I' : Inv X pins σ H { s with heap := h' } := I.kept (t' := s.toks) hk
  have old : ∀ b o, h'.get? b = some o → (sortedHeap (h'.push (seqObj "list" its.toArray 0)) h'.objs.size its out.toArray).get? b = some o := fun b o e => by
    rw [PyProof.Rows.sortedHeap_old (Nat.ne_of_lt (Heap.lt_size e)) (Heap.lt_size (Heap.get?_push_of_some _ e))]
    exact Heap.get?_push_of_some _ e
  exact wpAny_pure ⟨_, rfl, .ref h'.objs.size, upd H h'.objs.size (.lst ys), I'.laid (t' := s.toks) old (Nat.le_refl _) ⟨by omega, out, ep, r1, he⟩, rfl, q ys _ (I'.hok.fresh (Nat.le_refl _)) r2 r3⟩
end
end Pd
set_option Elab.async false
set_option linter.all false
set_option maxRecDepth 100000
set_option maxHeartbeats 1000000
/-! Pd9: built-ins, methods, stores, by values. -/
namespace Pd
open PySem PySem.Spec PyProof.Rows L2
/-- a built-in called with values -/
def rBi (G : Gl0) (b : Bi) : List V → Hp → VK → Prop := fun xs H Q => ∃ T S ws p, Rel G T S H ∧ VRs G T S.length H xs ws ∧ biF b ws S = some p ∧
  ∀ T' H' z, Step T S.length H T' S.length H' → Rel G T' S H' → RR G H T' S.length H' z p.1 p.2 → Q z H'
section
variable {X : Cx} {G : Gl0} {T : Tk} {H : Hp} {n : Nat} {S : Sto}
theorem vrs1 {xs : List V} {w : W} (h : VRs G T n H xs [w]) : ∃ x, xs = [x] ∧ VR G T n H x w := by
  cases h with
  | cons a r => cases r; exact ⟨_, rfl, a⟩
theorem vrs2 {xs : List V} {w w' : W} (h : VRs G T n H xs [w, w']) : ∃ x y, xs = [x, y] ∧ VR G T n H x w ∧ VR G T n H y w' := by
  cases h with
  | cons a r => cases r with | cons b r => cases r; exact ⟨_, _, rfl, a, b⟩
theorem data_ints : ∀ {xs : List V} {ns : List Int}, VDs G.K T H xs (ns.map PyData.int) → xs = ns.map V.int
  | _, [], .nil => rfl
  | _, n :: ns, .cons (.int _) r => by rw [data_ints r]; rfl
theorem ints_data {K : PySem.W.Frag} : ∀ ns : List Int, VDs K T H (ns.map V.int) (ns.map PyData.int)
  | [] => .nil
  | n :: ns => .cons (.int n) (ints_data ns)
theorem dataOf_some {a : W} {ds : List PyData} (e : dataOf a S = some ds) : ∃ t, items a S = some (t, ds.map W.v) := by
  unfold dataOf at e
  cases h : items a S with
  | none => rw [h] at e; cases e
  | some p =>
    rw [h] at e
    obtain ⟨t, ws⟩ := p
    have e : allV ws = some ds := e
    exact ⟨t, by rw [allV_some e]⟩
def biV : Bi → Value
  | .len => .builtin "len" | .sum => .builtin "sum" | .all => .builtin "all" | .any => .builtin "any" | .abs => .builtin "abs"
  | .int => .type "int" | .tuple => .type "tuple" | .list => .type "list"
  | .min1 => .builtin "min" | .max1 => .builtin "max" | .min2 => .builtin "min" | .max2 => .builtin "max" | .min3 => .builtin "min"
  | .sorted => .builtin "sorted" | .set => .type "set" | .str => .type "str" | .repr => .builtin "repr" | .dict0 => .type "dict" | .dict => .type "dict"
theorem best_bi (hK : X.K = G.K) {x : V} {a : W} {mx : Bool} {d : PyData} {Q : VK} (rl : Rel G T S H) (hx : VR G T S.length H x a) (e : ((dataOf a S).bind fun ds => bestOf mx ds) = some d) (q : ∀ z, VD G.K T H z d → Q z H) :
    rBestA X.K mx [x] H Q := by
  cases h1 : dataOf a S with
  | none => rw [h1] at e; cases e
  | some ds =>
    rw [h1] at e
    have e : bestOf mx ds = some d := e
    obtain ⟨t, h2⟩ := dataOf_some h1
    obtain ⟨b, ys, rfl, hl, r1, t1, t2⟩ := hx.items rl h2
    unfold bestOf at e
    split at e
    · cases e
    · rename_i d0 r
      split at e
      · rename_i hc
        cases e
        obtain ⟨ns, hns⟩ := ints_of hc
        cases ns with
        | nil => cases hns
        | cons i ns =>
          simp only [List.map_cons, List.cons.injEq] at hns
          obtain ⟨rfl, rfl⟩ := hns
          obtain ⟨m, hm, hmem, hall⟩ := least_int mx ns i
          have hys : ys = (i :: ns).map V.int := data_ints (ns := i :: ns) (by simpa using r1.data)
          refine ⟨b, i :: ns, rfl, ?_, by simp, fun k hk hk2 => ?_⟩
          · rw [← hys, hK]
            cases t with
            | true => exact .inr (t1 rfl).sq
            | false => exact .inl (t2 rfl)
          · have : k = m := by
              have h3 := hall k (by simpa using hk)
              have h4 := hk2 m (by simpa using hmem)
              cases mx with
              | true => simp at h3 h4; omega
              | false => simp at h3 h4; omega
            subst this
            rw [hm] at q
            exact q _ (.int k)
      · cases e
theorem call_bi (hK : X.K = G.K) (hc : X.calm = true) (hu : X.A.units + 64 < cLine) (b : Bi) : CallR X (biV b) (rBi G b) := by
  intro pins s σ H xs us Q I r ⟨T, S, ws, p, rl, hw, e, q⟩
  have q0 : ∀ z d, p = (.v d, false) → VD G.K T H z d → Q z H := fun z d hp h => q T H z (Step.refl _ _ _) rl (by rw [hp]; exact VR.v h)
  unfold biF at e
  split at e
  · -- len
    rename_i a
    obtain ⟨x, rfl, hx⟩ := vrs1 hw
    cases h1 : lenW a S with
    | none => rw [h1] at e; cases e
    | some k =>
      rw [h1] at e; cases e
      obtain ⟨n, h2, rfl⟩ := lenW_len hK rl hx h1
      exact call_len pins s σ H _ us Q I r ⟨x, n, rfl, h2, q0 _ _ rfl (.int _)⟩
  · -- sum
    rename_i a
    obtain ⟨x, rfl, hx⟩ := vrs1 hw
    cases h1 : items a S with
    | none => rw [h1] at e; cases e
    | some p0 =>
      obtain ⟨t, ws⟩ := p0
      rw [h1] at e
      have e : (if t then none else (sumInts ws).map fun n => (W.v (.int n), false)) = some p := e
      cases t with
      | true => cases e
      | false =>
        obtain ⟨a1, ys, rfl, _, r1, hl⟩ := listAt rl hx h1
        have e : (sumInts ws).map (fun n => (W.v (.int n), false)) = some p := e
        cases h2 : sumInts ws with
        | none => rw [h2] at e; cases e
        | some k =>
          rw [h2] at e; cases e
          obtain ⟨ns, rfl, rfl⟩ := sumInts_rel r1 h2
          exact cr_sum hc pins s σ H _ us Q I r ⟨a1, ns, rfl, hK ▸ hl, q0 _ _ rfl (.int _)⟩
  · -- all
    rename_i a
    obtain ⟨x, rfl, hx⟩ := vrs1 hw
    cases h1 : items a S with
    | none => rw [h1] at e; cases e
    | some p0 =>
      obtain ⟨t, ws⟩ := p0
      rw [h1] at e
      have e : (if t then none else (bools ws).map fun bs => (W.v (.bool (bs.all id)), false)) = some p := e
      cases t with
      | true => cases e
      | false =>
        obtain ⟨a1, ys, rfl, _, r1, hl⟩ := listAt rl hx h1
        have e : (bools ws).map (fun bs => (W.v (.bool (bs.all id)), false)) = some p := e
        cases h2 : bools ws with
        | none => rw [h2] at e; cases e
        | some bs =>
          rw [h2] at e; cases e
          obtain rfl := bools_rel r1 h2
          exact cr_all hc pins s σ H _ us Q I r ⟨a1, bs, rfl, hK ▸ hl, q0 _ _ rfl (.bool _)⟩
  · -- any
    rename_i a
    obtain ⟨x, rfl, hx⟩ := vrs1 hw
    cases h1 : items a S with
    | none => rw [h1] at e; cases e
    | some p0 =>
      obtain ⟨t, ws⟩ := p0
      rw [h1] at e
      have e : (if t then none else (bools ws).map fun bs => (W.v (.bool (bs.any id)), false)) = some p := e
      cases t with
      | true => cases e
      | false =>
        obtain ⟨a1, ys, rfl, _, r1, hl⟩ := listAt rl hx h1
        have e : (bools ws).map (fun bs => (W.v (.bool (bs.any id)), false)) = some p := e
        cases h2 : bools ws with
        | none => rw [h2] at e; cases e
        | some bs =>
          rw [h2] at e; cases e
          obtain rfl := bools_rel r1 h2
          exact cr_any hc pins s σ H _ us Q I r ⟨a1, bs, rfl, hK ▸ hl, q0 _ _ rfl (.bool _)⟩
  · -- abs
    cases e
    obtain ⟨x, rfl, hx⟩ := vrs1 hw
    obtain rfl := vd_int hx
    exact call_abs pins s σ H _ us Q I r ⟨_, rfl, q0 _ _ rfl (.int _)⟩
  · -- int
    cases e
    obtain ⟨x, rfl, hx⟩ := vrs1 hw
    obtain rfl := vd_int hx
    exact call_int1 pins s σ H _ us Q I r (.inl ⟨_, rfl, q0 _ _ rfl (.int _)⟩)
  · cases e
    obtain ⟨x, rfl, hx⟩ := vrs1 hw
    obtain rfl := vd_bool hx
    exact call_int1 pins s σ H _ us Q I r (.inr ⟨_, rfl, q0 _ _ rfl (.int _)⟩)
  · -- tuple
    rename_i a
    obtain ⟨x, rfl, hx⟩ := vrs1 hw
    cases h1 : items a S with
    | none => rw [h1] at e; cases e
    | some p0 =>
      obtain ⟨t, ws⟩ := p0
      rw [h1] at e; cases e
      obtain ⟨a1, ys, rfl, hl, r1, t1, t2⟩ := hx.items rl h1
      cases t with
      | true => exact call_tuple_of pins s σ H _ us Q I r ⟨a1, ys, rfl, .inr ⟨(t1 rfl).sq, q T H _ (Step.refl _ _ _) rl (VR.tupOf (t1 rfl) r1)⟩⟩
      | false =>
        refine call_tuple_of pins s σ H _ us Q I r ⟨a1, ys, rfl, .inl ⟨hK ▸ t2 rfl, fun l hp => ?_⟩⟩
        obtain ⟨s1, s2, s3⟩ := new_tup rl hp r1 hl
        exact q _ _ _ s1 s2 s3
  · cases e
  · -- list
    rename_i a _
    obtain ⟨x, rfl, hx⟩ := vrs1 hw
    cases h1 : items a S with
    | none => rw [h1] at e; cases e
    | some p0 =>
      obtain ⟨t, ws⟩ := p0
      rw [h1] at e; cases e
      obtain ⟨a1, ys, rfl, hl, r1, t1, t2⟩ := hx.items rl h1
      refine call_list_of pins s σ H _ us Q I r ⟨a1, ys, rfl, ?_, fun l hp => ?_⟩
      · cases t with
        | true => exact .inr (t1 rfl).sq
        | false => exact .inl (hK ▸ t2 rfl)
      · obtain ⟨s1, s2, s3⟩ := new_lst rl hp r1 hl
        exact q _ _ _ s1 s2 s3
  · -- min2
    cases e
    obtain ⟨x, y, rfl, hx, hy⟩ := vrs2 hw
    obtain rfl := vd_int hx
    obtain rfl := vd_int hy
    exact call_min2 hc pins s σ H _ us Q I r ⟨_, _, rfl, q0 _ _ rfl (.int _)⟩
  · cases e
    obtain ⟨x, y, rfl, hx, hy⟩ := vrs2 hw
    obtain rfl := vd_int hx
    obtain rfl := vd_int hy
    exact call_max2 hc pins s σ H _ us Q I r ⟨_, _, rfl, q0 _ _ rfl (.int _)⟩
  · rename_i a
    obtain ⟨x, rfl, hx⟩ := vrs1 hw
    cases h1 : (dataOf a S).bind fun ds => bestOf false ds with
    | none =>
      exfalso
      cases h2 : dataOf a S with
      | none => rw [h2] at e; cases e
      | some ds => rw [h2] at e h1; simp only [Option.bind_some] at e h1; rw [h1] at e; cases e
    | some d =>
      have ep : p = (.v d, false) := by
        cases h2 : dataOf a S with
        | none => rw [h2] at h1; cases h1
        | some ds => rw [h2] at e h1; simp only [Option.bind_some] at e h1; rw [h1] at e; cases e; rfl
      exact cr_bestA hc false pins s σ H _ us Q I r (best_bi hK rl hx h1 fun z hz => q0 z d ep hz)
  · rename_i a
    obtain ⟨x, rfl, hx⟩ := vrs1 hw
    cases h1 : (dataOf a S).bind fun ds => bestOf true ds with
    | none =>
      exfalso
      cases h2 : dataOf a S with
      | none => rw [h2] at e; cases e
      | some ds => rw [h2] at e h1; simp only [Option.bind_some] at e h1; rw [h1] at e; cases e
    | some d =>
      have ep : p = (.v d, false) := by
        cases h2 : dataOf a S with
        | none => rw [h2] at h1; cases h1
        | some ds => rw [h2] at e h1; simp only [Option.bind_some] at e h1; rw [h1] at e; cases e; rfl
      exact cr_bestA hc true pins s σ H _ us Q I r (best_bi hK rl hx h1 fun z hz => q0 z d ep hz)
  · -- sorted
    rename_i a
    obtain ⟨x, rfl, hx⟩ := vrs1 hw
    cases h1 : dataOf a S with
    | none => rw [h1] at e; cases e
    | some ds =>
      rw [h1] at e
      simp only [Option.bind_some] at e
      split at e
      · rename_i hs
        cases e
        obtain ⟨t, h2⟩ := dataOf_some h1
        obtain ⟨a1, xs, rfl, hl, r1, t1, t2⟩ := hx.items rl h2
        refine cr_sortedD hu pins s σ H _ us Q I r ⟨T, a1, xs, ds, rfl, ?_, hK ▸ r1.data, hs, fun ys p hp hy hlen => ?_⟩
        · cases t with
          | true => exact .inr (hK ▸ (t1 rfl).sq)
          | false => exact .inl (hK ▸ t2 rfl)
        · have hv : VRs G T S.length H ys ((isort dlt ds).map W.v) := VDs.lift (hK ▸ hy)
          obtain ⟨s1, s2, s3⟩ := new_lst rl hp hv (by omega)
          rw [mkSeq_map] at s3
          exact q _ _ _ s1 s2 s3
      · cases e
  · cases e
end
end Pd
set_option Elab.async false
set_option linter.all false
set_option maxRecDepth 100000
set_option maxHeartbeats 1000000
/-! Pd10: expressions: the evaluator's value is the text's value. -/
namespace Pd
open PySem PySem.Spec PyProof.Rows L2

/-- a program in the model, at a depth of calls -/
structure Zc where
  P : Program
  w : World
  G : Gl0
  mg : Str → Option Value
  base : Heap
  Pr : Prg
  y : Sym
  d : Nat
def lev (d : Nat) : Nat := d + 3
/-- a def's promise -/
def spOf (G : Gl0) (C : CallS) (f : Nat) : Sp := fun vs H Q E => ∃ T S ws, Rel G T S H ∧ VRs G T S.length H vs ws ∧
  Post G T S.length H (C f ws S) (fun p S' T' H' => ∀ x, RR G H T' S'.length H' x p.1 p.2 → Q x H') (fun e S' T' H' => ∀ d, XR G T' H' e d → E (.ref (G.ca e.cls)) d H')
def bltNames : List String := ["len", "sum", "all", "any", "abs", "int", "tuple", "list", "min", "max", "sorted", "set", "str", "repr", "dict", "range", "zip", "enumerate", "isinstance", "bool"]
/-- a context of a text of this program -/
structure XBase (Z : Zc) (X : Cx) : Prop where
  prog : X.prog = Z.P
  w : X.w = Z.w
  K : X.K = Z.G.K
  mg : X.mg = Z.mg
  base : X.base = Z.base
  calm : X.calm = true
  room : Room (lev Z.d) X.A
/-- the classes of errors -/
structure ZEx (Z : Zc) : Prop where
  kp : ∀ k, Z.y.cok k = true → Z.y.kp k = Z.Pr.keeps k
  mg : ∀ k, Z.y.cok k = true → Z.mg (Z.y.sym k) = some (.ref (Z.G.ca k))
  sub : ∀ a b t, Z.Pr.sub a b = some t → PySem.W.exmOne Z.G.K (.ref (Z.G.ca a)) (.ref (Z.G.ca b)) = some t
  plain : ∀ k, Z.y.cok k = true → Z.Pr.keeps k = false → ∀ (X : Cx) (x m : Str) (j : Nat) (p p2 pos : Pos), XBase Z X → Gl X x → X.mg x = some (.ref (Z.G.ca k)) → (x == ("__debug__" : Str)) = false →
    PMk X (.Call (.Name x p) [.Constant (.str m) j p2] [] pos) (fun _ H Q => Q (.ref (Z.G.ca k)) none H)
  held : ∀ k, Z.y.cok k = true → Z.Pr.keeps k = true → ∀ (X : Cx) (Wx : WX) (x : Str) (e : Expr) (te : TE) (p pos : Pos), XBase Z X → Takes X Wx → Gl X x → X.mg x = some (.ref (Z.G.ca k)) → (x == ("__debug__" : Str)) = false → (∀ a p, e ≠ .Starred a p) → PE X e te →
    PMk X (.Call (.Name x p) [e] [] pos) (fun σ H Q => te σ H fun v H1 => ∀ d, H1 d = none → Q (.ref (Z.G.ca k)) (some d) (upd H1 d (.xd [(Z.G.fld k, v)])))
structure ZOk (Z : Zc) : Prop where
  blt : ∀ x, x ∈ bltNames → Z.mg (Str.ofString x) = none
  fns : ∀ f, Z.y.ok f = true → Z.mg (Z.y.sym f) = some (.ref (Z.G.fa f)) ∧ PySem.W.keepIn Z.G.K (.ref (Z.G.fa f)) = true ∧
    ∃ (fd : Fd) (fdat : FuncData), Z.Pr.fd f = some fd ∧ (Z.y.ps f).length = fd.np ∧ PlainP fdat.params (Z.y.ps f) ∧ fdat.defaults = .none ∧ (Z.y.ps f).Nodup ∧
      FnOk Z.P Z.w Z.G.K Z.mg Z.base (L2.CX Z.P Z.w) (lev Z.d) (Z.G.fa f) fdat (Z.y.ps f) (spOf Z.G (callN Z.Pr Z.d) f)
  ex : ZEx Z
  cons : ∀ g d, Z.y.cs g = some d → ∃ u, Z.mg (Z.y.sym g) = some u ∧ ∃ v, RelV v u ∧ ∀ T H, VD Z.G.K T H v d
structure XOk (Z : Zc) (c : Sx) (X : Cx) (Wx : WX) : Prop where
  prog : X.prog = Z.P
  w : X.w = Z.w
  K : X.K = Z.G.K
  mg : X.mg = Z.mg
  base : X.base = Z.base
  N : X.N = c.N
  sc : X.env.scope = c.sc
  fnx : X.fn = c.fnx
  nd : X.N.Nodup
  calm : X.calm = true
  room : Room (lev Z.d) X.A
  tk : Takes X Wx
abbrev Zc.C (Z : Zc) : CallS := callN Z.Pr Z.d
/-- an expression of the own syntax is sound -/
structure Snd (Z : Zc) (e : Ex) : Prop where
  E : ∀ (c : Sx) (X : Cx) (Wx : WX) (l : Expr), XOk Z c X Wx → isE Z.y c e l = true → PE X l (RE Z.G (evE Z.C e) Wx)
  T : tst e = true → ∀ (c : Sx) (X : Cx) (Wx : WX) (l : Expr), XOk Z c X Wx → isE Z.y c e l = true → PT X l (RT Z.G (evE Z.C e) Wx)
  P : ∀ (c : Sx) (X : Cx) (Wx : WX) (op : BoolOp) (ls : List Expr) (p : Pos), XOk Z c X Wx → isE Z.y c e (.BoolOp op ls p) = true → PW X (.BoolOp op ls p) (RT Z.G (evE Z.C e) Wx)
section
variable {Z : Zc} {c : Sx} {X : Cx} {Wx : WX} {l : Expr} {e : Ex}
theorem pt_plain (h : PE X l (RE Z.G (evE Z.C e) Wx)) (he : ∀ whole, isTrue l X.env whole = (do let v ← whole; standAt l.pos; holding [v] (truthy v))) : PT X l (RT Z.G (evE Z.C e) Wx) := by
  refine pt_weak (pt_val (pe_frozen h) he) fun σ H Q q => ?_
  obtain ⟨T, ρ, S, rl, sr, p⟩ := q
  refine ⟨T, ρ, S, rl, sr, p.impO fun a S' T' H' s r ⟨b, hb, hq⟩ x hx => ?_⟩
  rw [hb] at hx
  exact ⟨b, vd_bool hx, hq⟩
/-- from the value: neither a test of its own form nor and, or -/
theorem snd_of (hE : ∀ (c : Sx) (X : Cx) (Wx : WX) (l : Expr), XOk Z c X Wx → isE Z.y c e l = true → PE X l (RE Z.G (evE Z.C e) Wx))
    (hp : ∀ (c : Sx) (l : Expr), isE Z.y c e l = true → ∀ env whole, isTrue l env whole = (do let v ← whole; standAt l.pos; holding [v] (truthy v)))
    (hb : ∀ (c : Sx) (op : BoolOp) (ls : List Expr) (p : Pos), isE Z.y c e (.BoolOp op ls p) = false) : Snd Z e :=
  ⟨hE, fun _ c X Wx l hx h => pt_plain (hE c X Wx l hx h) (hp c l h X.env), fun c X Wx op ls p hx h => by rw [hb] at h; cases h⟩
theorem XOk.units (h : XOk Z c X Wx) : X.A.units + 64 < cLine := h.room.units
theorem vis_of (h : XOk Z c X Wx) {x : Str} (hv : visB c x = true) : Vis X.env.scope x := by
  unfold visB at hv
  unfold Vis
  rw [h.sc]
  simp only [Bool.or_eq_true, beq_iff_eq] at hv
  rcases hv with (h | h) | h
  · exact .inl h
  · exact .inr (.inl h)
  · exact .inr (.inr h)
theorem gl_of (h : XOk Z c X Wx) {x : Str} (hv : glB c x = true) : Gl X x := by
  unfold glB at hv
  show X.env.scope.names.lookup x = _
  rw [h.sc]
  exact beq_iff_eq.mp hv
theorem nm_of {x : Str} (h : okNm x = true) : (x == ("__debug__" : Str)) = false ∧ (x == ("__classdict__" : Str)) = false ∧ x ≠ "__name__" := by
  unfold okNm at h
  simp only [Bool.and_eq_true, Bool.not_eq_true', beq_eq_false_iff_ne] at h
  exact ⟨beq_eq_false_iff_ne.mpr h.1.1, beq_eq_false_iff_ne.mpr h.1.2, h.2⟩
theorem RR.back {G : Gl0} {T T2 T' : Tk} {n n2 n' : Nat} {H H2 H' : Hp} {z : V} {w : W} {fr : Bool} (h : RR G H2 T' n' H' z w fr) (s : Step T n H T2 n2 H2) : RR G H T' n' H' z w fr := by
  cases fr with
  | false => exact h
  | true =>
    obtain ⟨a, xs, h1, h2, h3, h4, h5⟩ := h
    refine ⟨a, xs, h1, h2, h3, ?_, h5⟩
    cases e : H a with
    | none => rfl
    | some u => exact absurd h4 (s.tr a (by rw [e]; simp))
theorem snd_nm (i : Nat) : Snd Z (.nm i) := by
  refine snd_of (fun c X Wx l hx h => ?_) (fun c l h env whole => ?_) (fun c op ls p => by simp [isE])
  · cases l <;> simp only [isE, Bool.and_eq_true, beq_iff_eq, Bool.false_eq_true] at h
    obtain ⟨⟨h1, h2⟩, h3⟩ := h
    obtain ⟨n1, n2, _⟩ := nm_of h3
    refine pe_weak (pe_var (i := i) (by rw [hx.N]; exact h1) (vis_of hx h2) n1 n2) fun σ H Q q => ?_
    obtain ⟨T, ρ, S, rl, sr, p⟩ := q
    unfold evE at p
    split at p
    · rename_i w hw
      obtain ⟨x, h4, h5⟩ := sr.at_ i w hw
      exact ⟨x, h4, Post.here p rl x h5⟩
    · exact p.elim
  · cases l <;> simp only [isE, Bool.false_eq_true] at h <;> rfl
theorem cst_rel {d : PyData} {k : Const} (h : cstB d k = true) : (d = .none ∧ k = .none) ∨ (∃ b, d = .bool b ∧ k = .bool b) ∨ (∃ b, d = .int b ∧ k = .int b) ∨ ∃ b, d = .str b ∧ k = .str b := by
  unfold cstB at h
  split at h
  · exact .inl ⟨rfl, rfl⟩
  · obtain rfl := beq_iff_eq.mp h; exact .inr (.inl ⟨_, rfl, rfl⟩)
  · obtain rfl := beq_iff_eq.mp h; exact .inr (.inr (.inl ⟨_, rfl, rfl⟩))
  · obtain rfl := beq_iff_eq.mp h; exact .inr (.inr (.inr ⟨_, rfl, rfl⟩))
  · cases h
theorem snd_cst (d : PyData) : Snd Z (.cst d) := by
  refine snd_of (fun c X Wx l hx h => ?_) (fun c l h env whole => ?_) (fun c op ls p => by simp [isE])
  · cases l <;> simp only [isE, Bool.false_eq_true] at h
    have fin : ∀ (v : V), (∀ T H, VD Z.G.K T H v d) → ∀ σ H Q, RE Z.G (evE Z.C (.cst d)) Wx σ H Q → tC v σ H Q := fun v hv σ H Q ⟨T, ρ, S, rl, sr, p⟩ => Post.here p rl v (VR.v (hv T H))
    rcases cst_rel h with ⟨rfl, rfl⟩ | ⟨b, rfl, rfl⟩ | ⟨b, rfl, rfl⟩ | ⟨b, rfl, rfl⟩
    · exact pe_weak pe_non (fin _ fun _ _ => .none)
    · exact pe_weak pe_bl (fin _ fun _ _ => .bool b)
    · exact pe_weak pe_int (fin _ fun _ _ => .int b)
    · exact pe_weak pe_str (fin _ fun _ _ => .str b)
  · cases l <;> simp only [isE, Bool.false_eq_true] at h <;> rfl
/-- two parts, then an operation on their values -/
theorem two_parts {a b : Ex} {σ : L2.St} {H : Hp} {T : Tk} {ρ : Env} {S : Sto} {α : Type} {f : W × Bool → W × Bool → Sto → R α} {ok : α → Sto → Tk → Hp → Prop} (rl : Rel Z.G T S H) (sr : SR Z.G T S.length H σ ρ)
    (p : Post Z.G T S.length H ((evE Z.C a ρ S).bind fun x S1 => (evE Z.C b ρ S1).bind fun y S2 => f x y S2) ok (XW Z.G Wx σ)) {R2' : V → V → Hp → Prop}
    (k : ∀ (x y : V) (p q : W × Bool) (S2 : Sto) (T2 : Tk) (H2 : Hp), Step T S.length H T2 S2.length H2 → Rel Z.G T2 S2 H2 → SR Z.G T2 S2.length H2 σ ρ → VR Z.G T2 S2.length H2 x p.1 → VR Z.G T2 S2.length H2 y q.1 → Post Z.G T2 S2.length H2 (f p q S2) ok (XW Z.G Wx σ) → R2' x y H2) :
    RV Z.G (evE Z.C a) Wx σ H fun x H1 => RV Z.G (evE Z.C b) Wx σ H1 fun y H2 => R2' x y H2 := by
  refine ⟨T, ρ, S, rl, sr, (Post.split p).impO fun pa S1 T1 H1 s1 r1 p1 x hx => ?_⟩
  refine ⟨T1, ρ, S1, r1, sr.step rl.nf s1, (Post.split p1).impO fun pb S2 T2 H2 s2 r2 p2 y hy => ?_⟩
  exact k x y pa pb S2 T2 H2 (s1.trans s2) r2 ((sr.step rl.nf s1).step r1.nf s2) (hx.step r1.nf s2) hy p2
theorem snd_bin (op : Bo) {a b : Ex} (ha : Snd Z a) (hb : Snd Z b) : Snd Z (.bin op a b) := by
  refine snd_of (fun c X Wx l hx h => ?_) (fun c l h env whole => ?_) (fun c o ls p => by simp [isE])
  · cases l <;> simp only [isE, Bool.and_eq_true, beq_iff_eq, Bool.false_eq_true] at h
    obtain ⟨⟨rfl, h1⟩, h2⟩ := h
    refine pe_weak (pe_op (op_bop (G := Z.G) hx.K op) (pe_frozen (ha.E c X Wx _ hx h1)) (pe_frozen (hb.E c X Wx _ hx h2))) fun σ H Q q => ?_
    obtain ⟨T, ρ, S, rl, sr, p⟩ := q
    refine two_parts rl sr p fun x y pa pb S2 T2 H2 s r2 _ vx vy p2 => ?_
    obtain ⟨r, hr, p3⟩ := Post.of p2
    refine ⟨T2, S2, pa.1, pb.1, r, r2, vx, vy, hr, fun T' H' z s' rl' hz => ?_⟩
    exact p3 T' H' s' rl' z (hz.back s)
  · cases l <;> simp only [isE, Bool.false_eq_true] at h <;> rfl
end
end Pd
set_option Elab.async false
set_option linter.all false
set_option maxRecDepth 100000
set_option maxHeartbeats 1000000
/-! Pd11: expressions, on: truth, comparisons, names of the module. -/
namespace Pd
open PySem PySem.Spec PyProof.Rows L2
section
variable {Z : Zc} {c : Sx} {X : Cx} {Wx : WX} {l : Expr} {e a b d : Ex} {σ : L2.St} {H : Hp} {T : Tk} {ρ : Env} {S : Sto}
theorem no_mark {y : Sym} {e : Ex} {l : Expr} (h : isE y c e l = true) (op : CmpOp) : behindInMarks op l = false := by
  have q := (isE_plain h).2.1
  cases l <;> first | exact absurd rfl (q _ _ _) | simp [behindInMarks]
/-- a part as a test, then what follows -/
theorem test_then {α : Type} {r : EvE} {g : Bool → Sto → R α} {ok : α → Sto → Tk → Hp → Prop} (rl : Rel Z.G T S H) (sr : SR Z.G T S.length H σ ρ)
    (p : Post Z.G T S.length H ((r ρ S).bind fun x S1 => (R.of (asBool x.1) S1).bind fun t S1 => g t S1) ok (XW Z.G Wx σ)) {Q : Bool → Hp → Prop}
    (k : ∀ (t : Bool) (S1 : Sto) (T1 : Tk) (H1 : Hp), Step T S.length H T1 S1.length H1 → Rel Z.G T1 S1 H1 → SR Z.G T1 S1.length H1 σ ρ → Post Z.G T1 S1.length H1 (g t S1) ok (XW Z.G Wx σ) → Q t H1) :
    RT Z.G r Wx σ H Q := by
  refine ⟨T, ρ, S, rl, sr, (Post.split p).impO fun a S1 T1 H1 s1 r1 p1 => ?_⟩
  obtain ⟨t, ht, p2⟩ := Post.ofBind p1
  exact ⟨t, asBool_some ht, k t S1 T1 H1 s1 r1 (sr.step rl.nf s1) p2⟩
/-- the same as a value -/
theorem val_then {α : Type} {r : EvE} {g : Bool → Sto → R α} {ok : α → Sto → Tk → Hp → Prop} (rl : Rel Z.G T S H) (sr : SR Z.G T S.length H σ ρ)
    (p : Post Z.G T S.length H ((r ρ S).bind fun x S1 => (R.of (asBool x.1) S1).bind fun t S1 => g t S1) ok (XW Z.G Wx σ)) {Q : Bool → Hp → Prop}
    (k : ∀ (t : Bool) (S1 : Sto) (T1 : Tk) (H1 : Hp), Step T S.length H T1 S1.length H1 → Rel Z.G T1 S1 H1 → SR Z.G T1 S1.length H1 σ ρ → Post Z.G T1 S1.length H1 (g t S1) ok (XW Z.G Wx σ) → Q t H1) :
    RV Z.G r Wx σ H fun x H1 => ∃ t, x = .bl t ∧ Q t H1 := by
  refine ⟨T, ρ, S, rl, sr, (Post.split p).impO fun a S1 T1 H1 s1 r1 p1 x hx => ?_⟩
  obtain ⟨t, ht, p2⟩ := Post.ofBind p1
  rw [asBool_some ht] at hx
  exact ⟨t, vd_bool hx, k t S1 T1 H1 s1 r1 (sr.step rl.nf s1) p2⟩
theorem RE.again (rl : Rel Z.G T S H) (sr : SR Z.G T S.length H σ ρ) {H0 : Hp} {T0 : Tk} {n0 : Nat} (s : Step T0 n0 H0 T S.length H) {r : EvE} {Q : VK}
    (p : Post Z.G T S.length H (r ρ S) (fun p S' T' H' => ∀ x, RR Z.G H0 T' S'.length H' x p.1 p.2 → Q x H') (XW Z.G Wx σ)) : RE Z.G r Wx σ H Q :=
  ⟨T, ρ, S, rl, sr, p.impO fun _ _ _ _ s1 _ q x hx => q x (hx.back s)⟩
theorem RT.again (rl : Rel Z.G T S H) (sr : SR Z.G T S.length H σ ρ) {r : EvE} {Q : Bool → Hp → Prop}
    (p : Post Z.G T S.length H (r ρ S) (fun p S' T' H' => ∃ b, p.1 = .v (.bool b) ∧ Q b H') (XW Z.G Wx σ)) : RT Z.G r Wx σ H Q :=
  ⟨T, ρ, S, rl, sr, p⟩
theorem vr_bool {G : Gl0} {n : Nat} (t : Bool) : VR G T n H (.bl t) (.v (.bool t)) := .v (.bool t)
theorem R.bind_assoc {α β γ : Type} (r : R α) (f : α → Sto → R β) (g : β → Sto → R γ) : (r.bind f).bind g = r.bind fun a S => (f a S).bind g := by cases r <;> rfl
theorem snd_and (ha : Snd Z a) (hb : Snd Z b) : Snd Z (.and a b) := by
  have tst2 : ∀ (c : Sx) (X : Cx) (Wx : WX) (l : Expr), XOk Z c X Wx → isE Z.y c (.and a b) l = true → PW X l (RT Z.G (evE Z.C (.and a b)) Wx) := by
    intro c X Wx l hx h
    cases l with
    | BoolOp op ls p =>
      cases op with
      | Or => simp [isE] at h
      | And =>
        match ls, h with
        | [], h => simp [isE] at h
        | [_], h => simp [isE] at h
        | [x, y], h =>
          simp only [isE, Bool.and_eq_true] at h
          obtain ⟨⟨⟨ta, tb⟩, h1⟩, h2⟩ := h
          refine pw_weak (pw_and (ha.T ta c X Wx _ hx h1) (pw_and1 (hb.T tb c X Wx _ hx h2))) fun σ H Q q => ?_
          obtain ⟨T, ρ, S, rl, sr, p⟩ := q
          unfold evE at p
          refine test_then rl sr p fun t S1 T1 H1 s1 r1 sr1 p1 => ?_
          cases t with
          | true => exact RT.again r1 sr1 p1
          | false => obtain ⟨k, e, q⟩ := p1.here r1; cases e; exact q
        | x :: y :: z :: r, h =>
          simp only [isE, Bool.and_eq_true] at h
          obtain ⟨⟨⟨ta, tb⟩, h1⟩, h2⟩ := h
          refine pw_weak (pw_and (ha.T ta c X Wx _ hx h1) (hb.P c X Wx .And _ p hx h2)) fun σ H Q q => ?_
          obtain ⟨T, ρ, S, rl, sr, p⟩ := q
          unfold evE at p
          refine test_then rl sr p fun t S1 T1 H1 s1 r1 sr1 p1 => ?_
          cases t with
          | true => exact RT.again r1 sr1 p1
          | false => obtain ⟨k, e, q⟩ := p1.here r1; cases e; exact q
    | _ => simp [isE] at h
  refine ⟨fun c X Wx l hx h => ?_, fun _ c X Wx l hx h => (tst2 c X Wx l hx h).pt, fun c X Wx op ls p hx h => tst2 c X Wx _ hx h⟩
  cases l with
  | BoolOp op ls p =>
    cases op with
    | Or => simp [isE] at h
    | And =>
      match ls, h with
      | [], h => simp [isE] at h
      | [_], h => simp [isE] at h
      | [x, y], h =>
        simp only [isE, Bool.and_eq_true] at h
        obtain ⟨⟨⟨ta, tb⟩, h1⟩, h2⟩ := h
        refine pe_weak (pe_and (pe_frozen (ha.E c X Wx _ hx h1)) (pe_one (hb.E c X Wx _ hx h2))) fun σ H Q q => ?_
        obtain ⟨T, ρ, S, rl, sr, p⟩ := q
        unfold evE at p
        refine val_then (Q := fun t H1 => if t = true then _ else _) rl sr p fun t S1 T1 H1 s1 r1 sr1 p1 => ?_
        cases t with
        | true => exact RE.again r1 sr1 s1 p1
        | false => exact p1.here r1 _ (vr_bool false)
      | x :: y :: z :: r, h =>
        simp only [isE, Bool.and_eq_true] at h
        obtain ⟨⟨⟨ta, tb⟩, h1⟩, h2⟩ := h
        refine pe_weak (pe_and (pe_frozen (ha.E c X Wx _ hx h1)) (hb.E c X Wx _ hx h2)) fun σ H Q q => ?_
        obtain ⟨T, ρ, S, rl, sr, p⟩ := q
        unfold evE at p
        refine val_then (Q := fun t H1 => if t = true then _ else _) rl sr p fun t S1 T1 H1 s1 r1 sr1 p1 => ?_
        cases t with
        | true => exact RE.again r1 sr1 s1 p1
        | false => exact p1.here r1 _ (vr_bool false)
  | _ => simp [isE] at h
theorem snd_or (ha : Snd Z a) (hb : Snd Z b) : Snd Z (.or a b) := by
  have tst2 : ∀ (c : Sx) (X : Cx) (Wx : WX) (l : Expr), XOk Z c X Wx → isE Z.y c (.or a b) l = true → PW X l (RT Z.G (evE Z.C (.or a b)) Wx) := by
    intro c X Wx l hx h
    cases l with
    | BoolOp op ls p =>
      cases op with
      | And => simp [isE] at h
      | Or =>
        match ls, h with
        | [], h => simp [isE] at h
        | [_], h => simp [isE] at h
        | [x, y], h =>
          simp only [isE, Bool.and_eq_true] at h
          obtain ⟨⟨⟨ta, tb⟩, h1⟩, h2⟩ := h
          refine pw_weak (pw_or (ha.T ta c X Wx _ hx h1) (pw_or1 (hb.T tb c X Wx _ hx h2))) fun σ H Q q => ?_
          obtain ⟨T, ρ, S, rl, sr, p⟩ := q
          unfold evE at p
          refine test_then rl sr p fun t S1 T1 H1 s1 r1 sr1 p1 => ?_
          cases t with
          | false => exact RT.again r1 sr1 p1
          | true => obtain ⟨k, e, q⟩ := p1.here r1; cases e; exact q
        | x :: y :: z :: r, h =>
          simp only [isE, Bool.and_eq_true] at h
          obtain ⟨⟨⟨ta, tb⟩, h1⟩, h2⟩ := h
          refine pw_weak (pw_or (ha.T ta c X Wx _ hx h1) (hb.P c X Wx .Or _ p hx h2)) fun σ H Q q => ?_
          obtain ⟨T, ρ, S, rl, sr, p⟩ := q
          unfold evE at p
          refine test_then rl sr p fun t S1 T1 H1 s1 r1 sr1 p1 => ?_
          cases t with
          | false => exact RT.again r1 sr1 p1
          | true => obtain ⟨k, e, q⟩ := p1.here r1; cases e; exact q
    | _ => simp [isE] at h
  refine ⟨fun c X Wx l hx h => ?_, fun _ c X Wx l hx h => (tst2 c X Wx l hx h).pt, fun c X Wx op ls p hx h => tst2 c X Wx _ hx h⟩
  cases l with
  | BoolOp op ls p =>
    cases op with
    | And => simp [isE] at h
    | Or =>
      match ls, h with
      | [], h => simp [isE] at h
      | [_], h => simp [isE] at h
      | [x, y], h =>
        simp only [isE, Bool.and_eq_true] at h
        obtain ⟨⟨⟨ta, tb⟩, h1⟩, h2⟩ := h
        refine pe_weak (pe_or (pe_frozen (ha.E c X Wx _ hx h1)) (pe_one (hb.E c X Wx _ hx h2))) fun σ H Q q => ?_
        obtain ⟨T, ρ, S, rl, sr, p⟩ := q
        unfold evE at p
        refine val_then (Q := fun t H1 => if t = true then _ else _) rl sr p fun t S1 T1 H1 s1 r1 sr1 p1 => ?_
        cases t with
        | false => exact RE.again r1 sr1 s1 p1
        | true => exact p1.here r1 _ (vr_bool true)
      | x :: y :: z :: r, h =>
        simp only [isE, Bool.and_eq_true] at h
        obtain ⟨⟨⟨ta, tb⟩, h1⟩, h2⟩ := h
        refine pe_weak (pe_or (pe_frozen (ha.E c X Wx _ hx h1)) (hb.E c X Wx _ hx h2)) fun σ H Q q => ?_
        obtain ⟨T, ρ, S, rl, sr, p⟩ := q
        unfold evE at p
        refine val_then (Q := fun t H1 => if t = true then _ else _) rl sr p fun t S1 T1 H1 s1 r1 sr1 p1 => ?_
        cases t with
        | false => exact RE.again r1 sr1 s1 p1
        | true => exact p1.here r1 _ (vr_bool true)
  | _ => simp [isE] at h
theorem snd_not (ha : Snd Z a) : Snd Z (.not a) := by
  refine ⟨fun c X Wx l hx h => ?_, fun _ c X Wx l hx h => ?_, fun c X Wx op ls p hx h => by simp [isE] at h⟩
  · cases l with
    | UnaryOp op x p =>
      cases op with
      | Not =>
        simp only [isE, Bool.and_eq_true] at h
        refine pe_weak (pe_not (pe_frozen (ha.E c X Wx _ hx h.2))) fun σ H Q q => ?_
        obtain ⟨T, ρ, S, rl, sr, p⟩ := q
        unfold evE at p
        refine val_then (Q := fun t H1 => Q (.bl (!t)) H1) rl sr p fun t S1 T1 H1 s1 r1 sr1 p1 => ?_
        exact p1.here r1 _ (vr_bool _)
      | _ => simp [isE] at h
    | _ => simp [isE] at h
  · cases l with
    | UnaryOp op x p =>
      cases op with
      | Not =>
        simp only [isE, Bool.and_eq_true] at h
        refine pt_weak (pt_not (ha.T h.1 c X Wx _ hx h.2)) fun σ H Q q => ?_
        obtain ⟨T, ρ, S, rl, sr, p⟩ := q
        unfold evE at p
        refine test_then rl sr p fun t S1 T1 H1 s1 r1 sr1 p1 => ?_
        obtain ⟨k, e, q⟩ := p1.here r1; cases e; exact q
      | _ => simp [isE] at h
    | _ => simp [isE] at h
theorem snd_ite (hd : Snd Z d) (ha : Snd Z a) (hb : Snd Z b) : Snd Z (.ite d a b) := by
  refine ⟨fun c X Wx l hx h => ?_, fun _ c X Wx l hx h => ?_, fun c X Wx op ls p hx h => by simp [isE] at h⟩
  · cases l with
    | IfExp x y z p =>
        simp only [isE, Bool.and_eq_true] at h
        obtain ⟨⟨⟨⟨⟨t1, t2⟩, t3⟩, h1⟩, h2⟩, h3⟩ := h
        refine pe_weak (pe_ifExp (hd.T t1 c X Wx _ hx h1) (ha.E c X Wx _ hx h2) (hb.E c X Wx _ hx h3)) fun σ H Q q => ?_
        obtain ⟨T, ρ, S, rl, sr, p⟩ := q
        unfold evE at p
        refine test_then rl sr p fun t S1 T1 H1 s1 r1 sr1 p1 => ?_
        cases t with
        | true => exact RE.again r1 sr1 s1 p1
        | false => exact RE.again r1 sr1 s1 p1
    | _ => simp [isE] at h
  · cases l with
    | IfExp x y z p =>
        simp only [isE, Bool.and_eq_true] at h
        obtain ⟨⟨⟨⟨⟨t1, t2⟩, t3⟩, h1⟩, h2⟩, h3⟩ := h
        refine ⟨fun pins s σ H Q I q => isTrue_IfExp ?_⟩
        have q1 : RT Z.G (evE Z.C d) Wx σ H fun t H1 => if t = true then RT Z.G (evE Z.C a) Wx σ H1 Q else RT Z.G (evE Z.C b) Wx σ H1 Q := by
          obtain ⟨T, ρ, S, rl, sr, p⟩ := q
          unfold evE at p
          refine test_then rl sr p fun t S1 T1 H1 s1 r1 sr1 p1 => ?_
          cases t with
          | true => exact RT.again r1 sr1 p1
          | false => exact RT.again r1 sr1 p1
        refine thn ((hd.T t1 c X Wx _ hx h1).run pins s σ H _ I q1) fun t s1 ⟨H1, I1, q2⟩ => ?_
        cases t with
        | true => exact (ha.T t2 c X Wx _ hx h2).run pins s1 σ H1 Q I1 q2
        | false => exact (hb.T t3 c X Wx _ hx h3).run pins s1 σ H1 Q I1 q2
    | _ => simp [isE] at h
theorem cmp_read (op : Co) {a b : Ex} {Q : VK} (hq : RE Z.G (evE Z.C (.cmp op a b)) Wx σ H Q) :
    tOp (rCW Z.G (cop op)) (RV Z.G (evE Z.C a) Wx) (RV Z.G (evE Z.C b) Wx) σ H Q := by
  obtain ⟨T, ρ, S, rl, sr, p⟩ := hq
  unfold evE at p
  refine two_parts rl sr p fun x y pa pb S2 T2 H2 s r2 _ vx vy p2 => ?_
  obtain ⟨r, hr, p3⟩ := Post.of p2
  cases hc : cop op pa.1 pb.1 S2 with
  | none => rw [hc] at hr; cases hr
  | some t =>
    rw [hc] at hr
    cases hr
    exact ⟨T2, S2, pa.1, pb.1, t, r2, vx, vy, hc, p3.here r2 _ (vr_bool t)⟩
theorem snd_cmp (op : Co) (ha : Snd Z a) (hb : Snd Z b) : Snd Z (.cmp op a b) := by
  refine ⟨fun c X Wx l hx h => ?_, fun _ c X Wx l hx h => ?_, fun c X Wx o ls p hx h => by simp [isE] at h⟩
  · cases l with
    | Compare x os ys p =>
      match os, ys, h with
      | [o], [y], h =>
        simp only [isE, Bool.and_eq_true, beq_iff_eq] at h
        obtain ⟨⟨rfl, h1⟩, h2⟩ := h
        exact pe_weak (pe_cmpR (op_cop (G := Z.G) hx.K hx.units op) (pe_frozen (ha.E c X Wx _ hx h1)) (pe_frozen (hb.E c X Wx _ hx h2)) (no_mark h2 _)) fun σ H Q q => cmp_read op q
      | [], _, h => simp [isE] at h
      | [_], [], h => simp [isE] at h
      | [_], _ :: _ :: _, h => simp [isE] at h
      | _ :: _ :: _, _, h => simp [isE] at h
    | _ => simp [isE] at h
  · cases l with
    | Compare x os ys p =>
      match os, ys, h with
      | [o], [y], h =>
        simp only [isE, Bool.and_eq_true, beq_iff_eq] at h
        obtain ⟨⟨rfl, h1⟩, h2⟩ := h
        refine pt_weak (pt_cmpR (op_cop (G := Z.G) hx.K hx.units op) (pe_frozen (ha.E c X Wx _ hx h1)) (pe_frozen (hb.E c X Wx _ hx h2)) (no_mark h2 _)) fun σ H Q q => ?_
        obtain ⟨T, ρ, S, rl, sr, p⟩ := q
        refine cmp_read op ⟨T, ρ, S, rl, sr, p.impO fun r S' T' H' s r' ⟨k, e, q⟩ x hx => ?_⟩
        obtain ⟨w, fr⟩ := r
        cases e
        have : fr = false := by
          cases fr with
          | false => rfl
          | true =>
            obtain ⟨_, _, _, _, _, _, _, _, h⟩ := hx
            rcases h with ⟨_, h, _⟩ | ⟨_, h, _⟩ <;> cases h
        subst this
        exact ⟨k, vd_bool hx, q⟩
      | [], _, h => simp [isE] at h
      | [_], [], h => simp [isE] at h
      | [_], _ :: _ :: _, h => simp [isE] at h
      | _ :: _ :: _, _, h => simp [isE] at h
    | _ => simp [isE] at h
theorem snd_neg (ha : Snd Z a) : Snd Z (.neg a) := by
  refine snd_of (fun c X Wx l hx h => ?_) (fun c l h env whole => ?_) (fun c o ls p => by simp [isE])
  · cases l with
    | UnaryOp op x p =>
      cases op with
      | USub =>
        simp only [isE] at h
        refine pe_weak (pe_un un_neg (pe_frozen (ha.E c X Wx _ hx h))) fun σ H Q q => ?_
        obtain ⟨T, ρ, S, rl, sr, p⟩ := q
        unfold evE at p
        refine ⟨T, ρ, S, rl, sr, (Post.split p).impO fun a S1 T1 H1 s1 r1 p1 x hx => ?_⟩
        obtain ⟨r, hr, p2⟩ := Post.of p1
        cases hi : asInt a.1 with
        | none => rw [hi] at hr; cases hr
        | some i =>
          rw [hi] at hr; cases hr
          rw [asInt_some hi] at hx
          exact ⟨i, vd_int hx, p2.here r1 _ (VR.v (.int _))⟩
      | _ => simp [isE] at h
    | _ => simp [isE] at h
  · cases l with
    | UnaryOp op x p => cases op <;> first | rfl | simp [isE] at h
    | _ => simp [isE] at h
theorem snd_glb (hz : ZOk Z) (g : Nat) (d : PyData) : Snd Z (.glb g d) := by
  refine snd_of (fun c X Wx l hx h => ?_) (fun c l h env whole => ?_) (fun c o ls p => by simp [isE])
  · cases l with
    | Name x p =>
      simp only [isE, Bool.and_eq_true, beq_iff_eq] at h
      obtain ⟨⟨⟨rfl, h0⟩, h1⟩, h2⟩ := h
      split at h0
      · rename_i d' hg
        obtain rfl := atomEq_eq h0
        obtain ⟨u, hu, v, rv, hv⟩ := hz.cons g _ hg
        refine pe_weak (pe_glob (gl_of hx h1) (by rw [hx.mg]; exact hu) rv (nm_of h2).1) fun σ H Q q => ?_
        obtain ⟨T, ρ, S, rl, sr, p⟩ := q
        exact p.here rl v (VR.v (hv T H))
      · cases h0
    | _ => simp [isE] at h
  · cases l <;> first | rfl | simp [isE] at h
theorem snd_fnv (hz : ZOk Z) (f : Nat) : Snd Z (.fnv f) := by
  refine snd_of (fun c X Wx l hx h => ?_) (fun c l h env whole => ?_) (fun c o ls p => by simp [isE])
  · cases l with
    | Name x p =>
      simp only [isE, Bool.and_eq_true, beq_iff_eq] at h
      obtain ⟨⟨⟨rfl, h0⟩, h1⟩, h2⟩ := h
      obtain ⟨hm, _⟩ := hz.fns f h0
      refine pe_weak (pe_glob (v := .ref (Z.G.fa f)) (gl_of hx h1) (by rw [hx.mg]; exact hm) rfl (nm_of h2).1) fun σ H Q q => ?_
      obtain ⟨T, ρ, S, rl, sr, p⟩ := q
      exact p.here rl _ (VR.fn f)
    | _ => simp [isE] at h
  · cases l <;> first | rfl | simp [isE] at h
end
end Pd
set_option Elab.async false
set_option linter.all false
set_option maxRecDepth 100000
set_option maxHeartbeats 1000000
/-! Pd12: expressions, on: argument lists, calls, built-ins, displays. -/
namespace Pd
open PySem PySem.Spec PyProof.Rows L2
structure SndA (Z : Zc) (es : Exs) : Prop where
  A : ∀ (c : Sx) (X : Cx) (Wx : WX) (ls : List Expr), XOk Z c X Wx → isEs Z.y c es ls = true → PA X ls (RA Z.G (evEs Z.C es) Wx)
section
variable {Z : Zc} {c : Sx} {X : Cx} {Wx : WX} {l : Expr} {e a b d : Ex} {es : Exs} {ls : List Expr} {σ : L2.St} {H : Hp} {T : Tk} {ρ : Env} {S : Sto}
theorem star_one {e : Expr} {r : List Expr} {env : PySem.Env} (h : ∀ a p, e ≠ .Starred a p) : starEach (e :: r) env = (false, eval e env) :: starEach r env := by
  cases e <;> first | rfl | exact absurd rfl (h _ _)
theorem star_all {y : Sym} : ∀ {es : Exs} {ls : List Expr} {env : PySem.Env}, isEs y c es ls = true → (starEach ls env).any (·.1) = false
  | .nil, [], _, _ => rfl
  | .nil, _ :: _, _, h => by simp [isEs] at h
  | .cons _ _, [], _, h => by simp [isEs] at h
  | .cons e es, l :: ls, env, h => by
    simp only [isEs, Bool.and_eq_true] at h
    rw [star_one (isE_plain h.1).1, List.any_cons, star_all h.2]
    rfl
theorem back_any (pos : Pos) : ∀ (t : List (Bool × Sem Value)), (backTo pos t).any (·.1) = t.any (·.1)
  | [] => rfl
  | (b, x) :: t => by
    show (b || (backTo pos t).any (·.1)) = _
    rw [back_any pos t]; rfl
theorem snda_nil : SndA Z .nil := ⟨fun c X Wx ls hx h => by
  cases ls with
  | nil => exact pa_weak pa_nil fun σ H Q ⟨T, ρ, S, rl, sr, p⟩ => p.here rl [] .nil
  | cons _ _ => simp [isEs] at h⟩
theorem snda_cons (he : Snd Z e) (hes : SndA Z es) : SndA Z (.cons e es) := ⟨fun c X Wx ls hx h => by
  cases ls with
  | nil => simp [isEs] at h
  | cons l ls =>
    simp only [isEs, Bool.and_eq_true] at h
    refine pa_weak (pa_cons (pe_frozen (he.E c X Wx _ hx h.1)) (hes.A c X Wx _ hx h.2) (star_one (isE_plain h.1).1)) fun σ H Q q => ?_
    obtain ⟨T, ρ, S, rl, sr, p⟩ := q
    unfold evEs at p
    refine ⟨T, ρ, S, rl, sr, (Post.split p).impO fun a S1 T1 H1 s1 r1 p1 x hx => ?_⟩
    refine ⟨T1, ρ, S1, r1, sr.step rl.nf s1, (Post.split p1).impO fun ws S2 T2 H2 s2 r2 p2 xs hxs => ?_⟩
    exact p2.here r2 _ (.cons (hx.step r1.nf s2) hxs)⟩
theorem evEs_len {C : CallS} : ∀ {es : Exs} {ls : List Expr} {y : Sym} {ρ : Env} {S S' : Sto} {ws : List W}, isEs y c es ls = true → evEs C es ρ S = .ok ws S' → ws.length = ls.length
  | .nil, [], _, _, _, _, _, _, h => by unfold evEs at h; cases h; rfl
  | .nil, _ :: _, _, _, _, _, _, h, _ => by simp [isEs] at h
  | .cons _ _, [], _, _, _, _, _, h, _ => by simp [isEs] at h
  | .cons e es, l :: ls, y, ρ, S, S', ws, h, q => by
    simp only [isEs, Bool.and_eq_true] at h
    unfold evEs at q
    cases h1 : evE C e ρ S with
    | bad => rw [h1] at q; cases q
    | exc _ _ => rw [h1] at q; cases q
    | ok a S1 =>
      rw [h1] at q
      have q : ((evEs C es ρ S1).bind fun ws S2 => .ok (a.1 :: ws) S2) = .ok ws S' := q
      cases h2 : evEs C es ρ S1 with
      | bad => rw [h2] at q; cases q
      | exc _ _ => rw [h2] at q; cases q
      | ok us S2 =>
        rw [h2] at q
        cases q
        show us.length + 1 = ls.length + 1
        rw [evEs_len h.2 h2]
theorem k_line {n : Nat} (h : n ≤ 1000) : n ≤ sizeLine := LIM_le (by unfold LIM; omega)
theorem snd_tup (h : SndA Z es) : Snd Z (.tup es) := by
  refine snd_of (fun c X Wx l hx hl => ?_) (fun c l h env whole => ?_) (fun c o ls p => by simp [isE])
  · cases l with
    | Tuple ls i p =>
      simp only [isE, Bool.and_eq_true, decide_eq_true_eq] at hl
      refine pe_weak (pe_tup (h.A c X Wx ls hx hl.2)) fun σ H Q q => ?_
      obtain ⟨T, ρ, S, rl, sr, p⟩ := q
      unfold evE at p
      refine ⟨T, ρ, S, rl, sr, (Post.split p).eq.impO fun ws S1 T1 H1 s1 r1 ⟨eq, p1⟩ xs hxs => ?_⟩
      have hz : xs.length ≤ sizeLine := k_line (by rw [hxs.length, evEs_len hl.2 eq]; exact hl.1)
      refine ⟨hz, fun a ha => ?_⟩
      obtain ⟨q1, q2, q3⟩ := new_tup r1 ha hxs hz
      exact p1 _ _ q1 q2 _ q3
    | _ => simp [isE] at hl
  · cases l <;> first | rfl | simp [isE] at h
theorem snd_lst (h : SndA Z es) : Snd Z (.lst es) := by
  refine snd_of (fun c X Wx l hx hl => ?_) (fun c l h env whole => ?_) (fun c o ls p => by simp [isE])
  · cases l with
    | List ls p =>
      simp only [isE, Bool.and_eq_true, decide_eq_true_eq] at hl
      refine pe_weak (pe_lst (h.A c X Wx ls hx hl.2)) fun σ H Q q => ?_
      obtain ⟨T, ρ, S, rl, sr, p⟩ := q
      unfold evE at p
      refine ⟨T, ρ, S, rl, sr, (Post.split p).eq.impO fun ws S1 T1 H1 s1 r1 ⟨eq, p1⟩ xs hxs => ?_⟩
      have hz : xs.length ≤ sizeLine := k_line (by rw [hxs.length, evEs_len hl.2 eq]; exact hl.1)
      refine ⟨hz, fun a ha => ?_⟩
      obtain ⟨q1, q2, q3⟩ := new_lst r1 ha hxs hz
      exact p1 _ _ q1 q2 _ (q3.back s1)
    | _ => simp [isE] at hl
  · cases l <;> first | rfl | simp [isE] at h
theorem isEs_plain {y : Sym} (h : isEs y c es (l :: ls) = true) : ∀ a p, l ≠ .Starred a p := by
  cases es with
  | nil => simp [isEs] at h
  | cons e es => simp only [isEs, Bool.and_eq_true] at h; exact (isE_plain h.1).1
theorem isEs_tail {y : Sym} (h : isEs y c es (l :: ls) = true) : ∀ env, (starEach ls env).any (·.1) = false := by
  cases es with
  | nil => simp [isEs] at h
  | cons e es => simp only [isEs, Bool.and_eq_true] at h; exact fun env => star_all h.2
theorem bltB_some {nm : String} {g : Expr} (h : bltB c nm g = true) : ∃ p, g = .Name (Str.ofString nm) p ∧ glB c (Str.ofString nm) = true := by
  cases g <;> simp only [bltB, Bool.and_eq_true, beq_iff_eq, Bool.false_eq_true] at h
  obtain ⟨rfl, h⟩ := h
  exact ⟨_, rfl, h⟩
theorem snd_blt (hz : ZOk Z) (b : Bi) (h : SndA Z es) : Snd Z (.blt b es) := by
  refine snd_of (fun c X Wx l hx hl => ?_) (fun c l h env whole => ?_) (fun c o ls p => by simp [isE])
  · have read : ∀ {σ : L2.St} {H : Hp} {Q : VK}, RE Z.G (evE Z.C (.blt b es)) Wx σ H Q → tCB (rBi Z.G b) (RA Z.G (evEs Z.C es) Wx) σ H Q := by
      intro σ H Q ⟨T, ρ, S, rl, sr, p⟩
      unfold evE at p
      refine ⟨T, ρ, S, rl, sr, (Post.split p).impO fun ws S1 T1 H1 s1 r1 p1 xs hxs => ?_⟩
      obtain ⟨r, hr, p2⟩ := Post.of p1
      exact ⟨T1, S1, ws, r, r1, hxs, hr, fun T' H' z s' rl' hz => p2 T' H' s' rl' z (hz.back s1)⟩
    cases l with
    | Call g as ks p =>
      match as, ks, hl with
      | [], _, hl => simp [isE] at hl
      | _ :: _, _ :: _, hl => simp [isE] at hl
      | l :: ls, [], hl =>
        simp only [isE, Bool.and_eq_true] at hl
        obtain ⟨h1, h2⟩ := hl
        obtain ⟨p, rfl, hg⟩ := bltB_some h1
        have gl := gl_of hx hg
        have hm : X.mg (Str.ofString (biNm b)) = none := by rw [hx.mg]; exact hz.blt _ (by cases b <;> simp [biNm, bltNames])
        have s1 := star_one (r := ls) (env := X.env) (isEs_plain h2)
        have s2 : ∀ pos : Pos, (backTo pos (starEach ls X.env)).any (·.1) = false := fun pos => by rw [back_any]; exact isEs_tail h2 _
        have ha := h.A c X Wx (l :: ls) hx h2
        have cb := call_bi (X := X) (G := Z.G) hx.K hx.calm hx.units b
        refine pe_weak (t := tCB (rBi Z.G b) (RA Z.G (evEs Z.C es) Wx)) ?_ fun σ H Q q => read q
        cases b <;> first
          | exact pe_callB cb gl hm rfl ha (by decide) (by decide) s1 (s2 _)
          | exact pe_callTy cb gl hm rfl ha (by decide) (by decide) s1 (s2 _)
    | _ => simp [isE] at hl
  · cases l <;> first | rfl | simp [isE] at h
end
end Pd
set_option Elab.async false
set_option linter.all false
set_option maxRecDepth 100000
set_option maxHeartbeats 1000000
/-! Pd11c: chains of comparisons. -/
namespace Pd
open PySem PySem.Spec PyProof.Rows L2
section
variable {Z : Zc} {c : Sx} {X : Cx} {Wx : WX} {l : Expr} {e a b d : Ex} {σ : L2.St} {H : Hp} {T : Tk} {ρ : Env} {S : Sto} {G : Gl0} {n : Nat}
theorem last_marks {y : Sym} {e1 e2 : Ex} {l1 l2 : Expr} {o o' : CmpOp} (h1 : isE y c e1 l1 = true) (h2 : isE y c e2 l2 = true) : lastMarks [o, o'] [l1, l2] = false := no_mark h2 o'
theorem chain_read (op op' : Co) {Q : VK} (hq : RE Z.G (evE Z.C (.chain op op' a b d)) Wx σ H Q) :
    tChain (rCW Z.G (cop op)) (rCW Z.G (cop op')) (RV Z.G (evE Z.C a) Wx) (RV Z.G (evE Z.C b) Wx) (RV Z.G (evE Z.C d) Wx) σ H Q := by
  obtain ⟨T, ρ, S, rl, sr, p⟩ := hq
  unfold evE at p
  refine two_parts rl sr p fun x y pa pb S2 T2 H2 s r2 sr2 vx vy p2 => ?_
  obtain ⟨t, ht, p3⟩ := Post.ofBind p2
  refine ⟨T2, S2, pa.1, pb.1, t, r2, vx, vy, ht, t, rfl, ?_⟩
  cases t with
  | false => exact p3.here r2 _ (vr_bool false)
  | true =>
    refine ⟨T2, ρ, S2, r2, sr2, (Post.split p3).impO fun pd S3 T3 H3 s3 r3 p4 z hz => ?_⟩
    obtain ⟨r, hr, p5⟩ := Post.of p4
    cases hc : cop op' pb.1 pd.1 S3 with
    | none => rw [hc] at hr; cases hr
    | some t' =>
      rw [hc] at hr
      cases hr
      exact ⟨T3, S3, pb.1, pd.1, t', r3, vy.step r2.nf s3, hz, hc, p5.here r3 _ (vr_bool t')⟩
theorem chain_key {y : Sym} {op op' : Co} (h : isE y c (.chain op op' a b d) l = true) : ∃ (x1 x2 x3 : Expr) (p : Pos), l = .Compare x1 [coOp op, coOp op'] [x2, x3] p ∧ isE y c a x1 = true ∧ isE y c b x2 = true ∧ isE y c d x3 = true := by
  cases l with
  | Compare x os ys p =>
    rcases os with _ | ⟨o1, _ | ⟨o2, _ | ⟨o3, r⟩⟩⟩
    · unfold isE at h; cases h
    · unfold isE at h; cases h
    · rcases ys with _ | ⟨y1, _ | ⟨y2, _ | ⟨y3, r⟩⟩⟩
      · unfold isE at h; cases h
      · unfold isE at h; cases h
      · unfold isE at h
        simp only [Bool.and_eq_true, beq_iff_eq] at h
        obtain ⟨⟨⟨⟨rfl, rfl⟩, h1⟩, h2⟩, h3⟩ := h
        exact ⟨x, y1, y2, p, rfl, h1, h2, h3⟩
      · unfold isE at h; cases h
    · unfold isE at h; cases h
  | _ => unfold isE at h; cases h
theorem snd_chain' (op op' : Co) (ha : Snd Z a) (hb : Snd Z b) (hd : Snd Z d) : Snd Z (.chain op op' a b d) := by
  refine ⟨fun c X Wx l hx h => ?_, fun _ c X Wx l hx h => ?_, fun c X Wx o ls p hx h => by simp [isE] at h⟩
  · obtain ⟨x1, x2, x3, p, rfl, h1, h2, h3⟩ := chain_key h
    exact pe_weak (pe_chain (op_cop (G := Z.G) hx.K hx.units op) (op_cop (G := Z.G) hx.K hx.units op') (pe_frozen (ha.E c X Wx _ hx h1)) (pe_frozen (hb.E c X Wx _ hx h2)) (pe_frozen (hd.E c X Wx _ hx h3)) (last_marks h2 h3)) fun σ H Q q => chain_read op op' q
  · obtain ⟨x1, x2, x3, p, rfl, h1, h2, h3⟩ := chain_key h
    refine pt_weak (pt_chain (op_cop (G := Z.G) hx.K hx.units op) (op_cop (G := Z.G) hx.K hx.units op') (pe_frozen (ha.E c X Wx _ hx h1)) (pe_frozen (hb.E c X Wx _ hx h2)) (pe_frozen (hd.E c X Wx _ hx h3)) (last_marks h2 h3)) fun σ H Q q => ?_
    obtain ⟨T, ρ, S, rl, sr, p⟩ := q
    refine chain_read op op' ⟨T, ρ, S, rl, sr, p.impO fun r S' T' H' s r' ⟨k, e, q⟩ x hx => ?_⟩
    obtain ⟨w, fr⟩ := r
    cases e
    have : fr = false := by
      cases fr with
      | false => rfl
      | true =>
        obtain ⟨_, _, _, _, _, _, _, _, h⟩ := hx
        rcases h with ⟨_, h, _⟩ | ⟨_, h, _⟩ <;> cases h
    subst this
    exact ⟨k, vd_bool hx, q⟩
end
end Pd
set_option Elab.async false
set_option linter.all false
set_option maxRecDepth 100000
set_option maxHeartbeats 1000000
/-! Pd13: calls of defs. -/
namespace Pd
open PySem PySem.Spec PyProof.Rows L2
section
variable {Z : Zc} {c : Sx} {X : Cx} {Wx : WX} {l : Expr} {e a b d : Ex} {es vs : Exs} {ls : List Expr} {σ : L2.St} {H : Hp} {T : Tk} {ρ : Env} {S : Sto} {G : Gl0} {n : Nat}
theorem Rel.empty (r : Rel G T S H) : Rel G T [] H := ⟨fun l o h => by simp at h, fun i j h => absurd h (by simp), fun i h => absurd h (by simp), r.ft⟩
mutual
theorem VD.ofF {K : PySem.W.Frag} {T T' : Tk} {H : Hp} (h : T'.F = T.F) : ∀ {x : V} {d : PyData}, VD K T H x d → VD K T' H x d
  | _, _, .none => .none
  | _, _, .bool b => .bool b
  | _, _, .int i => .int i
  | _, _, .str i => .str i
  | _, _, .tup q r => .tup ⟨by rw [h]; exact q.1, q.2⟩ (VDs.ofF h r)
  | _, _, .lst q r => .lst ⟨by rw [h]; exact q.1, q.2⟩ (VDs.ofF h r)
theorem VDs.ofF {K : PySem.W.Frag} {T T' : Tk} {H : Hp} (h : T'.F = T.F) : ∀ {xs : List V} {ds : List PyData}, VDs K T H xs ds → VDs K T' H xs ds
  | _, _, .nil => .nil
  | _, _, .cons q r => .cons (VD.ofF h q) (VDs.ofF h r)
end
theorem XR.ofF {T T' : Tk} (h : T'.F = T.F) {e : Exn} {d : Option Addr} (q : XR G T H e d) : XR G T' H e d := by
  unfold XR at q ⊢
  cases hf : e.fld with
  | none => rw [hf] at q; exact q
  | some f =>
    rw [hf] at q
    obtain ⟨dd, v, h1, h2, h3⟩ := q
    exact ⟨dd, v, h1, h2, h3.ofF h⟩
/-- behind a call over an empty store -/
theorem Step.lone {T T1 : Tk} {H H1 : Hp} {n1 : Nat} (r : Rel G T S H) (s : Step T 0 H T1 n1 H1) : Step T S.length H ⟨T.m, T1.F⟩ S.length H1 :=
  ⟨Nat.le_refl _, fun _ _ => rfl, fun i h1 h2 => absurd h2 (by omega), s.ff, s.fn, fun a o h q => s.kp a o h fun i hi => absurd hi (by omega), s.tr⟩
theorem Rel.lone {T T1 : Tk} {H H1 : Hp} {S1 : Sto} (r : Rel G T S H) (s : Step T 0 H T1 S1.length H1) (r1 : Rel G T1 S1 H1) : Rel G ⟨T.m, T1.F⟩ S H1 := by
  have st := Step.lone r s
  have keep : ∀ i, i < S.length → ∀ o, H (T.m i) = some o → H1 (T.m i) = some o := fun i hi o h => s.kp _ o h fun j hj => absurd hj (by omega)
  refine ⟨fun l o e => ?_, r.inj, fun i hi h => ?_, fun a h => r1.ft a h⟩
  · have hl : l < S.length := (List.getElem?_eq_some_iff.mp e).1
    have h := r.obj l o e
    cases o with
    | lst ws => obtain ⟨xs, h1, h2, h3⟩ := h; exact ⟨xs, keep l hl _ h1, h2, h3.step r.nf st⟩
    | fz ws => obtain ⟨xs, h1, h2, h3⟩ := h; exact ⟨xs, keep l hl _ h1, h2, h3.step r.nf st⟩
    | gone => obtain ⟨o, h1⟩ := h; exact ⟨o, keep l hl _ h1⟩
    | dic _ => exact h.elim
    | ins _ _ => exact h.elim
  · rcases s.fn _ h with h | h
    · exact r.nf i hi h
    · exact r.there hi h
theorem vr_v {x : V} {d : PyData} (h : VR G T n H x (.v d)) : VD G.K T H x d := by cases h; assumption
/-- the promise of a def is kept by what the evaluator says of the call -/
theorem call_sp {C : CallS} {sh : Bool} {f : Nat} {ws : List W} {xs : List V} {E : XK} {Q : VK} (rl : Rel G T S H) (hxs : VRs G T S.length H xs ws)
    (p : Post G T S.length H (callR C sh f ws S) (fun p S' T' H' => ∀ x, RR G H T' S'.length H' x p.1 p.2 → Q x H') (fun e S' T' H' => ∀ d, XR G T' H' e d → E (.ref (G.ca e.cls)) d H')) :
    spOf G C f xs H Q E := by
  unfold callR at p
  cases sh with
  | true => exact ⟨T, S, ws, rl, hxs, p⟩
  | false =>
    rw [if_neg (by simp)] at p
    cases e : allV ws with
    | none => rw [e] at p; exact p.elim
    | some ds =>
      rw [e] at p
      obtain rfl := allV_some e
      refine ⟨T, [], ds.map W.v, rl.empty, hxs.data.lift, ?_⟩
      simp only at p
      cases q : C f (ds.map W.v) [] with
      | bad => rw [q] at p; exact p.elim
      | exc ex S1 =>
        rw [q] at p
        intro T1 H1 s1 r1 d hd
        exact p _ H1 (Step.lone rl s1) (Rel.lone rl s1 r1) d (hd.ofF (T := T1) (T' := ⟨T.m, T1.F⟩) rfl)
      | ok r S1 =>
        obtain ⟨w, fr⟩ := r
        rw [q] at p
        obtain ⟨u, hu, p⟩ := Post.of p
        intro T1 H1 s1 r1 x hx
        refine p _ H1 (Step.lone rl s1) (Rel.lone rl s1 r1) x ?_
        unfold unboxW at hu
        cases w with
        | v d =>
          cases hu
          cases fr with
          | false => exact .v ((vr_v hx).ofF (T := T1) (T' := ⟨T.m, T1.F⟩) rfl)
          | true =>
            obtain ⟨a, ys, rfl, h1, h2, h3, h4, h5, h6⟩ := hx
            refine ⟨a, ys, rfl, h1, fun i hi e => rl.there hi (e ▸ h3), h3, h4, h5, ?_⟩
            rcases h6 with ⟨ds, h6, h7⟩ | ⟨ws, h6, _⟩
            · exact .inl ⟨ds, h6, h7.ofF (T := T1) (T' := ⟨T.m, T1.F⟩) rfl⟩
            · cases h6
        | fn g =>
          cases hu
          cases fr with
          | false =>
            cases hx
            exact .fn g
          | true => obtain ⟨_, _, _, _, _, _, _, _, h⟩ := hx; rcases h with ⟨_, h, _⟩ | ⟨_, h, _⟩ <;> cases h
        | loc l =>
          simp only at hu
          cases fr with
          | true => obtain ⟨_, _, _, _, _, _, _, _, h⟩ := hx; rcases h with ⟨_, h, _⟩ | ⟨_, h, _⟩ <;> cases h
          | false =>
            split at hu
            · rename_i ws hl
              cases ha : allV ws with
              | none => rw [ha] at hu; cases hu
              | some ds' =>
                rw [ha] at hu
                cases hu
                obtain rfl := allV_some ha
                have hll : l < S1.length := (List.getElem?_eq_some_iff.mp hl).1
                obtain ⟨ys, h1, h2, h3⟩ := r1.obj l _ hl
                cases hx with
                | loc hlt =>
                  have hN : H (T1.m l) = none := s1.mn l (Nat.zero_le _) hll
                  exact ⟨T1.m l, ys, rfl, r1.nf l hll, fun i hi e => rl.there hi (e ▸ hN), hN, h1, h2, .inl ⟨ds', rfl, h3.data.ofF (T := T1) (T' := ⟨T.m, T1.F⟩) rfl⟩⟩
            · cases hu
        | rng _ _ => cases hu
        | set _ => cases hu
        | ro _ => cases hu
        | seq _ _ => cases hu
theorem snd_call (hz : ZOk Z) (sh : Bool) (f : Nat) (h : SndA Z es) : Snd Z (.call sh f es) := by
  refine snd_of (fun c X Wx l hx hl => ?_) (fun c l h env whole => ?_) (fun c o ls p => by simp [isE])
  · cases l with
    | Call g as ks p =>
      cases g with
      | Name x q =>
        match as, ks, hl with
        | [], _, hl => simp [isE] at hl
        | _ :: _, _ :: _, hl => simp [isE] at hl
        | l :: ls, [], hl =>
          simp only [isE, Bool.and_eq_true, beq_iff_eq] at hl
          obtain ⟨⟨⟨⟨rfl, h0⟩, h1⟩, h2⟩, h3⟩ := hl
          obtain ⟨hm, hk, fd, fdat, hfd, hl, pp, hdf, nd, F⟩ := hz.fns f h0
          have hb : Binds X.K fdat (Z.y.ps f) [] := .all fun us hu => binds_plain fdat _ pp hdf nd us hu
          have F' : FnOk X.prog X.w X.K X.mg X.base (L2.CX X.prog X.w) (lev Z.d) (Z.G.fa f) fdat (Z.y.ps f) (spOf Z.G Z.C f) := by rw [hx.prog, hx.w, hx.K, hx.mg, hx.base]; exact F
          refine pe_weak (pe_callS (E := WE Wx) F' hx.room (gl_of hx h1) (by rw [hx.mg]; exact hm) (by rw [hx.K]; exact hk) hb (passAt hx.tk) (h.A c X Wx _ hx h3) (nm_of h2).1 (star_one (isEs_plain h3)) (by rw [back_any]; exact isEs_tail h3 _)) fun σ H Q q => ?_
          obtain ⟨T, ρ, S, rl, sr, p⟩ := q
          unfold evE at p
          refine ⟨T, ρ, S, rl, sr, (Post.split p).impO fun ws S1 T1 H1 s1 r1 p1 xs hxs => ?_⟩
          exact call_sp r1 hxs (p1.impO fun r S' T' H' s' _ q x hx => q x (hx.back s1))
      | _ => simp [isE] at hl
    | _ => simp [isE] at hl
  · cases l <;> first | rfl | simp [isE] at h
end
end Pd
set_option Elab.async false
set_option linter.all false
set_option maxRecDepth 100000
set_option maxHeartbeats 1000000
/-! Pd12k: calls with keywords. -/
namespace Pd
open PySem PySem.Spec PyProof.Rows L2
section
variable {Z : Zc} {c : Sx} {X : Cx} {Wx : WX} {l : Expr} {e a b d : Ex} {es vs : Exs} {ls : List Expr} {σ : L2.St} {H : Hp} {T : Tk} {ρ : Env} {S : Sto} {G : Gl0} {n : Nat}
theorem pk_weak {ks : List Keyword} {t t' : TA} (h : PK X ks t) (i : ∀ σ H Q, t' σ H Q → t σ H Q) : PK X ks t' := ⟨fun pos pins s σ H Q I q => h.run pos pins s σ H Q I (i σ H Q q)⟩
structure SndK (Z : Zc) (vs : Exs) : Prop where
  K : ∀ (c : Sx) (X : Cx) (Wx : WX) (f : Nat) (kws : List Nat) (ks : List Keyword), XOk Z c X Wx → isKs Z.y c f kws vs ks = true → PK X ks (RA Z.G (evEs Z.C vs) Wx)
theorem sndk_nil : SndK Z .nil := ⟨fun c X Wx f kws ks hx h => by
  cases ks with
  | nil => exact pk_weak pk_nil fun σ H Q ⟨T, ρ, S, rl, sr, p⟩ => p.here rl [] .nil
  | cons _ _ => cases kws <;> simp [isKs] at h⟩
theorem sndk_cons (he : Snd Z e) (hes : SndK Z vs) : SndK Z (.cons e vs) := ⟨fun c X Wx f kws ks hx h => by
  cases kws with
  | nil => simp [isKs] at h
  | cons k kws =>
    cases ks with
    | nil => simp [isKs] at h
    | cons l ks =>
      obtain ⟨nm, v, kp⟩ := l
      simp only [isKs, Bool.and_eq_true] at h
      refine pk_weak (pk_cons (pe_frozen (he.E c X Wx v hx h.1.2)) (hes.K c X Wx f kws ks hx h.2)) fun σ H Q q => ?_
      obtain ⟨T, ρ, S, rl, sr, p⟩ := q
      unfold evEs at p
      refine ⟨T, ρ, S, rl, sr, (Post.split p).impO fun a S1 T1 H1 s1 r1 p1 x hx => ?_⟩
      refine ⟨T1, ρ, S1, r1, sr.step rl.nf s1, (Post.split p1).impO fun ws S2 T2 H2 s2 r2 p2 xs hxs => ?_⟩
      exact p2.here r2 _ (.cons (hx.step r1.nf s2) hxs)⟩
theorem isKs_names {y : Sym} {f : Nat} : ∀ {kws : List Nat} {vs : Exs} {ks : List Keyword} {pos : Pos} {env : PySem.Env}, isKs y c f kws vs ks = true →
    (backToKw pos (keywordEach ks env)).all (·.1.isSome) = true ∧ (backToKw pos (keywordEach ks env)).any (·.1.isNone) = false ∧ (backToKw pos (keywordEach ks env)).filterMap (·.1) = kws.filterMap ((y.ps f)[·]?) ∧ kws.length = ks.length
  | [], .nil, [], _, _, _ => ⟨rfl, rfl, rfl, rfl⟩
  | [], .nil, _ :: _, _, _, h => by simp [isKs] at h
  | [], .cons _ _, _, _, _, h => by simp [isKs] at h
  | _ :: _, .nil, _, _, _, h => by simp [isKs] at h
  | _ :: _, .cons _ _, [], _, _, h => by simp [isKs] at h
  | k :: kws, .cons e vs, ⟨nm, v, kp⟩ :: ks, pos, env, h => by
    simp only [isKs, Bool.and_eq_true, beq_iff_eq] at h
    obtain ⟨⟨⟨h1, h2⟩, _⟩, h3⟩ := h
    obtain ⟨q1, q2, q3, q4⟩ := isKs_names (pos := pos) (env := env) h3
    cases nm with
    | none => cases h2
    | some x =>
      refine ⟨?_, ?_, ?_, by simp [q4]⟩
      · show (true && (backToKw pos (keywordEach ks env)).all (·.1.isSome)) = true
        rw [q1]; rfl
      · show (false || (backToKw pos (keywordEach ks env)).any (·.1.isNone)) = false
        rw [q2]; rfl
      · rw [List.filterMap_cons, h1]
        show x :: (backToKw pos (keywordEach ks env)).filterMap (·.1) = x :: _
        rw [q3]
theorem place_rel {α β : Type} {r : α → β → Prop} : ∀ {A : List (Nat × α)} {B : List (Nat × β)}, (∀ i, (A.lookup i).isSome = (B.lookup i).isSome) → (∀ i x y, A.lookup i = some x → B.lookup i = some y → r x y) → ∀ (n i : Nat), Paired r (placeGo A n i) (placeGo B n i)
  | A, B, h1, h2, 0, i => .nil
  | A, B, h1, h2, n + 1, i => by
    unfold placeGo
    have q := h1 i
    cases ha : A.lookup i with
    | none =>
      cases hb : B.lookup i with
      | none => exact place_rel h1 h2 n (i + 1)
      | some y => rw [ha, hb] at q; cases q
    | some x =>
      cases hb : B.lookup i with
      | none => rw [ha, hb] at q; cases q
      | some y => exact .cons (h2 i x y ha hb) (place_rel h1 h2 n (i + 1))
/-- two tables of the same keys, with related values -/
def TabR {α β : Type} (r : α → β → Prop) (A : List (Nat × α)) (B : List (Nat × β)) : Prop := ∀ i, (A.lookup i = none ∧ B.lookup i = none) ∨ ∃ x y, A.lookup i = some x ∧ B.lookup i = some y ∧ r x y
theorem tab_idx {α β : Type} {r : α → β → Prop} : ∀ {xs : List α} {ys : List β} {k : Nat}, Paired r xs ys → TabR r (idxL k xs) (idxL k ys)
  | _, _, _, .nil => fun _ => .inl ⟨rfl, rfl⟩
  | _, _, k, .cons h t => fun i => by
    rw [idxL, idxL, List.lookup_cons, List.lookup_cons]
    cases i == k with
    | true => exact .inr ⟨_, _, rfl, rfl, h⟩
    | false => exact tab_idx t i
theorem tab_zip {α β : Type} {r : α → β → Prop} : ∀ {kws : List Nat} {xs : List α} {ys : List β}, Paired r xs ys → TabR r (kws.zip xs) (kws.zip ys)
  | [], _, _, _ => fun _ => .inl ⟨rfl, rfl⟩
  | _ :: _, _, _, .nil => fun _ => .inl ⟨rfl, rfl⟩
  | k :: kws, _, _, .cons h t => fun i => by
    rw [List.zip_cons_cons, List.zip_cons_cons, List.lookup_cons, List.lookup_cons]
    cases i == k with
    | true => exact .inr ⟨_, _, rfl, rfl, h⟩
    | false => exact tab_zip t i
theorem tab_app {α β : Type} {r : α → β → Prop} {A A' : List (Nat × α)} {B B' : List (Nat × β)} (h : TabR r A B) (h' : TabR r A' B') : TabR r (A ++ A') (B ++ B') := by
  have look : ∀ {γ : Type} (C D : List (Nat × γ)) (i : Nat), (C ++ D).lookup i = (C.lookup i).or (D.lookup i) := by
    intro γ C D i
    induction C with
    | nil => rfl
    | cons p C ih =>
      obtain ⟨k, v⟩ := p
      rw [List.cons_append, List.lookup_cons, List.lookup_cons]
      cases i == k with
      | true => rfl
      | false => exact ih
  intro i
  rw [look, look]
  rcases h i with ⟨h1, h2⟩ | ⟨x, y, h1, h2, h3⟩
  · rw [h1, h2]; exact h' i
  · rw [h1, h2]; exact .inr ⟨x, y, rfl, rfl, h3⟩
theorem tab_go {α β : Type} {r : α → β → Prop} {A : List (Nat × α)} {B : List (Nat × β)} (h : TabR r A B) : ∀ n i, Paired r (placeGo A n i) (placeGo B n i)
  | 0, i => .nil
  | n + 1, i => by
    unfold placeGo
    rcases h i with ⟨h1, h2⟩ | ⟨x, y, h1, h2, h3⟩
    · rw [h1, h2]; exact tab_go h n (i + 1)
    · rw [h1, h2]; exact .cons h3 (tab_go h n (i + 1))
theorem paired_len {α β : Type} {r : α → β → Prop} : ∀ {xs : List α} {ys : List β}, Paired r xs ys → xs.length = ys.length
  | _, _, .nil => rfl
  | _, _, .cons _ t => by simp [paired_len t]
theorem place_pair {α β : Type} {r : α → β → Prop} {xs zs : List α} {ys us : List β} {kws : List Nat} (h : Paired r xs ys) (h' : Paired r zs us) : Paired r (place xs kws zs) (place ys kws us) := by
  unfold place
  rw [paired_len h, paired_len h']
  exact tab_go (tab_app (tab_idx h) (tab_zip h')) _ _
theorem VRs.pair : ∀ {xs : List V} {ws : List W}, VRs G T n H xs ws → Paired (VR G T n H) xs ws
  | _, _, .nil => .nil
  | _, _, .cons h r => .cons h (VRs.pair r)
theorem VRs.ofPair : ∀ {xs : List V} {ws : List W}, Paired (VR G T n H) xs ws → VRs G T n H xs ws
  | _, _, .nil => .nil
  | _, _, .cons h r => .cons h (VRs.ofPair r)
theorem snd_callK' (hz : ZOk Z) {sh : Bool} {f : Nat} {kws : List Nat} (h : SndA Z es) (hv : SndK Z vs) : Snd Z (.callK sh f es kws vs) := by
  refine snd_of (fun c X Wx l hx hl => ?_) (fun c l h env whole => ?_) (fun c o ls p => by simp [isE])
  · have key : ∃ (q p : Pos) (as : List Expr) (k : Keyword) (ks : List Keyword), l = .Call (.Name (Z.y.sym f) q) as (k :: ks) p ∧ Z.y.ok f = true ∧ glB c (Z.y.sym f) = true ∧ okNm (Z.y.sym f) = true ∧ kwGood as.length kws (Z.y.ps f).length = true ∧
        isEs Z.y c es as = true ∧ isKs Z.y c f kws vs (k :: ks) = true := by
      cases l with
      | Call g as ks p =>
        cases g with
        | Name x q =>
          cases ks with
          | nil => cases as <;> simp [isE] at hl
          | cons k ks =>
            simp only [isE, Bool.and_eq_true, beq_iff_eq] at hl
            obtain ⟨⟨⟨⟨⟨⟨rfl, h0⟩, h1⟩, h2⟩, h3⟩, h4⟩, h5⟩ := hl
            exact ⟨q, p, as, k, ks, rfl, h0, h1, h2, h3, h4, h5⟩
        | _ => simp [isE] at hl
      | _ => simp [isE] at hl
    obtain ⟨q, p, as, k, ks, rfl, h0, h1, h2, h3, h4, h5⟩ := key
    obtain ⟨hm, hk, fd, fdat, hfd, hl', pp, hdf, nd, F⟩ := hz.fns f h0
    have F' : FnOk X.prog X.w X.K X.mg X.base (L2.CX X.prog X.w) (lev Z.d) (Z.G.fa f) fdat (Z.y.ps f) (spOf Z.G Z.C f) := by rw [hx.prog, hx.w, hx.K, hx.mg, hx.base]; exact F
    have hmX : X.mg (Z.y.sym f) = some (.ref (Z.G.fa f)) := by rw [hx.mg]; exact hm
    have hkX : PySem.W.keepIn X.K (.ref (Z.G.fa f)) = true := by rw [hx.K]; exact hk
    obtain ⟨n1, n2, n3, n4⟩ := isKs_names (pos := p) (env := X.env) h5
    have rd : ∀ {σ : L2.St} {H : Hp} {Q : VK}, RE Z.G (evE Z.C (.callK sh f es kws vs)) Wx σ H Q → RA Z.G (evEs Z.C es) Wx σ H fun xs H1 => xs.length = as.length ∧ RA Z.G (evEs Z.C vs) Wx σ H1 fun zs H2 => zs.length = kws.length ∧ spOf Z.G Z.C f (place xs kws zs) H2 Q (WE Wx σ) := by
      intro σ H Q ⟨T, ρ, S, rl, sr, p⟩
      unfold evE at p
      refine ⟨T, ρ, S, rl, sr, (Post.split p).eq.impO fun ws S1 T1 H1 s1 r1 ⟨e1, p1⟩ xs hxs => ?_⟩
      refine ⟨by rw [hxs.length, evEs_len h4 e1], T1, ρ, S1, r1, sr.step rl.nf s1, (Post.split p1).eq.impO fun us S2 T2 H2 s2 r2 ⟨e2, p2⟩ zs hzs => ?_⟩
      have hul : us.length = kws.length := by
        have g : ∀ (kws : List Nat) (vs : Exs) (ks : List Keyword) (S S' : Sto) (us : List W), isKs Z.y c f kws vs ks = true → evEs Z.C vs ρ S = .ok us S' → us.length = kws.length := by
          intro kws
          induction kws with
          | nil => intro vs ks S S' us h e; cases vs with
            | nil => unfold evEs at e; cases e; rfl
            | cons _ _ => simp [isKs] at h
          | cons k kws ih => intro vs ks S S' us h e; cases vs with
            | nil => simp [isKs] at h
            | cons e0 vs => cases ks with
              | nil => simp [isKs] at h
              | cons l ks =>
                simp only [isKs, Bool.and_eq_true] at h
                unfold evEs at e
                cases h1 : evE Z.C e0 ρ S with
                | bad => rw [h1] at e; cases e
                | exc _ _ => rw [h1] at e; cases e
                | ok a Sa =>
                  rw [h1] at e
                  have e : ((evEs Z.C vs ρ Sa).bind fun ws S2 => .ok (a.1 :: ws) S2) = .ok us S' := e
                  cases h2 : evEs Z.C vs ρ Sa with
                  | bad => rw [h2] at e; cases e
                  | exc _ _ => rw [h2] at e; cases e
                  | ok b Sb => rw [h2] at e; cases e; simp [ih vs ks Sa _ b h.2 h2]
        exact g kws vs (k :: ks) S1 S2 us h5 e2
      refine ⟨by rw [hzs.length, hul], ?_⟩
      have hp : VRs Z.G T2 S2.length H2 (place xs kws zs) (place ws kws us) := VRs.ofPair (place_pair (hxs.step r1.nf s2).pair hzs.pair)
      exact call_sp r2 hp (p2.impO fun r S' T' H' s' _ q x hx => q x (hx.back (s1.trans s2)))
    have fin : ∀ {pins : List (Addr × Obj)} {s : Shared} {σ : L2.St} {H : Hp} {Q : VK} {us ws : List Value} {xs zs : List V}, Inv X pins σ H s → Vals xs us → Vals zs ws → xs.length = as.length → zs.length = kws.length → spOf Z.G Z.C f (place xs kws zs) H Q (WE Wx σ) →
        wpAny (model X.prog X.w) X.A (call (.ref (Z.G.fa f)) us ((kws.filterMap ((Z.y.ps f)[·]?)).zip ws)) (EP X pins σ Q) X.xe s := by
      intro pins s σ H Q us ws xs zs I r rz hl1 hl2 hsp
      have g1 : us.length = as.length := by rw [← hl1]; exact (paired_len r).symm
      have g2 : kws.length = ws.length := by rw [← hl2]; exact paired_len rz
      have b := binds_kw fdat (Z.y.ps f) pp hdf nd us ws kws (by rw [g1]; exact h3) g2
      refine wpAny_call (codeAny_mono (F'.run X.A X.stack s H ⟨us, (kws.filterMap ((Z.y.ps f)[·]?)).zip ws⟩ (place us kws ws) (place xs kws zs) Q (WE Wx σ) hx.room I.env0 (.of_eq b) (place_pair r rz) hsp) fun r s' hq => ?_)
      cases r with
      | error e => exact passAt hx.tk σ pins H s e s' I hq
      | ok fl =>
        cases fl with
        | ret u => exact I.after hq
        | next => exact False.elim hq
        | brk => exact False.elim hq
        | cont => exact False.elim hq
    have pk := hv.K c X Wx f kws (k :: ks) hx h5
    have hpl : ((backTo p (starEach as X.env)).any (·.1) || (backToKw p (keywordEach (k :: ks) X.env)).any (·.1.isNone)) = false := by
      rw [back_any, star_all h4, n2]; rfl
    refine ⟨fun pins s σ H Q I hq => ?_⟩
    have hq := rd hq
    refine wpAny_Call_Name_kw (ld_glob I (gl_of hx h1) hmX ?_ (nm_of h2).1)
    cases as with
    | nil =>
      refine PySem.W.callWith_KW0 (h₀ := X.base) I.ok.mod.kin hkX n1 ?_ hpl
      have pa := (h.A c X Wx [] hx h4)
      have hes : es = .nil := by cases es <;> first | rfl | simp [isEs] at h4
      subst hes
      obtain ⟨T, ρ, S, rl, sr, pq⟩ := hq
      obtain ⟨_, hq⟩ := pq.here rl [] .nil
      refine thn (pk.run p pins s σ H _ I hq) fun ws s2 ⟨zs, H2, I2, rz, hz2, q2⟩ => ⟨I2.kIn, ?_⟩
      rw [n3]
      exact fin (xs := []) (us := []) I2 .nil rz rfl hz2 q2
    | cons x xs =>
      have pa := h.A c X Wx (x :: xs) hx h4
      refine PySem.W.callWith_KW (h₀ := X.base) I.ok.mod.kin hkX n1 (thn (pa.run p pins s σ H _ I hq) fun us s1 ⟨ys, H1, I1, r, hl1, q1⟩ => ?_) hpl (star_one (isEs_plain h4))
      refine thn (pk.run p pins s1 σ H1 _ I1 q1) fun ws s2 ⟨zs, H2, I2, rz, hl2, q2⟩ => ⟨I2.kIn, ?_⟩
      rw [n3]
      exact fin I2 r rz hl1 hl2 q2
  · cases l <;> first | rfl | simp [isE] at h
end
end Pd
set_option Elab.async false
set_option linter.all false
set_option maxRecDepth 100000
set_option maxHeartbeats 1000000
/-! Pd14: subscripts, slices, isinstance, ranges, boxes, calls with keywords. -/
namespace Pd
open PySem PySem.Spec PyProof.Rows L2
section
variable {Z : Zc} {c : Sx} {X : Cx} {Wx : WX} {l : Expr} {e a b d : Ex} {es vs : Exs} {ls : List Expr} {σ : L2.St} {H : Hp} {T : Tk} {ρ : Env} {S : Sto} {G : Gl0} {n : Nat}
theorem plain_ix {y : Sym} {e : Ex} {l : Expr} (h : isE y c e l = true) : PlainIx l := by
  have q := (isE_plain h).2.2
  intro o i
  cases l <;> first | exact absurd rfl (q _ _ _ _) | rfl
theorem snd_ix (ha : Snd Z a) (hb : Snd Z b) : Snd Z (.ix a b) := by
  refine snd_of (fun c X Wx l hx hl => ?_) (fun c l h env whole => ?_) (fun c o ls p => by simp [isE])
  · cases l with
    | Subscript x y p =>
      cases y with
      | Slice _ _ _ _ =>
        simp only [isE, Bool.and_eq_true] at hl
        exact absurd rfl ((isE_plain hl.2).2.2 _ _ _ _)
      | _ =>
        simp only [isE, Bool.and_eq_true] at hl
        refine pe_weak (pe_ix ix_seq (pe_frozen (ha.E c X Wx _ hx hl.1)) (pe_frozen (hb.E c X Wx _ hx hl.2)) (plain_ix hl.2)) fun σ H Q q => ?_
        obtain ⟨T, ρ, S, rl, sr, p⟩ := q
        unfold evE at p
        refine two_parts rl sr p fun x y pa pb S2 T2 H2 s r2 _ vx vy p2 => ?_
        obtain ⟨r, hr, p3⟩ := Post.of p2
        cases hc : ixW pa.1 pb.1 S2 with
        | none => rw [hc] at hr; cases hr
        | some w =>
          rw [hc] at hr; cases hr
          exact rIW_ix hx.K ⟨T2, S2, pa.1, pb.1, w, r2, vx, vy, hc, fun z hz => p3.here r2 z hz⟩
    | _ => simp [isE] at hl
  · cases l <;> first | rfl | simp [isE] at h
theorem isNilE_eq {e : Ex} (h : isNilE e = true) : e = .nil := by cases e <;> first | rfl | cases h
theorem part_of {lo : Ex} {o : Option Expr} (hlo : Snd Z lo) (hx : XOk Z c X Wx) (h : (match o with | some l => isE Z.y c lo l | none => isNilE lo) = true) :
    ∃ t : TO, PO X o t ∧ ∀ (Q : Option Int → Hp → Prop) (σ : L2.St) (H : Hp) (T : Tk) (ρ : Env) (S : Sto), Rel Z.G T S H → SR Z.G T S.length H σ ρ →
      Post Z.G T S.length H (evE Z.C lo ρ S) (fun p S' T' H' => ∃ u, bndE lo p.1 = some u ∧ Q u H') (XW Z.G Wx σ) → t σ H Q := by
  cases o with
  | none =>
    obtain rfl := isNilE_eq h
    refine ⟨tNoPart, po_none, fun Q σ H T ρ S rl sr p => ?_⟩
    obtain ⟨u, h1, h2⟩ := p.here rl
    cases h1
    exact h2
  | some l =>
    refine ⟨_, po_some (pe_frozen (hlo.E c X Wx l hx h)), fun Q σ H T ρ S rl sr p => ⟨T, ρ, S, rl, sr, p.impO fun a S' T' H' s r' ⟨u, h1, h3⟩ x hx => ?_⟩⟩
    have hn : isNilE lo = false := by
      cases lo <;> first | rfl | simp [isE] at h
    unfold bndE at h1
    rw [hn] at h1
    have h1 : (asInt a.1).map some = some u := h1
    cases hi : asInt a.1 with
    | none => rw [hi] at h1; cases h1
    | some i =>
      rw [hi] at h1; cases h1
      rw [asInt_some hi] at hx
      exact ⟨i, vd_int hx, h3⟩
theorem snd_sl {lo hi : Ex} (ha : Snd Z a) (hlo : Snd Z lo) (hhi : Snd Z hi) : Snd Z (.sl a lo hi) := by
  refine snd_of (fun c X Wx l hx hl => ?_) (fun c l h env whole => ?_) (fun c o ls p => by simp [isE])
  · cases l with
    | Subscript x y p =>
      cases y with
      | Slice o u st sp =>
        cases st with
        | some _ => simp [isE] at hl
        | none =>
          simp only [isE, Bool.and_eq_true] at hl
          obtain ⟨⟨h1, h2⟩, h3⟩ := hl
          obtain ⟨tl, pl, kl⟩ := part_of hlo hx h2
          obtain ⟨th, ph, kh⟩ := part_of hhi hx h3
          refine pe_weak (pe_slice (sl_any (G := Z.G) hx.K) (pe_frozen (ha.E c X Wx _ hx h1)) pl ph) fun σ H Q q => ?_
          obtain ⟨T, ρ, S, rl, sr, p⟩ := q
          unfold evE at p
          refine ⟨T, ρ, S, rl, sr, (Post.split p).impO fun pa S1 T1 H1 s1 r1 p1 x hxx => ?_⟩
          refine kl _ σ H1 T1 ρ S1 r1 (sr.step rl.nf s1) ((Post.split p1).impO fun pl S2 T2 H2 s2 r2 p2 => ?_)
          obtain ⟨lo', hb1, p2⟩ := Post.ofBind p2
          refine ⟨lo', hb1, kh _ σ H2 T2 ρ S2 r2 ((sr.step rl.nf s1).step r1.nf s2) ((Post.split p2).impO fun ph S3 T3 H3 s3 r3 p3 => ?_)⟩
          obtain ⟨r, hr, p4⟩ := Post.of p3
          cases hb2 : bndE hi ph.1 with
          | none => rw [hb2] at hr; cases hr
          | some hi' =>
            rw [hb2] at hr
            exact ⟨hi', rfl, T3, S3, pa.1, r, r3, (hxx.step r1.nf s2).step r2.nf s3, hr, fun T' H' z s' rl' hz => p4 T' H' s' rl' z (hz.back ((s1.trans s2).trans s3))⟩
      | _ => simp [isE] at hl
    | _ => simp [isE] at hl
  · cases l with
    | Subscript x y p => rfl
    | _ => simp [isE] at h
theorem snd_slr (ha : Snd Z a) : Snd Z (.slr a) := by
  refine snd_of (fun c X Wx l hx hl => ?_) (fun c l h env whole => ?_) (fun c o ls p => by simp [isE])
  · have key : ∃ (x : Expr) (k : Nat) (p1 p2 p3 pos : Pos), l = .Subscript x (.Slice none none (some (.UnaryOp .USub (.Constant (.int 1) k p1) p2)) p3) pos ∧ isE Z.y c a x = true := by
      unfold isE at hl
      split at hl <;> first | cases hl; done | skip
      all_goals first | (rename_i h; cases h; done) | skip
      all_goals first | exact ⟨_, _, _, _, _, _, rfl, hl⟩ | skip
      all_goals simp_all
    obtain ⟨x, k, p1, p2, p3, pos, rfl, h1⟩ := key
    refine pe_weak (pe_revA (k2 := 0) (pe_frozen (ha.E c X Wx _ hx h1))) fun σ H Q q => ?_
    obtain ⟨T, ρ, S, rl, sr, p⟩ := q
    unfold evE at p
    refine ⟨T, ρ, S, rl, sr, (Post.split p).impO fun pa S1 T1 H1 s1 r1 pp x hxx => ?_⟩
    obtain ⟨r, hr, p4⟩ := Post.of pp
    cases hi : items pa.1 S1 with
    | none => rw [hi] at hr; cases hr
    | some p0 =>
      rw [hi] at hr
      cases hr
      obtain ⟨t, ws⟩ := p0
      obtain ⟨a1, xs, rfl, hl, rr, t1, t2⟩ := hxx.items r1 hi
      have hz : xs.reverse.length ≤ sizeLine := by rw [List.length_reverse]; exact hl
      refine ⟨a1, xs, rfl, ?_⟩
      cases t with
      | true =>
        refine .inr ⟨(t1 rfl).sq, fun p hp => ?_⟩
        obtain ⟨q1, q2, q3⟩ := new_tup r1 hp rr.reverse hz
        exact p4 _ _ q1 q2 _ q3
      | false =>
        refine .inl ⟨hx.K ▸ t2 rfl, fun p hp => ?_⟩
        obtain ⟨q1, q2, q3⟩ := new_lst r1 hp rr.reverse hz
        exact p4 _ _ q1 q2 _ (q3.back s1)
  · cases l with
    | Subscript x y p => rfl
    | _ => simp [isE] at h
theorem tyNm_boot (t : Ty) : bootBuiltins (Str.ofString (tyNm t)) = some (.type (tyNm t)) := by cases t <;> rfl
theorem pe_tyNm (hz : ZOk Z) (hx : XOk Z c X Wx) {t : Ty} {e : Expr} (h : bltB c (tyNm t) e = true) : PE X e (tC (.ty (tyNm t))) := by
  obtain ⟨p, rfl, hg⟩ := bltB_some h
  exact pe_bltn (gl_of hx hg) (by rw [hx.mg]; exact hz.blt _ (by cases t <;> simp [tyNm, bltNames])) (tyNm_boot t) rfl (by cases t <;> decide) (by cases t <;> decide)
end
end Pd
set_option Elab.async false
set_option linter.all false
set_option maxRecDepth 100000
set_option maxHeartbeats 1000000
/-! Pd15: isinstance, ranges, boxes, calls with keywords. -/
namespace Pd
open PySem PySem.Spec PyProof.Rows L2
section
variable {Z : Zc} {c : Sx} {X : Cx} {Wx : WX} {l : Expr} {e a b d : Ex} {es vs : Exs} {ls : List Expr} {σ : L2.St} {H : Hp} {T : Tk} {ρ : Env} {S : Sto} {G : Gl0} {n : Nat}
theorem isTys_one {w : W} {t : Ty} {b : Bool} (h : isTys w S [t] = some b) : isTy w S t = some b := by
  unfold isTys at h
  cases q : isTy w S t with
  | none => rw [q] at h; cases h
  | some b' => rw [q] at h; simp [isTys] at h; rw [h]
/-- the classes of a tuple of built-in types -/
theorem pa_tys (hz : ZOk Z) (hx : XOk Z c X Wx) : ∀ {ts : List Ty} {es : List Expr}, ts.length = es.length → ((ts.zip es).all fun p => bltB c (tyNm p.1) p.2) = true →
    ∃ t : TA, PA X es t ∧ ∀ σ H Q, Q (ts.map fun t => V.ty (tyNm t)) H → t σ H Q
  | [], [], _, _ => ⟨_, pa_nil, fun _ _ _ q => q⟩
  | [], _ :: _, h, _ => by cases h
  | _ :: _, [], h, _ => by cases h
  | t :: ts, e :: es, h, q => by
    rw [List.zip_cons_cons, List.all_cons, Bool.and_eq_true] at q
    obtain ⟨u, hu, ku⟩ := pa_tys hz hx (by simpa using h) q.2
    have ns : ∀ a p, e ≠ .Starred a p := by
      obtain ⟨p, e', _⟩ := bltB_some q.1
      intro a p' z
      have e' : e = _ := e'
      rw [e'] at z; cases z
    exact ⟨_, pa_cons (pe_tyNm hz hx q.1) hu (star_one ns), fun σ H Q r => ku σ H _ r⟩
theorem paired_tys : ∀ ts : List Ty, Paired ClsV (ts.map fun t => V.ty (tyNm t)) (ts.map tyV')
  | [] => .nil
  | t :: ts => .cons (.ty _) (paired_tys ts)
theorem snd_isi (hz : ZOk Z) (tys : List Ty) (one : Bool) (ha : Snd Z a) : Snd Z (.isi a tys one) := by
  refine snd_of (fun c X Wx l hx hl => ?_) (fun c l h env whole => ?_) (fun c o ls p => by simp [isE])
  · have key : ∃ (g x t : Expr) (pos : Pos), l = .Call g [x, t] [] pos ∧ bltB c "isinstance" g = true ∧ isE Z.y c a x = true ∧ isTyE c tys one t = true := by
      cases l with
      | Call g as ks p =>
        match as, ks, hl with
        | [x, t], [], hl =>
          simp only [isE, Bool.and_eq_true] at hl
          exact ⟨g, x, t, p, rfl, hl.1.1, hl.1.2, hl.2⟩
        | [], _, hl => simp [isE] at hl
        | [_], _, hl => simp [isE] at hl
        | [_, _], _ :: _, hl => simp [isE] at hl
        | _ :: _ :: _ :: _, _, hl => simp [isE] at hl
      | _ => simp [isE] at hl
    obtain ⟨g, x, t, pos, rfl, h1, h2, h3⟩ := key
    obtain ⟨p, rfl, hg⟩ := bltB_some h1
    have gl := gl_of hx hg
    have hm : X.mg (Str.ofString "isinstance") = none := by rw [hx.mg]; exact hz.blt _ (by simp [bltNames])
    have sx := (isE_plain h2).1
    have fin : ∀ {σ : L2.St} {H : Hp} {Q : VK} {T : Tk} {ρ : Env} {S : Sto}, Rel Z.G T S H → SR Z.G T S.length H σ ρ →
        Post Z.G T S.length H (evE Z.C (.isi a tys one) ρ S) (fun p S' T' H' => ∀ x, RR Z.G H T' S'.length H' x p.1 p.2 → Q x H') (XW Z.G Wx σ) →
        RV Z.G (evE Z.C a) Wx σ H fun x H1 => ∃ T1 S1 w b, Rel Z.G T1 S1 H1 ∧ VR Z.G T1 S1.length H1 x w ∧ isTys w S1 tys = some b ∧ ∀ T' H', Step T1 S1.length H1 T' S1.length H' → Rel Z.G T' S1 H' → Q (.bl b) H' := by
      intro σ H Q T ρ S rl sr p
      unfold evE at p
      refine ⟨T, ρ, S, rl, sr, (Post.split p).impO fun pa S1 T1 H1 s1 r1 p1 x hxx => ?_⟩
      obtain ⟨r, hr, p2⟩ := Post.of p1
      cases hc : isTys pa.1 S1 tys with
      | none => rw [hc] at hr; cases hr
      | some b =>
        rw [hc] at hr; cases hr
        exact ⟨T1, S1, pa.1, b, r1, hxx, hc, fun T' H' s' rl' => p2 T' H' s' rl' _ (vr_bool b)⟩
    cases one with
    | true =>
      have ht : ∃ t0, tys = [t0] ∧ bltB c (tyNm t0) t = true := by
        match tys, h3 with
        | [], h3 => simp [isTyE] at h3
        | [t0], h3 => exact ⟨t0, rfl, by simpa [isTyE] using h3⟩
        | _ :: _ :: _, h3 => cases t <;> simp [isTyE] at h3
      obtain ⟨t0, rfl, ht⟩ := ht
      obtain ⟨p2, rfl, _⟩ := bltB_some ht
      refine pe_weak (pe_callB call_isi gl hm rfl (pa_cons (pe_frozen (ha.E c X Wx _ hx h2)) (pa_cons (pe_tyNm hz hx ht) pa_nil) (star_one sx)) (by decide) (by decide) (star_one sx) (by rw [back_any]; rfl)) fun σ H Q q => ?_
      obtain ⟨T, ρ, S, rl, sr, p⟩ := q
      obtain ⟨T', ρ', S', rl', sr', p'⟩ := fin rl sr p
      refine ⟨T', ρ', S', rl', sr', p'.impO fun pa S1 T1 H1 s1 r1 k x hxx => ?_⟩
      obtain ⟨T2, S2, w, b, r2, vx, hb, q⟩ := k x hxx
      obtain ⟨ty, k1, k2, _⟩ := isTy_kit r2 vx (isTys_one hb)
      exact ⟨x, .ty (tyNm t0), ty, tyV' t0, b, rfl, .ty _, hx.K ▸ k1, hx.K ▸ k2, q T2 H1 (Step.refl _ _ _) r2⟩
    | false =>
      have ht : ∃ es i p2, t = .Tuple es i p2 ∧ es.length ≤ 1000 ∧ tys ≠ [] ∧ tys.length = es.length ∧ ((tys.zip es).all fun p => bltB c (tyNm p.1) p.2) = true := by
        match tys, h3 with
        | [], h3 => simp [isTyE] at h3
        | t0 :: ts, h3 =>
          cases t with
          | Tuple es i p2 =>
            simp only [isTyE, Bool.and_eq_true, beq_iff_eq, decide_eq_true_eq] at h3
            exact ⟨es, i, p2, rfl, h3.1.1, by simp, h3.1.2, h3.2⟩
          | _ => cases ts <;> simp [isTyE] at h3
      obtain ⟨es, i, p2, rfl, hle, hne, hlen, hall⟩ := ht
      obtain ⟨tt, pt, kt⟩ := pa_tys hz hx hlen hall
      refine pe_weak (pe_callB call_isiT gl hm rfl (pa_cons (pe_frozen (ha.E c X Wx _ hx h2)) (pa_cons (pe_tup pt) pa_nil) (star_one sx)) (by decide) (by decide) (star_one sx) (by rw [back_any]; rfl)) fun σ H Q q => ?_
      obtain ⟨T, ρ, S, rl, sr, p⟩ := q
      obtain ⟨T', ρ', S', rl', sr', p'⟩ := fin rl sr p
      refine ⟨T', ρ', S', rl', sr', p'.impO fun pa S1 T1 H1 s1 r1 k x hxx => ?_⟩
      obtain ⟨T2, S2, w, b, r2, vx, hb, q⟩ := k x hxx
      refine kt _ _ _ ⟨?_, fun a ha => ?_⟩
      · exact k_line (by rw [List.length_map, hlen]; exact hle)
      · have st : Step T2 S2.length H1 T2 S2.length (upd H1 a (.tup (tys.map fun t => V.ty (tyNm t)))) := Step.new _ ha
        have r3 : Rel Z.G T2 S2 (upd H1 a (.tup (tys.map fun t => V.ty (tyNm t)))) := r2.new _ ha
        obtain ⟨ty, k1, k2, _⟩ := isTys_kit r3 (vx.step r2.nf st) hne hb
        exact ⟨x, a, _, ty, _, b, rfl, by simp [upd], paired_tys tys, hx.K ▸ k1, hx.K ▸ k2, q _ _ st r3⟩
  · cases l <;> first | rfl | simp [isE] at h
end
end Pd
set_option Elab.async false
set_option linter.all false
set_option maxRecDepth 100000
set_option maxHeartbeats 1000000
/-! Pd16: what is walked. -/
namespace Pd
open PySem PySem.Spec PyProof.Rows L2
/-- J goes through the items ws -/
structure Wlk (G : Gl0) (J : L2.It) (T : Tk) (S : Sto) (ws : List W) (H : Hp) : Prop where
  len : ws.length ≤ sizeLine
  stop : ∀ T' S' H', Step T S.length H T' S'.length H' → Rel G T' S' H' → Kp S S' → J.stop ws.length H'
  item : ∀ T' S' H', Step T S.length H T' S'.length H' → Rel G T' S' H' → Kp S S' → ∀ i w, ws[i]? = some w →
    J.go i H' ∧ ∀ x H'', J.yld i H' x H'' → ∃ T'', Step T' S'.length H' T'' S'.length H'' ∧ Rel G T'' S' H'' ∧ VR G T'' S'.length H'' x w
def RI (G : Gl0) (r : Env → Sto → R (List W × Option Nat)) (Wx : WX) : TI := fun σ H Rn => ∃ T ρ S, Rel G T S H ∧ SR G T S.length H σ ρ ∧
  Post G T S.length H (r ρ S) (fun p S' T' H' => ∀ J, Wlk G J T' S' p.1 H' → Rn J H') (XW G Wx σ)
theorem pi_weak {X : Cx} {tg it : Expr} {t t' : TI} (h : PI X tg it t) (i : ∀ σ H R, t' σ H R → t σ H R) : PI X tg it t' := ⟨fun pins s σ H R I q => h.run pins s σ H R I (i σ H R q)⟩
/-- a list or a tuple is walked -/
def iSeq (K : PySem.W.Frag) (tl : TE) : TI := fun σ H R => tl σ H fun x H1 => ∃ a, x = .ref a ∧ (((∃ xs, SqL K H1 a xs) ∧ R (Itl K a) H1) ∨ ((∃ xs, SqT K H1 a xs) ∧ R (Itt K a) H1))
theorem pi_seq {X : Cx} {tg : Expr} {l : Expr} {tl : TE} (hl : PE X l tl) : PI X tg l (iSeq X.K tl) := by
  refine ⟨fun pins s σ H R I h => ?_⟩
  refine thn (hl.run pins s σ H _ I h) fun v s1 ⟨x, H1, I1, r1, q1⟩ => ?_
  obtain ⟨a, e, q⟩ := q1
  subst e
  cases r1
  rcases q with ⟨⟨xs, hq⟩, q⟩ | ⟨⟨xs, hq⟩, q⟩
  · obtain ⟨its, rv, p, hz⟩ := I1.list hq
    refine wpAny_pyIter_list p.isList ?_
    refine ⟨s1.heap.objs.size, [s1.heap.objs.size], _, _, H1, rfl, I1.kept (t' := s1.toks) fun b o e => Heap.get?_push_of_some _ e, turn_list a _, ⟨_, Heap.get?_push_size _ rfl, rfl, rfl⟩, fun b hb => ?_, q⟩
    obtain rfl : b = s1.heap.objs.size := by simpa using hb
    exact I1.fpOk (Nat.le_refl _) (I1.hok.fresh (Nat.le_refl _))
  · obtain ⟨its, rv, p, hz⟩ := I1.tuple hq
    refine wpAny_pyIter_tuple (show s1.heap.IsTuple a its.toArray from p) ?_
    refine ⟨s1.heap.objs.size, [s1.heap.objs.size], _, _, H1, rfl, I1.kept (t' := s1.toks) fun b o e => Heap.get?_push_of_some _ e, turn_tuple a _, ⟨_, Heap.get?_push_size _ rfl, rfl, rfl⟩, fun b hb => ?_, q⟩
    obtain rfl : b = s1.heap.objs.size := by simpa using hb
    exact I1.fpOk (Nat.le_refl _) (I1.hok.fresh (Nat.le_refl _))
section
variable {G : Gl0} {T T' : Tk} {S S' : Sto} {H H' : Hp} {x : V} {w : W} {ws : List W} {t : Bool} {n : Nat}
theorem lock_len (w : W) (S : Sto) : (lockAt w S).2.length = S.length := by
  unfold lockAt
  split
  · split
    · simp
    · rfl
  · rfl
theorem Rel.lockOb (r : Rel G T S H) {l : Nat} {o o' : Ob} (e : S[l]? = some o) (h : ∀ a, OR G T S.length H a o → OR G T S.length H a o') : Rel G T (S.set l o') H := by
  refine ⟨fun i u hu => ?_, fun i j hi hj => r.inj i j (by simpa using hi) (by simpa using hj), fun i hi => r.nf i (by simpa using hi), r.ft⟩
  rw [List.length_set]
  by_cases q : l = i
  · subst q
    rw [List.getElem?_set_self (List.getElem?_eq_some_iff.mp e).1] at hu
    cases hu
    exact h _ (r.obj l o e)
  · rw [List.getElem?_set_ne q] at hu
    exact r.obj i u hu
theorem Rel.lock (r : Rel G T S H) (w : W) : Rel G T (lockAt w S).2 H := by
  unfold lockAt
  split
  · split
    · rename_i ws hl
      exact r.lockOb hl fun a h => h
    · exact r
  · exact r
theorem Rel.unlock (r : Rel G T S H) (o : Option Nat) : Rel G T (unlock o S) H := by
  unfold Pd.unlock
  split
  · exact r
  · split
    · rename_i ws hl
      exact r.lockOb hl fun a h => h
    · exact r
theorem unlock_len (o : Option Nat) (S : Sto) : (unlock o S).length = S.length := by
  unfold unlock
  split
  · rfl
  · split
    · simp
    · rfl
/-- a sequence that is walked stands later as it is -/
theorem seq_later (r : Rel G T S H) (hx : VR G T S.length H x w) (e : items w S = some (t, ws)) : ∃ a, x = .ref a ∧ ∀ T' S' H', Step T S.length H T' S'.length H' → Rel G T' S' H' → Kp (lockAt w S).2 S' →
    ∃ xs, xs.length ≤ sizeLine ∧ VRs G T' S'.length H' xs ws ∧ (t = true → SqT G.K H' a xs) ∧ (t = false → SqL G.K H' a xs) := by
  have fin : ∀ (w : W), VR G T S.length H x w → items w S = some (t, ws) → (∀ l, w ≠ .loc l) → ∃ a, x = .ref a ∧ ∀ T' S' H', Step T S.length H T' S'.length H' → Rel G T' S' H' →
      ∃ xs, xs.length ≤ sizeLine ∧ VRs G T' S'.length H' xs ws ∧ (t = true → SqT G.K H' a xs) ∧ (t = false → SqL G.K H' a xs) := by
    intro w hx e hw
    obtain ⟨a, xs, rfl, hl, rr, t1, t2⟩ := hx.items r e
    refine ⟨a, rfl, fun T' S' H' s r' => ?_⟩
    have items' : items w S' = some (t, ws) := by
      unfold items at e ⊢
      split at e <;> first | exact e | (exact absurd rfl (hw _))
    obtain ⟨a', xs', ea, hl', rr', t1', t2'⟩ := (hx.step r.nf s).items r' items'
    cases ea
    exact ⟨xs', hl', rr', fun h => (t1' h).sq, t2'⟩
  cases w with
  | loc l =>
    have e : (lstAt S l).map (fun ws => (false, ws)) = some (t, ws) := e
    cases hl : lstAt S l with
    | none => rw [hl] at e; cases e
    | some us =>
      rw [hl] at e
      cases e
      obtain ⟨h1, xs, h2, h3, h4⟩ := lstAt_rel r hl
      cases hx
      refine ⟨T.m l, rfl, fun T' S' H' s r' kp => ?_⟩
      have hf : S'[l]? = some (.fz ws) := by
        refine kp l ws ?_
        unfold lstAt at hl
        unfold lockAt
        split at hl
        · rename_i hs; cases hl; simp only [hs]; exact List.getElem?_set_self h1
        · rename_i hs; cases hl; simp only [hs]
        · cases hl
      obtain ⟨xs', q1, q2, q3⟩ := r'.obj l _ hf
      rw [s.mm l h1] at q1
      exact ⟨xs', q2, q3, (fun h => by cases h), fun _ => SqL.of q1⟩
  | v d => obtain ⟨a, h1, h2⟩ := fin _ hx e (by simp); exact ⟨a, h1, fun T' S' H' s r' _ => h2 T' S' H' s r'⟩
  | fn d => obtain ⟨a, h1, h2⟩ := fin _ hx e (by simp); exact ⟨a, h1, fun T' S' H' s r' _ => h2 T' S' H' s r'⟩
  | rng _ _ => obtain ⟨a, h1, h2⟩ := fin _ hx e (by simp); exact ⟨a, h1, fun T' S' H' s r' _ => h2 T' S' H' s r'⟩
  | set _ => obtain ⟨a, h1, h2⟩ := fin _ hx e (by simp); exact ⟨a, h1, fun T' S' H' s r' _ => h2 T' S' H' s r'⟩
  | ro _ => obtain ⟨a, h1, h2⟩ := fin _ hx e (by simp); exact ⟨a, h1, fun T' S' H' s r' _ => h2 T' S' H' s r'⟩
  | seq _ _ => obtain ⟨a, h1, h2⟩ := fin _ hx e (by simp); exact ⟨a, h1, fun T' S' H' s r' _ => h2 T' S' H' s r'⟩
theorem Step.len {n1 n2 : Nat} (h : n1 = n2) {T T' : Tk} {H H' : Hp} {m : Nat} (s : Step T n1 H T' m H') : Step T n2 H T' m H' := h ▸ s
/-- the list at a through its items -/
theorem wlk_list {a : Addr} (h : ∀ T' S' H', Step T S.length H T' S'.length H' → Rel G T' S' H' → Kp S S' → ∃ xs, VRs G T' S'.length H' xs ws ∧ SqL G.K H' a xs) (hz : ws.length ≤ sizeLine) : Wlk G (Itl G.K a) T S ws H := by
  refine ⟨hz, fun T' S' H' s r k => ?_, fun T' S' H' s r k i w hw => ?_⟩
  · obtain ⟨xs, h1, h2⟩ := h T' S' H' s r k
    exact ⟨xs, h2, by rw [h1.length]; exact Nat.le_refl _⟩
  · obtain ⟨xs, h1, h2⟩ := h T' S' H' s r k
    obtain ⟨x, hx, vx⟩ := h1.get hw
    refine ⟨⟨xs, x, h2, hx⟩, fun y H'' ⟨e, q⟩ => ?_⟩
    subst e
    have := q xs h2
    rw [hx] at this; cases this
    exact ⟨T', Step.refl _ _ _, r, vx⟩
theorem wlk_tup {a : Addr} (h : ∀ T' S' H', Step T S.length H T' S'.length H' → Rel G T' S' H' → Kp S S' → ∃ xs, VRs G T' S'.length H' xs ws ∧ SqT G.K H' a xs) (hz : ws.length ≤ sizeLine) : Wlk G (Itt G.K a) T S ws H := by
  refine ⟨hz, fun T' S' H' s r k => ?_, fun T' S' H' s r k i w hw => ?_⟩
  · obtain ⟨xs, h1, h2⟩ := h T' S' H' s r k
    exact ⟨xs, h2, by rw [h1.length]; exact Nat.le_refl _⟩
  · obtain ⟨xs, h1, h2⟩ := h T' S' H' s r k
    obtain ⟨x, hx, vx⟩ := h1.get hw
    refine ⟨⟨xs, x, h2, hx⟩, fun y H'' ⟨e, q⟩ => ?_⟩
    subst e
    have := q xs h2
    rw [hx] at this; cases this
    exact ⟨T', Step.refl _ _ _, r, vx⟩
theorem enumW_get : ∀ {ws : List W} {n i : Nat} {w : W}, (enumW n ws)[i]? = some w → ∃ u, ws[i]? = some u ∧ w = mkSeq true [.v (.int ((n + i : Nat) : Int)), u]
  | [], _, _, _, h => by simp [enumW] at h
  | u :: ws, n, 0, w, h => by simp [enumW] at h; exact ⟨u, by simp, h.symm⟩
  | u :: ws, n, i + 1, w, h => by
    obtain ⟨u', h1, h2⟩ := enumW_get (ws := ws) (n := n + 1) (i := i) (by simpa [enumW] using h)
    exact ⟨u', by simpa using h1, by rw [h2]; congr 5; omega⟩
theorem enumW_len : ∀ (ws : List W) (n : Nat), (enumW n ws).length = ws.length
  | [], _ => rfl
  | _ :: ws, n => by simp [enumW, enumW_len ws]
theorem two_line : (2 : Nat) ≤ sizeLine := by decide
theorem pair_new (r : Rel G T S H) {p : Addr} (hp : H p = none) {x y : V} {w u : W} (hx : VR G T S.length H x w) (hy : VR G T S.length H y u) :
    ∃ T'', Step T S.length H T'' S.length (upd H p (.tup [x, y])) ∧ Rel G T'' S (upd H p (.tup [x, y])) ∧ VR G T'' S.length (upd H p (.tup [x, y])) (.ref p) (mkSeq true [w, u]) :=
  let ⟨q1, q2, q3⟩ := new_tup r hp (.cons hx (.cons hy .nil)) two_line
  ⟨_, q1, q2, q3⟩
theorem wlk_enum {a : Addr} (h : ∀ T' S' H', Step T S.length H T' S'.length H' → Rel G T' S' H' → Kp S S' → ∃ xs, VRs G T' S'.length H' xs ws ∧ SqL G.K H' a xs) (hz : ws.length ≤ sizeLine) : Wlk G (Ite G.K a) T S (enumW 0 ws) H := by
  refine ⟨by rw [enumW_len]; exact hz, fun T' S' H' s r k => ?_, fun T' S' H' s r k i w hw => ?_⟩
  · obtain ⟨xs, h1, h2⟩ := h T' S' H' s r k
    exact ⟨xs, h2, by rw [h1.length, enumW_len]; exact Nat.le_refl _⟩
  · obtain ⟨xs, h1, h2⟩ := h T' S' H' s r k
    obtain ⟨u, hu, rfl⟩ := enumW_get hw
    obtain ⟨x, hx, vx⟩ := h1.get hu
    refine ⟨⟨xs, x, h2, hx⟩, fun y H'' ⟨p, x', e1, e2, e3, q⟩ => ?_⟩
    subst e1 e3
    have := q xs h2
    rw [hx] at this; cases this
    rw [Nat.zero_add]
    exact pair_new r e2 (.v (.int _)) vx
theorem wlk_enumT {a : Addr} (h : ∀ T' S' H', Step T S.length H T' S'.length H' → Rel G T' S' H' → Kp S S' → ∃ xs, VRs G T' S'.length H' xs ws ∧ SqT G.K H' a xs) (hz : ws.length ≤ sizeLine) : Wlk G (IteT G.K a) T S (enumW 0 ws) H := by
  refine ⟨by rw [enumW_len]; exact hz, fun T' S' H' s r k => ?_, fun T' S' H' s r k i w hw => ?_⟩
  · obtain ⟨xs, h1, h2⟩ := h T' S' H' s r k
    exact ⟨xs, h2, by rw [h1.length, enumW_len]; exact Nat.le_refl _⟩
  · obtain ⟨xs, h1, h2⟩ := h T' S' H' s r k
    obtain ⟨u, hu, rfl⟩ := enumW_get hw
    obtain ⟨x, hx, vx⟩ := h1.get hu
    refine ⟨⟨xs, x, h2, hx⟩, fun y H'' ⟨p, x', e1, e2, e3, q⟩ => ?_⟩
    subst e1 e3
    have := q xs h2
    rw [hx] at this; cases this
    rw [Nat.zero_add]
    exact pair_new r e2 (.v (.int _)) vx
theorem zipW_get : ∀ {ws us : List W} {i : Nat} {w : W}, (zipW ws us)[i]? = some w → ∃ a b, ws[i]? = some a ∧ us[i]? = some b ∧ w = mkSeq true [a, b]
  | [], _, _, _, h => by simp [zipW] at h
  | _ :: _, [], _, _, h => by simp [zipW] at h
  | a :: ws, b :: us, 0, w, h => by simp [zipW] at h; exact ⟨a, b, by simp, by simp, h.symm⟩
  | a :: ws, b :: us, i + 1, w, h => by
    obtain ⟨a', b', h1, h2, h3⟩ := zipW_get (ws := ws) (us := us) (i := i) (by simpa [zipW] using h)
    exact ⟨a', b', by simpa using h1, by simpa using h2, h3⟩
theorem zipW_len : ∀ (ws us : List W), (zipW ws us).length = min ws.length us.length
  | [], _ => by simp [zipW]
  | _ :: _, [] => by simp [zipW]
  | _ :: ws, _ :: us => by simp [zipW, zipW_len ws us]
theorem wlk_zip {us : List W} {a b : Addr} (h : ∀ T' S' H', Step T S.length H T' S'.length H' → Rel G T' S' H' → Kp S S' → ∃ xs ys, VRs G T' S'.length H' xs ws ∧ SqL G.K H' a xs ∧ VRs G T' S'.length H' ys us ∧ SqL G.K H' b ys) (hz : ws.length ≤ sizeLine) :
    Wlk G (Itz G.K a b) T S (zipW ws us) H := by
  refine ⟨by rw [zipW_len]; omega, fun T' S' H' s r k => ?_, fun T' S' H' s r k i w hw => ?_⟩
  · obtain ⟨xs, ys, h1, h2, h3, h4⟩ := h T' S' H' s r k
    exact ⟨xs, ys, h2, h4, by rw [h1.length, h3.length, zipW_len]; omega⟩
  · obtain ⟨xs, ys, h1, h2, h3, h4⟩ := h T' S' H' s r k
    obtain ⟨u, v, hu, hv, rfl⟩ := zipW_get hw
    obtain ⟨x, hx, vx⟩ := h1.get hu
    obtain ⟨y, hy, vy⟩ := h3.get hv
    refine ⟨⟨xs, ys, x, y, h2, h4, hx, hy⟩, fun z H'' ⟨p, x', y', e1, e2, e3, q1, q2⟩ => ?_⟩
    subst e1 e3
    have z1 := q1 xs h2
    rw [hx] at z1; cases z1
    have z2 := q2 ys h4
    rw [hy] at z2; cases z2
    exact pair_new r e2 vx vy
theorem wlk_zipT {us : List W} {a b : Addr} (h : ∀ T' S' H', Step T S.length H T' S'.length H' → Rel G T' S' H' → Kp S S' → ∃ xs ys, VRs G T' S'.length H' xs ws ∧ SqT G.K H' a xs ∧ VRs G T' S'.length H' ys us ∧ SqT G.K H' b ys) (hz : ws.length ≤ sizeLine) :
    Wlk G (RZ.ItzT G.K a b) T S (zipW ws us) H := by
  refine ⟨by rw [zipW_len]; omega, fun T' S' H' s r k => ?_, fun T' S' H' s r k i w hw => ?_⟩
  · obtain ⟨xs, ys, h1, h2, h3, h4⟩ := h T' S' H' s r k
    exact ⟨xs, ys, h2, h4, by rw [h1.length, h3.length, zipW_len]; omega⟩
  · obtain ⟨xs, ys, h1, h2, h3, h4⟩ := h T' S' H' s r k
    obtain ⟨u, v, hu, hv, rfl⟩ := zipW_get hw
    obtain ⟨x, hx, vx⟩ := h1.get hu
    obtain ⟨y, hy, vy⟩ := h3.get hv
    refine ⟨⟨xs, ys, x, y, h2, h4, hx, hy⟩, fun z H'' ⟨p, x', y', e1, e2, e3, q1, q2⟩ => ?_⟩
    subst e1 e3
    have z1 := q1 xs h2
    rw [hx] at z1; cases z1
    have z2 := q2 ys h4
    rw [hy] at z2; cases z2
    exact pair_new r e2 vx vy
theorem wlk_rng {lo : Int} {k : Nat} (hk : k ≤ sizeLine) : Wlk G (Itr lo k) T S (rngL lo k) H := by
  refine ⟨by simpa [rngL, rngC] using hk, fun T' S' H' s r _ => ?_, fun T' S' H' s r _ i w hw => ?_⟩
  · show k ≤ (rngL lo k).length
    simp [rngL]
  · have hi : i < k := by
      have := (List.getElem?_eq_some_iff.mp hw).1
      simpa [rngL] using this
    refine ⟨hi, fun x H'' ⟨e1, e2⟩ => ?_⟩
    subst e1 e2
    have : w = W.v (.int (lo + i)) := by
      unfold rngL at hw
      rw [List.getElem?_map, List.getElem?_range hi] at hw
      simpa using hw.symm
    rw [this]
    exact ⟨T', Step.refl _ _ _, r, .v (.int _)⟩
theorem wlk_rngC {lo c : Int} {k : Nat} (hk : k ≤ sizeLine) : Wlk G (Itc lo c k) T S (rngC lo c k) H := by
  refine ⟨by simpa [rngL, rngC] using hk, fun T' S' H' s r _ => ?_, fun T' S' H' s r _ i w hw => ?_⟩
  · show k ≤ (rngC lo c k).length
    simp [rngC]
  · have hi : i < k := by
      have := (List.getElem?_eq_some_iff.mp hw).1
      simpa [rngC] using this
    refine ⟨hi, fun x H'' ⟨e1, e2⟩ => ?_⟩
    subst e1 e2
    have : w = W.v (.int (lo + i * c)) := by
      unfold rngC at hw
      rw [List.getElem?_map, List.getElem?_range hi] at hw
      simpa using hw.symm
    rw [this]
    exact ⟨T', Step.refl _ _ _, r, .v (.int _)⟩
end
end Pd
set_option Elab.async false
set_option linter.all false
set_option maxRecDepth 100000
set_option maxHeartbeats 1000000
/-! Pd17: iterables are sound; targets. -/
namespace Pd
open PySem PySem.Spec PyProof.Rows L2
structure SndI (Z : Zc) (it : It) : Prop where
  I : ∀ (c : Sx) (X : Cx) (Wx : WX) (t : Tgt) (tg l : Expr), XOk Z c X Wx → isI Z.y c it l = true → tgOk it t = true → (∀ ts, t = .tup ts → ∃ els k p, tg = .Tuple els k p) → PI X tg l (RI Z.G (evI Z.C it) Wx)
section
variable {Z : Zc} {c : Sx} {X : Cx} {Wx : WX} {l : Expr} {e a b d : Ex} {es vs : Exs} {ls : List Expr} {σ : L2.St} {H : Hp} {T : Tk} {ρ : Env} {S : Sto} {G : Gl0} {n : Nat}
theorem sndI_seq (he : Snd Z e) : SndI Z (.seq e) := ⟨fun c X Wx t tg l hx hl _ _ => by
  have hl : isE Z.y c e l = true := by simpa [isI] using hl
  have base := pi_seq (tg := tg) (pe_frozen (he.E c X Wx l hx hl))
  rw [hx.K] at base
  refine pi_weak base fun σ H R q => ?_
  obtain ⟨T, ρ, S, rl, sr, p⟩ := q
  unfold evI at p
  refine ⟨T, ρ, S, rl, sr, (Post.split p).impO fun pa S1 T1 H1 s1 r1 p1 x hxx => ?_⟩
  obtain ⟨⟨t, ws⟩, hp, p2⟩ := Post.ofBind p1
  obtain ⟨a, rfl, later⟩ := seq_later r1 hxx hp
  have r2 := r1.lock pa.1
  have st : Step T1 S1.length H1 T1 (lockAt pa.1 S1).2.length H1 := by rw [lock_len]; exact Step.refl _ _ _
  have len := lock_len pa.1 S1
  obtain ⟨xs, xz, xr, z1, z2⟩ := later T1 _ H1 st r2 (Kp.refl _)
  have hz' : ws.length ≤ sizeLine := by rw [← xr.length]; exact xz
  refine ⟨a, rfl, ?_⟩
  cases t with
  | true =>
    refine .inr ⟨⟨xs, z1 rfl⟩, p2 T1 H1 st r2 _ (wlk_tup (hz := hz') fun T' S' H' s' r' k => ?_)⟩
    obtain ⟨ys, _, y1, y2, _⟩ := later T' S' H' (s'.len len) r' k
    exact ⟨ys, y1, y2 rfl⟩
  | false =>
    refine .inl ⟨⟨xs, z2 rfl⟩, p2 T1 H1 st r2 _ (wlk_list (hz := hz') fun T' S' H' s' r' k => ?_)⟩
    obtain ⟨ys, _, y1, _, y2⟩ := later T' S' H' (s'.len len) r' k
    exact ⟨ys, y1, y2 rfl⟩⟩
theorem inR_ok {i : Int} (h : inR i = true) : -(2 ^ 62) ≤ i ∧ i < 2 ^ 62 := by
  unfold inR at h
  have := of_decide_eq_true h
  omega
theorem sndI_rng1 (hz : ZOk Z) (ha : Snd Z a) : SndI Z (.rng1 a) := ⟨fun c X Wx t tg l hx hl _ _ => by
  have key : ∃ (g x : Expr) (pos : Pos), l = .Call g [x] [] pos ∧ bltB c "range" g = true ∧ isE Z.y c a x = true := by
    cases l with
    | Call g as ks p =>
      match as, ks, hl with
      | [x], [], hl => simp only [isI, Bool.and_eq_true] at hl; exact ⟨g, x, p, rfl, hl⟩
      | [], _, hl => simp [isI] at hl
      | [_], _ :: _, hl => simp [isI] at hl
      | _ :: _ :: _, _, hl => simp [isI] at hl
    | _ => simp [isI] at hl
  obtain ⟨g, x, pos, rfl, h1, h2⟩ := key
  obtain ⟨p, rfl, hg⟩ := bltB_some h1
  have hm : X.mg "range" = none := by rw [hx.mg]; exact hz.blt "range" (by simp [bltNames])
  have sx := (isE_plain h2).1
  refine pi_weak (pi_range1 (gl_of hx hg) hm (pa_cons (pe_frozen (ha.E c X Wx _ hx h2)) pa_nil (star_one sx)) (star_one sx)) fun σ H R q => ?_
  obtain ⟨T, ρ, S, rl, sr, p⟩ := q
  unfold evI at p
  refine ⟨T, ρ, S, rl, sr, (Post.split p).impO fun pa S1 T1 H1 s1 r1 p1 x hxx => ?_⟩
  obtain ⟨r, hr, p2⟩ := Post.of p1
  cases hi : asInt pa.1 with
  | none => rw [hi] at hr; cases hr
  | some j =>
    rw [hi] at hr
    simp only [Option.bind_some] at hr
    split at hr
    · rename_i hc
      cases hr
      rw [Bool.and_eq_true] at hc
      obtain ⟨i1, i2⟩ := inR_ok hc.2
      rw [asInt_some hi] at hxx
      refine ⟨j, by rw [vd_int hxx], i1, i2, p2.here r1 _ (wlk_rng (LIM_le (by have := of_decide_eq_true hc.1; omega)))⟩
    · cases hr⟩
theorem sndI_rng2 (hz : ZOk Z) (ha : Snd Z a) (hb : Snd Z b) : SndI Z (.rng2 a b) := ⟨fun c X Wx t tg l hx hl _ _ => by
  have key : ∃ (g x y : Expr) (pos : Pos), l = .Call g [x, y] [] pos ∧ bltB c "range" g = true ∧ isE Z.y c a x = true ∧ isE Z.y c b y = true := by
    cases l with
    | Call g as ks p =>
      match as, ks, hl with
      | [x, y], [], hl => simp only [isI, Bool.and_eq_true] at hl; exact ⟨g, x, y, p, rfl, hl.1.1, hl.1.2, hl.2⟩
      | [], _, hl => simp [isI] at hl
      | [_], _, hl => simp [isI] at hl
      | [_, _], _ :: _, hl => simp [isI] at hl
      | _ :: _ :: _ :: _, _, hl => simp [isI] at hl
    | _ => simp [isI] at hl
  obtain ⟨g, x, y, pos, rfl, h1, h2, h3⟩ := key
  obtain ⟨p, rfl, hg⟩ := bltB_some h1
  have hm : X.mg "range" = none := by rw [hx.mg]; exact hz.blt "range" (by simp [bltNames])
  have sx := (isE_plain h2).1
  have sy := (isE_plain h3).1
  refine pi_weak (pi_range2 (gl_of hx hg) hm (pa_cons (pe_frozen (ha.E c X Wx _ hx h2)) (pa_cons (pe_frozen (hb.E c X Wx _ hx h3)) pa_nil (star_one sy)) (star_one sx)) (by rw [star_one sx, star_one sy]; rfl) (star_one sy)) fun σ H R q => ?_
  obtain ⟨T, ρ, S, rl, sr, p⟩ := q
  unfold evI at p
  refine two_parts rl sr p fun x y pa pb S2 T2 H2 s r2 _ vx vy p2 => ?_
  obtain ⟨r, hr, p3⟩ := Post.of p2
  cases hi : asInt pa.1 with
  | none => rw [hi] at hr; cases hr
  | some j =>
    cases hi2 : asInt pb.1 with
    | none => rw [hi, hi2] at hr; cases hr
    | some k =>
      rw [hi, hi2] at hr
      simp only [Option.bind_some] at hr
      split at hr
      · rename_i hc
        cases hr
        simp only [Bool.and_eq_true] at hc
        obtain ⟨i1, i2⟩ := inR_ok hc.1.2
        obtain ⟨j1, j2⟩ := inR_ok hc.2
        rw [asInt_some hi] at vx
        rw [asInt_some hi2] at vy
        exact ⟨j, k, by rw [vd_int vx, vd_int vy], ⟨i1, i2, j1, j2⟩, p3.here r2 _ (wlk_rng (LIM_le (by have := of_decide_eq_true hc.1.1; omega)))⟩
      · cases hr⟩
theorem sndI_rng3 (hz : ZOk Z) (ha : Snd Z a) (hb : Snd Z b) (hd : Snd Z d) : SndI Z (.rng3 a b d) := ⟨fun c X Wx t tg l hx hl _ _ => by
  have key : ∃ (g x y z : Expr) (pos : Pos), l = .Call g [x, y, z] [] pos ∧ bltB c "range" g = true ∧ isE Z.y c a x = true ∧ isE Z.y c b y = true ∧ isE Z.y c d z = true := by
    cases l with
    | Call g as ks p =>
      match as, ks, hl with
      | [x, y, z], [], hl => simp only [isI, Bool.and_eq_true] at hl; exact ⟨g, x, y, z, p, rfl, hl.1.1.1, hl.1.1.2, hl.1.2, hl.2⟩
      | [], _, hl => simp [isI] at hl
      | [_], _, hl => simp [isI] at hl
      | [_, _], _, hl => simp [isI] at hl
      | [_, _, _], _ :: _, hl => simp [isI] at hl
      | _ :: _ :: _ :: _ :: _, _, hl => simp [isI] at hl
    | _ => simp [isI] at hl
  obtain ⟨g, x, y, z, pos, rfl, h1, h2, h3, h4⟩ := key
  obtain ⟨p, rfl, hg⟩ := bltB_some h1
  have hm : X.mg "range" = none := by rw [hx.mg]; exact hz.blt "range" (by simp [bltNames])
  have sx := (isE_plain h2).1
  have sy := (isE_plain h3).1
  have sz := (isE_plain h4).1
  refine pi_weak (pi_range3 (gl_of hx hg) hm (pa_cons (pe_frozen (ha.E c X Wx _ hx h2)) (pa_cons (pe_frozen (hb.E c X Wx _ hx h3)) (pa_cons (pe_frozen (hd.E c X Wx _ hx h4)) pa_nil (star_one sz)) (star_one sy)) (star_one sx)) (star_one sx)
    (by rw [back_any, star_one sy, star_one sz]; rfl)) fun σ H R q => ?_
  obtain ⟨T, ρ, S, rl, sr, p⟩ := q
  unfold evI at p
  refine ⟨T, ρ, S, rl, sr, (Post.split p).impO fun pa S1 T1 H1 s1 r1 p1 x vx => ?_⟩
  have sr1 := sr.step rl.nf s1
  refine ⟨T1, ρ, S1, r1, sr1, (Post.split p1).impO fun pb S2 T2 H2 s2 r2 p2 y vy => ?_⟩
  refine ⟨T2, ρ, S2, r2, sr1.step r1.nf s2, (Post.split p2).impO fun pd S3 T3 H3 s3 r3 p3 z vz => ?_⟩
  have vx := (vx.step r1.nf s2).step r2.nf s3
  have vy := vy.step r2.nf s3
  obtain ⟨r, hr, p4⟩ := Post.of p3
  cases hi : asInt pa.1 with
  | none => rw [hi] at hr; cases hr
  | some j =>
    cases hi2 : asInt pb.1 with
    | none => rw [hi, hi2] at hr; cases hr
    | some k =>
      cases hi3 : asInt pd.1 with
      | none => rw [hi, hi2, hi3] at hr; cases hr
      | some m =>
        rw [hi, hi2, hi3] at hr
        simp only [Option.bind_some] at hr
        split at hr
        · rename_i hc
          cases hr
          simp only [Bool.and_eq_true, decide_eq_true_eq] at hc
          rw [asInt_some hi] at vx
          rw [asInt_some hi2] at vy
          rw [asInt_some hi3] at vz
          exact ⟨j, k, m, turns j k m, by rw [vd_int vx, vd_int vy, vd_int vz], ⟨hc.2.1, hc.2.2, hc.1.2, PyProof.Rows.rangeSize_toNat j k m⟩, p4.here r3 _ (wlk_rngC (LIM_le hc.1.1))⟩
        · cases hr⟩
theorem tup_of {t : Tgt} {tg : Expr} (h : isTg c t tg = true) (ts : List Tgt) (ht : t = .tup ts) : ∃ es k p, tg = .Tuple es k p := by
  subst ht
  cases tg <;> first | exact ⟨_, _, _, rfl⟩ | simp [isTg] at h
theorem isLoc_lock {w : W} (h : isLoc w = false) (S : Sto) : lockAt w S = (none, S) := by
  cases w <;> first | rfl | cases h
theorem sndI_zip (hz : ZOk Z) (ha : Snd Z a) (hb : Snd Z b) : SndI Z (.zip a b) := ⟨fun c X Wx t tg l hx hl ht htg => by
  obtain ⟨els, kk, tp, rfl⟩ : ∃ els k p, tg = .Tuple els k p := by cases t <;> first | exact htg _ rfl | cases ht
  have key : ∃ (g x y : Expr) (pos : Pos), l = .Call g [x, y] [] pos ∧ bltB c "zip" g = true ∧ isE Z.y c a x = true ∧ isE Z.y c b y = true := by
    cases l with
    | Call g as ks p =>
      match as, ks, hl with
      | [x, y], [], hl => simp only [isI, Bool.and_eq_true] at hl; exact ⟨g, x, y, p, rfl, hl.1.1, hl.1.2, hl.2⟩
      | [], _, hl => simp [isI] at hl
      | [_], _, hl => simp [isI] at hl
      | [_, _], _ :: _, hl => simp [isI] at hl
      | _ :: _ :: _ :: _, _, hl => simp [isI] at hl
    | _ => simp [isI] at hl
  obtain ⟨g, x, y, pos, rfl, h1, h2, h3⟩ := key
  obtain ⟨p, rfl, hg⟩ := bltB_some h1
  have hm : X.mg "zip" = none := by rw [hx.mg]; exact hz.blt "zip" (by simp [bltNames])
  have sx := (isE_plain h2).1
  have sy := (isE_plain h3).1
  have base := RZ.pi_zipA (elts := els) (kk := kk) (tpos := tp) (p := p) (pos := pos) (gl_of hx hg) hm (pa_cons (pe_frozen (ha.E c X Wx _ hx h2)) (pa_cons (pe_frozen (hb.E c X Wx _ hx h3)) pa_nil (star_one sy)) (star_one sx)) (star_one sx) (by rw [back_any, star_one sy]; rfl)
  rw [hx.K] at base
  refine pi_weak base fun σ H R q => ?_
  obtain ⟨T, ρ, S, rl, sr, p⟩ := q
  unfold evI at p
  refine two_parts rl sr p fun x y pa pb S2 T2 H2 s r2 _ vx vy p2 => ?_
  obtain ⟨⟨t1, ws⟩, hp1, p3⟩ := Post.ofBind p2
  obtain ⟨⟨t2, us⟩, hp2, p4⟩ := Post.ofBind p3
  split at p4
  · exact p4.elim
  · rename_i hc
    simp only [Bool.or_eq_true, not_or, Bool.not_eq_true, bne_eq_false_iff_eq] at hc
    obtain ⟨⟨c1, c2⟩, c3⟩ := hc
    obtain ⟨a1, rfl, l1⟩ := seq_later r2 vx hp1
    obtain ⟨a2, rfl, l2⟩ := seq_later r2 vy hp2
    rw [isLoc_lock c1] at l1
    rw [isLoc_lock c2] at l2
    obtain ⟨xs, xz, xr, x1, x2⟩ := l1 T2 S2 H2 (Step.refl _ _ _) r2 (Kp.refl _)
    have hz' : ws.length ≤ sizeLine := by rw [← xr.length]; exact xz
    obtain ⟨ys, _, _, y1, y2⟩ := l2 T2 S2 H2 (Step.refl _ _ _) r2 (Kp.refl _)
    obtain rfl : t1 = t2 := c3
    refine ⟨a1, a2, xs, ys, rfl, ?_⟩
    cases t1 with
    | true =>
      refine .inr ⟨x1 rfl, y1 rfl, p4.here r2 _ (wlk_zipT (hz := hz') fun T' S' H' s' r' k => ?_)⟩
      obtain ⟨xs', _, q1, q2, _⟩ := l1 T' S' H' s' r' k
      obtain ⟨ys', _, q3, q4, _⟩ := l2 T' S' H' s' r' k
      exact ⟨xs', ys', q1, q2 rfl, q3, q4 rfl⟩
    | false =>
      refine .inl ⟨x2 rfl, y2 rfl, p4.here r2 _ (wlk_zip (hz := hz') fun T' S' H' s' r' k => ?_)⟩
      obtain ⟨xs', _, q1, _, q2⟩ := l1 T' S' H' s' r' k
      obtain ⟨ys', _, q3, _, q4⟩ := l2 T' S' H' s' r' k
      exact ⟨xs', ys', q1, q2 rfl, q3, q4 rfl⟩⟩
theorem sndI_enum (hz : ZOk Z) (he : Snd Z e) : SndI Z (.enum e) := ⟨fun c X Wx t tg l hx hl ht htg => by
  obtain ⟨els, kk, tp, rfl⟩ : ∃ els k p, tg = .Tuple els k p := by cases t <;> first | exact htg _ rfl | cases ht
  have key : ∃ (g x : Expr) (pos : Pos), l = .Call g [x] [] pos ∧ bltB c "enumerate" g = true ∧ isE Z.y c e x = true := by
    cases l with
    | Call g as ks p =>
      match as, ks, hl with
      | [x], [], hl => simp only [isI, Bool.and_eq_true] at hl; exact ⟨g, x, p, rfl, hl⟩
      | [], _, hl => simp [isI] at hl
      | [_], _ :: _, hl => simp [isI] at hl
      | _ :: _ :: _, _, hl => simp [isI] at hl
    | _ => simp [isI] at hl
  obtain ⟨g, x, pos, rfl, h1, h2⟩ := key
  obtain ⟨p, rfl, hg⟩ := bltB_some h1
  have hm : X.mg "enumerate" = none := by rw [hx.mg]; exact hz.blt "enumerate" (by simp [bltNames])
  have sx := (isE_plain h2).1
  have base := pi_enumA (elts := els) (kk := kk) (tpos := tp) (p := p) (pos := pos) (gl_of hx hg) hm (pa_cons (pe_frozen (he.E c X Wx _ hx h2)) pa_nil (star_one sx)) (star_one sx)
  rw [hx.K] at base
  refine pi_weak base fun σ H R q => ?_
  obtain ⟨T, ρ, S, rl, sr, p⟩ := q
  unfold evI at p
  refine ⟨T, ρ, S, rl, sr, (Post.split p).impO fun pa S1 T1 H1 s1 r1 p1 x hxx => ?_⟩
  obtain ⟨⟨t, ws⟩, hp, p2⟩ := Post.ofBind p1
  obtain ⟨a, rfl, later⟩ := seq_later r1 hxx hp
  have r2 := r1.lock pa.1
  have st : Step T1 S1.length H1 T1 (lockAt pa.1 S1).2.length H1 := by rw [lock_len]; exact Step.refl _ _ _
  have len := lock_len pa.1 S1
  obtain ⟨xs, xz, xr, z1, z2⟩ := later T1 _ H1 st r2 (Kp.refl _)
  have hz' : ws.length ≤ sizeLine := by rw [← xr.length]; exact xz
  refine ⟨a, xs, rfl, ?_⟩
  cases t with
  | true =>
    refine .inr ⟨z1 rfl, p2 T1 H1 st r2 _ (wlk_enumT (hz := hz') fun T' S' H' s' r' k => ?_)⟩
    obtain ⟨ys, _, y1, y2, _⟩ := later T' S' H' (s'.len len) r' k
    exact ⟨ys, y1, y2 rfl⟩
  | false =>
    refine .inl ⟨z2 rfl, p2 T1 H1 st r2 _ (wlk_enum (hz := hz') fun T' S' H' s' r' k => ?_)⟩
    obtain ⟨ys, _, y1, _, y2⟩ := later T' S' H' (s'.len len) r' k
    exact ⟨ys, y1, y2 rfl⟩⟩
end
end Pd
set_option Elab.async false
set_option linter.all false
set_option maxRecDepth 100000
set_option maxHeartbeats 1000000
/-! Pd18: targets; tests of a comprehension; a list that grows beside. -/
namespace Pd
open PySem PySem.Spec PyProof.Rows L2
def rG (G : Gl0) (t : Tgt) : TG := fun v σ H Q => ∃ T n ρ w ρ', (∀ i, i < n → ¬ T.F (T.m i)) ∧ SR G T n H σ ρ ∧ VR G T n H v w ∧ bindT t w ρ = some ρ' ∧
  ∀ σ', SR G T n H σ' ρ' → (∀ vs, tgIn vs t = true → wipe σ' vs = wipe σ vs) → Q σ' H
def rGs (G : Gl0) (ts : List Tgt) : TGs := fun xs σ H Q => ∃ T n ρ ws ρ', (∀ i, i < n → ¬ T.F (T.m i)) ∧ SR G T n H σ ρ ∧ VRs G T n H xs ws ∧ bindTs ts ws ρ = some ρ' ∧
  ∀ σ', SR G T n H σ' ρ' → (∀ vs, tgsIn vs ts = true → wipe σ' vs = wipe σ vs) → Q σ' H
theorem pg_weak {X : Cx} {e : Expr} {t t' : TG} (h : PG X e t) (i : ∀ v σ H Q, t' v σ H Q → t v σ H Q) : PG X e t' := ⟨fun pins s σ H v u Q I r q => h.run pins s σ H v u Q I r (i v σ H Q q)⟩
theorem pgs_weak {X : Cx} {e : List Expr} {t t' : TGs} (h : PGs X e t) (i : ∀ v σ H Q, t' v σ H Q → t v σ H Q) : PGs X e t' := ⟨fun pins s σ H v u Q I r q => h.run pins s σ H v u Q I r (i v σ H Q q)⟩
theorem wipe_set {σ : L2.St} {i : Nat} {x : Option V} : ∀ {vs : List Nat}, i ∈ vs → wipe (σ.set i x) vs = wipe σ vs
  | [], h => by cases h
  | v :: vs, h => by
    show (wipe (σ.set i x) vs).set v none = (wipe σ vs).set v none
    by_cases hm : i ∈ vs
    · rw [wipe_set hm]
    · obtain rfl := (List.mem_cons.mp h).resolve_right hm
      have : ∀ (us : List Nat), i ∉ us → wipe (σ.set i x) us = (wipe σ us).set i x := by
        intro us
        induction us with
        | nil => intro _; rfl
        | cons u us ih =>
          intro hu
          show (wipe (σ.set i x) us).set u none = ((wipe σ us).set u none).set i x
          rw [ih fun q => hu (List.mem_cons_of_mem _ q), List.set_comm]
          exact fun q => hu (by rw [q]; exact List.mem_cons_self)
      rw [this vs hm, List.set_set]
section
variable {Z : Zc} {c : Sx} {X : Cx} {Wx : WX} {l : Expr} {e a b d : Ex} {es vs : Exs} {ls : List Expr} {σ : L2.St} {H : Hp} {T : Tk} {ρ : Env} {S : Sto} {G : Gl0} {n : Nat}
theorem tg_plain {t : Tgt} {l : Expr} (h : isTg c t l = true) : ∀ a p, l ≠ .Starred a p := by
  intro a p q
  subst q
  cases t <;> simp [isTg] at h
theorem asg_one {e : Expr} {r : List Expr} {env : PySem.Env} (h : ∀ a p, e ≠ .Starred a p) : assignEach (e :: r) env = (false, assign e env) :: assignEach r env := by
  cases e <;> first | rfl | exact absurd rfl (h _ _)
theorem asg_all : ∀ {ts : List Tgt} {ls : List Expr} {env : PySem.Env}, isTgs c ts ls = true → (assignEach ls env).length = ls.length ∧ (assignEach ls env).findIdx? (·.1) = none
  | [], [], _, _ => ⟨rfl, rfl⟩
  | [], _ :: _, _, h => by simp [isTgs] at h
  | _ :: _, [], _, h => by simp [isTgs] at h
  | t :: ts, l :: ls, env, h => by
    simp only [isTgs, Bool.and_eq_true] at h
    obtain ⟨h1, h2⟩ := asg_all (env := env) h.2
    rw [asg_one (tg_plain h.1)]
    refine ⟨by simp [h1], ?_⟩
    rw [List.findIdx?_cons]
    simp only [Bool.false_eq_true, if_false, h2]
    rfl
mutual
theorem pg_rel (hx : XOk Z c X Wx) : ∀ {t : Tgt} {l : Expr}, isTg c t l = true → PG X l (rG Z.G t)
  | .nm i, l, h => by
    cases l <;> simp only [isTg, Bool.and_eq_true, beq_iff_eq, Bool.false_eq_true] at h
    rename_i x p
    obtain ⟨h1, h2⟩ := h
    have hl : L2.Loc X.env.scope x ∧ (X.fn x = true ∨ X.env.scope.names.lookup x = some .local) := by
      unfold L2.Loc
      rw [hx.sc, hx.fnx]
      unfold locB at h2
      simp only [Bool.or_eq_true, Bool.and_eq_true, beq_iff_eq] at h2
      rcases h2 with h2 | ⟨h2, h3⟩
      · exact ⟨.inl h2, .inr h2⟩
      · exact ⟨.inr h2, .inl h3⟩
    refine pg_weak (pg_name hx.nd (by rw [hx.N]; exact h1) hl.1 hl.2) fun v σ H Q q => ?_
    obtain ⟨T, n, ρ, w, ρ', _, sr, hv, hb, k⟩ := q
    unfold bindT at hb
    cases hb
    exact k _ (sr.set hv) fun vs hvs => wipe_set (by simpa [tgIn] using hvs)
  | .tup ts, l, h => by
    cases l <;> simp only [isTg, Bool.false_eq_true] at h
    rename_i es k p
    obtain ⟨h1, h2⟩ := asg_all (env := X.env) h
    refine pg_weak (pg_tup hx.calm (pgs_rel hx h) h1 h2) fun v σ H Q q => ?_
    obtain ⟨T, n, ρ, w, ρ', nf, sr, hv, hb, k⟩ := q
    have hlen : ∀ ws, bindTs ts ws ρ = some ρ' → ws.length = es.length := by
      intro ws hb
      have g1 : ∀ (ts : List Tgt) (ws : List W) (ρ ρ' : Env), bindTs ts ws ρ = some ρ' → ws.length = ts.length := by
        intro ts
        induction ts with
        | nil => intro ws ρ ρ' h; cases ws <;> simp [bindTs] at h <;> rfl
        | cons t ts ih =>
          intro ws ρ ρ' h
          cases ws with
          | nil => simp [bindTs] at h
          | cons w ws =>
            simp only [bindTs] at h
            cases q : bindT t w ρ with
            | none => rw [q] at h; cases h
            | some ρ1 => rw [q] at h; simp only [List.length_cons]; rw [ih ws ρ1 ρ' h]
      have g2 : ∀ (ts : List Tgt) (ls : List Expr), isTgs c ts ls = true → ts.length = ls.length := by
        intro ts
        induction ts with
        | nil => intro ls h; cases ls <;> simp [isTgs] at h <;> rfl
        | cons t ts ih =>
          intro ls h
          cases ls with
          | nil => simp [isTgs] at h
          | cons l ls => simp only [isTgs, Bool.and_eq_true] at h; simp only [List.length_cons]; rw [ih ls h.2]
      rw [g1 ts ws ρ ρ' hb, g2 ts es h]
    unfold bindT at hb
    split at hb
    · rename_i ds
      cases hv with
      | v hd =>
        cases hd with
        | tup hz hr =>
          refine ⟨_, _, rfl, hz.sq, ?_, T, n, ρ, _, ρ', nf, sr, hr.lift, hb, fun σ' s' hw => k σ' s' fun vs hvs => hw vs (by simpa [tgIn] using hvs)⟩
          rw [hr.length, ← hlen _ hb, List.length_map]
    · rename_i ws
      cases hv with
      | seqT hz hr =>
        refine ⟨_, _, rfl, hz.sq, ?_, T, n, ρ, _, ρ', nf, sr, hr, hb, fun σ' s' hw => k σ' s' fun vs hvs => hw vs (by simpa [tgIn] using hvs)⟩
        rw [hr.length, ← hlen _ hb]
    · cases hb
theorem pgs_rel (hx : XOk Z c X Wx) : ∀ {ts : List Tgt} {ls : List Expr}, isTgs c ts ls = true → PGs X ls (rGs Z.G ts)
  | [], [], _ => pgs_weak pgs_nil fun xs σ H Q ⟨T, n, ρ, ws, ρ', nf, sr, hr, hb, k⟩ => by
    cases ws with
    | cons w ws => simp [bindTs] at hb
    | nil =>
      cases hr
      unfold bindTs at hb
      cases hb
      exact ⟨rfl, k σ sr fun _ _ => rfl⟩
  | [], _ :: _, h => by simp [isTgs] at h
  | _ :: _, [], h => by simp [isTgs] at h
  | t :: ts, l :: ls, h => by
    simp only [isTgs, Bool.and_eq_true] at h
    refine pgs_weak (pgs_cons (pg_rel hx h.1) (pgs_rel hx h.2) (by rw [asg_one (tg_plain h.1)]; rfl)) fun xs σ H Q ⟨T, n, ρ, ws, ρ', nf, sr, hr, hb, k⟩ => ?_
    cases hr with
    | nil => simp [bindTs] at hb
    | @cons x xs w ws hv hr =>
      simp only [bindTs] at hb
      cases q : bindT t w ρ with
      | none => rw [q] at hb; cases hb
      | some ρ1 =>
        rw [q] at hb
        refine ⟨x, xs, rfl, T, n, ρ, w, ρ1, nf, sr, hv, q, fun σ1 sr1 hw1 => ?_⟩
        refine ⟨T, n, ρ1, ws, ρ', nf, sr1, hr, hb, fun σ' s' hw => k σ' s' fun vs hvs => ?_⟩
        simp only [tgsIn, Bool.and_eq_true] at hvs
        rw [hw vs hvs.2, hw1 vs hvs.1]
end
/-- a test of a comprehension -/
def RB (G : Gl0) (r : Env → Sto → R Bool) (Wx : WX) : TT := fun σ H Q => ∃ T ρ S, Rel G T S H ∧ SR G T S.length H σ ρ ∧ Post G T S.length H (r ρ S) (fun b S' T' H' => Q b H') (XW G Wx σ)
structure SndC (Z : Zc) (cs : Exs) : Prop where
  C : ∀ (c : Sx) (X : Cx) (Wx : WX) (ls : List Expr), XOk Z c X Wx → isCs Z.y c cs ls = true → PTs X ls (RB Z.G (evCs Z.C cs) Wx)
theorem pts_weak {ls : List Expr} {t t' : TT} (h : PTs X ls t) (i : ∀ σ H Q, t' σ H Q → t σ H Q) : PTs X ls t' := ⟨fun pins s σ H Q I q => h.run pins s σ H Q I (i σ H Q q)⟩
theorem sndC_nil : SndC Z .nil := ⟨fun c X Wx ls hx h => by
  cases ls with
  | nil => exact pts_weak pts_nil fun σ H Q ⟨T, ρ, S, rl, sr, p⟩ => p.here rl
  | cons _ _ => simp [isCs] at h⟩
theorem sndC_cons (he : Snd Z e) : SndC Z (.cons e es) := ⟨fun c X Wx ls hx h => by
  match ls, h with
  | [], h => simp [isCs] at h
  | _ :: _ :: _, h => simp [isCs] at h
  | [l], h =>
    simp only [isCs, Bool.and_eq_true] at h
    obtain ⟨⟨h1, h2⟩, h3⟩ := h
    have hn : es = .nil := by cases es <;> first | rfl | cases h1
    subst hn
    refine pts_weak (pts_one (he.T h2 c X Wx l hx h3)) fun σ H Q ⟨T, ρ, S, rl, sr, p⟩ => ?_
    unfold evCs at p
    refine test_then rl sr p fun t S1 T1 H1 s1 r1 sr1 p1 => ?_
    cases t with
    | true => unfold evCs at p1; exact p1.here r1
    | false => exact p1.here r1⟩
end
/-! ### a list that grows beside -/
section
variable {G : Gl0} {T T' : Tk} {H H' : Hp} {n : Nat}
mutual
theorem VD.fr {K : PySem.W.Frag} (h : ∀ a o, T.F a → H a = some o → H' a = some o) : ∀ {x : V} {d : PyData}, VD K T H x d → VD K T H' x d
  | _, _, .none => .none
  | _, _, .bool b => .bool b
  | _, _, .int i => .int i
  | _, _, .str i => .str i
  | _, _, .tup q r => .tup ⟨q.1, h _ _ q.1 q.2.1, q.2.2⟩ (VDs.fr h r)
  | _, _, .lst q r => .lst ⟨q.1, h _ _ q.1 q.2.1, q.2.2⟩ (VDs.fr h r)
theorem VDs.fr {K : PySem.W.Frag} (h : ∀ a o, T.F a → H a = some o → H' a = some o) : ∀ {xs : List V} {ds : List PyData}, VDs K T H xs ds → VDs K T H' xs ds
  | _, _, .nil => .nil
  | _, _, .cons q r => .cons (VD.fr h q) (VDs.fr h r)
end
mutual
theorem VR.fr (h : ∀ a o, T.F a → H a = some o → H' a = some o) : ∀ {x : V} {w : W}, VR G T n H x w → VR G T n H' x w
  | _, _, .v q => .v (q.fr h)
  | _, _, .loc q => .loc q
  | _, _, .fn f => .fn f
  | _, _, .rng q e => .rng q (h _ _ q e)
  | _, _, .ro q r => .ro ⟨q.1, q.2.imp (fun ⟨z1, o, z2⟩ => ⟨z1, o, h _ _ z1 z2⟩) id⟩ (r.fr h)
  | _, _, .seqT q r => .seqT ⟨q.1, h _ _ q.1 q.2.1, q.2.2⟩ (VRs.fr h r)
  | _, _, .seqL q r => .seqL ⟨q.1, h _ _ q.1 q.2.1, q.2.2⟩ (VRs.fr h r)
theorem VRs.fr (h : ∀ a o, T.F a → H a = some o → H' a = some o) : ∀ {xs : List V} {ws : List W}, VRs G T n H xs ws → VRs G T n H' xs ws
  | _, _, .nil => .nil
  | _, _, .cons q r => .cons (VR.fr h q) (VRs.fr h r)
end
/-- D is nobody's -/
structure Lone (T : Tk) (n : Nat) (D : Addr) : Prop where
  f : ¬ T.F D
  m : ∀ i, i < n → T.m i ≠ D
theorem Lone.step {D : Addr} {o : HO} {n' : Nat} (l : Lone T n D) (s : Step T n H T' n' H') (h : H D = some o) : Lone T' n' D ∧ H' D = some o := by
  refine ⟨⟨fun q => ?_, fun i hi e => ?_⟩, s.kp D o h l.m⟩
  · rcases s.fn D q with z | z
    · exact l.f z
    · rw [h] at z; cases z
  · by_cases hn : i < n
    · rw [s.mm i hn] at e; exact l.m i hn e
    · have := s.mn i (by omega) hi
      rw [e, h] at this; cases this
theorem upd_keep {D : Addr} {o : HO} (hf : ¬ T.F D) : ∀ a u, T.F a → H a = some u → upd H D o a = some u := fun a u h e => by
  rw [upd_ne]
  · exact e
  · intro q; subst q; exact hf h
theorem Rel.beside {S : Sto} {D : Addr} {o : HO} (r : Rel G T S H) (l : Lone T S.length D) : Rel G T S (upd H D o) := by
  have k := upd_keep (H := H) (o := o) l.f
  have km : ∀ i u, i < S.length → H (T.m i) = some u → upd H D o (T.m i) = some u := fun i u hi e => by rw [upd_ne (l.m i hi)]; exact e
  refine ⟨fun i u hu => ?_, r.inj, r.nf, fun a ha => ?_⟩
  · have hi := (List.getElem?_eq_some_iff.mp hu).1
    have q := r.obj i u hu
    cases u with
    | lst ws => obtain ⟨xs, h1, h2, h3⟩ := q; exact ⟨xs, km i _ hi h1, h2, h3.fr k⟩
    | fz ws => obtain ⟨xs, h1, h2, h3⟩ := q; exact ⟨xs, km i _ hi h1, h2, h3.fr k⟩
    | gone => obtain ⟨u, h1⟩ := q; exact ⟨u, km i _ hi h1⟩
    | dic _ => exact q.elim
    | ins _ _ => exact q.elim
  · by_cases e : a = D
    · subst e; simp [upd]
    · rw [upd_ne e]; exact r.ft a ha
theorem Step.beside {D : Addr} {o : HO} {n' : Nat} (s : Step T n H T' n' H') (h : H D = none) : Step T n H T' n' (upd H' D o) :=
  ⟨s.le, s.mm, s.mn, s.ff, s.fn, fun a u e q => by
    have : a ≠ D := fun z => by subst z; rw [h] at e; cases e
    rw [upd_ne this]; exact s.kp a u e q, fun a e => by
    by_cases z : a = D
    · subst z; exact absurd h e
    · rw [upd_ne z]; exact s.tr a e⟩
end
end Pd
set_option Elab.async false
set_option linter.all false
set_option maxRecDepth 100000
set_option maxHeartbeats 1000000
/-! Pd19: comprehensions. -/
namespace Pd
open PySem PySem.Spec PyProof.Rows L2
theorem Post.mk {G : Gl0} {α : Type} {T : Tk} {n : Nat} {H : Hp} {r : R α} {ok : α → Sto → Tk → Hp → Prop} {X : Exn → Sto → Tk → Hp → Prop} {a : α} {S' : Sto} (e : r = .ok a S')
    (h : ∀ T' H', Step T n H T' S'.length H' → Rel G T' S' H' → ok a S' T' H') : Post G T n H r ok X := by rw [e]; exact h
theorem R.ok_bind {α β : Type} {r : R α} {f : α → Sto → R β} {b : β} {S : Sto} (h : r.bind f = .ok b S) : ∃ a S1, r = .ok a S1 ∧ f a S1 = .ok b S := by
  cases r with
  | ok a S1 => exact ⟨a, S1, rfl, h⟩
  | exc _ _ => cases h
  | bad => cases h
theorem R.ok_of {α : Type} {o : Option α} {S S' : Sto} {a : α} (h : R.of o S = .ok a S') : o = some a ∧ S' = S := by
  cases o with
  | none => cases h
  | some b => cases h; exact ⟨rfl, rfl⟩
theorem kr_ok {α : Type} {S S' : Sto} {r : R α} {a : α} (h : KR S r) (e : r = .ok a S') : Kp S S' := by rw [e] at h; exact h
theorem wipe_wipe (σ : L2.St) : ∀ (vs us : List Nat), (∀ v ∈ us, v ∈ vs) → wipe (wipe σ us) vs = wipe σ vs
  | vs, [], _ => rfl
  | vs, u :: us, h => by
    show wipe ((wipe σ us).set u none) vs = _
    rw [wipe_set (h u List.mem_cons_self), wipe_wipe σ vs us fun v hv => h v (List.mem_cons_of_mem _ hv)]
/-- the state of a list that is put together at D -/
structure LS (G : Gl0) (T1 : Tk) (S1 : Sto) (H1 : Hp) (D : Addr) (T' : Tk) (S' : Sto) (H' : Hp) (wacc : List W) : Prop where
  hD : H1 D = none
  st : Step T1 S1.length H1 T' S'.length H'
  rl : Rel G T' S' H'
  kp : Kp S1 S'
  acc : ∃ acc, H' D = some (.lst acc) ∧ VRs G T' S'.length H' acc wacc
  lone : Lone T' S'.length D
section
variable {G : Gl0} {T1 T' T2 : Tk} {S1 S' S2 : Sto} {H1 H' H2 : Hp} {D : Addr} {wacc : List W}
theorem LS.start (r : Rel G T1 S1 H1) (hD : H1 D = none) : LS G T1 S1 H1 D T1 S1 (upd H1 D (.lst [])) [] :=
  have l : Lone T1 S1.length D := ⟨fun h => r.ft D h hD, fun i hi => fun e => r.there hi (by rw [e]; exact hD)⟩
  ⟨hD, (Step.refl _ _ _).beside hD, r.beside l, Kp.refl _, ⟨[], by simp [upd], .nil⟩, l⟩
theorem LS.go (h : LS G T1 S1 H1 D T' S' H' wacc) (s : Step T' S'.length H' T2 S2.length H2) (r : Rel G T2 S2 H2) (k : Kp S' S2) : LS G T1 S1 H1 D T2 S2 H2 wacc := by
  obtain ⟨acc, h1, h2⟩ := h.acc
  obtain ⟨l, h3⟩ := h.lone.step s h1
  exact ⟨h.hD, h.st.trans s, r, h.kp.trans k, ⟨acc, h3, h2.step h.rl.nf s⟩, l⟩
theorem LS.push (h : LS G T1 S1 H1 D T' S' H' wacc) {y : V} {w : W} (hy : VR G T' S'.length H' y w) (hl : wacc.length < sizeLine) :
    ∃ acc, H' D = some (.lst acc) ∧ acc.length < sizeLine ∧ LS G T1 S1 H1 D T' S' (upd H' D (.lst (acc ++ [y]))) (wacc ++ [w]) := by
  obtain ⟨acc, h1, h2⟩ := h.acc
  refine ⟨acc, h1, by rw [h2.length]; exact hl, h.hD, h.st.beside h.hD, h.rl.beside h.lone, h.kp, ⟨acc ++ [y], by simp [upd], ?_⟩, h.lone⟩
  have k := upd_keep (H := H') (o := .lst (acc ++ [y])) h.lone.f
  exact (h2.fr k).append (.cons (hy.fr k) .nil)
theorem LS.fin (h : LS G T1 S1 H1 D T' S' H' wacc) (hl : wacc.length ≤ sizeLine) : RR G H1 T' S'.length H' (.ref D) (mkSeq false wacc) true := by
  obtain ⟨acc, h1, h2⟩ := h.acc
  refine ⟨D, acc, rfl, h.lone.f, h.lone.m, h.hD, h1, by rw [h2.length]; exact hl, ?_⟩
  unfold mkSeq
  cases e : allV wacc with
  | none => exact .inr ⟨wacc, rfl, h2⟩
  | some ds =>
    rw [allV_some e] at h2
    exact .inl ⟨ds, rfl, h2.data⟩
end
/-- what a turn of a comprehension puts on the list -/
abbrev lcTurn (C : CallS) (cs : Exs) (elt : Ex) (tg : Tgt) (ρ : Env) (own : List Nat) : W → Sto → R (List W) := lcStep tg ρ own (evCs C cs) fun ρ1 S2 => (evE C elt ρ1 S2).bind fun y S3 => .ok [y.1] S3
theorem lcLoop_len {f : W → Sto → R (List W)} (h : ∀ w S ys S', f w S = .ok ys S' → ys.length ≤ 1) : ∀ {ws : List W} {S S' : Sto} {out : List W}, lcLoop f ws S = .ok out S' → out.length ≤ ws.length
  | [], _, _, _, e => by unfold lcLoop at e; cases e; simp
  | w :: ws, S, S', out, e => by
    unfold lcLoop at e
    obtain ⟨ys, S1, e1, e2⟩ := R.ok_bind e
    obtain ⟨zs, S2, e3, e4⟩ := R.ok_bind e2
    cases e4
    have := h _ _ _ _ e1
    have := lcLoop_len h e3
    simp; omega
theorem lcTurn_len {C : CallS} {cs : Exs} {elt : Ex} {tg : Tgt} {ρ : Env} {own : List Nat} {w : W} {S S' : Sto} {ys : List W} (h : lcTurn C cs elt tg ρ own w S = .ok ys S') : ys.length ≤ 1 := by
  unfold lcTurn lcStep at h
  split at h
  · cases h
  · obtain ⟨t, S2, e1, e2⟩ := R.ok_bind h
    split at e2
    · obtain ⟨y, S3, e3, e4⟩ := R.ok_bind e2; cases e4; simp
    · cases e2; simp
section
variable {Z : Zc} {c : Sx} {X : Cx} {Wx : WX} {l : Expr} {e a b d elt : Ex} {es vs cs : Exs} {ls : List Expr} {σ : L2.St} {H : Hp} {T : Tk} {ρ : Env} {S : Sto} {G : Gl0} {n : Nat}
abbrev WN : WX := fun _ _ _ _ => False
/-- one turn: the target, the tests, the item -/
theorem lc_turn {T1 T' : Tk} {S1 S' S2 : Sto} {H1 H' : Hp} {D : Addr} {wacc ys : List W} {tg : Tgt} {own : List Nat} {w : W} {x : V} {σ : L2.St} {ρ : Env} {Nx : Hp → Prop} (ls : LS Z.G T1 S1 H1 D T' S' H' wacc)
    (sr : SR Z.G T' S'.length H' σ ρ) (hx : VR Z.G T' S'.length H' x w) (hin : tgIn own tg = true) (e : lcTurn Z.C cs elt tg ρ own w S' = .ok ys S2) (hl : wacc.length < sizeLine)
    (nx : ∀ T2 H2, LS Z.G T1 S1 H1 D T2 S2 H2 (wacc ++ ys) → Nx H2) :
    rG Z.G tg x (wipe σ own) H' fun σ2 H2 => wipe σ2 own = wipe σ own ∧ RB Z.G (evCs Z.C cs) WN σ2 H2 fun b H3 =>
      if b = true then RV Z.G (evE Z.C elt) WN σ2 H3 fun y H4 => ∃ acc, H4 D = some (.lst acc) ∧ acc.length < sizeLine ∧ Nx (upd H4 D (.lst (acc ++ [y]))) else Nx H3 := by
  unfold lcTurn lcStep at e
  split at e
  · cases e
  · rename_i ρ1 hb
    refine ⟨T', S'.length, wipeE ρ own, w, ρ1, ls.rl.nf, sr.wipe own, hx, hb, fun σ2 sr2 hw => ⟨(hw own hin).trans (wipe_wipe σ own own fun _ h => h), ?_⟩⟩
    obtain ⟨t, S3, e1, e2⟩ := R.ok_bind e
    refine ⟨T', ρ1, S', ls.rl, sr2, Post.mk e1 fun T3 H3 s3 r3 => ?_⟩
    have ls3 := ls.go s3 r3 (kr_ok (evCs_kr (callN_kr Z.Pr Z.d) cs ρ1 S') e1)
    cases t with
    | false => cases e2; exact nx T3 H3 (by rw [List.append_nil]; exact ls3)
    | true =>
      obtain ⟨y, S4, e3, e4⟩ := R.ok_bind e2
      cases e4
      refine ⟨T3, ρ1, S3, r3, sr2.step ls.rl.nf s3, Post.mk e3 fun T4 H4 s4 r4 v hv => ?_⟩
      have ls4 := ls3.go s4 r4 (kr_ok (evE_kr (callN_kr Z.Pr Z.d) elt ρ1 S3) e3)
      obtain ⟨acc, q1, q2, q3⟩ := ls4.push hv hl
      exact ⟨acc, q1, q2, nx T4 _ q3⟩
/-- the whole walk -/
theorem lc_walk {T1 : Tk} {S1 Send : Sto} {H1 : Hp} {D : Addr} {ws out : List W} {tg : Tgt} {own : List Nat} {σ : L2.St} {ρ : Env} {J : L2.It} {Qd : Hp → Prop} (rl : Rel Z.G T1 S1 H1) (sr : SR Z.G T1 S1.length H1 σ ρ) (wk : Wlk Z.G J T1 S1 ws H1) (hin : tgIn own tg = true)
    (e : lcLoop (lcTurn Z.C cs elt tg ρ own) ws S1 = .ok out Send) (hD : H1 D = none) (fin : ∀ T' H', LS Z.G T1 S1 H1 D T' Send H' out → Qd H') :
    ∃ W : Nat → Nat → Hp → Prop, (∃ m, W 0 m (upd H1 D (.lst []))) ∧ ∀ i m H, W i m H →
      (J.stop i H ∧ Qd H) ∨ (J.go i H ∧ ∃ Nx : Hp → Prop, (∀ H', Nx H' → ∃ m', m' < m ∧ W (i + 1) m' H') ∧ ∀ x H', J.yld i H x H' → rG Z.G tg x (wipe σ own) H' fun σ2 H2 => wipe σ2 own = wipe σ own ∧ RB Z.G (evCs Z.C cs) WN σ2 H2 fun b H3 =>
        if b = true then RV Z.G (evE Z.C elt) WN σ2 H3 fun y H4 => ∃ acc, H4 D = some (.lst acc) ∧ acc.length < sizeLine ∧ Nx (upd H4 D (.lst (acc ++ [y]))) else Nx H3) := by
  let W : Nat → Nat → Hp → Prop := fun i m H => m = ws.length - i ∧ i ≤ ws.length ∧ ∃ T' S' wacc rest, lcLoop (lcTurn Z.C cs elt tg ρ own) (ws.drop i) S' = .ok rest Send ∧ out = wacc ++ rest ∧ wacc.length ≤ i ∧ LS Z.G T1 S1 H1 D T' S' H wacc
  refine ⟨W, ⟨ws.length, rfl, Nat.zero_le _, T1, S1, [], out, e, rfl, Nat.le_refl _, LS.start rl hD⟩, ?_⟩
  rintro i m H ⟨rfl, hi, T', S', wacc, rest, q1, q2, q3, ls⟩
  by_cases hlt : i < ws.length
  · have hd : ws.drop i = ws[i] :: ws.drop (i + 1) := List.drop_eq_getElem_cons hlt
    rw [hd] at q1
    unfold lcLoop at q1
    obtain ⟨ys, S2, q4, q5⟩ := R.ok_bind q1
    obtain ⟨rest2, S3, q6, q7⟩ := R.ok_bind q5
    cases q7
    obtain ⟨go, yl⟩ := wk.item T' S' H ls.st ls.rl ls.kp i ws[i] (List.getElem?_eq_getElem hlt)
    refine .inr ⟨go, fun H' => ∃ T2, LS Z.G T1 S1 H1 D T2 S2 H' (wacc ++ ys), fun H' ⟨T2, l2⟩ => ⟨ws.length - (i + 1), by omega, rfl, hlt, T2, S2, wacc ++ ys, rest2, q6, by rw [q2, List.append_assoc], ?_, l2⟩, fun x H' hy => ?_⟩
    · have := lcTurn_len q4; simp; omega
    · obtain ⟨T'', s'', r'', hx⟩ := yl x H' hy
      have ls2 := ls.go s'' r'' (Kp.refl _)
      exact lc_turn ls2 ((sr.step rl.nf ls2.st)) hx hin q4 (by have := wk.len; omega) fun T2 H2 l => ⟨T2, l⟩
  · have ei : i = ws.length := by omega
    subst ei
    rw [List.drop_length] at q1
    unfold lcLoop at q1
    cases q1
    rw [List.append_nil] at q2
    subst q2
    exact .inl ⟨wk.stop T' _ H ls.st ls.rl ls.kp, fin T' H ls⟩
theorem ow_of {N : List Str} : ∀ {own : List Nat}, (own.filterMap fun i => (N[i]?).map fun x => (x, i)).length = own.length → ((own.filterMap fun i => (N[i]?).map fun x => (x, i)).map (·.2)) = own ∧
    ∀ p ∈ (own.filterMap fun i => (N[i]?).map fun x => (x, i)), N[p.2]? = some p.1
  | [], _ => ⟨rfl, fun _ h => by cases h⟩
  | i :: own, h => by
    rw [List.filterMap_cons] at h ⊢
    have hle := List.length_filterMap_le (fun i => (N[i]?).map fun x => (x, i)) own
    cases e : N[i]? with
    | none =>
      rw [e] at h
      simp only [Option.map_none, List.length_cons] at h
      omega
    | some x =>
      rw [e] at h
      simp only [Option.map_some, List.length_cons, Nat.succ.injEq, Nat.add_right_cancel_iff] at h
      obtain ⟨h1, h2⟩ := ow_of h
      simp only [Option.map_some]
      refine ⟨by rw [List.map_cons, h1], fun p hp => ?_⟩
      rcases List.mem_cons.mp hp with rfl | hp
      · exact e
      · exact h2 p hp
theorem blk_of (hx : XOk Z c X Wx) {s : Scope} {own : List Nat} (h : blkB c s own = true) :
    ∃ ow : List (Str × Nat), ow.map (·.2) = own ∧ BlkOk X.N X.env.scope s ow := by
  unfold blkB at h
  simp only [Bool.and_eq_true, beq_iff_eq, List.all_eq_true, Bool.or_eq_true, Bool.not_eq_true', List.contains_iff_mem, beq_eq_false_iff_ne] at h
  obtain ⟨⟨⟨⟨h1, h2⟩, h3⟩, h4⟩, h5⟩ := h
  obtain ⟨o1, o2⟩ := ow_of h2
  refine ⟨_, o1, ⟨h1, h3, ?_, fun y hy e => ?_, fun y hy e => ?_⟩⟩
  · rw [hx.N]; exact o2
  · rw [hx.sc]
    rcases h4 y hy with (q | q) | q
    · exact absurd e q
    · exact .inl q
    · exact .inr q
  · rw [hx.N]
    rcases h5 y hy with (q | q) | q
    · rcases e with e | e
      · rw [e] at q; cases q
      · rw [e] at q; cases q
    · exact .inl q
    · refine .inr fun m => ?_
      rw [List.contains_iff_mem.mpr m] at q; cases q
theorem XOk.blk (hx : XOk Z c X Wx) {sc : Scope} (s : Shared) (H : Hp) (C : Addr) (cl : List (Str × Addr)) (fp : List Addr) : XOk Z (inLc c sc) (X.blk s H sc (compEnvC sc cl C X.env) fp) WN := by
  refine ⟨hx.prog, hx.w, hx.K, hx.mg, hx.base, hx.N, ?_, rfl, hx.nd, hx.calm, hx.room, takes_none5⟩
  show relabel sc X.env = relS sc c.sc
  rw [← hx.sc]
  rfl
theorem fold_plain {y : Sym} {it : It} {l : Expr} (h : isI y c it l = true) : ∀ env x, foldedSetIterable l env x = pure x := by
  intro env x
  cases l with
  | Set a k p =>
    cases it <;> simp [isI] at h
    exact absurd rfl ((isE_plain h).2.1 _ _ _)
  | _ => rfl
theorem lc_read {it : It} {tg : Tgt} {own : List Nat} {σ : L2.St} {H : Hp} {Q : VK} (hin : tgIn own tg = true) (q : RE Z.G (evE Z.C (.lc elt tg it cs own)) Wx σ H Q) :
    tLc (RI Z.G (evI Z.C it) Wx) (rG Z.G tg) (RB Z.G (evCs Z.C cs) WN) (RV Z.G (evE Z.C elt) WN) own σ H Q := by
  obtain ⟨T, ρ, S, rl, sr, p⟩ := q
  unfold evE at p
  refine ⟨T, ρ, S, rl, sr, ?_⟩
  refine (Post.split p).impO fun p0 S1 T1 H1 s1 r1 p1 J wk D hD => ?_
  cases hw : lcLoop (lcTurn Z.C cs elt tg ρ own) p0.1 S1 with
  | bad => rw [show lcLoop _ p0.1 S1 = R.bad from hw] at p1; exact p1.elim
  | exc ex Se => rw [show lcLoop _ p0.1 S1 = R.exc ex Se from hw] at p1; exact p1.elim
  | ok out Send =>
    rw [show lcLoop _ p0.1 S1 = R.ok out Send from hw] at p1
    have hlen : out.length ≤ sizeLine := Nat.le_trans (lcLoop_len (fun _ _ _ _ h => lcTurn_len h) hw) wk.len
    refine lc_walk r1 (sr.step rl.nf s1) wk hin hw hD fun T' H' ls => ?_
    have ul := unlock_len p0.2 Send
    refine p1 T' H' (by rw [ul]; exact ls.st) (ls.rl.unlock _) (.ref D) ?_
    show RR Z.G H T' (unlock p0.2 Send).length H' (.ref D) (mkSeq false out) true
    rw [ul]
    exact (ls.fin hlen).back s1
structure LcParts (Z : Zc) (X : Cx) (Wx : WX) (elt : Ex) (tg : Tgt) (it : It) (cs : Exs) (own : List Nat) (x t i : Expr) (fs : List Expr) (s : Scope) : Prop where
  hin : tgIn own tg = true
  hi : PI X t i (RI Z.G (evI Z.C it) Wx)
  ow : ∃ ow : List (Str × Nat), ow.map (·.2) = own ∧ BlkOk X.N X.env.scope s ow
  hg : ∀ (s' : Shared) (H : Hp) (C : Addr) (cl : List (Str × Addr)) (fp : List Addr), PG (X.blk s' H s (compEnvC s cl C X.env) fp) t (rG Z.G tg)
  ht : ∀ (s' : Shared) (H : Hp) (C : Addr) (cl : List (Str × Addr)) (fp : List Addr), PTs (X.blk s' H s (compEnvC s cl C X.env) fp) fs (RB Z.G (evCs Z.C cs) WN)
  he : ∀ (s' : Shared) (H : Hp) (C : Addr) (cl : List (Str × Addr)) (fp : List Addr), PE (X.blk s' H s (compEnvC s cl C X.env) fp) x (RV Z.G (evE Z.C elt) WN)
  hs : ∀ v, foldedSetIterable i X.env v = pure v
theorem lc_parts {it : It} {tg : Tgt} {own : List Nat} {l : Expr} (hit : SndI Z it) (hcs : SndC Z cs) (helt : Snd Z elt) (hx : XOk Z c X Wx) (hl : isE Z.y c (.lc elt tg it cs own) l = true) :
    ∃ (x t i : Expr) (fs : List Expr) (s : Scope) (pos : Pos), l = .ListComp x [⟨t, i, fs, 0⟩] s pos ∧ LcParts Z X Wx elt tg it cs own x t i fs s := by
  have key : ∃ (x t i : Expr) (fs : List Expr) (s : Scope) (pos : Pos), l = .ListComp x [⟨t, i, fs, 0⟩] s pos ∧ blkB c s own = true ∧ tgOk it tg = true ∧ tgIn own tg = true ∧ isI Z.y c it i = true ∧ isTg (inLc c s) tg t = true ∧
      isCs Z.y (inLc c s) cs fs = true ∧ isE Z.y (inLc c s) elt x = true := by
    cases l with
    | ListComp x gs s pos =>
      match gs, hl with
      | [⟨t, i, fs, a⟩], hl =>
        by_cases ha : a = 0
        · subst ha
          simp only [isE, Bool.and_eq_true] at hl
          obtain ⟨⟨⟨⟨⟨⟨h1, h2⟩, h3⟩, h4⟩, h5⟩, h6⟩, h7⟩ := hl
          exact ⟨x, t, i, fs, s, pos, rfl, h1, h2, h3, h4, h5, h6, h7⟩
        · simp [isE, ha] at hl
      | [], hl => simp [isE] at hl
      | _ :: _ :: _, hl => simp [isE] at hl
    | _ => simp [isE] at hl
  obtain ⟨x, t, i, fs, s, pos, rfl, h1, h2, h3, h4, h5, h6, h7⟩ := key
  exact ⟨x, t, i, fs, s, pos, rfl, h3, hit.I c X Wx tg t i hx h4 h2 (tup_of h5), blk_of hx h1, fun s' H' C cl fp => pg_rel (hx.blk s' H' C cl fp) h5, fun s' H' C cl fp => hcs.C _ _ _ fs (hx.blk s' H' C cl fp) h6,
    fun s' H' C cl fp => pe_frozen (helt.E _ _ _ x (hx.blk s' H' C cl fp) h7), fun v => fold_plain h4 _ v⟩
theorem snd_lc {it : It} {tg : Tgt} {own : List Nat} (hit : SndI Z it) (hcs : SndC Z cs) (helt : Snd Z elt) : Snd Z (.lc elt tg it cs own) := by
  refine snd_of (fun c X Wx l hx hl => ?_) (fun c l h env whole => ?_) (fun c o ls p => by simp [isE])
  · obtain ⟨x, t, i, fs, s, pos, rfl, P⟩ := lc_parts hit hcs helt hx hl
    obtain ⟨ow, o1, ok⟩ := P.ow
    have base := pe_lc (pos := pos) hx.calm hx.nd P.hi ok P.hg P.ht P.he P.hs
    rw [o1] at base
    exact pe_weak base fun σ H Q q => lc_read P.hin q
  · cases l <;> first | rfl | simp [isE] at h
/-- name = [..]: stored at once, or as any value -/
theorem ps_set_lc {it : It} {tg : Tgt} {own : List Nat} {l : Expr} {k : Nat} {y : Str} {py spos : Pos} (hit : SndI Z it) (hcs : SndC Z cs) (helt : Snd Z elt) (hx : XOk Z c X Wx) (hl : isE Z.y c (.lc elt tg it cs own) l = true)
    (hk : isTg c (.nm k) (.Name y py) = true) :
    PS X (.Assign [.Name y py] l spos) (tAsg (RE Z.G (evE Z.C (.lc elt tg it cs own)) Wx) (gName k)) := by
  obtain ⟨x, t, i, fs, s, pos, rfl, P⟩ := lc_parts hit hcs helt hx hl
  obtain ⟨ow, o1, ok⟩ := P.ow
  simp only [isTg, Bool.and_eq_true, beq_iff_eq] at hk
  obtain ⟨k1, k2⟩ := hk
  have hloc : L2.Loc X.env.scope y ∧ (X.fn y = true ∨ X.env.scope.names.lookup y = some .local) := by
    unfold L2.Loc
    rw [hx.sc, hx.fnx]
    unfold locB at k2
    simp only [Bool.or_eq_true, Bool.and_eq_true, beq_iff_eq] at k2
    rcases k2 with k2 | ⟨k2, k3⟩
    · exact ⟨.inl k2, .inr k2⟩
    · exact ⟨.inr k2, .inl k3⟩
  have sw : ∃ b : Bool, swapsWith (.ListComp x [⟨t, i, fs, 0⟩] s pos) (some (.Name y py)) spos.line X.env = pure b ∧ (b = true → X.env.scope.names.lookup y = some .local) :=
    ⟨_, rfl, fun h => by
      simp only [Bool.and_eq_true, beq_iff_eq] at h
      exact h.1.1.2⟩
  obtain ⟨b, hb, hloc2⟩ := sw
  cases b with
  | true =>
    have base := ps_setLc (i := k) hx.calm hx.nd (by rw [hx.N]; exact k1) (hloc2 rfl) hb P.hi ok P.hg P.ht P.he P.hs
    rw [o1] at base
    exact ⟨fun pins s' σ H D I q => base.run pins s' σ H D I (lc_read P.hin q)⟩
  | false =>
    exact ps_set hx.nd (by rw [hx.N]; exact k1) hloc.1 ((snd_lc hit hcs helt).E c X Wx _ hx hl) hb hloc.2
/-! ### a new list becomes an object of the store -/
mutual
theorem VR.ofM {T1 T2 : Tk} {n n' : Nat} {H : Hp} (hF : T2.F = T1.F) (hm : ∀ i, i < n → T2.m i = T1.m i) (hn : n ≤ n') : ∀ {x : V} {w : W}, VR G T1 n H x w → VR G T2 n' H x w
  | _, _, .v h => .v (h.ofF hF)
  | _, _, .loc h => by rw [← hm _ h]; exact .loc (Nat.lt_of_lt_of_le h hn)
  | _, _, .fn f => .fn f
  | _, _, .rng h e => .rng (by rw [hF]; exact h) e
  | _, _, .ro h r => .ro ⟨h.1, by rw [hF]; exact h.2⟩ (r.ofF hF)
  | _, _, .seqT h r => .seqT ⟨by rw [hF]; exact h.1, h.2⟩ (VRs.ofM hF hm hn r)
  | _, _, .seqL h r => .seqL ⟨by rw [hF]; exact h.1, h.2⟩ (VRs.ofM hF hm hn r)
theorem VRs.ofM {T1 T2 : Tk} {n n' : Nat} {H : Hp} (hF : T2.F = T1.F) (hm : ∀ i, i < n → T2.m i = T1.m i) (hn : n ≤ n') : ∀ {xs : List V} {ws : List W}, VRs G T1 n H xs ws → VRs G T2 n' H xs ws
  | _, _, .nil => .nil
  | _, _, .cons h r => .cons (VR.ofM hF hm hn h) (VRs.ofM hF hm hn r)
end
def Tk.ext (T : Tk) (n : Nat) (a : Addr) : Tk := ⟨fun i => if i = n then a else T.m i, T.F⟩
theorem ext_at (T : Tk) (n : Nat) (a : Addr) : (T.ext n a).m n = a := if_pos rfl
theorem ext_ne (T : Tk) {n i : Nat} (a : Addr) (h : i ≠ n) : (T.ext n a).m i = T.m i := if_neg h
theorem box_rel {T1 : Tk} {S1 : Sto} {H1 : Hp} {a : Addr} {xs : List V} {ws : List W} (r : Rel G T1 S1 H1) (hf : ¬ T1.F a) (hm : ∀ i, i < S1.length → T1.m i ≠ a) (ha : H1 a = some (.lst xs)) (hl : xs.length ≤ sizeLine) (hv : VRs G T1 S1.length H1 xs ws) :
    (∀ T n H, Step T n H T1 S1.length H1 → H a = none → Step T n H (T1.ext S1.length a) (S1 ++ [Ob.lst ws]).length H1) ∧ Rel G (T1.ext S1.length a) (S1 ++ [Ob.lst ws]) H1 ∧ VR G (T1.ext S1.length a) (S1 ++ [Ob.lst ws]).length H1 (.ref a) (.loc S1.length) := by
  have len : (S1 ++ [Ob.lst ws]).length = S1.length + 1 := by simp
  have em : ∀ i, i < S1.length → (T1.ext S1.length a).m i = T1.m i := fun i hi => ext_ne T1 a (by omega)
  have ups : ∀ {xs : List V} {us : List W}, VRs G T1 S1.length H1 xs us → VRs G (T1.ext S1.length a) (S1 ++ [Ob.lst ws]).length H1 xs us := fun h => VRs.ofM (T1 := T1) (T2 := T1.ext S1.length a) (n := S1.length) rfl em (by omega) h
  refine ⟨fun T n H s h0 => ⟨by have := s.le; omega, fun i hi => ?_, fun i h1 h2 => ?_, s.ff, s.fn, s.kp, s.tr⟩, ⟨fun i o e => ?_, fun i j hi hj e => ?_, fun i hi => ?_, r.ft⟩, ?_⟩
  · rw [em i (by have := s.le; omega)]; exact s.mm i hi
  · by_cases e : i = S1.length
    · rw [e, ext_at]; exact h0
    · rw [ext_ne T1 a e]; exact s.mn i h1 (by omega)
  · by_cases hi : i < S1.length
    · rw [List.getElem?_append_left hi] at e
      have q := r.obj i o e
      rw [em i hi]
      cases o with
      | lst us => obtain ⟨ys, q1, q2, q3⟩ := q; exact ⟨ys, q1, q2, ups q3⟩
      | fz us => obtain ⟨ys, q1, q2, q3⟩ := q; exact ⟨ys, q1, q2, ups q3⟩
      | gone => exact q
      | dic _ => exact q.elim
      | ins _ _ => exact q.elim
    · have hl' := (List.getElem?_eq_some_iff.mp e).1
      have ei : i = S1.length := by omega
      subst ei
      rw [List.getElem?_append_right (Nat.le_refl _)] at e
      simp at e
      subst e
      rw [ext_at]
      exact ⟨xs, ha, hl, ups hv⟩
  · by_cases h1 : i = S1.length
    · by_cases h2 : j = S1.length
      · omega
      · rw [h1, ext_at, ext_ne T1 a h2] at e; exact absurd e.symm (hm j (by omega))
    · by_cases h2 : j = S1.length
      · rw [h2, ext_at, ext_ne T1 a h1] at e; exact absurd e (hm i (by omega))
      · rw [ext_ne T1 a h1, ext_ne T1 a h2] at e; exact r.inj i j (by omega) (by omega) e
  · by_cases h1 : i = S1.length
    · rw [h1, ext_at]; exact hf
    · rw [ext_ne T1 a h1]; exact r.nf i (by omega)
  · have := VR.loc (G := G) (T := T1.ext S1.length a) (n := (S1 ++ [Ob.lst ws]).length) (H := H1) (l := S1.length) (by omega)
    rw [ext_at] at this
    exact this
theorem box_read {u : Ex} {σ : L2.St} {H : Hp} {Q : VK} (q : RE Z.G (evE Z.C (.box u)) Wx σ H Q) : RE Z.G (evE Z.C u) Wx σ H Q := by
  obtain ⟨T, ρ, S, rl, sr, p⟩ := q
  unfold evE at p
  refine ⟨T, ρ, S, rl, sr, ?_⟩
  cases hu : evE Z.C u ρ S with
  | bad => rw [hu] at p; exact p
  | exc ex S1 => rw [hu] at p; exact p
  | ok pa S1 =>
    rw [hu] at p
    obtain ⟨w, fr⟩ := pa
    intro T1 H1 s1 r1 x hx
    have fin : ∀ {a : Addr} {xs : List V} {ws : List W}, x = .ref a → ¬ T1.F a → (∀ i, i < S1.length → T1.m i ≠ a) → H a = none → H1 a = some (.lst xs) → xs.length ≤ sizeLine → VRs Z.G T1 S1.length H1 xs ws →
        Post Z.G T S.length H (.ok (W.loc S1.length, false) (S1 ++ [.lst ws])) (fun p S' T' H' => ∀ x, RR Z.G H T' S'.length H' x p.1 p.2 → Q x H') (XW Z.G Wx σ) → Q x H1 := by
      intro a xs ws ex h1 h2 h3 h4 h5 hv p
      obtain ⟨k1, k2, k3⟩ := box_rel r1 h1 h2 h4 h5 hv
      subst ex
      exact p _ H1 (k1 _ _ _ s1 h3) k2 _ k3
    cases fr with
    | false => cases w <;> first | exact p.elim | (rename_i d; cases d <;> exact p.elim) | (rename_i t _; cases t <;> exact p.elim)
    | true =>
      obtain ⟨a, xs, ex, h1, h2, h3, h4, h5, h6⟩ := hx
      rcases h6 with ⟨ds, e, h6⟩ | ⟨ws, e, h6⟩
      · cases e; exact fin ex h1 h2 h3 h4 h5 h6.lift p
      · cases e; exact fin ex h1 h2 h3 h4 h5 h6 p
theorem snd_box {u : Ex} (hu : Snd Z u) : Snd Z (.box u) := by
  refine ⟨fun c X Wx l hx h => ?_, (fun h => by simp [tst] at h), fun c X Wx op ls p hx h => by simp [isE, notBoolOp] at h⟩
  simp only [isE, Bool.and_eq_true] at h
  exact pe_weak (hu.E c X Wx l hx h.2) fun σ H Q q => box_read q
end
end Pd
set_option Elab.async false
set_option linter.all false
set_option maxRecDepth 100000
set_option maxHeartbeats 1000000
/-! Pd20: statements. -/
namespace Pd
open PySem PySem.Spec PyProof.Rows L2
structure XSt (Z : Zc) (c : Sx) (X : Cx) (Wx : WX) : Prop extends XOk Z c X Wx where
  own : PassesOwn (model X.prog X.w) X.A X.env X.xe
  stk : X.stack = X.env :: X.outer
  frm : X.env.frame = some X.env.locals
/-- what is wanted behind a statement's end -/
def OkS (G : Gl0) (H0 : Hp) (Wx : WX) (D : Ends) : Out → Sto → Tk → Hp → Prop
  | .next ρ', S', T', H' => ∀ σ', SR G T' S'.length H' σ' ρ' → D.nx σ' H'
  | .ret w fr, S', T', H' => ∀ x, RR G H0 T' S'.length H' x w fr → D.rt x H'
  | .brk ρ', S', T', H' => ∀ σ', SR G T' S'.length H' σ' ρ' → D.bk σ' H'
  | .cont ρ', S', T', H' => ∀ σ', SR G T' S'.length H' σ' ρ' → D.ct σ' H'
  | .exc e ρ', S', T', H' => ∀ σ' d, SR G T' S'.length H' σ' ρ' → XR G T' H' e d → Wx (.ref (G.ca e.cls)) d σ' H'
abbrev NoX : Exn → Sto → Tk → Hp → Prop := fun _ _ _ _ => False
def rS (G : Gl0) (r : Env → Sto → R Out) (Wx : WX) : TS := fun D σ H => ∃ T ρ S, Rel G T S H ∧ SR G T S.length H σ ρ ∧ Post G T S.length H (r ρ S) (OkS G H Wx D) NoX
abbrev Zc.evs (Z : Zc) (s : Stm) : Env → Sto → R Out := evS Z.C Z.Pr.fuel Z.Pr.sub Z.Pr.keeps s
abbrev Zc.evss (Z : Zc) (s : Sts) : Env → Sto → R Out := evSs Z.C Z.Pr.fuel Z.Pr.sub Z.Pr.keeps s
structure SndS (Z : Zc) (s : Stm) : Prop where
  S : ∀ (c : Sx) (X : Cx) (Wx : WX) (l : Stmt), XSt Z c X Wx → isS Z.y c s l = true → PS X l (rS Z.G (Z.evs s) Wx)
structure SndSs (Z : Zc) (ss : Sts) : Prop where
  S : ∀ (c : Sx) (X : Cx) (Wx : WX) (ls : List Stmt), XSt Z c X Wx → isSs Z.y c ss ls = true → PSs X ls (rS Z.G (Z.evss ss) Wx)
section
variable {Z : Zc} {c : Sx} {X : Cx} {Wx : WX} {l : Expr} {e a b d : Ex} {es vs : Exs} {ls : List Expr} {σ : L2.St} {H H0 H1 : Hp} {T T1 : Tk} {ρ : Env} {S : Sto} {G : Gl0} {n n1 : Nat} {D : Ends}
theorem ps_weak {st : Stmt} {t t' : TS} (h : PS X st t) (i : ∀ D σ H, t' D σ H → t D σ H) : PS X st t' := ⟨fun pins s σ H D I q => h.run pins s σ H D I (i D σ H q)⟩
theorem pss_weak {st : List Stmt} {t t' : TS} (h : PSs X st t) (i : ∀ D σ H, t' D σ H → t D σ H) : PSs X st t' := ⟨fun pins s σ H D I q => h.run pins s σ H D I (i D σ H q)⟩
theorem OkS.later (s : Step T n H0 T1 n1 H1) {o : Out} {S' : Sto} {T' : Tk} {H' : Hp} (h : OkS G H0 Wx D o S' T' H') : OkS G H1 Wx D o S' T' H' := by
  cases o with
  | ret w fr => exact fun x hx => h x (hx.back s)
  | _ => exact h
/-- an expression, then what follows -/
theorem Post.stm {α : Type} {r : R α} {f : α → Sto → R Out} {ok : Out → Sto → Tk → Hp → Prop} (h : Post G T n H (r.stm ρ f) ok NoX) :
    Post G T n H r (fun a S1 T1 H1 => Post G T1 S1.length H1 (f a S1) ok NoX) (fun e S1 T1 H1 => ok (.exc e ρ) S1 T1 H1) := by
  cases r with
  | ok a S' => exact fun T' H' s q => Post.later s h
  | exc e S' => exact h
  | bad => exact h
theorem Post.ofStm {α : Type} {f : α → Sto → R Out} {ok : Out → Sto → Tk → Hp → Prop} {o : Option α} (h : Post G T n H ((R.of o S).stm ρ f) ok NoX) :
    ∃ a, o = some a ∧ Post G T n H (f a S) ok NoX := by
  cases o with
  | none => exact h.elim
  | some a => exact ⟨a, rfl, h⟩
/-- an expression of a statement, its value frozen -/
theorem rv_stm {r : EvE} {f : W × Bool → Sto → R Out} (rl : Rel Z.G T S H) (sr : SR Z.G T S.length H σ ρ) (p : Post Z.G T S.length H ((r ρ S).stm ρ f) (OkS Z.G H0 Wx D) NoX) {Q : VK}
    (k : ∀ x a S1 T1 H1, Step T S.length H T1 S1.length H1 → Rel Z.G T1 S1 H1 → SR Z.G T1 S1.length H1 σ ρ → VR Z.G T1 S1.length H1 x a.1 → Post Z.G T1 S1.length H1 (f a S1) (OkS Z.G H0 Wx D) NoX → Q x H1) :
    RV Z.G r Wx σ H Q :=
  ⟨T, ρ, S, rl, sr, (Post.stm p).imp (fun a S1 T1 H1 s r1 p1 x hx => k x a S1 T1 H1 s r1 (sr.step rl.nf s) hx p1) fun e S1 T1 H1 s r1 q d hd => q σ d (sr.step rl.nf s) hd⟩
theorem rt_stm {r : EvE} {f : Bool → Sto → R Out} (rl : Rel Z.G T S H) (sr : SR Z.G T S.length H σ ρ) (p : Post Z.G T S.length H ((r ρ S).stm ρ fun x S1 => (R.of (asBool x.1) S1).stm ρ f) (OkS Z.G H0 Wx D) NoX) {Q : Bool → Hp → Prop}
    (k : ∀ t S1 T1 H1, Step T S.length H T1 S1.length H1 → Rel Z.G T1 S1 H1 → SR Z.G T1 S1.length H1 σ ρ → Post Z.G T1 S1.length H1 (f t S1) (OkS Z.G H0 Wx D) NoX → Q t H1) :
    RT Z.G r Wx σ H Q := by
  refine ⟨T, ρ, S, rl, sr, (Post.stm p).imp (fun a S1 T1 H1 s r1 p1 => ?_) fun e S1 T1 H1 s r1 q d hd => q σ d (sr.step rl.nf s) hd⟩
  obtain ⟨t, ht, p2⟩ := Post.ofStm p1
  exact ⟨t, asBool_some ht, k t S1 T1 H1 s r1 (sr.step rl.nf s) p2⟩
theorem sndS_plain : SndS Z .pass ∧ SndS Z .brk ∧ SndS Z .cont ∧ SndS Z .retN := by
  refine ⟨⟨fun c X Wx l hx h => ?_⟩, ⟨fun c X Wx l hx h => ?_⟩, ⟨fun c X Wx l hx h => ?_⟩, ⟨fun c X Wx l hx h => ?_⟩⟩
  · cases l <;> first | exact ps_weak ps_pass fun D σ H ⟨T, ρ, S, rl, sr, p⟩ => p.here rl σ sr | simp [isS] at h
  · cases l <;> first | exact ps_weak ps_break fun D σ H ⟨T, ρ, S, rl, sr, p⟩ => p.here rl σ sr | simp [isS] at h
  · cases l <;> first | exact ps_weak ps_continue fun D σ H ⟨T, ρ, S, rl, sr, p⟩ => p.here rl σ sr | simp [isS] at h
  · cases l with
    | Return v p =>
      cases v with
      | none => exact ps_weak ps_retN fun D σ H ⟨T, ρ, S, rl, sr, p⟩ => p.here rl .non (VR.v .none)
      | some _ => simp [isS] at h
    | _ => simp [isS] at h
theorem sndS_ret (he : Snd Z e) : SndS Z (.ret e) := ⟨fun c X Wx l hx h => by
  cases l with
  | Return v p =>
    cases v with
    | none => simp [isS] at h
    | some x =>
      have h : isE Z.y c e x = true := by simpa [isS] using h
      refine ps_weak (ps_ret (he.E c X Wx x hx.toXOk h)) fun D σ H ⟨T, ρ, S, rl, sr, p⟩ => ?_
      have p : Post Z.G T S.length H ((evE Z.C e ρ S).stm ρ fun x S1 => .ok (.ret x.1 x.2) S1) (OkS Z.G H Wx D) NoX := by simpa [Zc.evs, evS] using p
      exact ⟨T, ρ, S, rl, sr, (Post.stm p).imp (fun a S1 T1 H1 s r1 p1 x hx => p1.here r1 x hx) fun e S1 T1 H1 s r1 q d hd => q σ d (sr.step rl.nf s) hd⟩
  | _ => simp [isS] at h⟩
theorem sndS_ifs {p q : Sts} (hd : Snd Z d) (hp : SndSs Z p) (hq : SndSs Z q) : SndS Z (.ifs d p q) := ⟨fun c X Wx l hx h => by
  cases l with
  | If x y z pos =>
    simp only [isS, Bool.and_eq_true] at h
    obtain ⟨⟨⟨h0, h1⟩, h2⟩, h3⟩ := h
    refine ps_weak (ps_if (hd.T h0 c X Wx x hx.toXOk h1) (hp.S c X Wx y hx h2) (hq.S c X Wx z hx h3)) fun D σ H ⟨T, ρ, S, rl, sr, p⟩ => ?_
    unfold Zc.evs evS at p
    refine rt_stm rl sr p fun t S1 T1 H1 s r1 sr1 p1 => ?_
    cases t with
    | true => exact ⟨T1, ρ, S1, r1, sr1, p1.impO fun o S' T' H' _ _ q => q.later s⟩
    | false => exact ⟨T1, ρ, S1, r1, sr1, p1.impO fun o S' T' H' _ _ q => q.later s⟩
  | _ => simp [isS] at h⟩
theorem sndSs_nil : SndSs Z .nil := ⟨fun c X Wx ls hx h => by
  cases ls with
  | nil => exact pss_weak pss_nil fun D σ H ⟨T, ρ, S, rl, sr, p⟩ => p.here rl σ sr
  | cons _ _ => simp [isSs] at h⟩
theorem sndSs_cons {s : Stm} {ss : Sts} (h1 : SndS Z s) (h2 : SndSs Z ss) : SndSs Z (.cons s ss) := ⟨fun c X Wx ls hx h => by
  cases ls with
  | nil => simp [isSs] at h
  | cons l ls =>
    simp only [isSs, Bool.and_eq_true] at h
    refine pss_weak (pss_cons (h1.S c X Wx l hx h.1) (h2.S c X Wx ls hx h.2)) fun D σ H ⟨T, ρ, S, rl, sr, p⟩ => ?_
    unfold Zc.evss evSs at p
    refine ⟨T, ρ, S, rl, sr, (Post.split p).impO fun o S1 T1 H1 s1 r1 p1 => ?_⟩
    cases o with
    | next ρ1 => exact fun σ' sr' => ⟨T1, ρ1, S1, r1, sr', p1.impO fun o S' T' H' _ _ q => q.later s1⟩
    | ret w fr => exact p1.here r1
    | brk ρ1 => exact p1.here r1
    | cont ρ1 => exact p1.here r1
    | exc ex ρ1 => exact p1.here r1⟩
theorem sw_tup {l : Expr} {ts : List Expr} {k : Nat} {p : Pos} {n : Nat} {env : PySem.Env} : swapsWithSole [.Tuple ts k p] l n env = pure false := by
  unfold swapsWithSole
  cases l <;> rfl
theorem sw_plain {l : Expr} (h : notLc l = true) (hs : ∀ a k p, l ≠ .Set a k p) {t : Option Expr} {n : Nat} {env : PySem.Env} (h2 : ∀ a b c d, l ≠ .SetComp a b c d) (h3 : ∀ a b c d e, l ≠ .DictComp a b c d e) : swapsWith l t n env = pure false := by
  cases l <;> first | rfl | exact absurd rfl (h2 _ _ _ _) | exact absurd rfl (h3 _ _ _ _ _) | cases h
theorem isE_nocomp {y : Sym} {c : Sx} : ∀ {e : Ex} {l : Expr}, isE y c e l = true → (∀ a b c d, l ≠ .SetComp a b c d) ∧ (∀ a b c d e, l ≠ .DictComp a b c d e) := by
  intro e
  induction e using Ex.rec (motive_2 := fun _ => True) (motive_3 := fun _ => True) with
  | box e ih => intro l h; simp only [isE, Bool.and_eq_true] at h; exact ih (l := l) h.2
  | _ =>
    first
      | trivial
      | (intro l h
         refine ⟨fun a b d p q => ?_, fun a b d k p q => ?_⟩ <;> subst q <;> simp [isE] at h)
end
end Pd
set_option Elab.async false
set_option linter.all false
set_option maxRecDepth 100000
set_option maxHeartbeats 1000000
/-! Pd21: statements, on: stores, loops. -/
namespace Pd
open PySem PySem.Spec PyProof.Rows L2
section
variable {Z : Zc} {c : Sx} {X : Cx} {Wx : WX} {l : Expr} {e a b d : Ex} {es vs : Exs} {ls : List Expr} {σ : L2.St} {H H0 H1 : Hp} {T T1 : Tk} {ρ : Env} {S : Sto} {G : Gl0} {n n1 : Nat} {D : Ends}
theorem loc_of (hx : XOk Z c X Wx) {x : Str} (h2 : locB c x = true) : L2.Loc X.env.scope x ∧ (X.fn x = true ∨ X.env.scope.names.lookup x = some .local) := by
  unfold L2.Loc
  rw [hx.sc, hx.fnx]
  unfold locB at h2
  simp only [Bool.or_eq_true, Bool.and_eq_true, beq_iff_eq] at h2
  rcases h2 with h2 | ⟨h2, h3⟩
  · exact ⟨.inl h2, .inr h2⟩
  · exact ⟨.inr h2, .inl h3⟩
/-- a value stored under a name -/
theorem asg_read {i : Nat} {σ : L2.St} {H : Hp} (q : rS Z.G (Z.evs (.asg (.nm i) e)) Wx D σ H) : tAsg (RV Z.G (evE Z.C e) Wx) (gName i) D σ H := by
  obtain ⟨T, ρ, S, rl, sr, p⟩ := q
  unfold Zc.evs evS at p
  refine rv_stm rl sr p fun x a S1 T1 H1 s r1 sr1 hx p1 => ?_
  obtain ⟨ρ1, h1, p2⟩ := Post.ofStm p1
  unfold bindT at h1
  cases h1
  exact p2.here r1 _ (sr1.set hx)
/-- what a list comprehension needs -/
inductive LcOk (Z : Zc) : Ex → Prop
  | lc {elt : Ex} {tg : Tgt} {it : It} {cs : Exs} {own : List Nat} : SndI Z it → SndC Z cs → Snd Z elt → LcOk Z (.lc elt tg it cs own)
  | lc2 {elt : Ex} {tg : Tgt} {it : It} {cs : Exs} {tg1 : Tgt} {it1 : It} {cs1 : Exs} {own own1 : List Nat} : (∀ (c : Sx) (X : Cx) (Wx : WX) (l : Expr) (i : Nat) (y : Str) (py spos : Pos), XOk Z c X Wx → isE Z.y c (.lc2 elt tg it cs tg1 it1 cs1 own own1) l = true → isTg c (.nm i) (.Name y py) = true →
      PS X (.Assign [.Name y py] l spos) (tAsg (RE Z.G (evE Z.C (.lc2 elt tg it cs tg1 it1 cs1 own own1)) Wx) (gName i))) → LcOk Z (.lc2 elt tg it cs tg1 it1 cs1 own own1)
  | box {e : Ex} : LcOk Z e → LcOk Z (.box e)
  | no {e : Ex} : (∀ c el gs s lp, isE Z.y c e (.ListComp el gs s lp) = false) → LcOk Z e
theorem ps_set_comp {k : Nat} {y : Str} {py spos : Pos} {el : Expr} {gs : List Comprehension} {s : Scope} {lp : Pos} (hx : XOk Z c X Wx) (hk : isTg c (.nm k) (.Name y py) = true) :
    ∀ {e : Ex}, LcOk Z e → isE Z.y c e (.ListComp el gs s lp) = true → PS X (.Assign [.Name y py] (.ListComp el gs s lp) spos) (tAsg (RE Z.G (evE Z.C e) Wx) (gName k))
  | _, .lc h1 h2 h3, hl => ps_set_lc h1 h2 h3 hx hl hk
  | _, .lc2 h, hl => h c X Wx _ k y py spos hx hl hk
  | _, .box h, hl => by
    simp only [isE, Bool.and_eq_true] at hl
    exact ps_weak (ps_set_comp hx hk h hl.2) fun D σ H q => box_read q
  | _, .no h, hl => by rw [h] at hl; cases hl
theorem asgN_key {y : Sym} {i : Nat} {e : Ex} {l : Stmt} (h : isS y c (.asg (.nm i) e) l = true) : ∃ (x : Str) (p pos : Pos) (v : Expr), l = .Assign [.Name x p] v pos ∧ isTg c (.nm i) (.Name x p) = true ∧ isE y c e v = true := by
  cases l with
  | Assign ts v pos =>
    rcases ts with _ | ⟨t, _ | ⟨t2, r⟩⟩
    · unfold isS at h; cases h
    · cases t with
      | Name x p => unfold isS at h; rw [Bool.and_eq_true] at h; exact ⟨x, p, pos, v, rfl, h⟩
      | _ => unfold isS at h; cases h
    · cases t <;> (unfold isS at h; cases h)
  | _ => unfold isS at h; cases h
theorem sndS_asgN {i : Nat} (he : Snd Z e) (hc : LcOk Z e) : SndS Z (.asg (.nm i) e) := ⟨fun c X Wx l hx h => by
  obtain ⟨x, p, pos, v, rfl, h1, h2'⟩ := asgN_key h
  have main : PS X (.Assign [.Name x p] v pos) (tAsg (RV Z.G (evE Z.C e) Wx) (gName i)) := by
    by_cases hl : notLc v = true
    · simp only [isTg, Bool.and_eq_true, beq_iff_eq] at h1
      obtain ⟨l1, l2⟩ := loc_of hx.toXOk h1.2
      exact ps_set hx.nd (by rw [hx.N]; exact h1.1) l1 (pe_frozen (he.E c X Wx v hx.toXOk h2')) (sw_plain hl (isE_plain h2').2.1 (isE_nocomp h2').1 (isE_nocomp h2').2) l2
    · cases v with
      | ListComp el gs s lp => exact ps_weak (ps_set_comp hx.toXOk h1 hc h2') fun D σ H q => RE.frozen q
      | _ => exact absurd rfl hl
  exact ps_weak main fun D σ H q => asg_read q⟩
theorem asgT_key {y : Sym} {ts : List Tgt} {e : Ex} {l : Stmt} (h : isS y c (.asg (.tup ts) e) l = true) : ∃ (t : Expr) (pos : Pos) (v : Expr), l = .Assign [t] v pos ∧ isTg c (.tup ts) t = true ∧ swapNone c.sc t v = true ∧ isE y c e v = true := by
  cases l with
  | Assign us v pos =>
    rcases us with _ | ⟨t, _ | ⟨t2, r⟩⟩
    · unfold isS at h; cases h
    · unfold isS at h
      simp only [Bool.and_eq_true] at h
      exact ⟨t, pos, v, rfl, h.1.1, h.1.2, h.2⟩
    · unfold isS at h; cases h
  | _ => unfold isS at h; cases h
theorem sndS_asgT {ts : List Tgt} (he : Snd Z e) : SndS Z (.asg (.tup ts) e) := ⟨fun c X Wx l hx h => by
  obtain ⟨t, pos, v, rfl, h1, h2, h3⟩ := asgT_key h
  obtain ⟨els, k, p, rfl⟩ := tup_of h1 ts rfl
  refine ps_weak (ps_asg (pe_frozen (he.E c X Wx v hx.toXOk h3)) (pg_rel hx.toXOk h1) sw_tup (swapNone_ok (by rw [hx.sc]; exact h2)) (by rfl)) fun D σ H q => ?_
  obtain ⟨T, ρ, S, rl, sr, p⟩ := q
  unfold Zc.evs evS at p
  refine rv_stm rl sr p fun x a S1 T1 H1 s r1 sr1 hx p1 => ?_
  obtain ⟨ρ1, h1, p2⟩ := Post.ofStm p1
  exact ⟨T1, S1.length, ρ, a.1, ρ1, r1.nf, sr1, hx, h1, fun σ' sr' _ => p2.here r1 σ' sr'⟩⟩
theorem sndS_expr (he : Snd Z e) : SndS Z (.expr e) := ⟨fun c X Wx l hx h => by
  cases l with
  | Expr v pos =>
    simp only [isS, Bool.and_eq_true] at h
    refine ps_weak (ps_expr (pe_frozen (he.E c X Wx v hx.toXOk h.2)) (sw_plain h.1 (isE_plain h.2).2.1 (isE_nocomp h.2).1 (isE_nocomp h.2).2)) fun D σ H q => ?_
    obtain ⟨T, ρ, S, rl, sr, p⟩ := q
    unfold Zc.evs evS at p
    exact rv_stm rl sr p fun x a S1 T1 H1 s r1 sr1 hx p1 => p1.here r1 σ sr1
  | _ => simp [isS] at h⟩
/-- the slots that are read at a name -/
theorem sndS_aug {op : Bo} {i : Nat} (he : Snd Z e) : SndS Z (.aug op i e) := ⟨fun c X Wx l hx h => by
  have key : ∃ (x : Str) (p pos : Pos) (v : Expr), l = .AugAssign (.Name x p) (boOp op) v pos ∧ X.N[i]? = some x ∧ locB c x = true ∧ (op = .add ∨ op = .sub) ∧ isE Z.y c e v = true := by
    cases l with
    | AugAssign t o v pos =>
      cases t with
      | Name x p =>
        simp only [isS, Bool.and_eq_true, Bool.or_eq_true, beq_iff_eq] at h
        obtain ⟨⟨⟨⟨h1, h2⟩, rfl⟩, h4⟩, h5⟩ := h
        exact ⟨x, p, pos, v, rfl, by rw [hx.N]; exact h1, h2, h4, h5⟩
      | _ => simp [isS] at h
    | _ => simp [isS] at h
  obtain ⟨x, p, pos, v, rfl, h1, h2, h3, h4⟩ := key
  obtain ⟨l1, l2⟩ := loc_of hx.toXOk h2
  have core : ∀ {g : Int → Int → Int} (_ : PIp X (boOp op) (ipI g)) (_ : ∀ i j S, bop op (.v (.int i)) (.v (.int j)) S = some (.v (.int (g i j)), false)),
      PS X (.AugAssign (.Name x p) (boOp op) v pos) (rS Z.G (Z.evs (.aug op i e)) Wx) := by
    intro g ip hb
    refine ps_weak (ps_aug hx.nd h1 l1 (pe_frozen (he.E c X Wx v hx.toXOk h4)) ip l2) fun D σ H q => ?_
    obtain ⟨T, ρ, S, rl, sr, p⟩ := q
    unfold Zc.evs evS at p
    split at p
    · rename_i w hw
      obtain ⟨vx, hv1, hv2⟩ := sr.at_ i w hw
      refine ⟨vx, hv1, rv_stm rl sr p fun y a S1 T1 H1 s r1 sr1 hy p1 => ?_⟩
      split at p1
      · rename_i i1 j1 ej
        rw [ej] at hy
        obtain ⟨z, hz, p2⟩ := Post.ofStm p1
        rw [ej, hb] at hz
        cases hz
        exact ⟨i1, j1, vd_int hv2, vd_int hy, p2.here r1 _ (sr1.set (.v (.int _)))⟩
      · exact p1.elim
    · exact p.elim
  rcases h3 with rfl | rfl
  · exact core ip_add fun _ _ _ => rfl
  · exact core ip_sub fun _ _ _ => rfl⟩
end
end Pd
set_option Elab.async false
set_option linter.all false
set_option maxRecDepth 100000
set_option maxHeartbeats 1000000
/-! Pd22: writing lists of the store. -/
namespace Pd
open PySem PySem.Spec PyProof.Rows L2
section
variable {Z : Zc} {c : Sx} {X : Cx} {Wx : WX} {l : Expr} {e a b d : Ex} {es vs : Exs} {ls : List Expr} {σ : L2.St} {H H0 H1 : Hp} {T T1 : Tk} {ρ : Env} {S : Sto} {G : Gl0} {n n1 : Nat} {D : Ends}
theorem write_rel {k : Nat} {xs' : List V} {ws ws' : List W} (r : Rel G T S H) (hk : S[k]? = some (.lst ws)) (hl : xs'.length ≤ sizeLine) (hv : VRs G T S.length H xs' ws') :
    Step T S.length H T (S.set k (.lst ws')).length (upd H (T.m k) (.lst xs')) ∧ Rel G T (S.set k (.lst ws')) (upd H (T.m k) (.lst xs')) := by
  have hlt := (List.getElem?_eq_some_iff.mp hk).1
  have len : (S.set k (Ob.lst ws')).length = S.length := by simp
  have kp : ∀ a u, T.F a → H a = some u → upd H (T.m k) (.lst xs') a = some u := fun a u h e => by
    rw [upd_ne]
    · exact e
    · intro q; rw [q] at h; exact r.nf k hlt h
  have there := r.there hlt
  rw [len]
  refine ⟨⟨Nat.le_refl _, fun _ _ => rfl, fun i h1 h2 => absurd h2 (by omega), fun _ h => h, fun _ h => .inl h, fun a o h q => ?_, fun a h => ?_⟩, ⟨fun i o e => ?_, fun i j hi hj => r.inj i j (by omega) (by omega), fun i hi => r.nf i (by omega), fun a h => ?_⟩⟩
  · rw [upd_ne (fun e => q k hlt e.symm)]; exact h
  · by_cases e : a = T.m k
    · subst e; simp [upd]
    · rw [upd_ne e]; exact h
  · rw [len]
    by_cases hi : k = i
    · subst hi
      rw [List.getElem?_set_self hlt] at e
      cases e
      exact ⟨xs', by simp [upd], hl, hv.fr kp⟩
    · rw [List.getElem?_set_ne hi] at e
      have hil := (List.getElem?_eq_some_iff.mp e).1
      have ne : T.m i ≠ T.m k := fun q => hi (r.inj i k hil hlt q).symm
      have q := r.obj i o e
      cases o with
      | lst us => obtain ⟨ys, q1, q2, q3⟩ := q; exact ⟨ys, by rw [upd_ne ne]; exact q1, q2, q3.fr kp⟩
      | fz us => obtain ⟨ys, q1, q2, q3⟩ := q; exact ⟨ys, by rw [upd_ne ne]; exact q1, q2, q3.fr kp⟩
      | gone => obtain ⟨u, q1⟩ := q; exact ⟨u, by rw [upd_ne ne]; exact q1⟩
      | dic _ => exact q.elim
      | ins _ _ => exact q.elim
  · by_cases e : a = T.m k
    · subst e; simp [upd]
    · rw [upd_ne e]; exact r.ft a h
theorem base_plain {y : Sym} {e : Ex} {l : Expr} (h : isE y c e l = true) (attr : Str) (env : PySem.Env) (w : Sem Value) : attributeBase l attr env w = w := by
  cases l with
  | Call g as ks p =>
    cases g with
    | Name x q =>
      cases as with
      | cons _ _ => rfl
      | nil =>
        cases ks with
        | cons _ _ => rfl
        | nil =>
          exfalso
          revert h
          induction e using Ex.rec (motive_2 := fun _ => True) (motive_3 := fun _ => True) with
          | box e ih => intro h; simp only [isE, Bool.and_eq_true] at h; exact ih h.2
          | _ => first | trivial | (intro h; simp [isE] at h)
    | _ => rfl
  | _ => rfl
theorem few_plain (cpos : Pos) {es : List Expr} {env : PySem.Env} (h : (starEach es env).any (·.1) = false) (hl : es.length < 20) : ((backTo cpos (starEach es env)).all (fun x => !x.1) && (backToKw cpos (keywordEach [] env)).all (fun x => x.1.isSome)
      && decide (es.length + ([] : List Keyword).length + (if ([] : List Keyword).isEmpty then 0 else 1) < 30)) = true := by
  have h1 : (backTo cpos (starEach es env)).all (fun x => !x.1) = true := by
    rw [← back_any cpos] at h
    rw [List.all_eq_true]
    intro x hx
    rw [List.any_eq_false] at h
    simpa using h x hx
  rw [h1]
  simp [backToKw, keywordEach]
  omega
/-- a method of a list: the readings -/
def rMt (G : Gl0) (m : Mt) : V → List V → Hp → VK → Prop := fun x xs H Q => ∃ T S w ws r, Rel G T S H ∧ VR G T S.length H x w ∧ VRs G T S.length H xs ws ∧ mtF m w ws S = some r ∧
  ∀ T' H' z, Step T S.length H T' r.2.2.length H' → Rel G T' r.2.2 H' → RR G H T' r.2.2.length H' z r.1 r.2.1 → Q z H'
theorem mt_app (hK : X.K = G.K) {x : V} {xs : List V} {H : Hp} {Q : VK} (h : rMt G .append x xs H Q) : rAppend x xs H Q := by
  obtain ⟨T, S, w, ws, r, rl, hx, hxs, e, q⟩ := h
  unfold mtF at e
  split at e
  · rename_i l w1 _
    split at e
    · rename_i us hl
      split at e
      · rename_i hz
        cases e
        obtain ⟨y, rfl, hy⟩ := vrs1 hxs
        obtain ⟨ys, q1, q2, q3⟩ := rl.obj l _ hl
        cases hx
        have hlen : (ys ++ [y]).length ≤ sizeLine := by
          rw [List.length_append, q3.length]; exact LIM_le (by simp; omega)
        obtain ⟨s1, s2⟩ := write_rel rl hl hlen (q3.append (.cons hy .nil))
        exact ⟨T.m l, ys, y, rfl, rfl, q1, by rw [List.length_append] at hlen; simp at hlen; omega, q T _ .non s1 s2 (VR.v .none)⟩
      · cases e
    · cases e
  · rename_i h; cases h
  · cases e
theorem mt_ext (hK : X.K = G.K) {x : V} {xs : List V} {H : Hp} {Q : VK} (h : rMt G .extend x xs H Q) : rExtend x xs H Q := by
  obtain ⟨T, S, w, ws, r, rl, hx, hxs, e, q⟩ := h
  unfold mtF at e
  split at e
  · rename_i h; cases h
  · rename_i l w1 _
    split at e
    · rename_i us hl
      split at e
      · rename_i zs hzs
        split at e
        · rename_i hz
          cases e
          simp only [Bool.and_eq_true, Bool.not_eq_true', decide_eq_true_eq] at hz
          obtain ⟨y, rfl, hy⟩ := vrs1 hxs
          obtain ⟨b, bs, rfl, b1, b2, b3⟩ := hy.lst rl hzs hz.1
          obtain ⟨ys, q1, q2, q3⟩ := rl.obj l _ hl
          cases hx
          have hlen : (ys ++ bs).length ≤ sizeLine := by
            rw [List.length_append, q3.length, b2.length]; exact LIM_le hz.2
          obtain ⟨s1, s2⟩ := write_rel rl hl hlen (q3.append b2)
          exact ⟨T.m l, b, ys, bs, rfl, rfl, q1, b3, by rw [List.length_append] at hlen; exact hlen, q T _ .non s1 s2 (VR.v .none)⟩
        · cases e
      · cases e
    · cases e
  · cases e
theorem snd_mth (m : Mt) (ho : Snd Z a) (ha : SndA Z es) (hm : m = .append ∨ m = .extend) : Snd Z (.mth m a es) := by
  refine snd_of (fun c X Wx l hx hl => ?_) (fun c l h env whole => ?_) (fun c o ls p => by simp [isE])
  · have key : ∃ (o : Expr) (ap p : Pos) (x : Expr) (xs : List Expr), l = .Call (.Attribute o (Str.ofString (mtNm m)) ap) (x :: xs) [] p ∧ (ap.endLine == p.line) = true ∧ (x :: xs).length < 20 ∧ isE Z.y c a o = true ∧ isEs Z.y c es (x :: xs) = true := by
      cases l with
      | Call g as ks p =>
        cases g with
        | Attribute o x ap =>
          cases ks with
          | nil =>
            cases as with
            | nil => simp [isE] at hl
            | cons x xs =>
              simp only [isE, Bool.and_eq_true, decide_eq_true_eq, beq_iff_eq] at hl
              obtain ⟨⟨⟨⟨⟨_, h1⟩, h2⟩, rfl⟩, h4⟩, h5⟩ := hl
              exact ⟨o, ap, p, x, xs, rfl, by simpa using h1, h2, h4, h5⟩
          | cons _ _ => cases as <;> simp [isE] at hl
        | _ => simp [isE] at hl
      | _ => simp [isE] at hl
    obtain ⟨o, ap, p, x, xs, rfl, h1, h2, h3, h4⟩ := key
    have sx := star_one (r := xs) (env := X.env) (isEs_plain h4)
    have s2 : (backTo p (starEach xs X.env)).any (·.1) = false := by rw [back_any]; exact isEs_tail h4 _
    have few := few_plain p (env := X.env) (star_all h4) h2
    have pa := ha.A c X Wx (x :: xs) hx h4
    have po := pe_frozen (ho.E c X Wx o hx h3)
    have hb := base_plain h3 (Str.ofString (mtNm m)) X.env (eval o X.env)
    have read : ∀ {r : V → List V → Hp → VK → Prop} (_ : ∀ {x xs H Q}, rMt Z.G m x xs H Q → r x xs H Q) {σ : L2.St} {H : Hp} {Q : VK}, RE Z.G (evE Z.C (.mth m a es)) Wx σ H Q → tBM X.K "list" r (RV Z.G (evE Z.C a) Wx) (RA Z.G (evEs Z.C es) Wx) σ H Q := by
      intro r hr σ H Q ⟨T, ρ, S, rl, sr, p⟩
      unfold evE at p
      refine ⟨T, ρ, S, rl, sr, (Post.split p).impO fun pa S1 T1 H1 s1 r1 p1 v hv => ?_⟩
      obtain ⟨u, hu, p2⟩ := Post.ofBind p1
      refine ⟨?_, T1, ρ, S1, r1, sr.step rl.nf s1, (Post.split p2).impO fun ws S2 T2 H2 s2 r2 p3 vs hvs => ?_⟩
      · have : ∃ l us, pa.1 = .loc l ∧ lstAt S1 l = some us := by
          unfold mtK at hu
          split at hu
          · rename_i l _; cases q : lstAt S1 l with
            | none => rw [q] at hu; cases hu
            | some us => exact ⟨l, us, by assumption, q⟩
          · rename_i l _; cases q : lstAt S1 l with
            | none => rw [q] at hu; cases hu
            | some us => exact ⟨l, us, by assumption, q⟩
          · cases hu
        obtain ⟨l, us, e1, e2⟩ := this
        rw [e1] at hv
        obtain ⟨z1, ys, z2, z3, z4⟩ := lstAt_rel r1 e2
        cases hv
        exact .inl ⟨rfl, ys, SqL.of z2⟩
      · cases he : mtF m pa.1 ws S2 with
        | none => rw [he] at p3; exact p3.elim
        | some r0 =>
          rw [he] at p3
          exact hr ⟨T2, S2, pa.1, ws, r0, r2, hv.step r1.nf s2, hvs, he, fun T' H' z s' rl' hz => p3 T' H' s' rl' z (hz.back (s1.trans s2))⟩
    rcases hm with rfl | rfl
    · exact pe_weak (pe_bm PySem.F.plainAttrs_list PySem.F.slot_list_append PySem.F.type_list_append mt_append po pa hb few h1 sx s2) fun σ H Q q => read (fun h => mt_app hx.K h) q
    · exact pe_weak (pe_bm PySem.F.plainAttrs_list PySem.F.slot_list_extend PySem.F.type_list_extend mt_extend po pa hb few h1 sx s2) fun σ H Q q => read (fun h => mt_ext hx.K h) q
  · cases l <;> first | rfl | simp [isE] at h
end
end Pd
set_option Elab.async false
set_option linter.all false
set_option maxRecDepth 100000
set_option maxHeartbeats 1000000
/-! Pd23: stores at an index, loops. -/
namespace Pd
open PySem PySem.Spec PyProof.Rows L2
section
variable {Z : Zc} {c : Sx} {X : Cx} {Wx : WX} {l : Expr} {e a b d : Ex} {es vs : Exs} {ls : List Expr} {σ : L2.St} {H H0 H1 : Hp} {T T1 : Tk} {ρ : Env} {S : Sto} {G : Gl0} {n n1 : Nat} {D : Ends}
/-- a store at an index, by values -/
def rSetW (G : Gl0) : V → V → V → Hp → (Hp → Prop) → Prop := fun o i v H Q => ∃ T S a k w S', Rel G T S H ∧ VR G T S.length H o a ∧ VR G T S.length H i k ∧ VR G T S.length H v w ∧ setW a k w S = some S' ∧
  ∀ T' H', Step T S.length H T' S'.length H' → Rel G T' S' H' → Q H'
theorem set_any : PSet X (rSetW G) := by
  intro pins s σ H o i v ov iv u Q I ro ri rv ⟨T, S, a, k, w, S', rl, ho, hi, hv, e, q⟩
  unfold setW at e
  split at e
  · rename_i l
    split at e
    · rename_i ws hl
      cases hk : asInt k with
      | none => rw [hk] at e; cases e
      | some j =>
        rw [hk] at e
        simp only [Option.bind_some] at e
        cases hj : ixN ws.length j with
        | none => rw [hj] at e; cases e
        | some t =>
          rw [hj] at e
          cases e
          obtain ⟨ys, q1, q2, q3⟩ := rl.obj l _ hl
          cases ho
          obtain rfl := asInt_some hk
          obtain ⟨s1, s2⟩ := write_rel (xs' := ys.set t v) (ws' := ws.set t w) rl hl (by rw [List.length_set]; exact q2) (q3.set hv t)
          exact set_list pins s σ H _ _ v ov iv u Q I ro ri rv ⟨T.m l, ys, j, t, rfl, vd_int hi, q1, by rw [q3.length]; exact hj, q T _ s1 s2⟩
    · cases e
  · cases e
theorem sndS_asgS {o i : Ex} (he : Snd Z e) (ho : Snd Z o) (hi : Snd Z i) : SndS Z (.asgS o i e) := ⟨fun c X Wx l hx h => by
  have key : ∃ (x k : Expr) (p pos : Pos) (v : Expr), l = .Assign [.Subscript x k p] v pos ∧ isE Z.y c o x = true ∧ isE Z.y c i k = true ∧ isE Z.y c e v = true := by
    cases l with
    | Assign ts v pos =>
      rcases ts with _ | ⟨t, _ | ⟨t2, r⟩⟩
      · unfold isS at h; cases h
      · cases t with
        | Subscript x k p => unfold isS at h; simp only [Bool.and_eq_true] at h; exact ⟨x, k, p, pos, v, rfl, h.1.1, h.1.2, h.2⟩
        | _ => unfold isS at h; cases h
      · cases t <;> (unfold isS at h; cases h)
    | _ => unfold isS at h; cases h
  obtain ⟨x, k, p, pos, v, rfl, h1, h2, h3⟩ := key
  have hsl := (isE_plain h2).2.2
  have hsw : swapsWithSole [.Subscript x k p] v pos.line X.env = pure false := by
    unfold swapsWithSole
    cases v <;> rfl
  have hasg : ∀ w, assign (.Subscript x k p) X.env w = (do
      let ov ← holding [w] (eval x X.env)
      let iv ← holding [w, ov] (eval k X.env)
      standAt p
      holding [w, ov, iv] (setItem ov iv w)
      release [w, ov, iv] []) := by
    intro w
    cases k <;> first | rfl | exact absurd rfl (hsl _ _ _ _)
  refine ps_weak (ps_asg (pe_frozen (he.E c X Wx v hx.toXOk h3)) (pg_sub (pe_frozen (ho.E c X Wx x hx.toXOk h1)) (pe_frozen (hi.E c X Wx k hx.toXOk h2)) (set_any (G := Z.G)) hasg) hsw (by cases v <;> rfl) (by rfl)) fun D σ H q => ?_
  obtain ⟨T, ρ, S, rl, sr, p⟩ := q
  unfold Zc.evs evS at p
  refine rv_stm rl sr p fun z az S1 T1 H1 s1 r1 sr1 hz p1 => ?_
  refine rv_stm r1 sr1 p1 fun ov ao S2 T2 H2 s2 r2 sr2 ho p2 => ?_
  refine rv_stm r2 sr2 p2 fun iv ai S3 T3 H3 s3 r3 sr3 hi p3 => ?_
  obtain ⟨S4, h4, p4⟩ := Post.ofStm p3
  exact ⟨T3, S3, ao.1, ai.1, az.1, S4, r3, ho.step r2.nf s3, hi, (hz.step r1.nf s2).step r2.nf s3, h4, fun T' H' s' r' => p4 T' H' s' r' σ (sr3.step r3.nf s')⟩⟩
/-- an item of a list, by values -/
def rGetW (G : Gl0) : V → V → Hp → VK → Prop := fun x y H Q => ∃ T S a b w, Rel G T S H ∧ VR G T S.length H x a ∧ VR G T S.length H y b ∧ ixL a b S = some w ∧ ∀ z, VR G T S.length H z w → Q z H
theorem get_any (hK : X.K = G.K) : PGet X (rGetW G) := by
  intro pins s σ H x y v u Q I rx ry ⟨T, S, a, b, w, rl, hx, hy, e, q⟩
  unfold ixL at e
  split at e
  · rename_i l
    cases hl : lstAt S l with
    | none => rw [hl] at e; cases e
    | some ws =>
      rw [hl] at e
      simp only [Option.bind_some] at e
      cases hb : asInt b with
      | none => rw [hb] at e; cases e
      | some i =>
        rw [hb] at e
        simp only [Option.bind_some] at e
        obtain ⟨_, xs, q1, q2, q3⟩ := lstAt_rel rl hl
        cases hx
        obtain rfl := asInt_some hb
        obtain rfl := vd_int hy
        obtain ⟨z, h1, h2⟩ := atI_rel q3 e
        cases rx
        obtain ⟨t, rfl⟩ := ry
        obtain ⟨its, r, pl, hz⟩ := I.list (SqL.of q1)
        obtain ⟨j, j1, j2, j3, j4, j5⟩ := atI_get h1
        obtain ⟨w', ew, rw'⟩ := r.get j2
        have hlen := r.length
        have hn := line63
        have fin : EP X pins σ Q w' s := ⟨z, H, I, rw', q z h2⟩
        by_cases h0 : 0 ≤ i
        · have hj : i.toNat = j := by
            rw [seqIndex_of h0 j5] at j1
            exact Option.some.inj j1
          exact wpAny_getItem_list pl.isList h0 (by omega) (by rw [hj]; simpa using ew) fin
        · have hj : (i + (its.toArray.size : Int)).toNat = j := by
            rw [seqIndex_neg (by omega) j4] at j1
            rw [List.size_toArray, ← hlen]
            exact Option.some.inj j1
          exact wpAny_getItem_list_neg pl.isList (by omega) (by rw [List.size_toArray] <;> omega) (by omega) (by rw [hj]; simpa using ew) fin
  · cases e
theorem sndS_augS {op : Bo} {o i : Ex} (he : Snd Z e) (ho : Snd Z o) (hi : Snd Z i) : SndS Z (.augS op o i e) := ⟨fun c X Wx l hx h => by
  have key : ∃ (x k : Expr) (p pos : Pos) (v : Expr), l = .AugAssign (.Subscript x k p) (boOp op) v pos ∧ (op = .add ∨ op = .sub) ∧ isE Z.y c o x = true ∧ isE Z.y c i k = true ∧ isE Z.y c e v = true := by
    cases l with
    | AugAssign t q v pos =>
      cases t with
      | Subscript x k p =>
        unfold isS at h
        simp only [Bool.and_eq_true, Bool.or_eq_true, beq_iff_eq] at h
        obtain ⟨⟨⟨⟨rfl, h2⟩, h3⟩, h4⟩, h5⟩ := h
        exact ⟨x, k, p, pos, v, rfl, h2, h3, h4, h5⟩
      | _ => unfold isS at h; cases h
    | _ => unfold isS at h; cases h
  obtain ⟨x, k, p, pos, v, rfl, h0, h1, h2, h3⟩ := key
  have core : ∀ {g : Int → Int → Int} (_ : PIp X (boOp op) (ipI g)) (_ : ∀ i j S, bop op (.v (.int i)) (.v (.int j)) S = some (.v (.int (g i j)), false)),
      PS X (.AugAssign (.Subscript x k p) (boOp op) v pos) (rS Z.G (Z.evs (.augS op o i e)) Wx) := by
    intro g ip hb
    refine ps_weak (ps_augS (pe_frozen (ho.E c X Wx x hx.toXOk h1)) (pe_frozen (hi.E c X Wx k hx.toXOk h2)) (get_any (G := Z.G) hx.K) (pe_frozen (he.E c X Wx v hx.toXOk h3)) ip (set_any (G := Z.G)) (by
      intro ov iv new
      have hsl := (isE_plain h2).2.2
      cases k <;> first | rfl | exact absurd rfl (hsl _ _ _ _))) fun D σ H q => ?_
    obtain ⟨T, ρ, S, rl, sr, p⟩ := q
    unfold Zc.evs evS at p
    refine rv_stm rl sr p fun ov ao S1 T1 H1 s1 r1 sr1 ho p1 => ?_
    refine rv_stm r1 sr1 p1 fun iv ai S2 T2 H2 s2 r2 sr2 hi p2 => ?_
    obtain ⟨w, hw, p3⟩ := Post.ofStm p2
    refine ⟨T2, S2, ao.1, ai.1, w, r2, ho.step r1.nf s2, hi, hw, fun z hz => ?_⟩
    refine rv_stm r2 sr2 p3 fun ev ae S3 T3 H3 s3 r3 sr3 he p4 => ?_
    split at p4
    · rename_i i1 j1 ej
      rw [ej] at he
      obtain ⟨u, hu, p5⟩ := Post.ofStm p4
      rw [ej, hb] at hu
      cases hu
      obtain ⟨S4, h4, p6⟩ := Post.ofStm p5
      exact ⟨i1, j1, vd_int hz, vd_int he, T3, S3, ao.1, ai.1, _, S4, r3, (ho.step r1.nf s2).step r2.nf s3, hi.step r2.nf s3, .v (.int _), h4, fun T' H' s' r' => p6 T' H' s' r' σ (sr3.step r3.nf s')⟩
    · exact p4.elim
  rcases h0 with rfl | rfl
  · exact core ip_add fun _ _ _ => rfl
  · exact core ip_sub fun _ _ _ => rfl⟩
/-! ### loops -/
theorem Post.sto {α : Type} {r : R α} {o : Option Nat} {ok : α → Sto → Tk → Hp → Prop} {Xx : Exn → Sto → Tk → Hp → Prop} (h : Post G T n H (r.sto (unlock o)) ok Xx) :
    Post G T n H r (fun a S' T' H' => ok a (unlock o S') T' H') (fun e S' T' H' => Xx e (unlock o S') T' H') := by
  cases r with
  | ok a S' => exact fun T' H' s q => h T' H' (by rw [unlock_len]; exact s) (q.unlock o)
  | exc e S' => exact fun T' H' s q => h T' H' (by rw [unlock_len]; exact s) (q.unlock o)
  | bad => exact h
/-- the ends of a loop's walk, the lock taken off -/
def OkL (G : Gl0) (H0 : Hp) (Wx : WX) (D : Ends) (lk : Option Nat) : Out → Sto → Tk → Hp → Prop := fun o S' T' H' => OkS G H0 Wx D o (unlock lk S') T' H'
theorem SR.len_eq {n n' : Nat} (h : n = n') (r : SR G T n H σ ρ) : SR G T n' H σ ρ := h ▸ r
theorem RR.len_eq {n n' : Nat} (h : n = n') {H0 : Hp} {x : V} {w : W} {fr : Bool} (r : RR G H0 T n H x w fr) : RR G H0 T n' H x w fr := h ▸ r
theorem sndS_fors {t : Tgt} {it : It} {b : Sts} (hit : SndI Z it) (hb : SndSs Z b) : SndS Z (.fors t it b) := ⟨fun c X Wx l hx h => by
  cases l with
  | For tg i body oe pos =>
    cases oe with
    | cons _ _ => unfold isS at h; cases h
    | nil =>
      unfold isS at h
      simp only [Bool.and_eq_true] at h
      obtain ⟨⟨⟨h1, h2⟩, h3⟩, h4⟩ := h
      refine ps_weak (ps_for hx.own hx.calm (hit.I c X Wx t tg i hx.toXOk h3 h2 (tup_of h1)) (pg_rel hx.toXOk h1) (hb.S c X Wx body hx h4) (fun v => fold_plain h3 _ v)) fun D σ H q => ?_
      obtain ⟨T, ρ, S, rl, sr, p⟩ := q
      unfold Zc.evs evS at p
      refine ⟨T, ρ, S, rl, sr, (Post.stm p).imp (fun p0 S1 T1 H1 s1 r1 p1 => ?_) fun e S1 T1 H1 s r1 q d hd => q σ d (sr.step rl.nf s) hd⟩
      intro J wk
      have p2 := Post.sto p1
      have p2 : Post Z.G T1 S1.length H1 (forLoop (fun w ρ S => match bindT t w ρ with | none => .bad | some ρ1 => Z.evss b ρ1 S) p0.1 ρ S1) (OkL Z.G H Wx D p0.2) NoX := p2
      refine ⟨fun i m σ' H' => m = p0.1.length - i ∧ i ≤ p0.1.length ∧ ∃ T' S' ρ', Step T1 S1.length H1 T' S'.length H' ∧ Rel Z.G T' S' H' ∧ Kp S1 S' ∧ SR Z.G T' S'.length H' σ' ρ' ∧
        Post Z.G T' S'.length H' (forLoop (fun w ρ S => match bindT t w ρ with | none => .bad | some ρ1 => Z.evss b ρ1 S) (p0.1.drop i) ρ' S') (OkL Z.G H Wx D p0.2) NoX,
        ⟨p0.1.length, rfl, Nat.zero_le _, T1, S1, ρ, Step.refl _ _ _, r1, Kp.refl _, sr.step rl.nf s1, p2⟩, ?_⟩
      rintro i m σ' H' ⟨rfl, hi, T', S', ρ', st, r', kp, sr', pp⟩
      by_cases hlt : i < p0.1.length
      · have hd : p0.1.drop i = p0.1[i] :: p0.1.drop (i + 1) := List.drop_eq_getElem_cons hlt
        rw [hd] at pp
        unfold forLoop at pp
        obtain ⟨go, yl⟩ := wk.item T' S' H' st r' kp i p0.1[i] (List.getElem?_eq_getElem hlt)
        refine .inr ⟨go, fun σ2 H2 => ∃ T2 S2 ρ2, Step T1 S1.length H1 T2 S2.length H2 ∧ Rel Z.G T2 S2 H2 ∧ Kp S1 S2 ∧ SR Z.G T2 S2.length H2 σ2 ρ2 ∧
          Post Z.G T2 S2.length H2 (forLoop (fun w ρ S => match bindT t w ρ with | none => .bad | some ρ1 => Z.evss b ρ1 S) (p0.1.drop (i + 1)) ρ2 S2) (OkL Z.G H Wx D p0.2) NoX,
          fun σ2 H2 ⟨T2, S2, ρ2, q⟩ => ⟨p0.1.length - (i + 1), by omega, rfl, hlt, T2, S2, ρ2, q⟩, fun x H2 hy => ?_⟩
        obtain ⟨T'', s'', r'', hx'⟩ := yl x H2 hy
        have pq := Post.split (Post.later s'' pp)
        cases hbt : bindT t p0.1[i] ρ' with
        | none => rw [hbt] at pq; exact pq.elim
        | some ρ1 =>
          rw [hbt] at pq
          refine ⟨T'', S'.length, ρ', p0.1[i], ρ1, r''.nf, sr'.step r'.nf s'', hx', hbt, fun σ2 sr2 _ => ?_⟩
          refine ⟨T'', ρ1, S', r'', sr2, pq.eq.impO fun o S3 T3 H3 s3 r3 ⟨eq, q⟩ => ?_⟩
          have kp3 : Kp S1 S3 := kp.trans (kr_ok (evSs_kr (callN_kr Z.Pr Z.d) _ _ _ b ρ1 S') eq)
          have st3 := (st.trans s'').trans s3
          have s0 : Step T S.length H T'' S'.length H2 := (s1.trans st).trans s''
          cases o with
          | next ρ3 => exact fun σ3 sr3 => ⟨T3, S3, ρ3, st3, r3, kp3, sr3, q⟩
          | cont ρ3 => exact fun σ3 sr3 => ⟨T3, S3, ρ3, st3, r3, kp3, sr3, q⟩
          | brk ρ3 => exact fun σ3 sr3 => q.here r3 σ3 (SR.len_eq (unlock_len _ _).symm sr3)
          | ret w fr => exact fun v hv => q.here r3 v (RR.len_eq (unlock_len _ _).symm (hv.back s0))
          | exc e ρ3 => exact fun σ3 d sr3 hd => q.here r3 σ3 d (SR.len_eq (unlock_len _ _).symm sr3) hd
      · have ei : i = p0.1.length := by omega
        subst ei
        rw [List.drop_length] at pp
        unfold forLoop at pp
        exact .inl ⟨wk.stop T' S' H' st r' kp, pp.here r' σ' (SR.len_eq (unlock_len _ _).symm sr')⟩
  | _ => unfold isS at h; cases h⟩
theorem sndS_whl {b : Sts} (hd : Snd Z d) (hb : SndSs Z b) : SndS Z (.whl d b) := ⟨fun c X Wx l hx h => by
  cases l with
  | While t body oe pos =>
    cases oe with
    | cons _ _ => unfold isS at h; cases h
    | nil =>
      unfold isS at h
      simp only [Bool.and_eq_true] at h
      obtain ⟨⟨h1, h2⟩, h3⟩ := h
      refine ps_weak (ps_while hx.own (hd.T h1 c X Wx t hx.toXOk h2) (hb.S c X Wx body hx h3)) fun D σ H q => ?_
      obtain ⟨T, ρ, S, rl, sr, p⟩ := q
      unfold Zc.evs evS at p
      refine ⟨fun m σ' H' => ∃ T' S' ρ', Step T S.length H T' S'.length H' ∧ Rel Z.G T' S' H' ∧ SR Z.G T' S'.length H' σ' ρ' ∧ Post Z.G T' S'.length H' (whLoop (evE Z.C d) (Z.evss b) m ρ' S') (OkS Z.G H Wx D) NoX,
        ⟨Z.Pr.fuel, T, S, ρ, Step.refl _ _ _, rl, sr, p⟩, ?_⟩
      rintro m σ' H' ⟨T', S', ρ', st, r', sr', pp⟩
      cases m with
      | zero => exact pp.elim
      | succ m =>
        unfold whLoop at pp
        refine rt_stm r' sr' pp fun t S1 T1 H1 s1 r1 sr1 p1 => ?_
        cases t with
        | false => exact p1.here r1 σ' sr1
        | true =>
          refine ⟨fun σ2 H2 => ∃ T2 S2 ρ2, Step T S.length H T2 S2.length H2 ∧ Rel Z.G T2 S2 H2 ∧ SR Z.G T2 S2.length H2 σ2 ρ2 ∧ Post Z.G T2 S2.length H2 (whLoop (evE Z.C d) (Z.evss b) m ρ2 S2) (OkS Z.G H Wx D) NoX,
            fun σ2 H2 q => ⟨m, by omega, q⟩, T1, ρ', S1, r1, sr1, (Post.split p1).impO fun o S3 T3 H3 s3 r3 q => ?_⟩
          have st3 := (st.trans s1).trans s3
          have s0 := st.trans s1
          cases o with
          | next ρ3 => exact fun σ3 sr3 => ⟨T3, S3, ρ3, st3, r3, sr3, q⟩
          | cont ρ3 => exact fun σ3 sr3 => ⟨T3, S3, ρ3, st3, r3, sr3, q⟩
          | brk ρ3 => exact fun σ3 sr3 => q.here r3 σ3 sr3
          | ret w fr => exact fun v hv => q.here r3 v (hv.back s0)
          | exc e ρ3 => exact fun σ3 d sr3 hd => q.here r3 σ3 d sr3 hd
  | _ => unfold isS at h; cases h⟩
end
end Pd
set_option Elab.async false
set_option linter.all false
set_option maxRecDepth 100000
set_option maxHeartbeats 1000000
/-! Pd24: raise, try, several names at once. -/
namespace Pd
open PySem PySem.Spec PyProof.Rows L2
section
variable {Z : Zc} {c : Sx} {X : Cx} {Wx : WX} {l : Expr} {e a b d : Ex} {es vs : Exs} {ls : List Expr} {σ : L2.St} {H H0 H1 : Hp} {T T1 : Tk} {ρ : Env} {S : Sto} {G : Gl0} {n n1 : Nat} {D : Ends}
theorem XOk.base' (h : XOk Z c X Wx) : XBase Z X := ⟨h.prog, h.w, h.K, h.mg, h.base, h.calm, h.room⟩
theorem sndS_raise (hz : ZOk Z) {k : Nat} (ha : Snd Z a) : SndS Z (.raise k a) := ⟨fun c X Wx l hx h => by
  have key : ∃ (x : Str) (p q pos : Pos) (v : Expr), l = .Raise (some (.Call (.Name x p) [v] [] q)) none pos ∧ Z.y.cok k = true ∧ x = Z.y.sym k ∧ glB c x = true ∧ okNm x = true ∧ (Z.y.kp k = true ∨ (strC v = true ∧ isCstE a = true)) ∧ isE Z.y c a v = true := by
    unfold isS at h
    cases hr : raiseOf l with
    | none => rw [hr] at h; cases h
    | some xv =>
      obtain ⟨x, v⟩ := xv
      rw [hr] at h
      simp only [Bool.and_eq_true, Bool.or_eq_true, beq_iff_eq] at h
      obtain ⟨⟨⟨⟨⟨h1, h2⟩, h3⟩, h4⟩, h5⟩, h6⟩ := h
      obtain ⟨p, q, pos, e⟩ := raiseOf_some hr
      exact ⟨x, p, q, pos, v, e, h1, h2, h3, h4, h5, h6⟩
  obtain ⟨x, p, q, pos, v, rfl, h1, hxs, h2, h3, h4, h5⟩ := key
  have hmg : X.mg x = some (.ref (Z.G.ca k)) := by rw [hx.mg, hxs]; exact hz.ex.mg k h1
  cases hk : Z.Pr.keeps k with
  | false =>
    obtain ⟨hs, hca⟩ := h4.resolve_left (by rw [hz.ex.kp k h1, hk]; simp)
    cases v with
    | Constant kk j p2 =>
      cases kk with
      | str m =>
        refine ps_weak (ps_raise hx.calm hx.tk (hz.ex.plain k h1 hk X x m j p p2 q hx.base' (gl_of hx.toXOk h2) hmg (nm_of h3).1)) fun D σ H q => ?_
        obtain ⟨T, ρ, S, rl, sr, p⟩ := q
        unfold Zc.evs evS at p
        cases a with
        | cst d =>
          rw [hk] at p
          exact Post.here (a := Out.exc ⟨k, none⟩ ρ) p rl σ none sr rfl
        | _ => cases hca
      | _ => cases hs
    | _ => cases hs
  | true =>
    refine ps_weak (ps_raise hx.calm hx.tk (hz.ex.held k h1 hk X Wx x v _ p q hx.base' hx.tk (gl_of hx.toXOk h2) hmg (nm_of h3).1 (isE_plain h5).1 (pe_frozen (ha.E c X Wx v hx.toXOk h5)))) fun D σ H q => ?_
    obtain ⟨T, ρ, S, rl, sr, p⟩ := q
    unfold Zc.evs evS at p
    refine rv_stm rl sr p fun y az S1 T1 H1 s1 r1 sr1 hy p1 => ?_
    obtain ⟨u, hu, p2⟩ := Post.ofStm p1
    intro dd hd
    have st : Step T1 S1.length H1 T1 S1.length (upd H1 dd (.xd [(Z.G.fld k, y)])) := Step.new _ hd
    have p3 := p2 T1 _ st (r1.new _ hd)
    rw [hk] at p3
    refine p3 σ (some dd) (sr1.step r1.nf st) ?_
    have hy2 := (vr_pure hy hu).step r1.nf st
    exact ⟨dd, y, rfl, by simp [upd], hy2⟩⟩
/-! ### try -/
theorem XSt.tr (hx : XSt Z c X Wx) {pn : List (Addr × Obj)} {xe : Value → Shared → Prop} {W' : WX} (tk : Takes (X.tr pn xe) W') (own : PassesOwn (model X.prog X.w) X.A X.env xe) : XSt Z c (X.tr pn xe) W' :=
  ⟨⟨hx.prog, hx.w, hx.K, hx.mg, hx.base, hx.N, hx.sc, hx.fnx, hx.nd, hx.calm, hx.room, tk⟩, own, hx.stk, hx.frm⟩
/-- a handler's suite -/
theorem suite_ok (hx : XSt Z c X Wx) {b : Sts} {ss : List Stmt} (h : isH Z.y c b ss = true) (a : Addr) (pn : List (Addr × Obj)) : PSs (X.suite a pn) ss (rS Z.G (Z.evss b) Wx) := by
  have pcst : ∀ {d : PyData} {k : Const} {j : Nat} {p : Pos}, cstB d k = true → PE (X.suite a pn) (.Constant k j p) (RE Z.G (evE Z.C (.cst d)) Wx) := by
    intro d k j p hc
    have fin : ∀ (v : V), (∀ T H, VD Z.G.K T H v d) → ∀ σ H Q, RE Z.G (evE Z.C (.cst d)) Wx σ H Q → tC v σ H Q := fun v hv σ H Q ⟨T, ρ, S, rl, sr, p⟩ => Post.here p rl v (VR.v (hv T H))
    rcases cst_rel hc with ⟨rfl, rfl⟩ | ⟨b, rfl, rfl⟩ | ⟨b, rfl, rfl⟩ | ⟨b, rfl, rfl⟩
    · exact pe_weak pe_non (fin _ fun _ _ => .none)
    · exact pe_weak pe_bl (fin _ fun _ _ => .bool b)
    · exact pe_weak pe_int (fin _ fun _ _ => .int b)
    · exact pe_weak pe_str (fin _ fun _ _ => .str b)
  unfold isH at h
  split at h
  · rename_i i d x p k j p2 pos
    simp only [Bool.and_eq_true] at h
    obtain ⟨h1, h2⟩ := h
    simp only [isTg, Bool.and_eq_true, beq_iff_eq] at h1
    obtain ⟨l1, l2⟩ := loc_of hx.toXOk h1.2
    have base := ps_set (X := X.suite a pn) (pos' := p) (pos := pos) hx.nd (i := i) (by rw [show (X.suite a pn).N = X.N from rfl, hx.N]; exact h1.1) l1 (pe_frozen (pcst (j := j) (p := p2) h2)) rfl l2
    refine pss_weak (pss_one base) fun D σ H q => ?_
    obtain ⟨T, ρ, S, rl, sr, p⟩ := q
    have p : Post Z.G T S.length H (.ok (.next (ρ.set i (some (.v d)))) S) (OkS Z.G H Wx D) NoX := p
    refine ⟨T, ρ, S, rl, sr, fun T' H' s r' x hx => ?_⟩
    exact p T' H' s r' _ ((sr.step rl.nf s).set hx)
  · rename_i d k j p2 pos
    refine pss_weak (pss_one (ps_ret (pcst (j := j) (p := p2) h))) fun D σ H q => ?_
    obtain ⟨T, ρ, S, rl, sr, p⟩ := q
    have p : Post Z.G T S.length H (.ok (.ret (.v d) false) S) (OkS Z.G H Wx D) NoX := p
    exact ⟨T, ρ, S, rl, sr, fun T' H' s r' x hx => p T' H' s r' x hx⟩
  · refine pss_weak (pss_one ps_pass) fun D σ H q => ?_
    obtain ⟨T, ρ, S, rl, sr, p⟩ := q
    have p : Post Z.G T S.length H (.ok (.next ρ) S) (OkS Z.G H Wx D) NoX := p
    exact p.here rl σ sr
  · cases h
/-- the clauses as HandS wants them -/
def hdL (Z : Zc) (Wx : WX) : Hds → List (Value × (Addr → Value → Option Addr → TS))
  | .nil => []
  | .cons k _ b hs => (.ref (Z.G.ca k), fun _ _ _ => rS Z.G (Z.evss b) Wx) :: hdL Z Wx hs
theorem hds_ok (hz : ZOk Z) (hx : XSt Z c X Wx) : ∀ {hs : Hds} {rs : List ExceptHandler}, isHs Z.y c hs rs = true → HdsOk X rs (hdL Z Wx hs)
  | .nil, [], _ => .nil
  | .nil, _ :: _, h => by unfold isHs at h; cases h
  | .cons k o b hs, rs, h => by
    unfold isHs at h
    split at h
    · rename_i q; cases q
    · rename_i x np s ss pos r q
      cases q
      simp only [Bool.and_eq_true, beq_iff_eq] at h
      obtain ⟨⟨⟨⟨⟨h1, h2⟩, h3⟩, h4⟩, h5⟩, h6⟩ := h
      refine .cons ⟨gl_of hx.toXOk h3, (nm_of h4).1, .inl ?_⟩ (fun a oe cls d pn _ _ => suite_ok hx h5 a _) (hds_ok hz hx h6)
      rw [hx.mg, h2]
      exact hz.ex.mg k h1
    · cases h
theorem many_ok (hz : ZOk Z) {ex : Exn} {dd : Option Addr} : ∀ {hs : Hds} {σ : L2.St} {H H0 : Hp} {T : Tk} {ρ : Env} {S : Sto} {T0 : Tk} {n0 : Nat}, Step T0 n0 H0 T S.length H → Rel Z.G T S H → SR Z.G T S.length H σ ρ → XR Z.G T H ex dd →
    Post Z.G T S.length H (evHs Z.C Z.Pr.fuel Z.Pr.sub Z.Pr.keeps hs ex ρ S) (OkS Z.G H0 Wx D) NoX → wMany Z.G.K Wx D (hdL Z Wx hs) (.ref (Z.G.ca ex.cls)) dd σ H
  | .nil, σ, H, H0, T, ρ, S, T0, n0, s, rl, sr, xr, p => by
    unfold evHs at p
    exact p.here rl σ dd sr xr
  | .cons k o b hs, σ, H, H0, T, ρ, S, T0, n0, s, rl, sr, xr, p => by
    unfold evHs at p
    split at p
    · exact ⟨true, hz.ex.sub _ _ true (by assumption), fun _ a _ => ⟨T, ρ, S, rl, sr, p.impO fun o S' T' H' _ _ q => q.later s⟩, fun z => by cases z⟩
    · exact ⟨false, hz.ex.sub _ _ false (by assumption), (fun z => by cases z), fun _ => many_ok hz s rl sr xr p⟩
    · exact p.elim
theorem sndS_try (hz : ZOk Z) {b : Sts} {hs : Hds} (hb : SndSs Z b) : SndS Z (.tryS b hs) := ⟨fun c X Wx l hx h => by
  have key : ∃ (p : List Stmt) (h0 : ExceptHandler) (r : List ExceptHandler) (pos : Pos), l = .Try p (h0 :: r) [] [] pos ∧ isSs Z.y c b p = true ∧ isHs Z.y c hs (h0 :: r) = true := by
    cases l with
    | Try p hd oe fb pos =>
      cases hd with
      | nil => unfold isS at h; cases h
      | cons h0 r =>
        cases oe with
        | cons _ _ => unfold isS at h; cases h
        | nil =>
          cases fb with
          | cons _ _ => unfold isS at h; cases h
          | nil => unfold isS at h; rw [Bool.and_eq_true] at h; exact ⟨p, h0, r, pos, rfl, h⟩
    | _ => unfold isS at h; cases h
  obtain ⟨p, h0, r, pos, rfl, h1, h2⟩ := key
  refine ps_weak (ps_try_many (tb := fun W => rS Z.G (Z.evss b) W) hx.stk hx.frm hx.tk (fun W pn xe tk own => hb.S c _ W p (hx.tr tk own) h1) (hds_ok hz hx h2)) fun D σ H q => ?_
  obtain ⟨T, ρ, S, rl, sr, p⟩ := q
  unfold Zc.evs evS at p
  refine ⟨T, ρ, S, rl, sr, (Post.split p).impO fun o S1 T1 H1 s1 r1 p1 => ?_⟩
  cases o with
  | next ρ1 => exact p1.here r1
  | ret w fr => exact p1.here r1
  | brk ρ1 => exact p1.here r1
  | cont ρ1 => exact p1.here r1
  | exc ex ρ1 => exact fun σ' dd sr' xr => by rw [hx.K]; exact many_ok hz s1 r1 sr' xr p1⟩
end
end Pd
set_option Elab.async false
set_option linter.all false
set_option maxRecDepth 100000
set_option maxHeartbeats 1000000
/-! PdPar: a, b = x, y. -/
namespace Pd
open PySem PySem.Spec PyProof.Rows L2
section
variable {Z : Zc} {c : Sx} {X : Cx} {Wx : WX} {es : Exs} {σ : L2.St} {H : Hp} {T : Tk} {ρ : Env} {S : Sto}
theorem nms_get : ∀ {line : Nat} {is : List Nat} {ts : List Expr}, isNms c line is ts = true → ∃ xs : List (Str × Pos), ts = xs.map (fun p => .Name p.1 p.2) ∧ is.length = xs.length ∧ (∀ p ∈ xs, c.sc.names.lookup p.1 = some .local ∧ p.2.line = line) ∧ ∀ (k i : Nat) (p : Str × Pos), is[k]? = some i → xs[k]? = some p → c.N[i]? = some p.1
  | line, [], [], _ => ⟨[], rfl, rfl, (fun _ h => by cases h), fun k i p h => by simp at h⟩
  | line, [], _ :: _, h => by simp [isNms] at h
  | line, _ :: _, [], h => by simp [isNms] at h
  | line, i :: is, t :: ts, h => by
    cases t <;> simp only [isNms, Bool.and_eq_true, beq_iff_eq, Bool.false_eq_true] at h
    rename_i x p
    obtain ⟨⟨⟨h1, h2⟩, h3⟩, h4⟩ := h
    obtain ⟨xs, q1, q2, q3, q4⟩ := nms_get h4
    refine ⟨(x, p) :: xs, by rw [q1]; rfl, by simp [q2], fun r hr => ?_, fun k j r hk hr => ?_⟩
    · rcases List.mem_cons.mp hr with rfl | hr
      · exact ⟨h2, h3⟩
      · exact q3 r hr
    · cases k with
      | zero => simp at hk hr; subst hk hr; exact h1
      | succ k => exact q4 k j r (by simpa using hk) (by simpa using hr)
theorem swap_two {env : PySem.Env} {x y : Str} {px py pt pt2 : Pos} {kt k2 : Nat} {a b : Expr} (hk : env.scope.kind = .function) (hx : env.scope.names.lookup x = some .local) (hy : env.scope.names.lookup y = some .local) (hl : py.line = px.line) (hne : x ≠ y)
    (ha : ∀ u p, a ≠ .Starred u p) (hb' : ∀ u p, b ≠ .Starred u p) (hf : [a, b].all (foldedForSure 8) = false) (hc : [a, b].all (constantsAlone 8) = false) :
    swappedStores [.Tuple [.Name x px, .Name y py] kt pt] (.Tuple [a, b] k2 pt2) env = pure (some [x, y]) := by
  have kx : env.kindOf x = some .local := hx
  have ky : env.kindOf y = some .local := hy
  have hb : env.blockKind = .function := by unfold Env.blockKind; rw [hk]; rfl
  unfold swappedStores
  dsimp only
  rw [if_neg (by simp [hb]), if_neg (by
    intro h
    simp only [List.any_cons, List.any_nil, Bool.or_false, Bool.or_eq_true] at h
    rcases h with h | h <;> split at h <;> first | exact ha _ _ rfl | exact hb' _ _ rfl | cases h)]
  have e1 : (Option.map (fun (x : Expr) => x.pos.line) [Expr.Name x px, Expr.Name y py].head?).getD 0 = px.line := rfl
  simp only [e1, List.filterMap_cons, List.filterMap_nil, kx, ky, hl, beq_self_eq_true, Bool.and_self, if_true]
  have e2 : [x, y].eraseDups = [x, y] := by simp [List.eraseDups_cons, hne, Ne.symm hne]
  rw [if_neg (by rw [e2]; simp), hf, hc]
  simp
theorem swap_three {env : PySem.Env} {x y z : Str} {px py pz pt pt2 : Pos} {kt k2 : Nat} {a b d : Expr} (hk : env.scope.kind = .function) (hx : env.scope.names.lookup x = some .local) (hy : env.scope.names.lookup y = some .local) (hz : env.scope.names.lookup z = some .local) (hl : py.line = px.line) (hl2 : pz.line = px.line)
    (hne : x ≠ y) (hne2 : x ≠ z) (hne3 : y ≠ z) (ha : ∀ u p, a ≠ .Starred u p) (hb' : ∀ u p, b ≠ .Starred u p) (hd' : ∀ u p, d ≠ .Starred u p) (hf : [a, b, d].all (foldedForSure 8) = false) (hc : [a, b, d].all (constantsAlone 8) = false) :
    swappedStores [.Tuple [.Name x px, .Name y py, .Name z pz] kt pt] (.Tuple [a, b, d] k2 pt2) env = pure (some [x, y, z]) := by
  have kx : env.kindOf x = some .local := hx
  have ky : env.kindOf y = some .local := hy
  have kz : env.kindOf z = some .local := hz
  have hb : env.blockKind = .function := by unfold Env.blockKind; rw [hk]; rfl
  unfold swappedStores
  dsimp only
  rw [if_neg (by simp [hb]), if_neg (by
    intro h
    simp only [List.any_cons, List.any_nil, Bool.or_false, Bool.or_eq_true] at h
    rcases h with h | h | h <;> split at h <;> first | exact ha _ _ rfl | exact hb' _ _ rfl | exact hd' _ _ rfl | cases h)]
  have e1 : (Option.map (fun (x : Expr) => x.pos.line) [Expr.Name x px, Expr.Name y py, Expr.Name z pz].head?).getD 0 = px.line := rfl
  simp only [e1, List.filterMap_cons, List.filterMap_nil, kx, ky, kz, hl, hl2, beq_self_eq_true, Bool.and_self, if_true]
  have e2 : [x, y, z].eraseDups = [x, y, z] := by simp [List.eraseDups_cons, hne, Ne.symm hne, hne2, Ne.symm hne2, hne3, Ne.symm hne3]
  rw [if_neg (by rw [e2]; simp), hf, hc]
  simp
/-- names apart -/
theorem nms_ne {N : List Str} (nd : N.Nodup) {i j : Nat} {x y : Str} (hi : N[i]? = some x) (hj : N[j]? = some y) (h : i ≠ j) : x ≠ y := fun e => by
  subst e
  obtain ⟨a, ha⟩ := List.getElem?_eq_some_iff.mp hi
  obtain ⟨b, hb⟩ := List.getElem?_eq_some_iff.mp hj
  exact h ((List.getElem_inj nd).mp (ha.trans hb.symm))
theorem sndS_par' (hA : SndA Z es) {is : List Nat} : SndS Z (.par is es) := ⟨fun c X Wx l hx h => by
  have key : ∃ (ts vs : List Expr) (k k2 : Nat) (p p2 pos : Pos), l = .Assign [.Tuple ts k p] (.Tuple vs k2 p2) pos ∧ parB c is ts vs = true ∧ (is.length = 2 ∨ is.length = 3) ∧ vs.all (foldedForSure 8) = false ∧ vs.all (constantsAlone 8) = false ∧ isEs Z.y c es vs = true := by
    cases l with
    | Assign us v pos =>
      rcases us with _ | ⟨t, _ | ⟨t2, r⟩⟩
      · unfold isS at h; cases h
      · cases t with
        | Tuple ts k p =>
          cases v with
          | Tuple vs k2 p2 =>
            unfold isS at h
            simp only [Bool.and_eq_true, Bool.or_eq_true, Bool.not_eq_true', beq_iff_eq] at h
            obtain ⟨⟨⟨⟨h1, h2⟩, h3⟩, h4⟩, h5⟩ := h
            exact ⟨ts, vs, k, k2, p, p2, pos, rfl, h1, h2, h3, h4, h5⟩
          | _ => unfold isS at h; cases h
        | _ => unfold isS at h; cases h
      · cases t <;> first | (unfold isS at h; cases h) | (cases v <;> (unfold isS at h; cases h))
    | _ => unfold isS at h; cases h
  obtain ⟨ts, vs, k, k2, p, p2, pos, rfl, h1, h2, h3, h4, h5⟩ := key
  unfold parB at h1
  simp only [Bool.and_eq_true, decide_eq_true_eq, beq_iff_eq] at h1
  obtain ⟨⟨⟨⟨nd, hlen⟩, hkind⟩, hn⟩, hlen2⟩ := h1
  obtain ⟨xs, rfl, q2, q3, q4⟩ := nms_get hn
  have hk : X.env.scope.kind = .function := by rw [hx.sc]; exact hkind
  have loc : ∀ r ∈ xs, X.env.scope.names.lookup r.1 = some .local := fun r hr => by rw [hx.sc]; exact (q3 r hr).1
  have pa := hA.A c X Wx vs hx.toXOk h5
  rcases h2 with h2 | h2
  · obtain ⟨i, j, rfl⟩ : ∃ i j, is = [i, j] := by
      match is, h2 with
      | [i, j], _ => exact ⟨i, j, rfl⟩
    obtain ⟨⟨x, px⟩, ⟨y, py⟩, rfl⟩ : ∃ r s, xs = [r, s] := by
      match xs, q2 with
      | [r, s], _ => exact ⟨r, s, rfl⟩
    obtain ⟨a, b, rfl⟩ : ∃ a b, vs = [a, b] := by
      match vs, hlen with
      | [a, b], _ => exact ⟨a, b, rfl⟩
    have hij : i ≠ j := by simpa using nd
    have ni : X.N[i]? = some x := by rw [hx.N]; exact q4 0 i (x, px) rfl rfl
    have nj : X.N[j]? = some y := by rw [hx.N]; exact q4 1 j (y, py) rfl rfl
    have lx := loc (x, px) (by simp)
    have ly := loc (y, py) (by simp)
    have ll : py.line = px.line := (q3 (y, py) (by simp)).2
    have sa : (∀ u p, a ≠ .Starred u p) ∧ (∀ u p, b ≠ .Starred u p) := by
      cases es with
      | nil => simp [isEs] at h5
      | cons e1 es => cases es with
        | nil => simp [isEs] at h5
        | cons e2 es => simp only [isEs, Bool.and_eq_true] at h5; exact ⟨(isE_plain h5.1).1, (isE_plain h5.2.1).1⟩
    refine ps_weak (ps_par (i := i) (j := j) hx.calm hx.nd ni nj hij lx ly pa (swap_two hk lx ly ll (nms_ne hx.nd ni nj hij) sa.1 sa.2 h3 h4) rfl) fun D σ H q => ?_
    obtain ⟨T, ρ, S, rl, sr, p⟩ := q
    unfold Zc.evs evS at p
    refine ⟨T, ρ, S, rl, sr, (Post.stm p).imp (fun ws S1 T1 H1 s1 r1 p1 zs hzs => ?_) fun e S1 T1 H1 s r1 q d hd => q σ d (sr.step rl.nf s) hd⟩
    obtain ⟨ρ1, hρ, p2⟩ := Post.ofStm p1
    match ws, hρ with
    | [w1, w2], hρ =>
      obtain ⟨z1, z2, rfl, v1, v2⟩ := vrs2 hzs
      simp only [setNs] at hρ
      cases hρ
      exact ⟨z1, z2, rfl, p2.here r1 _ (((sr.step rl.nf s1).set v1).set v2)⟩
    | [], hρ => simp [setNs] at hρ
    | [_], hρ => simp [setNs] at hρ
    | _ :: _ :: _ :: _, hρ => simp [setNs] at hρ
  · obtain ⟨i, j, m, rfl⟩ : ∃ i j m, is = [i, j, m] := by
      match is, h2 with
      | [i, j, m], _ => exact ⟨i, j, m, rfl⟩
    obtain ⟨⟨x, px⟩, ⟨y, py⟩, ⟨z, pz⟩, rfl⟩ : ∃ r s t, xs = [r, s, t] := by
      match xs, q2 with
      | [r, s, t], _ => exact ⟨r, s, t, rfl⟩
    obtain ⟨a, b, d, rfl⟩ : ∃ a b d, vs = [a, b, d] := by
      match vs, hlen with
      | [a, b, d], _ => exact ⟨a, b, d, rfl⟩
    have hnd : i ≠ j ∧ i ≠ m ∧ j ≠ m := by simp at nd; exact ⟨nd.1.1, nd.1.2, nd.2⟩
    have ni : X.N[i]? = some x := by rw [hx.N]; exact q4 0 i (x, px) rfl rfl
    have nj : X.N[j]? = some y := by rw [hx.N]; exact q4 1 j (y, py) rfl rfl
    have nm : X.N[m]? = some z := by rw [hx.N]; exact q4 2 m (z, pz) rfl rfl
    have lx := loc (x, px) (by simp)
    have ly := loc (y, py) (by simp)
    have lz := loc (z, pz) (by simp)
    have ll : py.line = px.line := (q3 (y, py) (by simp)).2
    have ll2 : pz.line = px.line := (q3 (z, pz) (by simp)).2
    have sa : (∀ u p, a ≠ .Starred u p) ∧ (∀ u p, b ≠ .Starred u p) ∧ (∀ u p, d ≠ .Starred u p) := by
      cases es with
      | nil => simp [isEs] at h5
      | cons e1 es => cases es with
        | nil => simp [isEs] at h5
        | cons e2 es => cases es with
          | nil => simp [isEs] at h5
          | cons e3 es => simp only [isEs, Bool.and_eq_true] at h5; exact ⟨(isE_plain h5.1).1, (isE_plain h5.2.1).1, (isE_plain h5.2.2.1).1⟩
    refine ps_weak (ps_par3 (i := i) (j := j) (l := m) hx.calm hx.nd ni nj nm hnd.1 hnd.2.1 hnd.2.2 lx ly lz pa (swap_three hk lx ly lz ll ll2 (nms_ne hx.nd ni nj hnd.1) (nms_ne hx.nd ni nm hnd.2.1) (nms_ne hx.nd nj nm hnd.2.2) sa.1 sa.2.1 sa.2.2 h3 h4) rfl) fun D σ H q => ?_
    obtain ⟨T, ρ, S, rl, sr, p⟩ := q
    unfold Zc.evs evS at p
    refine ⟨T, ρ, S, rl, sr, (Post.stm p).imp (fun ws S1 T1 H1 s1 r1 p1 zs hzs => ?_) fun e S1 T1 H1 s r1 q d hd => q σ d (sr.step rl.nf s) hd⟩
    obtain ⟨ρ1, hρ, p2⟩ := Post.ofStm p1
    match ws, hρ with
    | [w1, w2, w3], hρ =>
      cases hzs with
      | cons v1 hzs =>
        obtain ⟨z1, z2, rfl, v2, v3⟩ := vrs2 hzs
        simp only [setNs] at hρ
        cases hρ
        exact ⟨_, z1, z2, rfl, p2.here r1 _ ((((sr.step rl.nf s1).set v1).set v2).set v3)⟩
    | [], hρ => simp [setNs] at hρ
    | [_], hρ => simp [setNs] at hρ
    | [_, _], hρ => simp [setNs] at hρ
    | _ :: _ :: _ :: _ :: _, hρ => simp [setNs] at hρ⟩
end
end Pd
set_option Elab.async false
set_option linter.all false
set_option maxRecDepth 100000
set_option maxHeartbeats 1000000
/-! Pd25: all expressions, all statements. -/
namespace Pd
open PySem PySem.Spec PyProof.Rows L2
section
variable {Z : Zc}
theorem snd_none {e : Ex} (h : ∀ y c l, isE y c e l = false) : Snd Z e := ⟨fun c X Wx l hx q => (by rw [h] at q; cases q), fun _ c X Wx l hx q => (by rw [h] at q; cases q), fun c X Wx op ls p hx q => (by rw [h] at q; cases q)⟩
theorem no_dflt {y : Sym} {c : Sx} {mx : Bool} {a d : Ex} {l : Expr} : isE y c (.dflt mx a d) l = false := by cases l <;> simp [isE]
theorem no_rng1 {y : Sym} {c : Sx} {a : Ex} {l : Expr} : isE y c (.rng1 a) l = false := by cases l <;> simp [isE]
theorem no_rng2 {y : Sym} {c : Sx} {a b : Ex} {l : Expr} : isE y c (.rng2 a b) l = false := by cases l <;> simp [isE]
theorem no_lc2 {y : Sym} {c : Sx} {elt : Ex} {tg : Tgt} {it : It} {cs : Exs} {tg1 : Tgt} {it1 : It} {cs1 : Exs} {own own1 : List Nat} {l : Expr} : isE y c (.lc2 elt tg it cs tg1 it1 cs1 own own1) l = false := by cases l <;> simp [isE]
theorem no_mth {y : Sym} {c : Sx} {m : Mt} {a : Ex} {es : Exs} {l : Expr} (h : ¬ (m = .append ∨ m = .extend)) : isE y c (.mth m a es) l = false := by
  cases hq : isE y c (.mth m a es) l with
  | false => rfl
  | true =>
    exfalso
    cases l with
    | Call g as ks p =>
      cases g with
      | Attribute o x ap =>
        cases ks with
        | nil =>
          cases as with
          | nil => simp [isE] at hq
          | cons x xs =>
            simp only [isE, Bool.and_eq_true, decide_eq_true_eq] at hq
            exact h hq.1.1.1.1.1
        | cons _ _ => cases as <;> simp [isE] at hq
      | _ => simp [isE] at hq
    | _ => simp [isE] at hq
theorem snd_mth' (m : Mt) {a : Ex} {es : Exs} (ho : Snd Z a) (ha : SndA Z es) : Snd Z (.mth m a es) := by
  by_cases hm : m = .append ∨ m = .extend
  · exact snd_mth m ho ha hm
  · exact snd_none fun y c l => no_mth hm
mutual
theorem all_snd (hz : ZOk Z) : ∀ e : Ex, Snd Z e
  | .nm i => snd_nm i
  | .cst d => snd_cst d
  | .glb g d => snd_glb hz g d
  | .fnv f => snd_fnv hz f
  | .bin op a b => snd_bin op (all_snd hz a) (all_snd hz b)
  | .neg a => snd_neg (all_snd hz a)
  | .and a b => snd_and (all_snd hz a) (all_snd hz b)
  | .or a b => snd_or (all_snd hz a) (all_snd hz b)
  | .not a => snd_not (all_snd hz a)
  | .cmp op a b => snd_cmp op (all_snd hz a) (all_snd hz b)
  | .chain op op' a b c => snd_chain' op op' (all_snd hz a) (all_snd hz b) (all_snd hz c)
  | .ite c a b => snd_ite (all_snd hz c) (all_snd hz a) (all_snd hz b)
  | .call sh f args => snd_call hz sh f (all_sndA hz args).1
  | .callK sh f args kws vals => snd_callK' hz (all_sndA hz args).1 (all_sndA hz vals).2.2
  | .blt b args => snd_blt hz b (all_sndA hz args).1
  | .dflt mx a d => snd_none fun _ _ _ => no_dflt
  | .isi e tys one => snd_isi hz tys one (all_snd hz e)
  | .mth m o args => snd_mth' m (all_snd hz o) (all_sndA hz args).1
  | .ix a b => snd_ix (all_snd hz a) (all_snd hz b)
  | .sl a lo hi => snd_sl (all_snd hz a) (all_snd hz lo) (all_snd hz hi)
  | .slr a => snd_slr (all_snd hz a)
  | .nil => snd_none fun y c l => by cases l <;> rfl
  | .tup es => snd_tup (all_sndA hz es).1
  | .lst es => snd_lst (all_sndA hz es).1
  | .rng1 a => snd_none fun _ _ _ => no_rng1
  | .rng2 a b => snd_none fun _ _ _ => no_rng2
  | .lc elt tg it cs own => snd_lc (all_sndI hz it) (all_sndA hz cs).2.1 (all_snd hz elt)
  | .lc2 elt tg it cs tg1 it1 cs1 own own1 => snd_none fun _ _ _ => no_lc2
  | .box e => snd_box (all_snd hz e)
theorem all_sndA (hz : ZOk Z) : ∀ es : Exs, SndA Z es ∧ SndC Z es ∧ SndK Z es
  | .nil => ⟨snda_nil, sndC_nil, sndk_nil⟩
  | .cons e es => ⟨snda_cons (all_snd hz e) (all_sndA hz es).1, sndC_cons (all_snd hz e), sndk_cons (all_snd hz e) (all_sndA hz es).2.2⟩
theorem all_sndI (hz : ZOk Z) : ∀ it : It, SndI Z it
  | .seq e => sndI_seq (all_snd hz e)
  | .rng1 a => sndI_rng1 hz (all_snd hz a)
  | .rng2 a b => sndI_rng2 hz (all_snd hz a) (all_snd hz b)
  | .rng3 a b c => sndI_rng3 hz (all_snd hz a) (all_snd hz b) (all_snd hz c)
  | .zip a b => sndI_zip hz (all_snd hz a) (all_snd hz b)
  | .enum e => sndI_enum hz (all_snd hz e)
end
theorem lcok_no {e : Ex} (h : ∀ y c el gs s lp, isE y c e (.ListComp el gs s lp) = false) : LcOk Z e := .no fun c el gs s lp => h _ _ _ _ _ _
theorem all_lcok (hz : ZOk Z) : ∀ e : Ex, LcOk Z e
  | .lc elt tg it cs own => .lc (all_sndI hz it) (all_sndA hz cs).2.1 (all_snd hz elt)
  | .lc2 elt tg it cs tg1 it1 cs1 own own1 => lcok_no fun _ _ _ _ _ _ => no_lc2
  | .box e => .box (all_lcok hz e)
  | .nm _ => lcok_no fun _ _ _ _ _ _ => by simp [isE]
  | .cst _ => lcok_no fun _ _ _ _ _ _ => by simp [isE]
  | .glb _ _ => lcok_no fun _ _ _ _ _ _ => by simp [isE]
  | .fnv _ => lcok_no fun _ _ _ _ _ _ => by simp [isE]
  | .bin _ _ _ => lcok_no fun _ _ _ _ _ _ => by simp [isE]
  | .neg _ => lcok_no fun _ _ _ _ _ _ => by simp [isE]
  | .and _ _ => lcok_no fun _ _ _ _ _ _ => by simp [isE]
  | .or _ _ => lcok_no fun _ _ _ _ _ _ => by simp [isE]
  | .not _ => lcok_no fun _ _ _ _ _ _ => by simp [isE]
  | .cmp _ _ _ => lcok_no fun _ _ _ _ _ _ => by simp [isE]
  | .chain _ _ _ _ _ => lcok_no fun _ _ _ _ _ _ => by simp [isE]
  | .ite _ _ _ => lcok_no fun _ _ _ _ _ _ => by simp [isE]
  | .call _ _ _ => lcok_no fun _ _ _ _ _ _ => by simp [isE]
  | .callK _ _ _ _ _ => lcok_no fun _ _ _ _ _ _ => by simp [isE]
  | .blt _ _ => lcok_no fun _ _ _ _ _ _ => by simp [isE]
  | .dflt _ _ _ => lcok_no fun _ _ _ _ _ _ => by simp [isE]
  | .isi _ _ _ => lcok_no fun _ _ _ _ _ _ => by simp [isE]
  | .mth _ _ _ => lcok_no fun _ _ _ _ _ _ => by simp [isE]
  | .ix _ _ => lcok_no fun _ _ _ _ _ _ => by simp [isE]
  | .sl _ _ _ => lcok_no fun _ _ _ _ _ _ => by simp [isE]
  | .slr _ => lcok_no fun _ _ _ _ _ _ => by simp [isE]
  | .nil => lcok_no fun _ _ _ _ _ _ => by simp [isE]
  | .tup _ => lcok_no fun _ _ _ _ _ _ => by simp [isE]
  | .lst _ => lcok_no fun _ _ _ _ _ _ => by simp [isE]
  | .rng1 _ => lcok_no fun _ _ _ _ _ _ => by simp [isE]
  | .rng2 _ _ => lcok_no fun _ _ _ _ _ _ => by simp [isE]
mutual
theorem all_sndS (hz : ZOk Z) : ∀ s : Stm, SndS Z s
  | .asg (.nm i) e => sndS_asgN (all_snd hz e) (all_lcok hz e)
  | .asg (.tup ts) e => sndS_asgT (all_snd hz e)
  | .par is es => sndS_par' (all_sndA hz es).1
  | .aug op i e => sndS_aug (all_snd hz e)
  | .asgS o i e => sndS_asgS (all_snd hz e) (all_snd hz o) (all_snd hz i)
  | .augS op o i e => sndS_augS (all_snd hz e) (all_snd hz o) (all_snd hz i)
  | .expr e => sndS_expr (all_snd hz e)
  | .ifs c a b => sndS_ifs (all_snd hz c) (all_sndSs hz a) (all_sndSs hz b)
  | .fors t it b => sndS_fors (all_sndI hz it) (all_sndSs hz b)
  | .whl c b => sndS_whl (all_snd hz c) (all_sndSs hz b)
  | .ret e => sndS_ret (all_snd hz e)
  | .retN => sndS_plain.2.2.2
  | .raise c a => sndS_raise hz (all_snd hz a)
  | .tryS b hs => sndS_try hz (all_sndSs hz b)
  | .brk => sndS_plain.2.1
  | .cont => sndS_plain.2.2.1
  | .pass => sndS_plain.1
theorem all_sndSs (hz : ZOk Z) : ∀ ss : Sts, SndSs Z ss
  | .nil => sndSs_nil
  | .cons s ss => sndSs_cons (all_sndS hz s) (all_sndSs hz ss)
end
/-! ### defs -/
/-- a def of the text: its name, its statement -/
structure DefOk (Z : Zc) (f : Nat) (fd : Fd) (N : List Str) (st : Stmt) : Prop where
  hfd : Z.Pr.fd f = some fd
  sc : FnScope N (Z.y.ps f) (C8.fnScope st)
  body : isSs Z.y ⟨N, C8.fnScope st, fun _ => true⟩ fd.body (C8.fnBody st) = true
  np : (Z.y.ps f).length = fd.np
  ns : N.length = fd.ns
  le : fd.np ≤ fd.ns
theorem start_rel {G : Gl0} {T : Tk} {n : Nat} {H : Hp} {vs : List V} {ws : List W} {N : List Str} {fd : Fd} (hv : VRs G T n H vs ws) (hN : N.length = fd.ns) : SR G T n H (L2.start N vs) (Pd.start fd ws) := by
  have hl := hv.length
  refine ⟨by simp [L2.start, Pd.start, hl, hN], fun i w e => ?_⟩
  unfold Pd.start at e
  unfold L2.start
  by_cases hi : i < ws.length
  · rw [List.getElem?_append_left (by simpa using hi), List.getElem?_map] at e
    cases hw : ws[i]? with
    | none => rw [hw] at e; cases e
    | some u =>
      rw [hw] at e
      cases e
      obtain ⟨x, hx, vx⟩ := hv.get hw
      refine ⟨x, ?_, vx⟩
      rw [List.getElem?_append_left (by simp; omega), List.getElem?_map, hx]
      rfl
  · rw [List.getElem?_append_right (by simp; omega), List.getElem?_replicate] at e
    split at e <;> cases e
theorem Post.finish {G : Gl0} {T : Tk} {n : Nat} {H H0 : Hp} {r : R Out} {Q : VK} {E : XK}
    (p : Post G T n H (Pd.finish r) (fun p S' T' H' => ∀ x, RR G H0 T' S'.length H' x p.1 p.2 → Q x H') (fun e S' T' H' => ∀ d, XR G T' H' e d → E (.ref (G.ca e.cls)) d H')) :
    Post G T n H r (OkS G H0 (fun cls d _ H => E cls d H) { nx := fun _ H' => Q .non H', rt := Q }) NoX := by
  cases r with
  | bad => exact p
  | exc e S' => exact p.elim
  | ok o S' =>
    cases o with
    | next ρ => exact fun T' H' s r σ' sr => p T' H' s r .non (VR.v .none)
    | ret w fr => exact p
    | exc e ρ => exact fun T' H' s r σ' d sr xr => p T' H' s r d xr
    | brk ρ => exact p.elim
    | cont ρ => exact p.elim
/-- a def keeps its promise one call deeper -/
theorem def_ok (hz : ZOk Z) {f : Nat} {fd : Fd} {N : List Str} {st : Stmt} {x qual : Str} {fdat : FuncData} (hd : DefOk Z f fd N st) (F : C8.Fun Z.G.K x qual st (Z.G.fa f) fdat) :
    FnOk Z.P Z.w Z.G.K Z.mg Z.base (L2.CX Z.P Z.w) (lev Z.d + 1) (Z.G.fa f) fdat (Z.y.ps f) (spOf Z.G (callN Z.Pr (Z.d + 1)) f) := by
  obtain ⟨oc, od, dV, kV, doc, pm, an, cdv, ct, osl, rfl, lk, hcd⟩ := F.ex
  refine fn_of lk hcd hd.sc (fun vs H Q E h => ?_) fun A outer s H vs Q E hr h => ?_
  · obtain ⟨T, S, ws, rl, hv, p⟩ := h
    rw [hv.length, hd.np]
    have p : Post Z.G T S.length H (runF Z.Pr (callN Z.Pr Z.d) f ws S) _ _ := p
    unfold runF at p
    rw [hd.hfd] at p
    simp only at p
    split at p
    · rename_i e; exact e
    · exact p.elim
  · obtain ⟨T, S, ws, rl, hv, p⟩ := h
    have p : Post Z.G T S.length H (runF Z.Pr (callN Z.Pr Z.d) f ws S) _ _ := p
    unfold runF at p
    rw [hd.hfd] at p
    simp only at p
    split at p
    · rename_i e
      have hx : XSt Z ⟨N, C8.fnScope st, fun _ => true⟩ (cxOf (L2.CX Z.P Z.w) Z.P Z.w Z.G.K Z.mg Z.base N qual (C8.fnScope st) (Z.G.fa f) cdv A outer s H E) (fun cls d _ H => E cls d H) := by
        refine ⟨⟨rfl, rfl, rfl, rfl, rfl, rfl, rfl, rfl, hd.sc.nd, rfl, hr, takes_of rfl rfl rfl rfl⟩, passes_of rfl, rfl, rfl⟩
      refine ⟨_, (all_sndSs hz fd.body).S _ _ _ _ hx hd.body, ?_⟩
      exact ⟨T, Pd.start fd ws, S, rl, start_rel hv hd.ns, Post.finish p⟩
    · exact p.elim
end
end Pd
set_option Elab.async false
set_option linter.all false
set_option maxRecDepth 100000
set_option maxHeartbeats 1000000
/-! Pd26: the program's end. -/
namespace Pd
open PySem PySem.Spec PyProof.Rows L2
/-- a law's own data: its defs (number, def, the slots' names), names, classes, constants -/
structure Ld where
  own : List (Nat × Fd × List Str)
  names : List (Nat × Str)
  cls : List Nat
  held : List (Nat × Str)
  sub : List (Nat × Nat × Bool)
  cs : List (Nat × PyData)
  fuel : Nat
def nmAt (l : List (Nat × Str)) (i : Nat) : Str := match l.lookup i with | some x => x | none => Str.empty
def subAt : List (Nat × Nat × Bool) → Nat → Nat → Option Bool
  | [], _, _ => none
  | (a, b, t) :: r, i, j => if a = i ∧ b = j then some t else subAt r i j
def Ld.y (L : Ld) : Sym where
  sym := nmAt L.names
  ok := fun f => (L.own.lookup f).isSome
  ps := fun f => match L.own.lookup f with | some (fd, N) => N.take fd.np | none => []
  cs := fun g => List.lookup g L.cs
  cok := fun k => L.cls.contains k
  kp := fun k => (L.held.lookup k).isSome
def Ld.pr (L : Ld) : Prg where
  fd := fun f => (L.own.lookup f).map (·.1)
  cs := fun g => List.lookup g L.cs
  sub := subAt L.sub
  keeps := fun k => (L.held.lookup k).isSome
  fuel := L.fuel
def Ld.g (L : Ld) (K : PySem.W.Frag) : Gl0 := ⟨K, fun f => He.ga K (nmAt L.names f), fun k => He.ga K (nmAt L.names k), nmAt L.held⟩
def Ld.z (L : Ld) (P : Program) (w : World) (K : PySem.W.Frag) (mg : Str → Option Value) (base : Heap) (d : Nat) : Zc := ⟨P, w, L.g K, mg, base, L.pr, L.y, d⟩
/-- a def of the text, as data -/
def defOf : Stmt → Option He.DefD
  | .FunctionDef n a b _ _ _ sc _ _ _ => some ⟨(n, none), n, n, a, b, sc, [], []⟩
  | _ => none
def plainPB (p : Arguments) (ps : List Str) : Bool := p.posonlyargs.isEmpty && p.kwonlyargs.isEmpty && p.vararg.isNone && p.kwarg.isNone && decide (p.args.map (·.arg) = ps)
theorem plainPB_ok {p : Arguments} {ps : List Str} (h : plainPB p ps = true) : PlainP p ps := by
  unfold plainPB at h
  simp only [Bool.and_eq_true, List.isEmpty_iff, Option.isNone_iff_eq_none, decide_eq_true_eq] at h
  exact ⟨h.1.1.1.1, h.1.1.1.2, h.1.1.2, h.1.2, h.2⟩
/-- the text of a def is the own syntax -/
def chk1 (L : Ld) (o : Nat × Fd × List Str) (dd : He.DefD) : Bool :=
  nmAt L.names o.1 == dd.name && dd.at_ == (dd.name, none) && dd.dfl.isEmpty && C8.scC o.2.2 (o.2.2.take o.2.1.np) dd.scope && plainPB dd.params (o.2.2.take o.2.1.np) && decide (o.2.2.length = o.2.1.ns ∧ o.2.1.np ≤ o.2.1.ns) &&
    isSs L.y ⟨o.2.2, dd.scope, fun _ => true⟩ o.2.1.body dd.body
def chkA (L : Ld) : List (Nat × Fd × List Str) → List He.DefD → Bool
  | [], [] => true
  | o :: os, dd :: ds => chk1 L o dd && chkA L os ds
  | _, _ => false
theorem chkA_get {L : Ld} : ∀ {os : List (Nat × Fd × List Str)} {ds : List He.DefD} {f : Nat} {u : Fd × List Str}, chkA L os ds = true → os.lookup f = some u → ∃ (i : Nat) (dd : He.DefD), ds[i]? = some dd ∧ chk1 L (f, u) dd = true
  | [], _, _, _, _, h => by cases h
  | o :: os, [], _, _, h, _ => by cases h
  | (k, v) :: os, dd :: ds, f, u, h, q => by
    unfold chkA at h
    rw [Bool.and_eq_true] at h
    rw [List.lookup_cons] at q
    split at q
    · rename_i e
      cases q
      obtain rfl := beq_iff_eq.mp e
      exact ⟨0, dd, rfl, h.1⟩
    · obtain ⟨i, d2, h1, h2⟩ := chkA_get h.2 q
      exact ⟨i + 1, d2, h1, h2⟩
section
variable {L : Ld} {P : Program} {w : World} {K : PySem.W.Frag} {mg : Str → Option Value} {base : Heap} {fa : List He.Fa} {fn : List He.DefD}
/-- a def as FunD tells it -/
theorem defD_ok {Z : Zc} (hz : ZOk Z) {f : Nat} {fd : Fd} {N : List Str} {x qual : Str} {params : Arguments} {body : List Stmt} {scope : Scope} {kws : List (Str × V)} {fdat : FuncData} (F : FunD Z.G.K x qual params body scope [] kws (Z.G.fa f) fdat)
    (hfd : Z.Pr.fd f = some fd) (sc : FnScope N (Z.y.ps f) scope) (hb : isSs Z.y ⟨N, scope, fun _ => true⟩ fd.body body = true) (np : (Z.y.ps f).length = fd.np) (ns : N.length = fd.ns) :
    FnOk Z.P Z.w Z.G.K Z.mg Z.base (L2.CX Z.P Z.w) (lev Z.d + 1) (Z.G.fa f) fdat (Z.y.ps f) (spOf Z.G (callN Z.Pr (Z.d + 1)) f) := by
  refine F.ok sc (fun vs H Q E h => ?_) fun cdv A outer s H vs Q E hr h => ?_
  · obtain ⟨T, S, ws, rl, hv, p⟩ := h
    rw [hv.length, np]
    have p : Post Z.G T S.length H (runF Z.Pr (callN Z.Pr Z.d) f ws S) _ _ := p
    unfold runF at p
    rw [hfd] at p
    simp only at p
    split at p
    · rename_i e; exact e
    · exact p.elim
  · obtain ⟨T, S, ws, rl, hv, p⟩ := h
    have p : Post Z.G T S.length H (runF Z.Pr (callN Z.Pr Z.d) f ws S) _ _ := p
    unfold runF at p
    rw [hfd] at p
    simp only at p
    split at p
    · rename_i e
      have hx : XSt Z ⟨N, scope, fun _ => true⟩ (cxOf (L2.CX Z.P Z.w) Z.P Z.w Z.G.K Z.mg Z.base N qual scope (Z.G.fa f) cdv A outer s H E) (fun cls d _ H => E cls d H) := by
        refine ⟨⟨rfl, rfl, rfl, rfl, rfl, rfl, rfl, rfl, sc.nd, rfl, hr, takes_of rfl rfl rfl rfl⟩, passes_of rfl, rfl, rfl⟩
      exact ⟨_, (all_sndSs hz fd.body).S _ _ _ _ hx hb, T, Pd.start fd ws, S, rl, start_rel hv ns, Post.finish p⟩
    · exact p.elim
/-- what a law's head must tell -/
structure HeadOk (L : Ld) (P : Program) (w : World) (K : PySem.W.Frag) (mg : Str → Option Value) (base : Heap) (fn : List He.DefD) : Prop where
  blt : ∀ x, x ∈ bltNames → mg (Str.ofString x) = none
  chk : chkA L L.own fn = true
  fns : ∀ (i : Nat) (dd : He.DefD), fn[i]? = some dd → ∃ fdat, FunD K dd.name dd.qual dd.params dd.body dd.scope (dd.dvs K) (dd.kws K) (He.fAd K dd.at_) fdat
  glo : ∀ (i : Nat) (dd : He.DefD), fn[i]? = some dd → mg dd.name = some (.ref (He.ga K dd.name))
  ex : ∀ d, ZEx (L.z P w K mg base d)
  cons : ∀ g d, L.cs.lookup g = some d → ∃ u, mg (nmAt L.names g) = some u ∧ ∃ v, RelV v u ∧ ∀ T H, VD K T H v d
theorem fn_data (h : HeadOk L P w K mg base fn) {f : Nat} {fd : Fd} {N : List Str} (hl : L.own.lookup f = some (fd, N)) :
    ∃ (dd : He.DefD) (fdat : FuncData), mg (nmAt L.names f) = some (.ref (He.ga K (nmAt L.names f))) ∧ FunD K dd.name dd.qual dd.params dd.body dd.scope [] (dd.kws K) (He.ga K (nmAt L.names f)) fdat ∧ FnScope N (N.take fd.np) dd.scope ∧
      PlainP fdat.params (N.take fd.np) ∧ fdat.defaults = .none ∧ N.length = fd.ns ∧ (N.take fd.np).length = fd.np ∧ (N.take fd.np).Nodup ∧ isSs L.y ⟨N, dd.scope, fun _ => true⟩ fd.body dd.body = true := by
  obtain ⟨i, dd, h1, h2⟩ := chkA_get h.chk hl
  obtain ⟨fdat, F⟩ := h.fns i dd h1
  have g := h.glo i dd h1
  unfold chk1 at h2
  simp only [Bool.and_eq_true, beq_iff_eq, decide_eq_true_eq, List.isEmpty_iff] at h2
  obtain ⟨⟨⟨⟨⟨⟨e1, e2⟩, e3⟩, e4⟩, e5⟩, e6, e7⟩, e8⟩ := h2
  have ea : He.fAd K dd.at_ = He.ga K dd.name := by rw [e2]; rfl
  have ed : dd.dvs K = [] := by unfold He.DefD.dvs; rw [e3]; rfl
  rw [ea, ed, ← e1] at F
  rw [← e1] at g
  have sc := C8.fnScope_by e4
  refine ⟨dd, fdat, g, e1 ▸ F, sc, ?_, ?_, e6, by rw [List.length_take]; omega, sc.nd.sublist (List.take_sublist _ _), e8⟩
  · obtain ⟨oc, od, dV, kV, doc, pm, an, cdv, ct, osl, rfl, _⟩ := F.ex
    exact plainPB_ok e5
  · obtain ⟨oc, od, dV, kV, doc, pm, an, cdv, ct, osl, rfl, _, _, hD, _⟩ := F.ex
    rcases hD with ⟨_, rfl⟩ | ⟨e, _⟩
    · rfl
    · exact absurd rfl e
theorem zok_of (h : HeadOk L P w K mg base fn) : ∀ d, ZOk (L.z P w K mg base d) := by
  intro d
  have mk : (∀ f fd N, L.own.lookup f = some (fd, N) → ∀ (dd : He.DefD) (fdat : FuncData), FunD K dd.name dd.qual dd.params dd.body dd.scope [] (dd.kws K) (He.ga K (nmAt L.names f)) fdat → FnScope N (N.take fd.np) dd.scope → isSs L.y ⟨N, dd.scope, fun _ => true⟩ fd.body dd.body = true → N.length = fd.ns → (N.take fd.np).length = fd.np →
      FnOk P w K mg base (L2.CX P w) (lev d) (He.ga K (nmAt L.names f)) fdat (N.take fd.np) (spOf (L.g K) (callN L.pr d) f)) → ZOk (L.z P w K mg base d) := by
    intro F
    refine ⟨h.blt, fun f hf => ?_, h.ex d, h.cons⟩
    have hf : (L.own.lookup f).isSome = true := hf
    cases hl : L.own.lookup f with
    | none => rw [hl] at hf; cases hf
    | some u =>
      obtain ⟨fd, N⟩ := u
      obtain ⟨dd, fdat, g, D, sc, pl, df, ns, np, nd, b⟩ := fn_data h hl
      have eps : (L.z P w K mg base d).y.ps f = N.take fd.np := by show (match L.own.lookup f with | some (fd, N) => N.take fd.np | none => []) = _; rw [hl]
      rw [eps]
      refine ⟨g, D.kp, fd, fdat, ?_, np, pl, df, nd, F f fd N hl dd fdat D sc b ns np⟩
      show (L.own.lookup f).map (·.1) = some fd
      rw [hl]; rfl
  induction d with
  | zero =>
    refine mk fun f fd N hl dd fdat D sc b ns np => ⟨fun vs H Q E q => ?_, fun A outer s H args us vs Q E _ _ _ _ q => ?_⟩
    · obtain ⟨T, S, ws, rl, hv, p⟩ := q; exact p.elim
    · obtain ⟨T, S, ws, rl, hv, p⟩ := q; exact (show False from p).elim
  | succ d ih =>
    refine mk fun f fd N hl dd fdat D sc b ns np => ?_
    have hz := ih (by
      intro F
      refine ⟨h.blt, fun f hf => ?_, h.ex d, h.cons⟩
      have hf : (L.own.lookup f).isSome = true := hf
      cases hl : L.own.lookup f with
      | none => rw [hl] at hf; cases hf
      | some u =>
        obtain ⟨fd, N⟩ := u
        obtain ⟨dd, fdat, g, D, sc, pl, df, ns, np, nd, b⟩ := fn_data h hl
        have eps : (L.z P w K mg base d).y.ps f = N.take fd.np := by show (match L.own.lookup f with | some (fd, N) => N.take fd.np | none => []) = _; rw [hl]
        rw [eps]
        refine ⟨g, D.kp, fd, fdat, ?_, np, pl, df, nd, F f fd N hl dd fdat D sc b ns np⟩
        show (L.own.lookup f).map (·.1) = some fd
        rw [hl]; rfl)
    have eps : (L.z P w K mg base d).y.ps f = N.take fd.np := by show (match L.own.lookup f with | some (fd, N) => N.take fd.np | none => []) = _; rw [hl]
    have := defD_ok (Z := L.z P w K mg base d) hz (f := f) (fd := fd) (N := N) (fdat := fdat) D (by show (L.own.lookup f).map (·.1) = some fd; rw [hl]; rfl) (by rw [eps]; exact sc) b (by rw [eps]; exact np) ns
    rw [eps] at this
    exact this
/-- the law at the heap behind the top -/
theorem law_sp {D f : Nat} {n : Nat} {H : Hp} {a : Addr} {ns : List Int} (hn : ns.length ≤ sizeLine) (hO : Only H) (hS : SqL K H a (ns.map V.int))
    (hlaw : ∃ S', callN L.pr D f [.ro (ns.map PyData.int)] [] = .ok (.v (.bool true), false) S') : spOf (L.g K) (callN L.pr D) f [.ref a] H (fun v _ => v = .bl true) (fun _ _ _ => False) := by
  obtain ⟨S', e⟩ := hlaw
  refine ⟨⟨fun _ => 0, fun b => H b ≠ none⟩, [], [.ro (ns.map PyData.int)], ⟨fun l o h => by simp at h, fun i j h => absurd h (by simp), fun i h => absurd h (by simp), fun b h => h⟩, .cons (.ro ⟨by simpa using hn, ?_⟩ (ints_data ns)) .nil, Post.mk e fun T' H' s r x hx => ?_⟩
  · rcases hS with hS | hS
    · rcases hS with hS | ⟨o, hS⟩
      · rcases hO a with q | ⟨o, xs, q⟩
        · rw [hS] at q; cases q
        · rw [hS] at q; cases q
      · exact .inl ⟨by show H a ≠ none; rw [hS]; simp, o, hS⟩
    · exact .inr hS
  · exact vd_bool hx
/-- what walk_ofE asks -/
theorem law_fact {d f i : Nat} {x : Str} {fdl : Fd} {N : List Str} {dd : He.DefD} {fdat : FuncData} (hl : L.own.lookup f = some (fdl, N)) (hi : chk1 L (f, fdl, N) dd = true) (h1 : N.take fdl.np = [x])
    (F : FunD K dd.name dd.qual dd.params dd.body dd.scope (dd.dvs K) (dd.kws K) (He.fAd K dd.at_) fdat) :
    (∀ (s : Shared) (u : Value), BindsTo s fdat ⟨[u], []⟩ [(x, u)]) ∧ ∀ base : Heap, HeadOk L P w K mg base fn → FnOk P w K mg base (L2.CX P w) (lev (d + 1)) (He.ga K (nmAt L.names f)) fdat [x] (spOf (L.g K) (callN L.pr (d + 1)) f) := by
  unfold chk1 at hi
  simp only [Bool.and_eq_true, beq_iff_eq, decide_eq_true_eq, List.isEmpty_iff] at hi
  obtain ⟨⟨⟨⟨⟨⟨e1, e2⟩, e3⟩, e4⟩, e5⟩, e6, e7⟩, e8⟩ := hi
  have ea : He.fAd K dd.at_ = He.ga K dd.name := by rw [e2]; rfl
  have ed : dd.dvs K = [] := by unfold He.DefD.dvs; rw [e3]; rfl
  rw [ea, ed, ← e1] at F
  have sc := C8.fnScope_by e4
  have pl : PlainP fdat.params (N.take fdl.np) := by
    obtain ⟨oc, od, dV, kV, doc, pm, an, cdv, ct, osl, rfl, _⟩ := F.ex
    exact plainPB_ok e5
  have df : fdat.defaults = .none := by
    obtain ⟨oc, od, dV, kV, doc, pm, an, cdv, ct, osl, rfl, _, _, hD, _⟩ := F.ex
    rcases hD with ⟨_, rfl⟩ | ⟨e, _⟩
    · rfl
    · exact absurd rfl e
  have nd : (N.take fdl.np).Nodup := sc.nd.sublist (List.take_sublist _ _)
  refine ⟨fun s u => .of_eq ?_, fun base h => ?_⟩
  · have := binds_plain fdat (N.take fdl.np) pl df nd [u] (by rw [h1]; rfl)
    rw [h1] at this
    exact this
  · have eps : (L.z P w K mg base d).y.ps f = N.take fdl.np := by show (match L.own.lookup f with | some (fd, N) => N.take fd.np | none => []) = _; rw [hl]
    have := defD_ok (Z := L.z P w K mg base d) (zok_of h d) (f := f) (fd := fdl) (N := N) (fdat := fdat) F (by show (L.own.lookup f).map (·.1) = some fdl; rw [hl]; rfl) (by rw [eps]; exact sc) e8 (by rw [eps, List.length_take]; omega) e6
    rw [eps, h1] at this
    exact this
theorem cx_none (H : Hp) (s : Shared) (e : Value) (s' : Shared) (h : L2.CX P w [] H s (fun _ _ _ => False) e s') : False := by
  obtain ⟨_, _, _, _, _, _, _, _, _, _, _, _, q⟩ := h
  exact q
/-- the classes without a field -/
theorem zex_of {d : Nat} (hmg : ∀ k, L.cls.contains k = true → mg (nmAt L.names k) = some (.ref (He.ga K (nmAt L.names k)))) (hsub : ∀ a b t, subAt L.sub a b = some t → PySem.W.exmOne K (.ref (He.ga K (nmAt L.names a))) (.ref (He.ga K (nmAt L.names b))) = some t)
    (hex : ∀ k, L.cls.contains k = true → (L.held.lookup k).isSome = false → (He.Fa.exc (nmAt L.names k)).ok K = true)
    (held : ∀ k, L.cls.contains k = true → (L.held.lookup k).isSome = true → ∀ (X : Cx) (Wx : WX) (x : Str) (e : Expr) (te : TE) (p pos : Pos), XBase (L.z P w K mg base d) X → Takes X Wx → Gl X x → X.mg x = some (.ref (He.ga K (nmAt L.names k))) → (x == ("__debug__" : Str)) = false → (∀ a p, e ≠ .Starred a p) → PE X e te →
      PMk X (.Call (.Name x p) [e] [] pos) (fun σ H Q => te σ H fun v H1 => ∀ dd, H1 dd = none → Q (.ref (He.ga K (nmAt L.names k))) (some dd) (upd H1 dd (.xd [(nmAt L.held k, v)])))) : ZEx (L.z P w K mg base d) := by
  refine ⟨fun k _ => rfl, hmg, hsub, fun k hk hkp X x m j p p2 pos xb hg hm hdb => ?_, fun k hk hkp => held k hk hkp⟩
  obtain ⟨q1, q2, q3, q4⟩ := He.exc_ok (hex k hk hkp)
  have eK : X.K = K := xb.K
  exact pmk_own PySem.F.excBase_ValueError (by rw [eK]; exact q1) hm (by rw [eK]; exact q2) (raises_own (by rw [eK]; exact q3) (by rw [eK]; exact q4)) hg hdb
end
end Pd
set_option Elab.async false
set_option linter.all false
set_option maxRecDepth 100000
set_option maxHeartbeats 1000000
/-! PdHeld: own errors that keep what they are made with. -/
namespace Pd
open PySem PySem.Spec PyProof.Rows L2
/-- what a class of errors with an own __init__ shows -/
def oexB (K : PySem.W.Frag) (C : Addr) : Bool :=
  (match K.lookup C with
  | some ⟨.type "type", _, .cls cd, sl⟩ => (match cd.mro, sl.toList with
    | .ref C2 :: bm, [_, _, _, _, some (.builtin n), _] => C2 == C && n == "ValueError.__new__" && !cd.hasDel && cd.hasDict && PySem.HandSPX.refsVE bm
    | _, _ => false)
  | _ => false) &&
  (decide (PySem.W.findIn K (.ref C) "__setattr__" = some (some (.builtin "object.__setattr__"))) && (decide (PySem.W.subIn K (.ref C) (.type "BaseException") = some true) && (decide (PySem.W.typeIn K (.ref C) = some (.type "type")) && PySem.W.keepIn K (.ref C))))
theorem oexB_ok {K : PySem.W.Frag} {C : Addr} (h : oexB K C = true) : OexC K C := by
  unfold oexB at h
  rw [Bool.and_eq_true, Bool.and_eq_true, Bool.and_eq_true, Bool.and_eq_true] at h
  obtain ⟨h1, h2, h3, h4, h5⟩ := h
  refine ⟨?_, of_decide_eq_true h2, of_decide_eq_true h3, of_decide_eq_true h4, h5⟩
  split at h1
  · rename_i dd cd sl ho
    split at h1
    · rename_i C2 bm a0 a1 a2 a3 n a5 hm hs
      simp only [Bool.and_eq_true, beq_iff_eq, Bool.not_eq_true'] at h1
      obtain ⟨⟨⟨⟨e1, e2⟩, e3⟩, e4⟩, e5⟩ := h1
      obtain ⟨nm, bs, mro, ns, qn, hdc, sn, sub, ab, col, del⟩ := cd
      dsimp only at hm e3 e4
      subst hm e3 e4 e1 e2
      obtain ⟨l⟩ := sl
      simp only at hs
      subst hs
      exact ⟨nm, qn, ns, bs, bm, sn, sub, ab, col, dd, a0, a1, a2, a3, a5, ho, e5⟩
    · cases h1
  · cases h1
/-- what the base class shows: its __init__ is ValueError's -/
def baseB (K : PySem.W.Frag) (C : Addr) : Bool :=
  decide (PySem.W.specialIn K (.ref C) "__getattribute__" = some (some (.builtin "type.__getattribute__"))) && (PySem.W.readsIn K C (.type "type") &&
    (match PySem.W.findCls K (.ref C) (.type "type") "__init__" with
    | some (.val (.builtin n)) => n == "ValueError.__init__"
    | _ => false))
theorem baseB_find {K : PySem.W.Frag} {C : Addr} (h : (match PySem.W.findCls K (.ref C) (.type "type") "__init__" with
    | some (.val (.builtin n)) => n == "ValueError.__init__"
    | _ => false) = true) : PySem.W.findCls K (.ref C) (.type "type") "__init__" = some (.val (.builtin "ValueError.__init__")) := by
  split at h
  · rename_i n e
    rw [e, beq_iff_eq.mp h]
  · cases h
section
variable {X : Cx} {e : Expr} {es : List Expr} {ta : TA} {B : Str} {CB : Addr} {p1 p2 pos : Pos}
/-- Base.__init__(self, ..) -/
theorem pe_cinit {pl : Sem Bool} (hg : Gl X B) (hm : X.mg B = some (.ref CB)) (hdb : (B == ("__debug__" : Str)) = false) (hb : baseB X.K CB = true) (ha : PA X (e :: es) ta)
    (hc : eval (.Call (.Attribute (.Name B p1) "__init__" p2) (e :: es) [] pos) X.env = (do
      let ov ← eval (.Name B p1) X.env
      standAt p2.atName
      let (f, first) ← holding [ov] (getMethod ov "__init__" pl)
      callWith pos f first (backTo pos (starEach (e :: es) X.env)) (backToKw pos (keywordEach [] X.env))))
    (he : starEach (e :: es) X.env = (false, eval e X.env) :: starEach es X.env) (hpl : (backTo pos (starEach es X.env)).any (·.1) = false) :
    PE X (.Call (.Attribute (.Name B p1) "__init__" p2) (e :: es) [] pos) (tVeI X.K ta) := by
  unfold baseB at hb
  rw [Bool.and_eq_true, Bool.and_eq_true] at hb
  obtain ⟨b1, b2, b3⟩ := hb
  refine ⟨fun pins s σ H Q I h => PySem.W.methodCall_KW (ld_glob I hg hm ?_ hdb) hc⟩
  refine PySem.W.method_cls I.kIn (of_decide_eq_true b1) (PySem.W.cls_value I.kIn b2 (baseB_find b3) (by decide +kernel) ?_)
  show wpAny _ _ (callWith pos (Value.builtin "ValueError.__init__") [] (backTo pos (starEach (e :: es) X.env)) []) _ _ _
  refine PyProof.Rows.callWith_method1 (thn (ha.run pos pins _ σ H _ (I.tok _) h) fun us s1 ⟨vs, H1, I1, r1, a, C, ws, ev, hl, T, ea, q⟩ => ?_) he hpl
  subst ev
  cases r1 with
  | @cons _ u0 _ ur ra rw2 =>
    obtain rfl : u0 = Value.ref a := ra
    exact oinit_ok T I1 ea (by rw [← Paired.length rw2, sizeLine_eq]; omega) fun s' J => ⟨.non, H1, J, rfl, q⟩
end
/-- an error that keeps a field: the class, its base, the field -/
def spInit (K : PySem.W.Frag) (C : Addr) (f : Str) : Sp := fun vs H Q _ => ∃ (a : Addr) (x : V), vs = [.ref a, x] ∧ H a = some (exo a C none) ∧ ∀ dx, H dx = none → dx ≠ a → Q .non (upd (upd H dx (exd dx [(f, x)])) a (exo a C (some dx)))
/-- the call of the base's __init__ as the model runs it -/
def CallsInit (B : Str) (p1 p2 p5 : Pos) (es : List Expr) : Prop := ∀ env : PySem.Env, ∃ pl : Sem Bool, eval (.Call (.Attribute (.Name B p1) "__init__" p2) es [] p5) env = (do
  let ov ← eval (.Name B p1) env
  standAt p2.atName
  let (f, first) ← holding [ov] (getMethod ov "__init__" pl)
  callWith p5 f first (backTo p5 (starEach es env)) (backToKw p5 (keywordEach [] env)))
theorem init_ok {P : Program} {w : World} {K : PySem.W.Frag} {mg : Str → Option Value} {base : Heap} {fI : Addr} {fd : FuncData} {x qual : Str} {params : Arguments} {body : List Stmt} {scope : Scope} {kws : List (Str × V)} (F : FunD K x qual params body scope [] kws fI fd)
    {par f B z : Str} {C CB : Addr} {p1 p2 p3 p4 p5 q1 q2 q3 q4 q5 : Pos} {k : _} (S : FnScope ["self", par] ["self", par] scope)
    (hbody : body = [.Expr (.Call (.Attribute (.Name B p1) "__init__" p2) [.Name "self" p3, .Constant (.str z) k p4] [] p5) q1, .Assign [.Attribute (.Name "self" q2) f q3] (.Name par q4) q5])
    (hc : CallsInit B p1 p2 p5 [.Name "self" p3, .Constant (.str z) k p4]) (gB : scope.names.lookup B = some .globalImplicit) (lS : scope.names.lookup ("self" : Str) = some .local) (lP : scope.names.lookup par = some .local) (okP : okNm par = true)
    (mB : mg B = some (.ref CB)) (dB : (B == ("__debug__" : Str)) = false) (hb : baseB K CB = true) (T : OexC K C) (hno : PySem.W.findIn K (.ref C) f = some none) :
    FnOk P w K mg base CX0 1 fI fd ["self", par] (spInit K C f) := by
  subst hbody
  refine F.ok S (fun vs H Q E h => ?_) fun cdv A outer s H vs Q E hr h => ⟨tSeq (tDrop (tVeI K (tCons (tVar 0) (tCons (tC (.str z)) tNil)))) (tOst K f (tVar 0) (tVar 1)), PSs.nox ?_, ?_⟩
  · obtain ⟨a, y, rfl, _⟩ := h; rfl
  · obtain ⟨n1, n2, _⟩ := nm_of okP
    obtain ⟨pl, e1⟩ := hc (envOfC qual scope s.heap.objs.size fI cdv)
    have vS : PE (cxOf CX0 P w K mg base ["self", par] qual scope fI cdv A outer s H E).nox (.Name "self" p3) (tVar 0) := pe_var (i := 0) rfl (.inl lS) (by decide) (by decide)
    have vS2 : PE (cxOf CX0 P w K mg base ["self", par] qual scope fI cdv A outer s H E).nox (.Name "self" q2) (tVar 0) := pe_var (i := 0) rfl (.inl lS) (by decide) (by decide)
    have vP : PE (cxOf CX0 P w K mg base ["self", par] qual scope fI cdv A outer s H E).nox (.Name par q4) (tVar 1) := pe_var (i := 1) rfl (.inl lP) n1 n2
    exact pss_cons (ps_expr (pe_cinit (pl := pl) gB mB dB hb (pa_cons vS (pa_cons pe_str pa_nil)) e1 rfl rfl)) (pss_one (ps_ost vS2 vP))
  · obtain ⟨a, y, rfl, ha, q⟩ := h
    refine ⟨.ref a, rfl, ⟨a, C, [.str z], rfl, by simp, T, ha, y, rfl, .ref a, rfl, a, C, rfl, T, hno, .inl ⟨ha, fun dx hd hne => q dx hd hne⟩⟩⟩
theorem pmk_weak {X : Cx} {e : Expr} {t u : L2.St → Hp → XK → Prop} (h : PMk X e t) (m : ∀ σ H Q, u σ H Q → t σ H Q) : PMk X e u := fun pins s σ H Q I q => h pins s σ H Q I (m σ H Q q)
/-- raise C(e): the class keeps what it is made with -/
theorem pmk_held {X : Cx} {x : Str} {C fI : Addr} {fd : FuncData} {par f : Str} {e : Expr} {te : TE} {p pos : Pos} (T : OexC X.K C) (iC : PySem.W.findIn X.K (.ref C) "__init__" = some (some (.ref fI))) (tI : PySem.W.typeIn X.K (.ref fI) = some (.type "function"))
    (F1 : FnOk X.prog X.w X.K X.mg X.base CX0 1 fI fd ["self", par] (spInit X.K C f)) (hr : Room 2 X.A) (hb : Binds X.K fd ["self", par] []) (hg : Gl X x) (hm : X.mg x = some (.ref C)) (hdb : (x == ("__debug__" : Str)) = false) (hs : ∀ a p, e ≠ .Starred a p) (he : PE X e te) :
    PMk X (.Call (.Name x p) [e] [] pos) (fun σ H Q => te σ H fun v H1 => ∀ dd, H1 dd = none → Q (.ref C) (some dd) (upd H1 dd (.xd [(f, v)]))) := by
  have sx : starEach [e] X.env = [(false, eval e X.env)] := by
    cases e with
    | Starred a p => exact absurd rfl (hs a p)
    | _ => rfl
  let te2 : TE := fun σ H Q => ∃ Q1 : VK, te σ H Q1 ∧ ∀ v H1, Q1 v H1 → Q v H1
  have he2 : PE X e te2 := ⟨fun pins s σ H Q I ⟨Q1, h1, h2⟩ => thn (he.run pins s σ H Q1 I h1) fun u s1 ⟨v, H1, I1, r1, q1⟩ => ⟨v, H1, I1, r1, h2 v H1 q1⟩⟩
  have pa : PA X [e] (tCons te2 tNil) := pa_cons he2 pa_nil sx
  refine pmk_weak (pmk_oex T iC tI F1 hr hb .nil pass0 hg hm pa hdb sx (by rfl)) fun σ H Q q => ?_
  refine ⟨_, q, fun v H1 hq => ⟨by simp, fun a ha => ⟨a, v, rfl, upd_same, fun dx hd hne => ⟨rfl, dx, [(f, v)], upd_same, ?_, ?_, ?_⟩⟩⟩⟩
  · rw [upd_ne hne, upd_same]
  · rw [upd_ne hne] at hd; exact hd
  · have hd1 : H1 dx = none := by rw [upd_ne hne] at hd; exact hd
    have e2 : upd (del (upd (upd (upd H1 a (exo a C none)) dx (exd dx [(f, v)])) a (exo a C (some dx))) a) dx (.xd [(f, v)]) = upd H1 dx (.xd [(f, v)]) := by
      funext b
      by_cases h1 : b = dx
      · subst h1; rw [upd_same, upd_same]
      · rw [upd_ne h1, upd_ne h1]
        by_cases h2 : b = a
        · subst h2; rw [del_same, ha]
        · rw [del_ne h2, upd_ne h2, upd_ne h1, upd_ne h2]
    rw [e2]
    exact hq dx hd1
end Pd
set_option Elab.async false
set_option linter.all false
set_option maxRecDepth 100000
set_option maxHeartbeats 1000000
/-! PdEnd: from the head's facts to the law. -/
namespace Pd
open PySem PySem.Spec PyProof.Rows L2
/-! ### own __init__ -/
theorem calls_init {B s : Str} {p1 p2 p3 p4 p5 : Pos} {c : Const} {k : _} (hl : (p2.endLine == p5.line) = true) : CallsInit B p1 p2 p5 [.Name s p3, .Constant c k p4] := fun env => by
  refine ⟨plainOf (.Name B p1) env, ?_⟩
  rw [arm_eval_Call]
  have hb : attributeBase (.Name B p1) "__init__" env (eval (.Name B p1) env) = eval (.Name B p1) env := rfl
  rw [hb]
  have e : ∀ ov, methodCall (.Name B p1) "__init__" p2 p5 env ov ([Expr.Name s p3, .Constant c k p4].length + ([] : List Keyword).length) (backTo p5 (starEach [.Name s p3, .Constant c k p4] env)) (backToKw p5 (keywordEach [] env)) = (do
      let (f, first) ← holding [ov] (getMethod ov "__init__" (plainOf (.Name B p1) env))
      callWith p5 f first (backTo p5 (starEach [.Name s p3, .Constant c k p4] env)) (backToKw p5 (keywordEach [] env))) := fun ov => mcall_line (by rfl) hl
  simp only [e]
/-- the text of an own __init__: base, field, parameter -/
def initOf : List Stmt → Option (Str × Str × Str)
  | [.Expr (.Call (.Attribute (.Name B _) i p2) [.Name s _, .Constant (.str _) _ _] [] p5) _, .Assign [.Attribute (.Name s2 _) f _] (.Name par _) _] =>
    if i = "__init__" ∧ s = "self" ∧ s2 = "self" ∧ (p2.endLine == p5.line) = true then some (B, f, par) else none
  | _ => none
theorem initOf_some {b : List Stmt} {B f par : Str} (h : initOf b = some (B, f, par)) : ∃ (z : Str) (k : Nat) (p1 p2 p3 p4 p5 q1 q2 q3 q4 q5 : Pos), b = [.Expr (.Call (.Attribute (.Name B p1) "__init__" p2) [.Name "self" p3, .Constant (.str z) k p4] [] p5) q1, .Assign [.Attribute (.Name "self" q2) f q3] (.Name par q4) q5] ∧ (p2.endLine == p5.line) = true := by
  unfold initOf at h
  split at h
  · split at h
    · rename_i hc
      obtain ⟨h1, h2, h3, h4⟩ := hc
      subst h1; subst h2; subst h3
      cases h
      exact ⟨_, _, _, _, _, _, _, _, _, _, _, _, rfl, h4⟩
    · cases h
  · cases h
/-- an error that keeps a field: its class x, its __init__ d, by computation -/
def heldT (x f : Str) (d : He.DefD) : Bool :=
  match initOf d.body with
  | some (B, f2, par) => f2 == f && okNm par && !(B == ("__debug__" : Str)) && d.scope.names.lookup B == some .globalImplicit && d.scope.names.lookup ("self" : Str) == some .local && d.scope.names.lookup par == some .local &&
    C8.scC ["self", par] ["self", par] d.scope && plainPB d.params ["self", par] && d.dfl.isEmpty && d.at_ == (x, some ("__init__" : Str))
  | none => false
def baseOf (d : He.DefD) : Str := match initOf d.body with | some (B, _, _) => B | none => Str.empty
def heldK (K : PySem.W.Frag) (x f : Str) (d : He.DefD) : Bool :=
  oexB K (He.ga K x) && (decide (PySem.W.findIn K (.ref (He.ga K x)) "__init__" = some (some (.ref (He.fAd K d.at_)))) && (decide (PySem.W.typeIn K (.ref (He.fAd K d.at_)) = some (.type "function")) &&
    (decide (PySem.W.findIn K (.ref (He.ga K x)) f = some none) && (baseB K (He.ga K (baseOf d)) && decide (PySem.W.nsIn K mainGlobals (baseOf d) = some (some (.ref (He.ga K (baseOf d)))))))))
theorem held_ok {Z : Zc} {h : Heap} (KX : Z.G.K.In h) (G : h.Ns mainGlobals Z.mg) {x f : Str} {d : He.DefD} {fd : FuncData} (F : FunD Z.G.K d.name d.qual d.params d.body d.scope (d.dvs Z.G.K) (d.kws Z.G.K) (He.fAd Z.G.K d.at_) fd)
    (ht : heldT x f d = true) (hk : heldK Z.G.K x f d = true) {X : Cx} {u : Str} {e : Expr} {te : TE} {p pos : Pos} (xb : XBase Z X) (hg : Gl X u) (hm : X.mg u = some (.ref (He.ga Z.G.K x))) (hdb : (u == ("__debug__" : Str)) = false) (hs : ∀ a p, e ≠ .Starred a p) (he : PE X e te) :
    PMk X (.Call (.Name u p) [e] [] pos) (fun σ H Q => te σ H fun v H1 => ∀ dd, H1 dd = none → Q (.ref (He.ga Z.G.K x)) (some dd) (upd H1 dd (.xd [(f, v)]))) := by
  unfold heldT at ht
  split at ht
  · rename_i B f2 par hi
    simp only [Bool.and_eq_true, beq_iff_eq, Bool.not_eq_true', List.isEmpty_iff] at ht
    obtain ⟨⟨⟨⟨⟨⟨⟨⟨⟨rfl, t2⟩, t3⟩, t4⟩, t5⟩, t6⟩, t7⟩, t8⟩, t9⟩, t10⟩ := ht
    have hB : baseOf d = B := by unfold baseOf; rw [hi]
    unfold heldK at hk
    rw [hB] at hk
    simp only [Bool.and_eq_true, decide_eq_true_eq] at hk
    obtain ⟨k1, k2, k3, k4, k5, k6⟩ := hk
    obtain ⟨z, k, p1, p2, p3, p4, p5, q1, q2, q3, q4, q5, hbody, hline⟩ := initOf_some hi
    have ed : d.dvs Z.G.K = [] := by unfold He.DefD.dvs; rw [t9]; rfl
    rw [ed] at F
    have S : FnScope ["self", par] ["self", par] d.scope := C8.fnScope_by t7
    have F1 : FnOk Z.P Z.w Z.G.K Z.mg Z.base CX0 1 (He.fAd Z.G.K d.at_) fd ["self", par] (spInit Z.G.K (He.ga Z.G.K x) f2) :=
      init_ok F S hbody (calls_init hline) t4 t5 t6 t2 (PySem.W.mg_of KX G k6) (by simpa using t3) k5 (oexB_ok k1) k4
    have pl : PlainP fd.params ["self", par] := by
      obtain ⟨oc, od, dV, kV, doc, pm, an, cdv, ct, osl, rfl, _⟩ := F.ex
      exact plainPB_ok t8
    have df : fd.defaults = .none := by
      obtain ⟨oc, od, dV, kV, doc, pm, an, cdv, ct, osl, rfl, _, _, hD, _⟩ := F.ex
      rcases hD with ⟨_, rfl⟩ | ⟨e, _⟩
      · rfl
      · exact absurd rfl e
    have hb : Binds Z.G.K fd ["self", par] [] := .all fun us hl => binds_plain fd ["self", par] pl df S.nd us hl
    obtain ⟨eP, ew, eK, emg, ebase, hcalm, hroom⟩ := xb
    have F2 : FnOk X.prog X.w X.K X.mg X.base CX0 1 (He.fAd Z.G.K d.at_) fd ["self", par] (spInit X.K (He.ga Z.G.K x) f2) := by
      rw [eP, ew, eK, emg, ebase]; exact F1
    refine pmk_held (by rw [eK]; exact oexB_ok k1) (by rw [eK]; exact k2) (by rw [eK]; exact k3) F2 (hroom.mono (by unfold lev; omega)) (by rw [eK]; exact hb) hg hm hdb hs he
  · cases ht
/-! ### the head: what it shows -/
def nmOf : Stmt → Option Str
  | .FunctionDef n _ _ _ _ _ _ _ _ _ => some n
  | .ClassDef n _ _ _ _ _ _ _ _ _ _ => some n
  | _ => none
/-- a class's own def -/
def methOf : Stmt → Option He.DefD
  | .ClassDef n _ _ [.FunctionDef m a b _ _ _ sc _ _ _] _ _ _ _ _ _ _ => some ⟨(n, some m), m, n ++ Str.ofString "." ++ m, a, b, sc, [], []⟩
  | _ => none
theorem defOf_nm {st : Stmt} {d : He.DefD} (h : defOf st = some d) : nmOf st = some d.name := by
  unfold defOf at h
  split at h
  · cases h; rfl
  · cases h
def fnsOf (P : Program) : List He.DefD := P.main.body.filterMap defOf
def metsOf (P : Program) : List He.DefD := P.main.body.filterMap methOf
def faOf (L : Ld) (P : Program) : List He.Fa :=
  (P.main.body.filterMap nmOf).map He.Fa.glo ++ (bltNames.map fun x => He.Fa.free (Str.ofString x)) ++ (L.cls.filter fun k => !(L.held.lookup k).isSome).map (fun k => He.Fa.exc (nmAt L.names k)) ++
  (L.sub.map fun p => He.Fa.exm (nmAt L.names p.1) (nmAt L.names p.2.1) p.2.2) ++ (L.cls.map fun k => He.Fa.glo (nmAt L.names k))
/-- what the classes that keep a field show -/
def exOf (L : Ld) (P : Program) (K : PySem.W.Frag) : Bool := L.held.all fun p => (metsOf P).any fun d => heldT (nmAt L.names p.1) p.2 d && heldK K (nmAt L.names p.1) p.2 d
/-- the module's names and the model's own statics -/
def asX (g : Addr → Option Obj) : Nat → List Addr
  | 0 => [mainGlobals, cStatics]
  | n + 1 => He.growD g (asX g n)
def obsX (n : Nat) (L : Ld) (P : Program) (g : Addr → Option Obj) : He.AlD :=
  let K := He.frG g (asX g n)
  ((He.obsD (faOf L P) (fnsOf P ++ metsOf P) K).1 && exOf L P K, (He.obsD (faOf L P) (fnsOf P ++ metsOf P) K).2)
def SaysX (L : Ld) (P : Program) (K : PySem.W.Frag) : Prop := He.SaysD (faOf L P) (fnsOf P ++ metsOf P) K ∧ exOf L P K = true
theorem saysX_of {n : Nat} {L : Ld} {P : Program} {g : Addr → Option Obj} (h : obsX n L P g = He.valD (fnsOf P ++ metsOf P)) : SaysX L P (He.frG g (asX g n)) := by
  have h1 : ((He.obsD (faOf L P) (fnsOf P ++ metsOf P) (He.frG g (asX g n))).1 && exOf L P (He.frG g (asX g n))) = true := congrArg (fun z : He.AlD => z.1) h
  have h2 : (He.obsD (faOf L P) (fnsOf P ++ metsOf P) (He.frG g (asX g n))).2 = (fnsOf P ++ metsOf P).map He.DefD.val := congrArg (fun z : He.AlD => z.2) h
  rw [Bool.and_eq_true] at h1
  exact ⟨Prod.ext h1.1 h2, h1.2⟩
def hookX (n : Nat) (L : Ld) (P : Program) : PySem.W.Hook where
  α := He.AlD
  obs := fun s => obsX n L P s.heap.get?
  val := fun _ => He.valD (fnsOf P ++ metsOf P)
  says := fun _ h => ∃ K : PySem.W.Frag, K.In h ∧ SaysX L P K
  of := fun _ _ e => ⟨_, He.frG_in, saysX_of e⟩
  keeps := fun _ _ _ ⟨K, hK, c⟩ k => ⟨K, PySem.W.Frag.In.keeps hK k, c⟩
theorem obsX_eq {n : Nat} {L : Ld} {P : Program} {g : Addr → Option Obj} {s : Shared} (h : ∀ a, g a = s.heap.get? a) : obsX n L P g = (hookX n L P).obs s := by
  have e : g = s.heap.get? := funext h
  rw [e]; rfl
theorem fact_mem {fa : List He.Fa} {fn : List He.DefD} {K : PySem.W.Frag} (c : He.SaysD fa fn K) {f : He.Fa} (h : f ∈ fa) : f.ok K = true := by
  obtain ⟨i, hi, e⟩ := List.mem_iff_getElem.mp h
  exact c.fact i (by rw [List.getElem?_eq_getElem hi, e])
theorem def_mem {fa : List He.Fa} {fn : List He.DefD} {K : PySem.W.Frag} (c : He.SaysD fa fn K) {d : He.DefD} (h : d ∈ fn) : ∃ fd, FunD K d.name d.qual d.params d.body d.scope (d.dvs K) (d.kws K) (He.fAd K d.at_) fd := by
  obtain ⟨i, hi, e⟩ := List.mem_iff_getElem.mp h
  exact c.def_ i (by rw [List.getElem?_eq_getElem hi, e])
theorem subAt_mem : ∀ {l : List (Nat × Nat × Bool)} {a b : Nat} {t : Bool}, subAt l a b = some t → (a, b, t) ∈ l
  | [], _, _, _, h => by cases h
  | (x, y, u) :: r, a, b, t, h => by
    unfold subAt at h
    split at h
    · rename_i e
      obtain ⟨rfl, rfl⟩ := e
      cases h
      exact List.mem_cons_self
    · exact List.mem_cons_of_mem _ (subAt_mem h)
theorem lookup_mem {β : Type} : ∀ {l : List (Nat × β)} {k : Nat} {v : β}, l.lookup k = some v → (k, v) ∈ l
  | [], _, _, h => by cases h
  | (x, y) :: r, k, v, h => by
    rw [List.lookup_cons] at h
    split at h
    · rename_i e
      cases h
      obtain rfl := beq_iff_eq.mp e
      exact List.mem_cons_self
    · exact List.mem_cons_of_mem _ (lookup_mem h)
theorem headOk_of {L : Ld} {P : Program} {w : World} {K : PySem.W.Frag} {mg : Str → Option Value} {base h : Heap} (KX : K.In h) (G : h.Ns mainGlobals mg) (c : SaysX L P K) (hcs : L.cs = []) (hchk : chkA L L.own (fnsOf P) = true) : HeadOk L P w K mg base (fnsOf P) := by
  obtain ⟨c, ex⟩ := c
  have gl : ∀ k, L.cls.contains k = true → mg (nmAt L.names k) = some (.ref (He.ga K (nmAt L.names k))) := fun k hk =>
    He.glo_ok KX G (fact_mem c (by
      unfold faOf
      exact List.mem_append_right _ (List.mem_map.mpr ⟨k, by simpa using hk, rfl⟩)))
  refine ⟨fun x hx => ?_, hchk, fun i dd hd => ?_, fun i dd hd => ?_, fun d => ?_, fun g d hd => ?_⟩
  · exact He.free_ok KX G (fact_mem c (by
      unfold faOf
      exact List.mem_append_left _ (List.mem_append_left _ (List.mem_append_left _ (List.mem_append_right _ (List.mem_map.mpr ⟨x, hx, rfl⟩))))))
  · exact def_mem c (List.mem_append_left _ (List.mem_of_getElem? hd))
  · refine He.glo_ok KX G (fact_mem c ?_)
    unfold faOf
    refine List.mem_append_left _ (List.mem_append_left _ (List.mem_append_left _ (List.mem_append_left _ (List.mem_map.mpr ⟨dd.name, ?_, rfl⟩))))
    obtain ⟨st, h1, h2⟩ := List.mem_filterMap.mp (List.mem_of_getElem? hd : dd ∈ fnsOf P)
    exact List.mem_filterMap.mpr ⟨st, h1, defOf_nm h2⟩
  · refine zex_of gl (fun a b t ht => ?_) (fun k hk hh => ?_) (fun k hk hh X Wx x e te p pos xb tk hg hm hdb hs he => ?_)
    · exact of_decide_eq_true (fact_mem c (f := .exm (nmAt L.names a) (nmAt L.names b) t) (by
        unfold faOf
        exact List.mem_append_left _ (List.mem_append_right _ (List.mem_map.mpr ⟨(a, b, t), subAt_mem ht, rfl⟩))))
    · exact fact_mem c (by
        unfold faOf
        exact List.mem_append_left _ (List.mem_append_left _ (List.mem_append_right _ (List.mem_map.mpr ⟨k, List.mem_filter.mpr ⟨by simpa using hk, by simp [hh]⟩, rfl⟩))))
    · cases hl : L.held.lookup k with
      | none => rw [hl] at hh; cases hh
      | some f =>
        have hp := List.all_eq_true.mp ex (k, f) (lookup_mem hl)
        obtain ⟨dd, hd1, hd2⟩ := List.any_eq_true.mp hp
        rw [Bool.and_eq_true] at hd2
        obtain ⟨fd, F⟩ := def_mem c (List.mem_append_right _ hd1)
        have en : nmAt L.held k = f := by unfold nmAt; rw [hl]
        rw [en]
        exact held_ok (Z := L.z P w K mg base d) KX G F hd2.1 hd2.2 xb hg hm hdb hs he
  · rw [hcs] at hd; cases hd
/-- a call of the law -/
theorem walk_ofW {l : PySem.W.OpenLaw} {n k : Nat} {q : Program} {loose : List Str} {XP : (Str → Option Value) → Heap → Prop} {YP : World → Heap → Prop} {d : DefRec} {CX : World → CXT} {x : Str}
    (h1 : l.most = some n) (h2 : n ≤ sizeLine) (h3 : d.params.defaults = []) (room : Room k callerA)
    (F : ∀ (w : World) (mg : Str → Option Value) (at_ : Addr) (h : Heap), YP w h → h.Ns mainGlobals mg → mg d.name = some (.ref at_) →
      ∃ (K : PySem.W.Frag) (fd : FuncData) (sp : Sp), K.In h ∧ (∀ (s : Shared) (u : Value), BindsTo s fd ⟨[u], []⟩ [(x, u)]) ∧
        (∀ (H : Hp) (a : Addr) (ns : List Int), ns.length ≤ n → Only H → SqL K H a (ns.map V.int) → sp [.ref a] H (fun v _ => v = .bl true) fun _ _ _ => False) ∧
        ∀ base : Heap, K.In base → base.Ns mainGlobals mg → FnOk l.prog w K mg base (CX w) k at_ fd [x] sp)
    (no : ∀ (w : World) (H : Hp) (s : Shared) (e : Value) (s' : Shared), CX w [] H s (fun _ _ _ => False) e s' → False) : PySem.W.WalkO q loose XP YP l.row.toRowW d [] (fun f vs => PySem.call f vs) := by
  refine Att.attach_call h1 h3 fun w s₀ s₁ mg mb at_ o pm cd doc a vs ns G Y ho hd hcd hmg hobj hints hlen hg => ?_
  obtain ⟨K, fd, sp, KX, hb, hsp, hF⟩ := F w mg at_ _ Y G.T.g hmg
  exact law_call KX G.T.g G.T.b G.T.builtins G.T.nolimit hg hobj hints (Nat.le_trans hlen h2) room hF hb (fun H hO hS => hsp H a ns hlen hO hS) fun H e s' => no w H s₁ e s'
/-- the law by the evaluator: what is left of it behind the head -/
theorem law_end {l : PySem.W.OpenLaw} {L : Ld} {q : Program} {loose : List Str} {XP : (Str → Option Value) → Heap → Prop} {d : DefRec} {f N : Nat} {fdl : Fd} {Nl : List Str} {x : Str} (D : Nat) (n : Nat)
    (h1 : l.most = some n) (h2 : n ≤ LIM) (h3 : d.params.defaults = []) (room : Room (lev (D + 1)) callerA) (hcs : L.cs = []) (hchk : chkA L L.own (fnsOf l.prog) = true)
    (hl : L.own.lookup f = some (fdl, Nl)) (hx : Nl.take fdl.np = [x]) (hd : nmAt L.names f = d.name)
    (hlaw : ∀ ns : List Int, ns.length ≤ n → ∃ S', callN L.pr (D + 1) f [.ro (ns.map PyData.int)] [] = .ok (.v (.bool true), false) S') :
    PySem.W.WalkO q loose XP (hookX N L l.prog).says l.row.toRowW d [] (fun f vs => PySem.call f vs) := by
  refine walk_ofW (n := n) (k := lev (D + 1)) (x := x) (CX := fun w => L2.CX l.prog w) h1 (LIM_le h2) h3 room (fun w mg at_ h Y G hmg => ?_) fun w H s e s' => cx_none H s e s'
  obtain ⟨K, KX, c⟩ := Y
  have ho : ∀ base : Heap, HeadOk L l.prog w K mg base (fnsOf l.prog) := fun base => headOk_of KX G c hcs hchk
  obtain ⟨i, dd, hi1, hi2⟩ := chkA_get hchk hl
  obtain ⟨fdat, F⟩ := (ho h).fns i dd hi1
  have g := (ho h).glo i dd hi1
  obtain ⟨lb, lf⟩ := law_fact (i := 0) (d := D) (P := l.prog) (w := w) (mg := mg) (fn := fnsOf l.prog) hl hi2 hx F
  have en : nmAt L.names f = dd.name := by
    unfold chk1 at hi2
    simp only [Bool.and_eq_true, beq_iff_eq] at hi2
    exact hi2.1.1.1.1.1.1
  have ea : at_ = He.ga K (nmAt L.names f) := by
    rw [← hd, en, g] at hmg
    rw [en]
    exact (Value.ref.inj (Option.some.inj hmg)).symm
  subst ea
  exact ⟨K, fdat, _, KX, lb, fun H a ns hn hO hS => law_sp (n := 0) (Nat.le_trans hn (LIM_le h2)) hO hS (hlaw ns hn), fun base _ _ => lf base (ho base)⟩
end Pd
set_option Elab.async false
set_option linter.all false
/-! Wp: rules for the evaluator. -/
namespace Pd
open PySem
/-- no step by computation: the kernel is to read the rule -/
theorem nd {α : Sort u} {a b : α} (h : a = b) : a = b := by cases h; rfl
theorem callN_succ (P : Prg) (d f : Nat) (ws : List W) (S : Sto) : callN P (d + 1) f ws S = runF P (callN P d) f ws S := rfl
theorem runF_of {P : Prg} {C : CallS} {f : Nat} {ws : List W} {S : Sto} (fd : Fd) (h : P.fd f = some fd) (hn : ws.length = fd.np) :
    runF P C f ws S = finish (evSs C P.fuel P.sub P.keeps fd.body (start fd ws) S) := by
  unfold runF; rw [h]; simp [hn]
theorem call_of {P : Prg} {d f : Nat} {ws : List W} {S : Sto} (fd : Fd) (h : P.fd f = some fd) (hn : ws.length = fd.np) :
    callN P (d + 1) f ws S = finish (evSs (callN P d) P.fuel P.sub P.keeps fd.body (start fd ws) S) := runF_of fd h hn
@[simp] theorem finish_next (ρ : Env) (S : Sto) : finish (.ok (.next ρ) S) = .ok (.v .none, false) S := nd rfl
@[simp] theorem finish_ret (w : W) (b : Bool) (S : Sto) : finish (.ok (.ret w b) S) = .ok (w, b) S := nd rfl
@[simp] theorem finish_exc (e : Exn) (ρ : Env) (S : Sto) : finish (.ok (.exc e ρ) S) = .exc e S := nd rfl
@[simp] theorem callR_true (C : CallS) (f : Nat) (ws : List W) (S : Sto) : callR C true f ws S = C f ws S := nd rfl
theorem callR_ok {C : CallS} {f : Nat} {ws : List W} {S : Sto} {d : PyData} {fr : Bool} {S1 : Sto} (h : C f ws [] = .ok (.v d, fr) S1) (hp : (allV ws).isSome = true) : callR C false f ws S = .ok (.v d, fr) S := by
  unfold callR
  cases e : allV ws with
  | none => rw [e] at hp; cases hp
  | some l => simp [h, unboxW]
@[simp] theorem allV_nil : allV [] = some [] := nd rfl
@[simp] theorem allV_cons (d : PyData) (ws : List W) : allV (.v d :: ws) = (allV ws).map (d :: ·) := nd rfl
/-- what a call hands back, out of its own store -/
def unR (r : R (W × Bool)) (S : Sto) : R (W × Bool) :=
  match r with
  | .ok (w, fr) S1 => R.of (unboxW w fr S1) S
  | .exc e _ => .exc e S
  | .bad => .bad
@[simp] theorem unR_v (d : PyData) (fr : Bool) (S1 S : Sto) : unR (.ok (.v d, fr) S1) S = .ok (.v d, fr) S := nd rfl
@[simp] theorem unR_exc (e : Exn) (S1 S : Sto) : unR (.exc e S1) S = .exc e S := nd rfl
theorem callR_false (C : CallS) (f : Nat) (ws : List W) (S : Sto) (h : (allV ws).isSome = true) : callR C false f ws S = unR (C f ws []) S := by
  unfold callR unR
  cases e : allV ws with
  | none => rw [e] at h; cases h
  | some l => first | (simp; done) | (simp; rfl) | rfl
@[simp] theorem callR_f1 (C : CallS) (f : Nat) (a : PyData) (S : Sto) : callR C false f [.v a] S = unR (C f [.v a] []) S := callR_false _ _ _ _ rfl
@[simp] theorem callR_f2 (C : CallS) (f : Nat) (a b : PyData) (S : Sto) : callR C false f [.v a, .v b] S = unR (C f [.v a, .v b] []) S := callR_false _ _ _ _ rfl
@[simp] theorem callR_f3 (C : CallS) (f : Nat) (a b c : PyData) (S : Sto) : callR C false f [.v a, .v b, .v c] S = unR (C f [.v a, .v b, .v c] []) S := callR_false _ _ _ _ rfl
@[simp] theorem callR_f4 (C : CallS) (f : Nat) (a b c e : PyData) (S : Sto) : callR C false f [.v a, .v b, .v c, .v e] S = unR (C f [.v a, .v b, .v c, .v e] []) S := callR_false _ _ _ _ rfl
@[simp] theorem evE_nm (C : CallS) {i ρ S} : evE C (.nm i) ρ S = match ρ[i]? with | some (some w) => .ok (w, false) S | _ => .bad := nd (by first | rfl | simp only [evE])
@[simp] theorem evE_cst (C : CallS) {d _x1 S} : evE C (.cst d) _x1 S = .ok (.v d, false) S := nd (by first | rfl | simp only [evE])
@[simp] theorem evE_glb (C : CallS) {_y0 d _x1 S} : evE C (.glb _y0 d) _x1 S = .ok (.v d, false) S := nd (by first | rfl | simp only [evE])
@[simp] theorem evE_fnv (C : CallS) {f _x1 S} : evE C (.fnv f) _x1 S = .ok (.fn f, false) S := nd (by first | rfl | simp only [evE])
@[simp] theorem evE_bin (C : CallS) {op a b ρ S} : evE C (.bin op a b) ρ S = (evE C a ρ S).bind fun x S1 => (evE C b ρ S1).bind fun y S2 => R.of (bop op x.1 y.1 S2) S2 := nd (by first | rfl | simp only [evE])
@[simp] theorem evE_neg (C : CallS) {a ρ S} : evE C (.neg a) ρ S = (evE C a ρ S).bind fun x S1 => R.of ((asInt x.1).map fun i => (W.v (.int (-i)), false)) S1 := nd (by first | rfl | simp only [evE])
@[simp] theorem evE_and (C : CallS) {a b ρ S} : evE C (.and a b) ρ S = (evE C a ρ S).bind fun x S1 => (R.of (asBool x.1) S1).bind fun t S1 => if t then evE C b ρ S1 else .ok (.v (.bool false), false) S1 := nd (by first | rfl | simp only [evE])
@[simp] theorem evE_or (C : CallS) {a b ρ S} : evE C (.or a b) ρ S = (evE C a ρ S).bind fun x S1 => (R.of (asBool x.1) S1).bind fun t S1 => if t then .ok (.v (.bool true), false) S1 else evE C b ρ S1 := nd (by first | rfl | simp only [evE])
@[simp] theorem evE_not (C : CallS) {a ρ S} : evE C (.not a) ρ S = (evE C a ρ S).bind fun x S1 => (R.of (asBool x.1) S1).bind fun t S1 => .ok (.v (.bool (!t)), false) S1 := nd (by first | rfl | simp only [evE])
@[simp] theorem evE_cmp (C : CallS) {op a b ρ S} : evE C (.cmp op a b) ρ S = (evE C a ρ S).bind fun x S1 => (evE C b ρ S1).bind fun y S2 => R.of ((cop op x.1 y.1 S2).map fun t => (W.v (.bool t), false)) S2 := nd (by first | rfl | simp only [evE])
@[simp] theorem evE_chain (C : CallS) {op op' a b c ρ S} : evE C (.chain op op' a b c) ρ S = (evE C a ρ S).bind fun x S1 => (evE C b ρ S1).bind fun y S2 => (R.of (cop op x.1 y.1 S2) S2).bind fun t S2 =>
      if t then (evE C c ρ S2).bind fun z S3 => R.of ((cop op' y.1 z.1 S3).map fun t => (W.v (.bool t), false)) S3 else .ok (.v (.bool false), false) S2 := nd (by first | rfl | simp only [evE])
@[simp] theorem evE_ite (C : CallS) {c a b ρ S} : evE C (.ite c a b) ρ S = (evE C c ρ S).bind fun x S1 => (R.of (asBool x.1) S1).bind fun t S1 => if t then evE C a ρ S1 else evE C b ρ S1 := nd (by first | rfl | simp only [evE])
@[simp] theorem evE_call (C : CallS) {sh f args ρ S} : evE C (.call sh f args) ρ S = (evEs C args ρ S).bind fun ws S1 => callR C sh f ws S1 := nd (by first | rfl | simp only [evE])
@[simp] theorem evE_callK (C : CallS) {sh f args kws vals ρ S} : evE C (.callK sh f args kws vals) ρ S = (evEs C args ρ S).bind fun ws S1 => (evEs C vals ρ S1).bind fun us S2 => callR C sh f (place ws kws us) S2 := nd (by first | rfl | simp only [evE])
@[simp] theorem evE_blt (C : CallS) {b args ρ S} : evE C (.blt b args) ρ S = (evEs C args ρ S).bind fun ws S1 => R.of (biF b ws S1) S1 := nd (by first | rfl | simp only [evE])
@[simp] theorem evE_dflt (C : CallS) {mx a d ρ S} : evE C (.dflt mx a d) ρ S = (evE C a ρ S).bind fun x S1 => (evE C d ρ S1).bind fun y S2 => R.of ((dataOf x.1 S2).bind fun ds => if ds.isEmpty then some (y.1, false) else (bestOf mx ds).map fun d => (W.v d, false)) S2 := nd (by first | rfl | simp only [evE])
@[simp] theorem evE_isi (C : CallS) {e tys _y2 ρ S} : evE C (.isi e tys _y2) ρ S = (evE C e ρ S).bind fun x S1 => R.of ((isTys x.1 S1 tys).map fun t => (W.v (.bool t), false)) S1 := nd (by first | rfl | simp only [evE])
@[simp] theorem evE_mth (C : CallS) {m o args ρ S} : evE C (.mth m o args) ρ S = (evE C o ρ S).bind fun x S1 => (R.of (mtK m x.1 S1) S1).bind fun _ S1 => (evEs C args ρ S1).bind fun ws S2 => (R.of (mtF m x.1 ws S2) S2).bind fun r _ => .ok (r.1, r.2.1) r.2.2 := nd (by first | rfl | simp only [evE])
@[simp] theorem evE_ix (C : CallS) {a b ρ S} : evE C (.ix a b) ρ S = (evE C a ρ S).bind fun x S1 => (evE C b ρ S1).bind fun y S2 => R.of ((ixW x.1 y.1 S2).map fun w => (w, false)) S2 := nd (by first | rfl | simp only [evE])
@[simp] theorem evE_sl (C : CallS) {a lo hi ρ S} : evE C (.sl a lo hi) ρ S = (evE C a ρ S).bind fun x S1 => (evE C lo ρ S1).bind fun l S2 => (R.of (bndE lo l.1) S2).bind fun l' S2 => (evE C hi ρ S2).bind fun h S3 =>
      R.of ((bndE hi h.1).bind fun h' => slW x.1 l' h' S3) S3 := nd (by first | rfl | simp only [evE])
@[simp] theorem evE_slr (C : CallS) {a ρ S} : evE C (.slr a) ρ S = (evE C a ρ S).bind fun x S1 => R.of ((items x.1 S1).map fun p => (mkSeq p.1 p.2.reverse, !p.1)) S1 := nd (by first | rfl | simp only [evE])
@[simp] theorem evE_nil (C : CallS) {_x1 S} : evE C (.nil) _x1 S = .ok (.v .none, false) S := nd (by first | rfl | simp only [evE])
@[simp] theorem evE_tup (C : CallS) {es ρ S} : evE C (.tup es) ρ S = (evEs C es ρ S).bind fun ws S1 => .ok (mkSeq true ws, false) S1 := nd (by first | rfl | simp only [evE])
@[simp] theorem evE_lst (C : CallS) {es ρ S} : evE C (.lst es) ρ S = (evEs C es ρ S).bind fun ws S1 => .ok (mkSeq false ws, true) S1 := nd (by first | rfl | simp only [evE])
@[simp] theorem evE_rng1 (C : CallS) {a ρ S} : evE C (.rng1 a) ρ S = (evE C a ρ S).bind fun x S1 => R.of ((asInt x.1).bind fun n => if inR n then some (W.rng 0 n, false) else none) S1 := nd (by first | rfl | simp only [evE])
@[simp] theorem evE_rng2 (C : CallS) {a b ρ S} : evE C (.rng2 a b) ρ S = (evE C a ρ S).bind fun x S1 => (evE C b ρ S1).bind fun y S2 => R.of ((asInt x.1).bind fun n => (asInt y.1).bind fun m => if inR n && inR m then some (W.rng n m, false) else none) S2 := nd (by first | rfl | simp only [evE])
@[simp] theorem evE_lc (C : CallS) {elt tg it cs own ρ S} : evE C (.lc elt tg it cs own) ρ S = (evI C it ρ S).bind fun p S1 =>
      ((lcLoop (lcStep tg ρ own (evCs C cs) fun ρ1 S2 => (evE C elt ρ1 S2).bind fun y S3 => .ok [y.1] S3) p.1 S1).calm.sto (unlock p.2)).bind fun ws S2 => .ok (mkSeq false ws, true) S2 := nd (by first | rfl | simp only [evE])
@[simp] theorem evE_lc2 (C : CallS) {elt tg it cs tg1 it1 cs1 own own1 ρ S} : evE C (.lc2 elt tg it cs tg1 it1 cs1 own own1) ρ S = (evI C it ρ S).bind fun p S1 =>
      ((lcLoop (lcStep tg ρ own (evCs C cs) fun ρ1 S2 => (evI C it1 ρ1 S2).bind fun q S3 =>
        (lcLoop (lcStep tg1 ρ1 own1 (evCs C cs1) fun ρ2 S4 => (evE C elt ρ2 S4).bind fun y S5 => .ok [y.1] S5) q.1 S3).sto (unlock q.2)) p.1 S1).calm.sto (unlock p.2)).bind fun ws S2 =>
      if ws.length ≤ LIM then .ok (mkSeq false ws, true) S2 else .bad := nd (by first | rfl | simp only [evE])
@[simp] theorem evE_box (C : CallS) {e ρ S} : evE C (.box e) ρ S = (evE C e ρ S).bind fun x S1 => match x with
      | (.v (.list ds), true) => .ok (.loc S1.length, false) (S1 ++ [.lst (ds.map W.v)])
      | (.seq false ws, true) => .ok (.loc S1.length, false) (S1 ++ [.lst ws])
      | _ => .bad := nd (by first | rfl | simp only [evE])
@[simp] theorem evEs_nil (C : CallS) {_x1 S} : evEs C (.nil) _x1 S = .ok [] S := nd (by first | rfl | simp only [evEs])
@[simp] theorem evEs_cons (C : CallS) {e es ρ S} : evEs C (.cons e es) ρ S = (evE C e ρ S).bind fun x S1 => (evEs C es ρ S1).bind fun ws S2 => .ok (x.1 :: ws) S2 := nd (by first | rfl | simp only [evEs])
@[simp] theorem evCs_nil (C : CallS) {_x1 S} : evCs C (.nil) _x1 S = .ok true S := nd (by first | rfl | simp only [evCs])
@[simp] theorem evCs_cons (C : CallS) {e es ρ S} : evCs C (.cons e es) ρ S = (evE C e ρ S).bind fun x S1 => (R.of (asBool x.1) S1).bind fun t S1 => if t then evCs C es ρ S1 else .ok false S1 := nd (by first | rfl | simp only [evCs])
@[simp] theorem evI_seq (C : CallS) {e ρ S} : evI C (.seq e) ρ S = (evE C e ρ S).bind fun x S1 => (R.of (items x.1 S1) S1).bind fun p S1 => .ok (p.2, (lockAt x.1 S1).1) (lockAt x.1 S1).2 := nd (by first | rfl | simp only [evI])
@[simp] theorem evI_rng1 (C : CallS) {a ρ S} : evI C (.rng1 a) ρ S = (evE C a ρ S).bind fun x S1 => R.of ((asInt x.1).bind fun n => if decide (n ≤ LIM) && inR n then some (rngL 0 n.toNat, none) else none) S1 := nd (by first | rfl | simp only [evI])
@[simp] theorem evI_rng2 (C : CallS) {a b ρ S} : evI C (.rng2 a b) ρ S = (evE C a ρ S).bind fun x S1 => (evE C b ρ S1).bind fun y S2 => R.of ((asInt x.1).bind fun n => (asInt y.1).bind fun m =>
      if decide (m - n ≤ LIM) && inR n && inR m then some (rngL n (m - n).toNat, none) else none) S2 := nd (by first | rfl | simp only [evI])
@[simp] theorem evI_rng3 (C : CallS) {a b c ρ S} : evI C (.rng3 a b c) ρ S = (evE C a ρ S).bind fun x S1 => (evE C b ρ S1).bind fun y S2 => (evE C c ρ S2).bind fun z S3 => R.of ((asInt x.1).bind fun n => (asInt y.1).bind fun m => (asInt z.1).bind fun k =>
      if decide (turns n m k ≤ LIM) && Builtin.Range.small n m k && decide (k ≠ 0 ∧ k.natAbs < 1073741824) then some (rngC n k (turns n m k), none) else none) S3 := nd (by first | rfl | simp only [evI])
@[simp] theorem evI_zip (C : CallS) {a b ρ S} : evI C (.zip a b) ρ S = (evE C a ρ S).bind fun x S1 => (evE C b ρ S1).bind fun y S2 => (R.of (items x.1 S2) S2).bind fun p S2 => (R.of (items y.1 S2) S2).bind fun q S2 =>
      if isLoc x.1 || isLoc y.1 || p.1 != q.1 then .bad else .ok (zipW p.2 q.2, none) S2 := nd (by first | rfl | simp only [evI])
@[simp] theorem evI_enum (C : CallS) {e ρ S} : evI C (.enum e) ρ S = (evE C e ρ S).bind fun x S1 => (R.of (items x.1 S1) S1).bind fun p S1 => .ok (enumW 0 p.2, (lockAt x.1 S1).1) (lockAt x.1 S1).2 := nd (by first | rfl | simp only [evI])
@[simp] theorem evS_asg (C : CallS) (n : Nat) (sub : Nat → Nat → Option Bool) (keeps : Nat → Bool) {t e ρ S} : evS C n sub keeps (.asg t e) ρ S = (evE C e ρ S).stm ρ fun x S1 => (R.of (bindT t x.1 ρ) S1).stm ρ fun ρ1 S1 => .ok (.next ρ1) S1 := nd (by first | rfl | simp only [evS])
@[simp] theorem evS_par (C : CallS) (n : Nat) (sub : Nat → Nat → Option Bool) (keeps : Nat → Bool) {is es ρ S} : evS C n sub keeps (.par is es) ρ S = (evEs C es ρ S).stm ρ fun ws S1 => (R.of (setNs is ws ρ) S1).stm ρ fun ρ1 S1 => .ok (.next ρ1) S1 := nd (by first | rfl | simp only [evS])
@[simp] theorem evS_aug (C : CallS) (n : Nat) (sub : Nat → Nat → Option Bool) (keeps : Nat → Bool) {op i e ρ S} : evS C n sub keeps (.aug op i e) ρ S = match ρ[i]? with
    | some (some x) => (evE C e ρ S).stm ρ fun y S1 => match x, y.1 with
      | .v (.int _), .v (.int _) => (R.of (bop op x y.1 S1) S1).stm ρ fun z S1 => .ok (.next (ρ.set i (some z.1))) S1
      | _, _ => .bad
    | _ => .bad := nd (by first | rfl | simp only [evS])
@[simp] theorem evS_asgS (C : CallS) (n : Nat) (sub : Nat → Nat → Option Bool) (keeps : Nat → Bool) {o i e ρ S} : evS C n sub keeps (.asgS o i e) ρ S = (evE C e ρ S).stm ρ fun z S1 => (evE C o ρ S1).stm ρ fun x S2 => (evE C i ρ S2).stm ρ fun y S3 => (R.of (setW x.1 y.1 z.1 S3) S3).stm ρ fun S4 _ => .ok (.next ρ) S4 := nd (by first | rfl | simp only [evS])
@[simp] theorem evS_augS (C : CallS) (n : Nat) (sub : Nat → Nat → Option Bool) (keeps : Nat → Bool) {op o i e ρ S} : evS C n sub keeps (.augS op o i e) ρ S = (evE C o ρ S).stm ρ fun x S1 => (evE C i ρ S1).stm ρ fun y S2 => (R.of (ixL x.1 y.1 S2) S2).stm ρ fun v S2 => (evE C e ρ S2).stm ρ fun z S3 =>
      match v, z.1 with
      | .v (.int _), .v (.int _) => (R.of (bop op v z.1 S3) S3).stm ρ fun u S3 => (R.of (setW x.1 y.1 u.1 S3) S3).stm ρ fun S4 _ => .ok (.next ρ) S4
      | _, _ => .bad := nd (by first | rfl | simp only [evS])
@[simp] theorem evS_expr (C : CallS) (n : Nat) (sub : Nat → Nat → Option Bool) (keeps : Nat → Bool) {e ρ S} : evS C n sub keeps (.expr e) ρ S = (evE C e ρ S).stm ρ fun _ S1 => .ok (.next ρ) S1 := nd (by first | rfl | simp only [evS])
@[simp] theorem evS_ifs (C : CallS) (n : Nat) (sub : Nat → Nat → Option Bool) (keeps : Nat → Bool) {c a b ρ S} : evS C n sub keeps (.ifs c a b) ρ S = (evE C c ρ S).stm ρ fun x S1 => (R.of (asBool x.1) S1).stm ρ fun t S1 => if t then evSs C n sub keeps a ρ S1 else evSs C n sub keeps b ρ S1 := nd (by first | rfl | simp only [evS])
/-- a turn of a for -/
def forBody (C : CallS) (n : Nat) (sub : Nat → Nat → Option Bool) (keeps : Nat → Bool) (t : Tgt) (b : Sts) : W → Env → Sto → R Out := fun w ρ S => match bindT t w ρ with | none => .bad | some ρ1 => evSs C n sub keeps b ρ1 S
theorem forBody_eq (C : CallS) (n : Nat) (sub : Nat → Nat → Option Bool) (keeps : Nat → Bool) (t : Tgt) (b : Sts) (w : W) (ρ : Env) (S : Sto) : forBody C n sub keeps t b w ρ S = match bindT t w ρ with | none => .bad | some ρ1 => evSs C n sub keeps b ρ1 S := rfl
@[simp] theorem evS_fors (C : CallS) (n : Nat) (sub : Nat → Nat → Option Bool) (keeps : Nat → Bool) {t it b ρ S} : evS C n sub keeps (.fors t it b) ρ S = (evI C it ρ S).stm ρ fun p S1 =>
      (forLoop (forBody C n sub keeps t b) p.1 ρ S1).sto (unlock p.2) := nd (by simp only [evS]; rfl)
@[simp] theorem evS_whl (C : CallS) (n : Nat) (sub : Nat → Nat → Option Bool) (keeps : Nat → Bool) {c b ρ S} : evS C n sub keeps (.whl c b) ρ S = whLoop (evE C c) (evSs C n sub keeps b) n ρ S := nd (by first | rfl | simp only [evS])
@[simp] theorem evS_ret (C : CallS) (n : Nat) (sub : Nat → Nat → Option Bool) (keeps : Nat → Bool) {e ρ S} : evS C n sub keeps (.ret e) ρ S = (evE C e ρ S).stm ρ fun x S1 => .ok (.ret x.1 x.2) S1 := nd (by first | rfl | simp only [evS])
@[simp] theorem evS_retN (C : CallS) (n : Nat) (sub : Nat → Nat → Option Bool) (keeps : Nat → Bool) {_x1 S} : evS C n sub keeps (.retN) _x1 S = .ok (.ret (.v .none) false) S := nd (by first | rfl | simp only [evS])
@[simp] theorem evS_raise (C : CallS) (n : Nat) (sub : Nat → Nat → Option Bool) (keeps : Nat → Bool) {c a ρ S} : evS C n sub keeps (.raise c a) ρ S = (evE C a ρ S).stm ρ fun x S1 => (R.of (pureD x.1) S1).stm ρ fun d S1 => .ok (.exc ⟨c, if keeps c then some d else none⟩ ρ) S1 := nd (by first | rfl | simp only [evS])
@[simp] theorem evS_tryS (C : CallS) (n : Nat) (sub : Nat → Nat → Option Bool) (keeps : Nat → Bool) {b hs ρ S} : evS C n sub keeps (.tryS b hs) ρ S = (evSs C n sub keeps b ρ S).bind fun o S1 => match o with
    | .exc e ρ1 => evHs C n sub keeps hs e ρ1 S1
    | o => .ok o S1 := nd (by first | rfl | simp only [evS])
@[simp] theorem evS_brk (C : CallS) (n : Nat) (sub : Nat → Nat → Option Bool) (keeps : Nat → Bool) {ρ S} : evS C n sub keeps (.brk) ρ S = .ok (.brk ρ) S := nd (by first | rfl | simp only [evS])
@[simp] theorem evS_cont (C : CallS) (n : Nat) (sub : Nat → Nat → Option Bool) (keeps : Nat → Bool) {ρ S} : evS C n sub keeps (.cont) ρ S = .ok (.cont ρ) S := nd (by first | rfl | simp only [evS])
@[simp] theorem evS_pass (C : CallS) (n : Nat) (sub : Nat → Nat → Option Bool) (keeps : Nat → Bool) {ρ S} : evS C n sub keeps (.pass) ρ S = .ok (.next ρ) S := nd (by first | rfl | simp only [evS])
@[simp] theorem evSs_nil (C : CallS) (n : Nat) (sub : Nat → Nat → Option Bool) (keeps : Nat → Bool) {ρ S} : evSs C n sub keeps (.nil) ρ S = .ok (.next ρ) S := nd (by first | rfl | simp only [evSs])
@[simp] theorem evSs_cons (C : CallS) (n : Nat) (sub : Nat → Nat → Option Bool) (keeps : Nat → Bool) {s ss ρ S} : evSs C n sub keeps (.cons s ss) ρ S = (evS C n sub keeps s ρ S).bind fun o S1 => match o with
    | .next ρ1 => evSs C n sub keeps ss ρ1 S1
    | o => .ok o S1 := nd (by first | rfl | simp only [evSs])
@[simp] theorem evHs_nil (C : CallS) (n : Nat) (sub : Nat → Nat → Option Bool) (keeps : Nat → Bool) {e ρ S} : evHs C n sub keeps (.nil) e ρ S = .ok (.exc e ρ) S := nd (by first | rfl | simp only [evHs])
@[simp] theorem evHs_cons (C : CallS) (n : Nat) (sub : Nat → Nat → Option Bool) (keeps : Nat → Bool) {c slot b hs e ρ S} : evHs C n sub keeps (.cons c slot b hs) e ρ S = match sub e.cls c, slot with
    | some true, none => evSs C n sub keeps b ρ S
    | some false, none => evHs C n sub keeps hs e ρ S
    | _, _ => .bad := nd (by first | rfl | simp only [evHs])

/-! ### runs that end well -/
def R.oks {α : Type} (r : R α) (Q : α → Sto → Prop) : Prop := match r with | .ok a S => Q a S | _ => False
@[simp] theorem oks_ok {α : Type} (a : α) (S : Sto) (Q : α → Sto → Prop) : (R.ok a S).oks Q = Q a S := nd rfl
@[simp] theorem oks_exc {α : Type} (e : Exn) (S : Sto) (Q : α → Sto → Prop) : (R.exc e S : R α).oks Q = False := nd rfl
@[simp] theorem oks_bad {α : Type} (Q : α → Sto → Prop) : (R.bad : R α).oks Q = False := nd rfl
theorem oks_iff {α : Type} {r : R α} {Q : α → Sto → Prop} : r.oks Q ↔ ∃ a S, r = .ok a S ∧ Q a S := by
  cases r with
  | ok a S => exact ⟨fun h => ⟨a, S, rfl, h⟩, fun ⟨a', S', e, q⟩ => by cases e; exact q⟩
  | exc e S => exact ⟨fun h => h.elim, fun ⟨_, _, e, _⟩ => by cases e⟩
  | bad => exact ⟨fun h => h.elim, fun ⟨_, _, e, _⟩ => by cases e⟩
theorem R.oks.mono {α : Type} {r : R α} {Q Q' : α → Sto → Prop} (h : r.oks Q) (m : ∀ a S, Q a S → Q' a S) : r.oks Q' := by
  cases r with
  | ok a S => exact m _ _ h
  | exc e S => exact h.elim
  | bad => exact h.elim
theorem R.oks.bind {α β : Type} {r : R α} {Q : α → Sto → Prop} {f : α → Sto → R β} {Q' : β → Sto → Prop} (h : r.oks Q) (m : ∀ a S, Q a S → (f a S).oks Q') : (r.bind f).oks Q' := by
  cases r with
  | ok a S => exact m _ _ h
  | exc e S => exact h.elim
  | bad => exact h.elim
theorem R.oks.stm {α : Type} {r : R α} {Q : α → Sto → Prop} {ρ : Env} {f : α → Sto → R Out} {Q' : Out → Sto → Prop} (h : r.oks Q) (m : ∀ a S, Q a S → (f a S).oks Q') : (r.stm ρ f).oks Q' := by
  cases r with
  | ok a S => exact m _ _ h
  | exc e S => exact h.elim
  | bad => exact h.elim
theorem R.oks.calm {α : Type} {r : R α} {Q : α → Sto → Prop} (h : r.oks Q) : r.calm.oks Q := by
  cases r with
  | ok a S => exact h
  | exc e S => exact h.elim
  | bad => exact h.elim
/-! ### walks -/
theorem lcLoop_nil (f : W → Sto → R (List W)) (S : Sto) : lcLoop f [] S = .ok [] S := rfl
theorem lcLoop_cons (f : W → Sto → R (List W)) (x : W) (xs : List W) (S : Sto) : lcLoop f (x :: xs) S = (f x S).bind fun ys S1 => (lcLoop f xs S1).bind fun ws S2 => .ok (ys ++ ws) S2 := rfl
/-- a comprehension without a trace -/
theorem lc_pure {α : Type} {f : W → Sto → R (List W)} {S : Sto} (e : α → W) (b : α → Bool) (y : α → W) : ∀ (xs : List α), (∀ x ∈ xs, f (e x) S = .ok (if b x then [y x] else []) S) →
    lcLoop f (xs.map e) S = .ok ((xs.filter b).map y) S
  | [], _ => rfl
  | x :: xs, h => by
    rw [List.map_cons, lcLoop_cons, h x (by simp)]
    simp only [R.bind_ok]
    rw [lc_pure e b y xs fun z hz => h z (by simp [hz])]
    simp only [R.bind_ok]
    cases hb : b x <;> simp [hb]
theorem lc_map {α : Type} {f : W → Sto → R (List W)} {S : Sto} (e : α → W) (y : α → W) (xs : List α) (h : ∀ x ∈ xs, f (e x) S = .ok [y x] S) :
    lcLoop f (xs.map e) S = .ok (xs.map y) S := by
  have := lc_pure (f := f) (S := S) e (fun _ => true) y xs (by simpa using h)
  rwa [List.filter_eq_self.mpr (fun _ _ => rfl)] at this
/-- a comprehension that draws: an invariant, counted down -/
theorem lc_inv {f : W → Sto → R (List W)} (I : List W → Sto → Prop) (Q : List W → List W → Prop) (hn : Q [] []) :
    ∀ (xs : List W) (S : Sto), I xs S → (∀ x r S, I (x :: r) S → (f x S).oks fun ys S' => I r S' ∧ ∀ ws, Q r ws → Q (x :: r) (ys ++ ws)) → (lcLoop f xs S).oks fun ws S' => I [] S' ∧ Q xs ws
  | [], S, h, _ => ⟨h, hn⟩
  | x :: xs, S, h, st => by
    rw [lcLoop_cons]
    refine (st x xs S h).bind fun ys S1 ⟨h1, q⟩ => (lc_inv I Q hn xs S1 h1 st).bind fun ws S2 ⟨h2, q2⟩ => ⟨h2, q _ q2⟩
theorem for_nil (f : W → Env → Sto → R Out) (ρ : Env) (S : Sto) : forLoop f [] ρ S = .ok (.next ρ) S := rfl
theorem for_cons (f : W → Env → Sto → R Out) (x : W) (xs : List W) (ρ : Env) (S : Sto) : forLoop f (x :: xs) ρ S = (f x ρ S).bind fun o S1 => match o with
    | .next ρ1 => forLoop f xs ρ1 S1
    | .cont ρ1 => forLoop f xs ρ1 S1
    | .brk ρ1 => .ok (.next ρ1) S1
    | o => .ok o S1 := rfl
/-- a loop by an invariant over what is left -/
theorem for_inv {f : W → Env → Sto → R Out} (I : List W → Env → Sto → Prop) (Q : Out → Sto → Prop) (hend : ∀ ρ S, I [] ρ S → Q (.next ρ) S)
    (st : ∀ x r ρ S, I (x :: r) ρ S → (f x ρ S).oks fun o S' => match o with
      | .next ρ' => I r ρ' S'
      | .cont ρ' => I r ρ' S'
      | .brk ρ' => Q (.next ρ') S'
      | .ret w b => Q (.ret w b) S'
      | .exc e ρ' => Q (.exc e ρ') S') : ∀ (xs : List W) (ρ : Env) (S : Sto), I xs ρ S → (forLoop f xs ρ S).oks Q
  | [], ρ, S, h => hend ρ S h
  | x :: xs, ρ, S, h => by
    rw [for_cons]
    refine (st x xs ρ S h).bind fun o S1 q => ?_
    cases o with
    | next ρ' => exact for_inv I Q hend st xs ρ' S1 q
    | cont ρ' => exact for_inv I Q hend st xs ρ' S1 q
    | brk ρ' => exact q
    | ret w b => exact q
    | exc e ρ' => exact q
/-- a loop that folds -/
theorem for_fold {α σ : Type} {f : W → Env → Sto → R Out} (e : α → W) (st : σ → Env) (so : σ → Sto) (step : σ → α → σ) : ∀ (xs : List α) (s : σ), (∀ s, ∀ x ∈ xs, f (e x) (st s) (so s) = .ok (.next (st (step s x))) (so (step s x))) →
    forLoop f (xs.map e) (st s) (so s) = .ok (.next (st (xs.foldl step s))) (so (xs.foldl step s))
  | [], s, _ => rfl
  | x :: xs, s, h => by
    rw [List.map_cons, for_cons, h s x (by simp)]
    simp only [R.bind_ok]
    exact for_fold e st so step xs (step s x) fun s z hz => h s z (by simp [hz])
/-! ### values by their form -/
@[simp] theorem items_tup (ds : List PyData) (S : Sto) : items (.v (.tuple ds)) S = some (true, ds.map W.v) := nd rfl
@[simp] theorem items_lst (ds : List PyData) (S : Sto) : items (.v (.list ds)) S = some (false, ds.map W.v) := nd rfl
@[simp] theorem items_seq (t : Bool) (ws : List W) (S : Sto) : items (.seq t ws) S = some (t, ws) := nd rfl
@[simp] theorem items_ro (ds : List PyData) (S : Sto) : items (.ro ds) S = some (false, ds.map W.v) := nd rfl
@[simp] theorem roW_v (d : PyData) : roW (.v d) = false := nd rfl
@[simp] theorem isLoc_v (d : PyData) : isLoc (.v d) = false := nd rfl
@[simp] theorem isLoc_loc (l : Nat) : isLoc (.loc l) = true := nd rfl
theorem cutL_map {α β : Type} (f : α → β) (xs : List α) (lo hi : Option Int) : cutL (xs.map f) lo hi = (cutL xs lo hi).map f := by
  unfold cutL; rw [List.length_map, List.map_take, List.map_drop]
@[simp] theorem slW_tup (ds : List PyData) (lo hi : Option Int) (S : Sto) : slW (.v (.tuple ds)) lo hi S = some (.v (.tuple (cutL ds lo hi)), false) := by
  simp [slW, cutL_map]
@[simp] theorem slW_lst (ds : List PyData) (lo hi : Option Int) (S : Sto) : slW (.v (.list ds)) lo hi S = some (.v (.list (cutL ds lo hi)), true) := by
  simp [slW, cutL_map]
@[simp] theorem slW_ro (ds : List PyData) (lo hi : Option Int) (S : Sto) : slW (.ro ds) lo hi S = some (.v (.list (cutL ds lo hi)), true) := by
  simp [slW, cutL_map]
@[simp] theorem lenW_tup (ds : List PyData) (S : Sto) : lenW (.v (.tuple ds)) S = some (ds.length : Int) := by simp [lenW]
@[simp] theorem lenW_lst (ds : List PyData) (S : Sto) : lenW (.v (.list ds)) S = some (ds.length : Int) := by simp [lenW]
@[simp] theorem lenW_ro (ds : List PyData) (S : Sto) : lenW (.ro ds) S = some (ds.length : Int) := by simp [lenW]
theorem atI_map {α β : Type} (f : α → β) (xs : List α) (i : Int) : L2.atI (xs.map f) i = (L2.atI xs i).map f := by
  unfold L2.atI; rw [List.length_map]
  cases L2.ixN xs.length i with
  | none => rfl
  | some j => simp
@[simp] theorem ixW_tup (ds : List PyData) (i : Int) (S : Sto) : ixW (.v (.tuple ds)) (.v (.int i)) S = (L2.atI ds i).map W.v := by
  simp [ixW, atI_map]
@[simp] theorem ixW_lst (ds : List PyData) (i : Int) (S : Sto) : ixW (.v (.list ds)) (.v (.int i)) S = (L2.atI ds i).map W.v := by
  simp [ixW, atI_map]
@[simp] theorem ixW_ro (ds : List PyData) (i : Int) (S : Sto) : ixW (.ro ds) (.v (.int i)) S = (L2.atI ds i).map W.v := by
  simp [ixW, atI_map]
theorem atI_nat {α : Type} (xs : List α) (k : Nat) : L2.atI xs (k : Int) = xs[k]? := by
  unfold L2.atI L2.ixN
  by_cases h : k < xs.length
  · rw [if_pos (by omega), if_pos (by omega)]; simp
  · rw [if_pos (by omega), if_neg (by omega)]; simp; omega
@[simp] theorem atI_0 {α : Type} (a : α) (xs : List α) : L2.atI (a :: xs) 0 = some a := by
  have := atI_nat (a :: xs) 0; simpa using this
@[simp] theorem atI_1 {α : Type} (a b : α) (xs : List α) : L2.atI (a :: b :: xs) 1 = some b := by
  have := atI_nat (a :: b :: xs) 1; simpa using this
@[simp] theorem atI_2 {α : Type} (a b c : α) (xs : List α) : L2.atI (a :: b :: c :: xs) 2 = some c := by
  have := atI_nat (a :: b :: c :: xs) 2; simpa using this
@[simp] theorem asInt_int (i : Int) : asInt (.v (.int i)) = some i := nd rfl
@[simp] theorem asBool_bool (b : Bool) : asBool (.v (.bool b)) = some b := nd rfl
@[simp] theorem bndE_nil (w : W) : bndE .nil w = some none := nd rfl
@[simp] theorem bndE_nm (i : Nat) (w : W) : bndE (.nm i) w = (asInt w).map some := nd rfl
@[simp] theorem bndE_cst (d : PyData) (w : W) : bndE (.cst d) w = (asInt w).map some := nd rfl
@[simp] theorem bndE_bin (op : Bo) (a b : Ex) (w : W) : bndE (.bin op a b) w = (asInt w).map some := nd rfl
@[simp] theorem bndE_neg (a : Ex) (w : W) : bndE (.neg a) w = (asInt w).map some := nd rfl
@[simp] theorem bndE_blt (b : Bi) (a : Exs) (w : W) : bndE (.blt b a) w = (asInt w).map some := nd rfl
@[simp] theorem bndE_ix (a b : Ex) (w : W) : bndE (.ix a b) w = (asInt w).map some := nd rfl
@[simp] theorem eqInt (i j : Int) (S : Sto) : cop .eq (.v (.int i)) (.v (.int j)) S = some (decide (i = j)) := by
  simp [cop, eqW, okD, PyData.canLay0, PyData.depth, PyData.eqv]; rfl
@[simp] theorem neInt (i j : Int) (S : Sto) : cop .ne (.v (.int i)) (.v (.int j)) S = some (!decide (i = j)) := by
  have := eqInt i j S
  simp only [cop] at this ⊢
  rw [this]; rfl
@[simp] theorem ltInt (i j : Int) (S : Sto) : cop .lt (.v (.int i)) (.v (.int j)) S = some (decide (i < j)) := by
  simp [cop, ltW, okD, PyData.canLay0, PyData.depth, dcm, dlt]
@[simp] theorem leInt (i j : Int) (S : Sto) : cop .le (.v (.int i)) (.v (.int j)) S = some (decide (i ≤ j)) := nd rfl
@[simp] theorem gtInt (i j : Int) (S : Sto) : cop .gt (.v (.int i)) (.v (.int j)) S = some (decide (j < i)) := nd rfl
@[simp] theorem geInt (i j : Int) (S : Sto) : cop .ge (.v (.int i)) (.v (.int j)) S = some (decide (j ≤ i)) := nd rfl
@[simp] theorem isNoneW (d : PyData) (S : Sto) : cop .is (.v d) (.v .none) S = some (isNone (.v d)) := nd rfl
@[simp] theorem isnNoneW (d : PyData) (S : Sto) : cop .isn (.v d) (.v .none) S = some (!isNone (.v d)) := nd rfl
@[simp] theorem isNone_none : isNone (.v .none) = true := nd rfl
@[simp] theorem isNone_int (i : Int) : isNone (.v (.int i)) = false := nd rfl
@[simp] theorem isNone_bool (i : Bool) : isNone (.v (.bool i)) = false := nd rfl
@[simp] theorem isNone_str (i : Str) : isNone (.v (.str i)) = false := nd rfl
@[simp] theorem isNone_tup (i : List PyData) : isNone (.v (.tuple i)) = false := nd rfl
@[simp] theorem isNone_lst (i : List PyData) : isNone (.v (.list i)) = false := nd rfl
@[simp] theorem bop_addI (i j : Int) (S : Sto) : bop .add (.v (.int i)) (.v (.int j)) S = some (.v (.int (i + j)), false) := nd rfl
@[simp] theorem bop_subI (i j : Int) (S : Sto) : bop .sub (.v (.int i)) (.v (.int j)) S = some (.v (.int (i - j)), false) := nd rfl
@[simp] theorem bop_mulI (i j : Int) (S : Sto) : bop .mul (.v (.int i)) (.v (.int j)) S = if small i || small j || (wide i && wide j) then some (.v (.int (i * j)), false) else none := nd rfl
@[simp] theorem bop_fdivI (i j : Int) (S : Sto) : bop .fdiv (.v (.int i)) (.v (.int j)) S = if decide (0 < j) && wide j then some (.v (.int (i / j)), false) else none := nd rfl
@[simp] theorem bop_modI (i j : Int) (S : Sto) : bop .mod (.v (.int i)) (.v (.int j)) S = if decide (0 < j) then some (.v (.int (i % j)), false) else none := nd rfl
@[simp] theorem bop_powI (i j : Int) (S : Sto) : bop .pow (.v (.int i)) (.v (.int j)) S = if decide (0 ≤ j ∧ j ≤ 4000) && wide i then some (.v (.int (i ^ j.toNat)), false) else none := nd rfl
@[simp] theorem mkSeq_app (t : Bool) (xs ys : List PyData) : mkSeq t (xs.map W.v ++ ys.map W.v) = .v (if t then .tuple (xs ++ ys) else .list (xs ++ ys)) := by
  rw [← List.map_append, mkSeq_map]
@[simp] theorem bop_addT (xs ys : List PyData) (S : Sto) : bop .add (.v (.tuple xs)) (.v (.tuple ys)) S = if xs.length + ys.length ≤ LIM then some (.v (.tuple (xs ++ ys)), false) else none := by
  simp [bop]
@[simp] theorem bop_addL (xs ys : List PyData) (S : Sto) : bop .add (.v (.list xs)) (.v (.list ys)) S = if xs.length + ys.length ≤ LIM then some (.v (.list (xs ++ ys)), true) else none := by
  simp [bop]
theorem mkSeq_fun {α : Type} (t : Bool) (xs : List α) (f : α → PyData) : mkSeq t (xs.map fun x => W.v (f x)) = .v (if t then .tuple (xs.map f) else .list (xs.map f)) := by
  rw [← mkSeq_map, List.map_map]; rfl
@[simp] theorem mkSeq_nil (t : Bool) : mkSeq t [] = .v (if t then .tuple [] else .list []) := mkSeq_map t []
theorem mkSeq_cons (t : Bool) (a : PyData) (ds : List PyData) : mkSeq t (.v a :: ds.map W.v) = .v (if t then .tuple (a :: ds) else .list (a :: ds)) := mkSeq_map t (a :: ds)
@[simp] theorem mkSeq_1 (t : Bool) (a : PyData) : mkSeq t [.v a] = .v (if t then .tuple [a] else .list [a]) := mkSeq_map t [a]
@[simp] theorem mkSeq_2 (t : Bool) (a b : PyData) : mkSeq t [.v a, .v b] = .v (if t then .tuple [a, b] else .list [a, b]) := mkSeq_map t [a, b]
@[simp] theorem mkSeq_3 (t : Bool) (a b c : PyData) : mkSeq t [.v a, .v b, .v c] = .v (if t then .tuple [a, b, c] else .list [a, b, c]) := mkSeq_map t [a, b, c]
@[simp] theorem mkSeq_4 (t : Bool) (a b c e : PyData) : mkSeq t [.v a, .v b, .v c, .v e] = .v (if t then .tuple [a, b, c, e] else .list [a, b, c, e]) := mkSeq_map t [a, b, c, e]
@[simp] theorem mkSeq_5 (t : Bool) (a b c e f : PyData) : mkSeq t [.v a, .v b, .v c, .v e, .v f] = .v (if t then .tuple [a, b, c, e, f] else .list [a, b, c, e, f]) := mkSeq_map t [a, b, c, e, f]
@[simp] theorem mkSeq_6 (t : Bool) (a b c e f g : PyData) : mkSeq t [.v a, .v b, .v c, .v e, .v f, .v g] = .v (if t then .tuple [a, b, c, e, f, g] else .list [a, b, c, e, f, g]) := mkSeq_map t [a, b, c, e, f, g]
@[simp] theorem mkSeq_7 (t : Bool) (a b c e f g h : PyData) : mkSeq t [.v a, .v b, .v c, .v e, .v f, .v g, .v h] = .v (if t then .tuple [a, b, c, e, f, g, h] else .list [a, b, c, e, f, g, h]) := mkSeq_map t [a, b, c, e, f, g, h]
@[simp] theorem mkSeq_8 (t : Bool) (a b c e f g h i : PyData) : mkSeq t [.v a, .v b, .v c, .v e, .v f, .v g, .v h, .v i] = .v (if t then .tuple [a, b, c, e, f, g, h, i] else .list [a, b, c, e, f, g, h, i]) := mkSeq_map t [a, b, c, e, f, g, h, i]
@[simp] theorem mkSeq_9 (t : Bool) (a b c e f g h i j : PyData) : mkSeq t [.v a, .v b, .v c, .v e, .v f, .v g, .v h, .v i, .v j] = .v (if t then .tuple [a, b, c, e, f, g, h, i, j] else .list [a, b, c, e, f, g, h, i, j]) := mkSeq_map t [a, b, c, e, f, g, h, i, j]
@[simp] theorem mkSeq_10 (t : Bool) (a b c e f g h i j k : PyData) : mkSeq t [.v a, .v b, .v c, .v e, .v f, .v g, .v h, .v i, .v j, .v k] = .v (if t then .tuple [a, b, c, e, f, g, h, i, j, k] else .list [a, b, c, e, f, g, h, i, j, k]) := mkSeq_map t [a, b, c, e, f, g, h, i, j, k]
@[simp] theorem mkSeq_11 (t : Bool) (a b c e f g h i j k l : PyData) : mkSeq t [.v a, .v b, .v c, .v e, .v f, .v g, .v h, .v i, .v j, .v k, .v l] = .v (if t then .tuple [a, b, c, e, f, g, h, i, j, k, l] else .list [a, b, c, e, f, g, h, i, j, k, l]) := mkSeq_map t [a, b, c, e, f, g, h, i, j, k, l]
@[simp] theorem mkSeq_12 (t : Bool) (a b c e f g h i j k l m : PyData) : mkSeq t [.v a, .v b, .v c, .v e, .v f, .v g, .v h, .v i, .v j, .v k, .v l, .v m] = .v (if t then .tuple [a, b, c, e, f, g, h, i, j, k, l, m] else .list [a, b, c, e, f, g, h, i, j, k, l, m]) := mkSeq_map t [a, b, c, e, f, g, h, i, j, k, l, m]
theorem bools_map : ∀ (bs : List Bool), bools (bs.map fun b => W.v (.bool b)) = some bs
  | [] => rfl
  | b :: bs => by simp [bools, bools_map bs]
theorem bools_fun {α : Type} (f : α → Bool) : ∀ (xs : List α), bools (xs.map fun x => W.v (.bool (f x))) = some (xs.map f)
  | [] => rfl
  | x :: xs => by simp [bools, bools_fun f xs]
theorem sumInts_fun {α : Type} (f : α → Int) : ∀ (xs : List α), sumInts (xs.map fun x => W.v (.int (f x))) = some (xs.map f).sum
  | [] => rfl
  | x :: xs => by simp [sumInts, sumInts_fun f xs]
@[simp] theorem biF_len (w : W) (S : Sto) : biF .len [w] S = (lenW w S).map fun n => (.v (.int n), false) := nd rfl
@[simp] theorem biF_all {α : Type} (xs : List α) (f : α → Bool) (S : Sto) : biF .all [.v (.list (xs.map fun x => .bool (f x)))] S = some (.v (.bool (xs.all f)), false) := by
  have h := bools_fun f xs
  simp only [biF, items_lst, List.map_map, Option.bind_some]
  show (if (false : Bool) = true then none else (bools (xs.map fun x => W.v (.bool (f x)))).map fun bs => (W.v (.bool (bs.all id)), false)) = _
  rw [h]; simp
@[simp] theorem biF_any {α : Type} (xs : List α) (f : α → Bool) (S : Sto) : biF .any [.v (.list (xs.map fun x => .bool (f x)))] S = some (.v (.bool (xs.any f)), false) := by
  have h := bools_fun f xs
  simp only [biF, items_lst, List.map_map, Option.bind_some]
  show (if (false : Bool) = true then none else (bools (xs.map fun x => W.v (.bool (f x)))).map fun bs => (W.v (.bool (bs.any id)), false)) = _
  rw [h]; simp
@[simp] theorem biF_sum {α : Type} (xs : List α) (f : α → Int) (S : Sto) : biF .sum [.v (.list (xs.map fun x => .int (f x)))] S = some (.v (.int (xs.map f).sum), false) := by
  have h := sumInts_fun f xs
  simp only [biF, items_lst, List.map_map, Option.bind_some]
  show (if (false : Bool) = true then none else (sumInts (xs.map fun x => W.v (.int (f x)))).map fun n => (W.v (.int n), false)) = _
  rw [h]; simp
@[simp] theorem biF_tup (ds : List PyData) (S : Sto) : biF .tuple [.v (.tuple ds)] S = some (.v (.tuple ds), false) := by simp [biF]
@[simp] theorem biF_tupL (ds : List PyData) (S : Sto) : biF .tuple [.v (.list ds)] S = some (.v (.tuple ds), false) := by simp [biF]
@[simp] theorem biF_lstT (ds : List PyData) (S : Sto) : biF .list [.v (.tuple ds)] S = some (.v (.list ds), true) := by simp [biF]
@[simp] theorem biF_lstL (ds : List PyData) (S : Sto) : biF .list [.v (.list ds)] S = some (.v (.list ds), true) := by simp [biF]
@[simp] theorem biF_int (i : Int) (S : Sto) : biF .int [.v (.int i)] S = some (.v (.int i), false) := nd rfl
@[simp] theorem biF_abs (i : Int) (S : Sto) : biF .abs [.v (.int i)] S = some (.v (.int (if i < 0 then -i else i)), false) := nd rfl
@[simp] theorem biF_max2 (i j : Int) (S : Sto) : biF .max2 [.v (.int i), .v (.int j)] S = some (.v (.int (max i j)), false) := by
  simp [biF]; split <;> omega
@[simp] theorem biF_min2 (i j : Int) (S : Sto) : biF .min2 [.v (.int i), .v (.int j)] S = some (.v (.int (min i j)), false) := by
  simp [biF]; split <;> omega
theorem cutL_one {α : Type} (xs : List α) : cutL xs (some 1) none = xs.drop 1 := by
  unfold cutL
  have h1 : HT.sIx xs.length 0 (some 1) = min 1 xs.length := HT.sIx_nat _ _ 1
  rw [h1, HT.sIx_none]
  cases xs with
  | nil => simp
  | cons x xs => simp
theorem cutL_to {α : Type} (xs : List α) (k : Nat) : cutL xs none (some (k : Int)) = xs.take k := by
  unfold cutL
  rw [HT.sIx_nat, HT.sIx_none, List.drop_zero, Nat.sub_zero]
  by_cases h : k ≤ xs.length
  · rw [Nat.min_eq_left h]
  · rw [Nat.min_eq_right (by omega), List.take_of_length_le (Nat.le_refl _), List.take_of_length_le (by omega)]
theorem cutL_from {α : Type} (xs : List α) (k : Nat) : cutL xs (some (k : Int)) none = xs.drop k := by
  unfold cutL
  rw [HT.sIx_nat, HT.sIx_none]
  by_cases h : k ≤ xs.length
  · rw [Nat.min_eq_left h, List.take_of_length_le (by simp)]
  · rw [Nat.min_eq_right (by omega), Nat.sub_self, List.take_zero, List.drop_of_length_le (by omega)]
theorem zipW_data : ∀ (xs ys : List PyData), zipW (xs.map W.v) (ys.map W.v) = (xs.zip ys).map fun p => W.v (.tuple [p.1, p.2])
  | [], _ => rfl
  | _ :: _, [] => rfl
  | x :: xs, y :: ys => by simp [zipW, zipW_data xs ys]
@[simp] theorem bindT_nm (i : Nat) (w : W) (ρ : Env) : bindT (.nm i) w ρ = some (ρ.set i (some w)) := by simp [bindT]
@[simp] theorem bindT_tup (ts : List Tgt) (ds : List PyData) (ρ : Env) : bindT (.tup ts) (.v (.tuple ds)) ρ = bindTs ts (ds.map W.v) ρ := by simp [bindT]
@[simp] theorem bindTs_nil (ρ : Env) : bindTs [] [] ρ = some ρ := by simp [bindTs]
@[simp] theorem bindTs_cons (t : Tgt) (ts : List Tgt) (w : W) (ws : List W) (ρ : Env) : bindTs (t :: ts) (w :: ws) ρ = (bindT t w ρ).bind fun ρ' => bindTs ts ws ρ' := by simp [bindTs]
@[simp] theorem setNs_nil (ρ : Env) : setNs [] [] ρ = some ρ := nd rfl
@[simp] theorem setNs_cons (i : Nat) (is : List Nat) (w : W) (ws : List W) (ρ : Env) : setNs (i :: is) (w :: ws) ρ = setNs is ws (ρ.set i (some w)) := nd rfl
@[simp] theorem wipeE_nil (ρ : Env) : wipeE ρ [] = ρ := nd rfl
@[simp] theorem wipeE_cons (ρ : Env) (v : Nat) (vs : List Nat) : wipeE ρ (v :: vs) = (wipeE ρ vs).set v none := nd rfl
theorem enumW_nil (k : Nat) : enumW k [] = [] := rfl
theorem enumW_cons (k : Nat) (x : W) (xs : List W) : enumW k (x :: xs) = mkSeq true [.v (.int k), x] :: enumW (k + 1) xs := rfl
theorem ixL_loc {S : Sto} {l : Nat} {ws : List W} (h : S[l]? = some (.lst ws)) (i : Int) : ixL (.loc l) (.v (.int i)) S = L2.atI ws i := by simp [ixL, lstAt, h]
theorem ixW_loc {S : Sto} {l : Nat} {ws : List W} (h : S[l]? = some (.lst ws)) (i : Int) : ixW (.loc l) (.v (.int i)) S = L2.atI ws i := by simp [ixW, lstAt, h]
theorem lenW_loc {S : Sto} {l : Nat} {ws : List W} (h : S[l]? = some (.lst ws)) : lenW (.loc l) S = some (ws.length : Int) := by simp [lenW, lstAt, h]
theorem items_loc {S : Sto} {l : Nat} {ws : List W} (h : S[l]? = some (.lst ws)) : items (.loc l) S = some (false, ws) := by simp [items, lstAt, h]
theorem setW_loc {S : Sto} {l : Nat} {xs : List W} (h : S[l]? = some (.lst xs)) (k : Int) (w : W) : setW (.loc l) (.v (.int k)) w S = (L2.ixN xs.length k).map fun j => S.set l (.lst (xs.set j w)) := by simp [setW, h]
theorem ixN_ok {n : Nat} {i : Int} (h0 : 0 ≤ i) (h1 : i < n) : L2.ixN n i = some i.toNat := by
  unfold L2.ixN; rw [if_pos h0, if_pos h1]
theorem rep_flat {α : Type} (a : α) : ∀ n : Nat, (List.replicate n [a]).flatten = List.replicate n a
  | 0 => rfl
  | n + 1 => by rw [List.replicate_succ, List.flatten_cons, rep_flat a n, List.replicate_succ]; rfl
/-! ### what holds behind a run -/
def R.wp {α : Type} (r : R α) (Q : α → Sto → Prop) (E : Exn → Sto → Prop) : Prop := match r with | .ok a S => Q a S | .exc e S => E e S | .bad => False
@[simp] theorem wp_ok {α : Type} (a : α) (S : Sto) (Q : α → Sto → Prop) (E : Exn → Sto → Prop) : (R.ok a S).wp Q E = Q a S := nd rfl
@[simp] theorem wp_exc {α : Type} (e : Exn) (S : Sto) (Q : α → Sto → Prop) (E : Exn → Sto → Prop) : (R.exc e S : R α).wp Q E = E e S := nd rfl
@[simp] theorem wp_bad {α : Type} (Q : α → Sto → Prop) (E : Exn → Sto → Prop) : (R.bad : R α).wp Q E = False := nd rfl
@[simp] theorem wp_bind {α β : Type} (r : R α) (f : α → Sto → R β) (Q : β → Sto → Prop) (E : Exn → Sto → Prop) : (r.bind f).wp Q E = r.wp (fun a S => (f a S).wp Q E) E := by cases r <;> rfl
@[simp] theorem wp_stm {α : Type} (r : R α) (ρ : Env) (f : α → Sto → R Out) (Q : Out → Sto → Prop) (E : Exn → Sto → Prop) : (r.stm ρ f).wp Q E = r.wp (fun a S => (f a S).wp Q E) (fun e S => Q (.exc e ρ) S) := by cases r <;> rfl
@[simp] theorem wp_calm {α : Type} (r : R α) (Q : α → Sto → Prop) (E : Exn → Sto → Prop) : r.calm.wp Q E = r.wp Q fun _ _ => False := by cases r <;> rfl
@[simp] theorem wp_sto {α : Type} (r : R α) (u : Sto → Sto) (Q : α → Sto → Prop) (E : Exn → Sto → Prop) : (r.sto u).wp Q E = r.wp (fun a S => Q a (u S)) fun e S => E e (u S) := by cases r <;> rfl
/-- where a def's body ends -/
def outQ (Q : W × Bool → Sto → Prop) (E : Exn → Sto → Prop) : Out → Sto → Prop
  | .next _, S => Q (.v .none, false) S
  | .ret w fr, S => Q (w, fr) S
  | .exc e _, S => E e S
  | _, _ => False
@[simp] theorem outQ_next (Q : W × Bool → Sto → Prop) (E : Exn → Sto → Prop) (ρ : Env) (S : Sto) : outQ Q E (.next ρ) S = Q (.v .none, false) S := nd rfl
@[simp] theorem outQ_ret (Q : W × Bool → Sto → Prop) (E : Exn → Sto → Prop) (w : W) (fr : Bool) (S : Sto) : outQ Q E (.ret w fr) S = Q (w, fr) S := nd rfl
@[simp] theorem outQ_exc (Q : W × Bool → Sto → Prop) (E : Exn → Sto → Prop) (e : Exn) (ρ : Env) (S : Sto) : outQ Q E (.exc e ρ) S = E e S := nd rfl
@[simp] theorem wp_finish (r : R Out) (Q : W × Bool → Sto → Prop) (E : Exn → Sto → Prop) : (finish r).wp Q E = r.wp (outQ Q E) fun _ _ => False := by
  cases r with
  | ok o S => cases o <;> rfl
  | exc e S => rfl
  | bad => rfl
theorem wp_call {P : Prg} {d f : Nat} {ws : List W} {S : Sto} {Q : W × Bool → Sto → Prop} {E : Exn → Sto → Prop} (fd : Fd) (h : P.fd f = some fd) (hn : ws.length = fd.np)
    (h2 : (evSs (callN P d) P.fuel P.sub P.keeps fd.body (start fd ws) S).wp (outQ Q E) fun _ _ => False) : (callN P (d + 1) f ws S).wp Q E := by
  rw [call_of fd h hn, wp_finish]; exact h2
theorem R.wp.mono {α : Type} {r : R α} {Q Q' : α → Sto → Prop} {E E' : Exn → Sto → Prop} (h : r.wp Q E) (m : ∀ a S, Q a S → Q' a S) (m' : ∀ e S, E e S → E' e S) : r.wp Q' E' := by
  cases r with
  | ok a S => exact m _ _ h
  | exc e S => exact m' _ _ h
  | bad => exact h.elim
theorem wp_iff {α : Type} {r : R α} {Q : α → Sto → Prop} : (r.wp Q fun _ _ => False) ↔ ∃ a S, r = .ok a S ∧ Q a S := by
  cases r with
  | ok a S => exact ⟨fun h => ⟨a, S, rfl, h⟩, fun ⟨a', S', e, q⟩ => by cases e; exact q⟩
  | exc e S => exact ⟨fun h => h.elim, fun ⟨_, _, e, _⟩ => by cases e⟩
  | bad => exact ⟨fun h => h.elim, fun ⟨_, _, e, _⟩ => by cases e⟩
/-- a loop by an invariant over what is left -/
theorem wp_for {f : W → Env → Sto → R Out} {Q : Out → Sto → Prop} {E : Exn → Sto → Prop} (I : List W → Env → Sto → Prop) {xs : List W} {ρ : Env} {S : Sto} (h0 : I xs ρ S) (hend : ∀ ρ S, I [] ρ S → Q (.next ρ) S)
    (st : ∀ x r ρ S, I (x :: r) ρ S → (f x ρ S).wp (fun o S' => match o with
      | .next ρ' => I r ρ' S'
      | .cont ρ' => I r ρ' S'
      | .brk ρ' => Q (.next ρ') S'
      | o => Q o S') E) : (forLoop f xs ρ S).wp Q E := by
  induction xs generalizing ρ S with
  | nil => exact hend ρ S h0
  | cons x xs ih =>
    rw [for_cons, wp_bind]
    refine (st x xs ρ S h0).mono (fun o S1 q => ?_) fun e S h => h
    cases o with
    | next ρ' => exact ih q
    | cont ρ' => exact ih q
    | brk ρ' => exact q
    | ret w b => exact q
    | exc e ρ' => exact q
end Pd
set_option Elab.async false
set_option linter.all false
set_option maxRecDepth 100000
namespace K64
open PySem Pd
def fd_is_integer : Fd := ⟨1, 1, (.cons (.ret (.and (.isi (.nm 0) [.int] true) (.not (.isi (.nm 0) [.bool] true))))
  .nil)⟩
def fd_is_from : Fd := ⟨2, 2, (.cons (.ret (.and (.call false 0 (.cons (.nm 1) .nil)) (.cmp .ge (.nm 1) (.nm 0))))
  .nil)⟩
def fd_is_below : Fd := ⟨2, 2, (.cons (.ret (.and (.call false 1 (.cons (.cst (.int 0)) (.cons (.nm 1) .nil))) (.cmp .lt (.nm 1) (.nm 0))))
  .nil)⟩
def fd_is_tuple : Fd := ⟨2, 2, (.cons (.ret (.and (.isi (.nm 1) [.tuple] true) (.or (.cmp .is (.nm 0) (.cst .none)) (.cmp .eq (.blt .len (.cons (.nm 1) .nil)) (.nm 0)))))
  .nil)⟩
def fd_is_ascending : Fd := ⟨1, 3, (.cons (.ret (.blt .all (.cons (.lc (.cmp .lt (.nm 1) (.nm 2)) (.tup [(.nm 1), (.nm 2)]) (.zip (.nm 0) (.sl (.nm 0) (.cst (.int 1)) .nil)) .nil [1, 2]) .nil)))
  .nil)⟩
def fd_is_pair : Fd := ⟨2, 2, (.cons (.ret (.and (.call false 3 (.cons (.cst (.int 2)) (.cons (.nm 1) .nil))) (.and (.call false 2 (.cons (.nm 0) (.cons (.ix (.nm 1) (.cst (.int 0))) .nil))) (.and (.call false 2 (.cons (.nm 0) (.cons (.ix (.nm 1) (.cst (.int 1))) .nil))) (.cmp .lt (.ix (.nm 1) (.cst (.int 0))) (.ix (.nm 1) (.cst (.int 1))))))))
  .nil)⟩
def fd_is_lot : Fd := ⟨2, 3, (.cons (.ret (.and (.call false 3 (.cons (.cst .none) (.cons (.nm 1) .nil))) (.and (.blt .all (.cons (.lc (.call false 2 (.cons (.nm 0) (.cons (.nm 2) .nil))) (.nm 2) (.seq (.nm 1)) .nil [2]) .nil)) (.call false 4 (.cons (.nm 1) .nil)))))
  .nil)⟩
def fd_check_lot : Fd := ⟨2, 2, (.cons (.ifs (.not (.call false 5 (.cons (.nm 0) (.cons (.nm 1) .nil)))) (.cons (.raise 6 (.cst (.str "not a lot")))
  .nil) .nil)
  .nil)⟩
def fd_is_counts : Fd := ⟨1, 2, (.cons (.ret (.and (.call false 3 (.cons (.cst .none) (.cons (.nm 0) .nil))) (.blt .all (.cons (.lc (.call false 1 (.cons (.cst (.int 0)) (.cons (.nm 1) .nil))) (.nm 1) (.seq (.nm 0)) .nil [1]) .nil))))
  .nil)⟩
def fd_check_counts : Fd := ⟨1, 1, (.cons (.ifs (.not (.call false 7 (.cons (.nm 0) .nil))) (.cons (.raise 8 (.cst (.str "not counts")))
  .nil) .nil)
  .nil)⟩
def fd_check_other : Fd := ⟨2, 2, (.cons (.expr (.call false 10 (.cons (.nm 1) .nil)))
  (.cons (.ifs (.cmp .ne (.blt .len (.cons (.nm 1) .nil)) (.nm 0)) (.cons (.raise 9 (.cst (.str "another number of things")))
  .nil) .nil)
  .nil))⟩
def fd_net_fault : Fd := ⟨1, 3, (.cons (.ifs (.not (.call false 3 (.cons (.cst (.int 2)) (.cons (.nm 0) .nil)))) (.cons (.ret (.tup .nil))
  .nil) .nil)
  (.cons (.ifs (.not (.call false 1 (.cons (.cst (.int 0)) (.cons (.ix (.nm 0) (.cst (.int 0))) .nil)))) (.cons (.ret (.tup (.cons (.cst (.int 0)) .nil)))
  .nil) .nil)
  (.cons (.ifs (.not (.call false 3 (.cons (.cst .none) (.cons (.ix (.nm 0) (.cst (.int 1))) .nil)))) (.cons (.ret (.tup (.cons (.cst (.int 1)) .nil)))
  .nil) .nil)
  (.cons (.fors (.tup [(.nm 1), (.nm 2)]) (.enum (.ix (.nm 0) (.cst (.int 1)))) (.cons (.ifs (.not (.call false 11 (.cons (.ix (.nm 0) (.cst (.int 0))) (.cons (.nm 2) .nil)))) (.cons (.ret (.tup (.cons (.cst (.int 1)) (.cons (.nm 1) .nil))))
  .nil) .nil)
  .nil))
  (.cons (.ret (.ite (.call false 4 (.cons (.ix (.nm 0) (.cst (.int 1))) .nil)) (.cst .none) (.tup (.cons (.cst (.int 1)) .nil))))
  .nil)))))⟩
def fd_check_net : Fd := ⟨1, 2, (.cons (.asg (.nm 1) (.call false 13 (.cons (.nm 0) .nil)))
  (.cons (.ifs (.cmp .isn (.nm 1) (.cst .none)) (.cons (.raise 12 (.nm 1))
  .nil) .nil)
  .nil))⟩
def fd_pair_of : Fd := ⟨2, 2, (.cons (.ret (.ite (.cmp .lt (.nm 0) (.nm 1)) (.tup (.cons (.nm 0) (.cons (.nm 1) .nil))) (.tup (.cons (.nm 1) (.cons (.nm 0) .nil)))))
  .nil)⟩
def fd_is_beats_in : Fd := ⟨2, 4, (.cons (.ifs (.not (.call false 3 (.cons (.blt .len (.cons (.ix (.nm 0) (.cst (.int 1))) .nil)) (.cons (.nm 1) .nil)))) (.cons (.ret (.cst (.bool false)))
  .nil) .nil)
  (.cons (.ifs (.not (.blt .all (.cons (.lc (.and (.call false 3 (.cons (.cst (.int 2)) (.cons (.nm 2) .nil))) (.and (.call false 2 (.cons (.ix (.nm 0) (.cst (.int 0))) (.cons (.ix (.nm 2) (.cst (.int 0))) .nil))) (.call false 2 (.cons (.ix (.nm 0) (.cst (.int 0))) (.cons (.ix (.nm 2) (.cst (.int 1))) .nil))))) (.nm 2) (.seq (.nm 1)) .nil [2]) .nil))) (.cons (.ret (.cst (.bool false)))
  .nil) .nil)
  (.cons (.ret (.and (.call false 4 (.cons (.nm 1) .nil)) (.cmp .eq (.blt .sorted (.cons (.lc (.call false 14 (.cons (.nm 2) (.cons (.nm 3) .nil))) (.tup [(.nm 2), (.nm 3)]) (.seq (.nm 1)) .nil [2, 3]) .nil)) (.blt .list (.cons (.ix (.nm 0) (.cst (.int 1))) .nil)))))
  .nil)))⟩
def fd_check_beats : Fd := ⟨2, 2, (.cons (.ifs (.not (.call false 15 (.cons (.nm 0) (.cons (.nm 1) .nil)))) (.cons (.raise 16 (.cst (.str "not beats of the net")))
  .nil) .nil)
  .nil)⟩
def fd_scores_in : Fd := ⟨2, 5, (.cons (.asg (.nm 2) (.box (.bin .mul (.lst (.cons (.cst (.int 0)) .nil)) (.nm 0))))
  (.cons (.fors (.tup [(.nm 3), (.nm 4)]) (.seq (.nm 1)) (.cons (.augS .add (.nm 2) (.nm 3) (.cst (.int 1)))
  .nil))
  (.cons (.ret (.blt .tuple (.cons (.nm 2) .nil)))
  .nil)))⟩
def fd_score_spare_in : Fd := ⟨3, 7, (.cons (.asg (.nm 3) (.blt .len (.cons (.lc (.cst (.int 1)) (.tup [(.nm 4), (.nm 5)]) (.seq (.ix (.nm 0) (.cst (.int 1)))) (.cons (.and (.cmp .mem (.nm 4) (.nm 2)) (.cmp .mem (.nm 5) (.nm 2))) .nil) [4, 5]) .nil)))
  (.cons (.ret (.bin .sub (.blt .sum (.cons (.lc (.ix (.nm 1) (.nm 6)) (.nm 6) (.seq (.nm 2)) .nil [6]) .nil)) (.nm 3)))
  .nil))⟩
def fd_check_scores : Fd := ⟨2, 2, (.cons (.expr (.call false 18 (.cons (.nm 0) .nil)))
  (.cons (.expr (.call false 17 (.cons (.ix (.nm 0) (.cst (.int 0))) (.cons (.nm 1) .nil))))
  .nil))⟩
def fd_is_beats : Fd := ⟨2, 2, (.cons (.expr (.call false 18 (.cons (.nm 0) .nil)))
  (.cons (.ret (.call false 15 (.cons (.nm 0) (.cons (.nm 1) .nil))))
  .nil))⟩
def fd_scores_of : Fd := ⟨2, 2, (.cons (.expr (.call false 18 (.cons (.nm 0) .nil)))
  (.cons (.expr (.call false 20 (.cons (.nm 0) (.cons (.nm 1) .nil))))
  (.cons (.ret (.call false 19 (.cons (.ix (.nm 0) (.cst (.int 0))) (.cons (.nm 1) .nil))))
  .nil)))⟩
def fd_score_spare : Fd := ⟨3, 3, (.cons (.expr (.call false 23 (.cons (.nm 0) (.cons (.nm 1) .nil))))
  (.cons (.expr (.call false 22 (.cons (.ix (.nm 0) (.cst (.int 0))) (.cons (.nm 2) .nil))))
  (.cons (.ret (.call false 21 (.cons (.nm 0) (.cons (.nm 1) (.cons (.nm 2) .nil)))))
  .nil)))⟩
def fd_law_vat : Fd := ⟨2, 5, (.cons (.asg (.nm 2) (.bin .add (.bin .add (.cst (.int 402653)) (.bin .mul (.cst (.int 99991)) (.nm 1))) (.bin .mul (.cst (.int 7919)) (.blt .len (.cons (.sl (.nm 0) .nil (.cst (.int 63))) .nil)))))
  (.cons (.fors (.nm 3) (.seq (.sl (.nm 0) .nil (.cst (.int 63)))) (.cons (.asg (.nm 2) (.bin .mod (.blt .int (.cons (.bin .add (.bin .add (.bin .mul (.nm 2) (.cst (.int 6700417))) (.bin .mul (.blt .int (.cons (.nm 3) .nil)) (.cst (.int 524287)))) (.cst (.int 65537))) .nil)) (.bin .add (.bin .pow (.cst (.int 10)) (.cst (.int 25))) (.cst (.int 13)))))
  .nil))
  (.cons (.asg (.nm 4) (.ite (.cmp .lt (.nm 1) (.blt .len (.cons (.nm 0) .nil))) (.blt .abs (.cons (.blt .int (.cons (.ix (.nm 0) (.nm 1)) .nil)) .nil)) (.cst (.int 0))))
  (.cons (.ret (.lst (.cons (.blt .max2 (.cons (.cst (.int 0)) (.cons (.bin .sub (.nm 4) (.bin .pow (.cst (.int 10)) (.cst (.int 18)))) .nil))) (.cons (.nm 2) (.cons (.cst (.int 0)) .nil)))))
  .nil))))⟩
def fd_law_alike : Fd := ⟨2, 3, (.cons (.ifs (.isi (.nm 1) [.tuple, .list] false) (.cons (.ifs (.or (.cmp .ne (.isi (.nm 1) [.tuple] true) (.isi (.nm 0) [.tuple] true)) (.cmp .ne (.isi (.nm 1) [.list] true) (.isi (.nm 0) [.list] true))) (.cons (.ret (.cst (.bool false)))
  .nil) .nil)
  (.cons (.ret (.and (.cmp .eq (.blt .len (.cons (.nm 0) .nil)) (.blt .len (.cons (.nm 1) .nil))) (.blt .all (.cons (.lc (.call false 24 (.cons (.ix (.nm 0) (.nm 2)) (.cons (.ix (.nm 1) (.nm 2)) .nil))) (.nm 2) (.rng1 (.blt .len (.cons (.nm 1) .nil))) .nil [2]) .nil))))
  .nil)) .nil)
  (.cons (.ifs (.cmp .is (.nm 1) (.cst .none)) (.cons (.ret (.cmp .is (.nm 0) (.cst .none)))
  .nil) .nil)
  (.cons (.ifs (.or (.isi (.nm 1) [.bool] true) (.isi (.nm 0) [.bool] true)) (.cons (.ret (.and (.isi (.nm 1) [.bool] true) (.and (.isi (.nm 0) [.bool] true) (.cmp .eq (.nm 0) (.nm 1)))))
  .nil) .nil)
  (.cons (.ifs (.isi (.nm 1) [.str] true) (.cons (.ret (.and (.isi (.nm 0) [.str] true) (.cmp .eq (.nm 0) (.nm 1))))
  .nil) .nil)
  (.cons (.ret (.and (.isi (.nm 0) [.int] true) (.cmp .eq (.nm 0) (.nm 1))))
  .nil)))))⟩
def fd_law_lad : Fd := ⟨2, 5, (.cons (.ifs (.cmp .gt (.ix (.nm 0) (.cst (.int 0))) (.cst (.int 0))) (.cons (.asg (.nm 4) (.bin .mod (.blt .int (.cons (.ix (.nm 0) (.cst (.int 0))) .nil)) (.nm 1)))
  (.cons (.asgS (.nm 0) (.cst (.int 0)) (.bin .fdiv (.ix (.nm 0) (.cst (.int 0))) (.nm 1)))
  (.cons (.ret (.nm 4))
  .nil))) .nil)
  (.cons (.asgS (.nm 0) (.cst (.int 2)) (.bin .add (.ix (.nm 0) (.cst (.int 2))) (.cst (.int 1))))
  (.cons (.asg (.nm 2) (.bin .mod (.blt .int (.cons (.bin .add (.bin .pow (.bin .add (.ix (.nm 0) (.cst (.int 1))) (.bin .mul (.cst (.int 15485863)) (.ix (.nm 0) (.cst (.int 2))))) (.cst (.int 2))) (.bin .mul (.cst (.int 86028121)) (.ix (.nm 0) (.cst (.int 2))))) .nil)) (.bin .add (.bin .pow (.cst (.int 10)) (.cst (.int 24))) (.cst (.int 7)))))
  (.cons (.asg (.nm 3) (.bin .mod (.blt .int (.cons (.bin .add (.bin .pow (.nm 2) (.cst (.int 2))) (.bin .mul (.cst (.int 49979687)) (.ix (.nm 0) (.cst (.int 2))))) .nil)) (.bin .add (.bin .pow (.cst (.int 10)) (.cst (.int 22))) (.cst (.int 9)))))
  (.cons (.ret (.bin .mod (.blt .int (.cons (.bin .fdiv (.nm 3) (.bin .pow (.cst (.int 10)) (.cst (.int 6)))) .nil)) (.nm 1)))
  .nil)))))⟩
def fd_law_one_of : Fd := ⟨2, 2, (.cons (.ret (.ix (.nm 1) (.call true 25 (.cons (.nm 0) (.cons (.blt .len (.cons (.nm 1) .nil)) .nil)))))
  .nil)⟩
def fd_law_pairs : Fd := ⟨1, 4, (.cons (.asg (.nm 1) (.box (.lst .nil)))
  (.cons (.fors (.nm 2) (.rng1 (.nm 0)) (.cons (.expr (.mth .extend (.nm 1) (.cons (.lc (.tup (.cons (.nm 2) (.cons (.nm 3) .nil))) (.nm 3) (.rng2 (.bin .add (.nm 2) (.cst (.int 1))) (.nm 0)) .nil [3]) .nil)))
  .nil))
  (.cons (.ret (.nm 1))
  .nil)))⟩
def fd_law_net : Fd := ⟨2, 4, (.cons (.asg (.nm 2) (.call true 27 (.cons (.nm 0) (.cons (.lst (.cons (.cst (.int 1)) (.cons (.cst (.int 2)) (.cons (.cst (.int 3)) (.cons (.cst (.int 3)) (.cons (.cst (.int 4)) (.cons (.cst (.int 5)) .nil))))))) .nil))))
  (.cons (.ret (.tup (.cons (.nm 1) (.cons (.blt .tuple (.cons (.lc (.nm 3) (.nm 3) (.seq (.call false 26 (.cons (.nm 1) .nil))) (.cons (.cmp .lt (.call true 25 (.cons (.nm 0) (.cons (.cst (.int 6)) .nil))) (.nm 2)) .nil) [3]) .nil)) .nil))))
  .nil))⟩
def fd_law_drawn_lot : Fd := ⟨2, 3, (.cons (.ret (.blt .tuple (.cons (.lc (.nm 2) (.nm 2) (.rng1 (.nm 1)) (.cons (.cmp .eq (.call true 25 (.cons (.nm 0) (.cons (.cst (.int 2)) .nil))) (.cst (.int 0))) .nil) [2]) .nil)))
  .nil)⟩
def fd_law_beats : Fd := ⟨2, 3, (.cons (.ret (.blt .tuple (.cons (.blt .sorted (.cons (.lc (.ite (.cmp .eq (.call true 25 (.cons (.nm 0) (.cons (.cst (.int 2)) .nil))) (.cst (.int 0))) (.nm 2) (.slr (.nm 2))) (.nm 2) (.seq (.ix (.nm 1) (.cst (.int 1)))) .nil [2]) .nil)) .nil)))
  .nil)⟩
def fd_law_is_beats : Fd := ⟨2, 4, (.cons (.ifs (.or (.not (.isi (.nm 1) [.tuple] true)) (.cmp .ne (.lc (.nm 2) (.nm 2) (.seq (.nm 1)) (.cons (.or (.not (.isi (.nm 2) [.tuple] true)) (.cmp .ne (.blt .len (.cons (.nm 2) .nil)) (.cst (.int 2)))) .nil) [2]) (.lst .nil))) (.cons (.ret (.cst (.bool false)))
  .nil) .nil)
  (.cons (.fors (.nm 2) (.seq (.nm 1)) (.cons (.ifs (.cmp .ne (.lc (.nm 3) (.nm 3) (.seq (.nm 2)) (.cons (.or (.not (.isi (.nm 3) [.int] true)) (.isi (.nm 3) [.bool] true)) .nil) [3]) (.lst .nil)) (.cons (.ret (.cst (.bool false)))
  .nil) .nil)
  .nil))
  (.cons (.ret (.and (.cmp .eq (.blt .sorted (.cons (.lc (.tup (.cons (.blt .min1 (.cons (.nm 2) .nil)) (.cons (.blt .max1 (.cons (.nm 2) .nil)) .nil))) (.nm 2) (.seq (.nm 1)) .nil [2]) .nil)) (.blt .list (.cons (.ix (.nm 0) (.cst (.int 1))) .nil))) (.cmp .eq (.blt .list (.cons (.nm 1) .nil)) (.blt .sorted (.cons (.nm 1) .nil)))))
  .nil)))⟩
def fd_law_values : Fd := ⟨3, 7, (.cons (.asg (.nm 3) (.call true 25 (.cons (.nm 0) (.cons (.bin .add (.blt .len (.cons (.nm 2) .nil)) (.cst (.int 1))) .nil))))
  (.cons (.asg (.nm 4) (.lst (.cons (.nm 2) (.cons (.blt .list (.cons (.nm 2) .nil)) (.cons (.slr (.nm 2)) (.cons (.sl (.nm 2) (.cst (.int 1)) .nil) (.cons (.bin .add (.nm 2) (.sl (.nm 2) .nil (.cst (.int 1)))) (.cons (.ix (.nm 1) (.cst (.int 1))) (.cons (.blt .tuple (.cons (.lc (.slr (.nm 6)) (.nm 6) (.seq (.ix (.nm 1) (.cst (.int 1)))) .nil [6]) .nil)) (.cons (.blt .tuple (.cons (.blt .sorted (.cons (.lc (.slr (.nm 5)) (.nm 5) (.seq (.nm 2)) .nil [5]) .nil)) .nil)) .nil))))))))))
  (.cons (.fors (.nm 5) (.seq (.lst (.cons (.cst .none) (.cons (.tup (.cons (.cst (.int 0)) .nil)) (.cons (.tup (.cons (.cst (.int 0)) (.cons (.cst (.int 0)) .nil))) (.cons (.lst (.cons (.cst (.int 0)) (.cons (.cst (.int 1)) .nil))) (.cons (.tup (.cons (.cst (.int 0)) (.cons (.ix (.nm 1) (.cst (.int 0))) .nil))) (.cons (.tup (.cons (.neg (.cst (.int 1))) (.cons (.cst (.int 0)) .nil))) (.cons (.cst (.str "01")) (.cons (.tup (.cons (.cst (.bool true)) (.cons (.cst (.int 0)) .nil))) (.cons (.tup (.cons (.cst (.int 0)) (.cons (.cst (.int 1)) (.cons (.cst (.int 2)) .nil)))) (.cons (.tup (.cons (.cst (.int 0)) (.cons (.cst (.int 1)) .nil))) (.cons (.tup (.cons (.cst (.int 1)) (.cons (.cst (.int 0)) .nil))) .nil))))))))))))) (.cons (.asg (.nm 4) (.bin .add (.nm 4) (.lst (.cons (.bin .add (.bin .add (.sl (.nm 2) .nil (.nm 3)) (.tup (.cons (.nm 5) .nil))) (.sl (.nm 2) (.nm 3) .nil)) (.cons (.bin .add (.bin .add (.sl (.nm 2) .nil (.nm 3)) (.tup (.cons (.nm 5) .nil))) (.sl (.nm 2) (.bin .add (.nm 3) (.cst (.int 1))) .nil)) .nil)))))
  .nil))
  (.cons (.ifs (.cmp .lt (.nm 3) (.blt .len (.cons (.nm 2) .nil))) (.cons (.asg (.nm 4) (.bin .add (.nm 4) (.lst (.cons (.bin .add (.bin .add (.sl (.nm 2) .nil (.nm 3)) (.tup (.cons (.slr (.ix (.nm 2) (.nm 3))) .nil))) (.sl (.nm 2) (.bin .add (.nm 3) (.cst (.int 1))) .nil)) (.cons (.blt .tuple (.cons (.blt .sorted (.cons (.bin .add (.nm 2) (.tup (.cons (.slr (.ix (.nm 2) (.nm 3))) .nil))) .nil)) .nil)) .nil)))))
  .nil) .nil)
  (.cons (.ret (.bin .add (.nm 4) (.lst (.cons (.tup .nil) (.cons (.cst .none) (.cons (.cst (.int 7)) (.cons (.cst (.str "beats")) (.cons (.tup (.cons (.tup .nil) .nil)) .nil))))))))
  .nil)))))⟩
def fd_law_word : Fd := ⟨2, 3, (.cons (.asg (.nm 2) (.cst (.str "")))
  (.cons (.tryS (.cons (.ifs (.cmp .eq (.nm 0) (.cst (.int 0))) (.cons (.expr (.call false 28 (.cons (.ix (.nm 1) (.cst (.int 0))) (.cons (.ix (.nm 1) (.cst (.int 1))) .nil))))
  .nil) (.cons (.ifs (.cmp .eq (.nm 0) (.cst (.int 1))) (.cons (.expr (.call false 29 (.cons (.ix (.nm 1) (.cst (.int 0))) (.cons (.ix (.nm 1) (.cst (.int 1))) .nil))))
  .nil) (.cons (.expr (.call false 30 (.cons (.ix (.nm 1) (.cst (.int 0))) (.cons (.ix (.nm 1) (.cst (.int 1))) (.cons (.ix (.nm 1) (.cst (.int 2))) .nil)))))
  .nil))
  .nil))
  .nil) (.cons 12 none (.cons (.asg (.nm 2) (.cst (.str "net")))
  .nil) (.cons 16 none (.cons (.asg (.nm 2) (.cst (.str "beats")))
  .nil) (.cons 8 none (.cons (.asg (.nm 2) (.cst (.str "counts")))
  .nil) (.cons 9 none (.cons (.asg (.nm 2) (.cst (.str "unlike")))
  .nil) (.cons 6 none (.cons (.asg (.nm 2) (.cst (.str "lot")))
  .nil) .nil))))))
  (.cons (.ret (.nm 2))
  .nil)))⟩
def fd_law_refused_right : Fd := ⟨3, 7, (.cons (.par [5, 6] (.cons (.call true 27 (.cons (.nm 0) (.cons (.lst (.cons (.cst .none) (.cons (.tup (.cons (.cst (.int 1)) .nil)) (.cons (.tup (.cons (.cst (.int 2)) (.cons (.tup (.cons (.tup (.cons (.cst (.int 1)) (.cons (.cst (.int 0)) .nil))) .nil)) .nil))) (.cons (.tup (.cons (.neg (.cst (.int 1))) (.cons (.tup .nil) .nil))) (.cons (.tup (.cons (.cst (.int 2)) (.cons (.lst (.cons (.tup (.cons (.cst (.int 0)) (.cons (.cst (.int 1)) .nil))) .nil)) .nil))) .nil)))))) .nil))) (.cons (.call true 27 (.cons (.nm 0) (.cons (.lst (.cons (.cst .none) (.cons (.bin .mul (.tup (.cons (.neg (.cst (.int 1))) .nil)) (.blt .max2 (.cons (.cst (.int 1)) (.cons (.ix (.nm 1) (.cst (.int 0))) .nil)))) (.cons (.blt .list (.cons (.nm 2) .nil)) (.cons (.tup (.cons (.cst (.str "0")) .nil)) (.cons (.cst (.int 5)) .nil)))))) .nil))) .nil)))
  (.cons (.asg (.nm 3) (.call true 27 (.cons (.nm 0) (.cons (.lst (.cons (.cst .none) (.cons (.tup (.cons (.ix (.nm 1) (.cst (.int 0))) .nil)) (.cons (.lst (.cons (.cst (.int 0)) .nil)) (.cons (.tup (.cons (.cst (.int 1)) (.cons (.cst (.int 0)) .nil))) (.cons (.tup (.cons (.cst (.int 0)) (.cons (.cst (.int 0)) .nil))) (.cons (.tup (.cons (.neg (.cst (.int 1))) .nil)) (.cons (.cst (.int 0)) .nil)))))))) .nil))))
  (.cons (.asg (.nm 4) (.lst (.cons (.call false 31 (.cons (.cst (.int 0)) (.cons (.lst (.cons (.nm 5) (.cons (.tup .nil) .nil))) .nil))) (.cons (.call false 31 (.cons (.cst (.int 1)) (.cons (.lst (.cons (.nm 5) (.cons (.cst .none) .nil))) .nil))) (.cons (.call false 31 (.cons (.cst (.int 1)) (.cons (.lst (.cons (.nm 1) (.cons (.cst .none) .nil))) .nil))) (.cons (.call false 31 (.cons (.cst (.int 2)) (.cons (.lst (.cons (.nm 5) (.cons (.nm 6) (.cons (.nm 3) .nil)))) .nil))) (.cons (.call false 31 (.cons (.cst (.int 2)) (.cons (.lst (.cons (.nm 1) (.cons (.nm 6) (.cons (.nm 3) .nil)))) .nil))) .nil)))))))
  (.cons (.asg (.nm 4) (.bin .add (.nm 4) (.lst (.cons (.call false 31 (.cons (.cst (.int 2)) (.cons (.lst (.cons (.nm 1) (.cons (.bin .add (.nm 2) (.tup (.cons (.cst (.int 0)) .nil))) (.cons (.nm 3) .nil)))) .nil))) (.cons (.call false 31 (.cons (.cst (.int 2)) (.cons (.lst (.cons (.nm 1) (.cons (.nm 2) (.cons (.nm 3) .nil)))) .nil))) (.cons (.call false 31 (.cons (.cst (.int 2)) (.cons (.lst (.cons (.nm 1) (.cons (.nm 2) (.cons (.tup .nil) .nil)))) .nil))) .nil))))))
  (.cons (.ret (.cmp .eq (.nm 4) (.lst (.cons (.cst (.str "net")) (.cons (.cst (.str "net")) (.cons (.cst (.str "beats")) (.cons (.cst (.str "net")) (.cons (.cst (.str "counts")) (.cons (.cst (.str "unlike")) (.cons (.cst (.str "lot")) (.cons (.cst (.str "")) .nil)))))))))))
  .nil)))))⟩
def fd_law_right : Fd := ⟨1, 15, (.cons (.asg (.nm 1) (.call true 37 (.cons (.nm 0) (.cons (.call true 27 (.cons (.nm 0) (.cons (.lst (.cons (.cst (.int 5)) (.cons (.cst (.int 4)) (.cons (.cst (.int 6)) (.cons (.cst (.int 3)) (.cons (.cst (.int 2)) (.cons (.cst (.int 1)) (.cons (.cst (.int 0)) .nil)))))))) .nil))) .nil))))
  (.cons (.asg (.nm 2) (.call true 36 (.cons (.nm 0) (.cons (.nm 1) .nil))))
  (.cons (.asg (.nm 3) (.blt .tuple (.cons (.lc (.blt .len (.cons (.lc (.nm 12) (.nm 12) (.seq (.nm 2)) (.cons (.cmp .eq (.ix (.nm 12) (.cst (.int 0))) (.nm 11)) .nil) [12]) .nil)) (.nm 11) (.rng1 (.ix (.nm 1) (.cst (.int 0)))) .nil [11]) .nil)))
  (.cons (.fors (.nm 4) (.seq (.call true 34 (.cons (.nm 0) (.cons (.nm 1) (.cons (.nm 2) .nil))))) (.cons (.asg (.nm 6) (.call false 35 (.cons (.nm 1) (.cons (.nm 4) .nil))))
  (.cons (.ifs (.or (.not (.call false 24 (.cons (.lst (.cons (.call false 28 (.cons (.nm 1) (.cons (.nm 4) .nil))) (.cons (.callK false 28 .nil [1, 0] (.cons (.nm 4) (.cons (.nm 1) .nil))) .nil))) (.cons (.lst (.cons (.nm 6) (.cons (.nm 6) .nil))) .nil)))) (.and (.not (.nm 6)) (.cmp .ne (.call false 31 (.cons (.cst (.int 1)) (.cons (.lst (.cons (.nm 1) (.cons (.nm 4) .nil))) .nil))) (.cst (.str "beats"))))) (.cons (.ret (.cst (.bool false)))
  .nil) .nil)
  .nil)))
  (.cons (.ifs (.not (.call false 24 (.cons (.lst (.cons (.call false 29 (.cons (.nm 1) (.cons (.nm 2) .nil))) (.cons (.callK false 29 .nil [1, 0] (.cons (.nm 2) (.cons (.nm 1) .nil))) .nil))) (.cons (.lst (.cons (.nm 3) (.cons (.nm 3) .nil))) .nil)))) (.cons (.ret (.cst (.bool false)))
  .nil) .nil)
  (.cons (.fors (.nm 5) (.rng1 (.cst (.int 5))) (.cons (.asg (.tup [(.nm 9), (.nm 10)]) (.tup (.cons (.call true 33 (.cons (.nm 0) (.cons (.ix (.nm 1) (.cst (.int 0))) .nil))) (.cons (.blt .tuple (.cons (.lc (.bin .add (.nm 14) (.call true 25 (.cons (.nm 0) (.cons (.cst (.int 3)) .nil)))) (.nm 14) (.seq (.nm 3)) .nil [14]) .nil)) .nil))))
  (.cons (.asg (.nm 6) (.blt .len (.cons (.lc (.nm 12) (.nm 12) (.seq (.nm 2)) (.cons (.and (.cmp .mem (.ix (.nm 12) (.cst (.int 0))) (.nm 9)) (.cmp .nmem (.ix (.nm 12) (.cst (.int 1))) (.nm 9))) .nil) [12]) .nil)))
  (.cons (.asg (.nm 7) (.blt .len (.cons (.lc (.nm 13) (.nm 13) (.seq (.ix (.nm 1) (.cst (.int 1)))) (.cons (.and (.cmp .mem (.ix (.nm 13) (.cst (.int 0))) (.nm 9)) (.cmp .mem (.ix (.nm 13) (.cst (.int 1))) (.nm 9))) .nil) [13]) .nil)))
  (.cons (.asg (.nm 8) (.lst (.cons (.call false 30 (.cons (.nm 1) (.cons (.nm 3) (.cons (.nm 9) .nil)))) (.cons (.callK false 30 .nil [2, 1, 0] (.cons (.nm 9) (.cons (.nm 10) (.cons (.nm 1) .nil)))) .nil))))
  (.cons (.ifs (.not (.call false 24 (.cons (.nm 8) (.cons (.lst (.cons (.nm 6) (.cons (.bin .sub (.blt .sum (.cons (.lc (.ix (.nm 10) (.nm 11)) (.nm 11) (.seq (.nm 9)) .nil [11]) .nil)) (.nm 7)) .nil))) .nil)))) (.cons (.ret (.cst (.bool false)))
  .nil) .nil)
  .nil))))))
  (.cons (.ret (.call true 32 (.cons (.nm 0) (.cons (.nm 1) (.cons (.nm 3) .nil)))))
  .nil)))))))⟩
def fd_law : Fd := ⟨1, 4, (.cons (.fors (.nm 1) (.rng1 (.blt .max2 (.cons (.cst (.int 2)) (.cons (.blt .min2 (.cons (.cst (.int 3)) (.cons (.blt .len (.cons (.nm 0) .nil)) .nil))) .nil)))) (.cons (.asg (.nm 2) (.box (.call true 39 (.cons (.nm 0) (.cons (.nm 1) .nil)))))
  (.cons (.fors (.nm 3) (.rng1 (.cst (.int 2))) (.cons (.ifs (.not (.call true 38 (.cons (.nm 2) .nil))) (.cons (.ret (.cst (.bool false)))
  .nil) .nil)
  .nil))
  .nil)))
  (.cons (.ret (.call false 24 (.cons (.call false 30 (.cons (.tup (.cons (.cst (.int 3)) (.cons (.tup (.cons (.tup (.cons (.cst (.int 0)) (.cons (.cst (.int 1)) .nil))) (.cons (.tup (.cons (.cst (.int 0)) (.cons (.cst (.int 2)) .nil))) (.cons (.tup (.cons (.cst (.int 1)) (.cons (.cst (.int 2)) .nil))) .nil)))) .nil))) (.cons (.tup (.cons (.cst (.int 1)) (.cons (.cst (.int 1)) (.cons (.cst (.int 1)) .nil)))) (.cons (.tup (.cons (.cst (.int 0)) (.cons (.cst (.int 1)) .nil))) .nil)))) (.cons (.cst (.int 1)) .nil))))
  .nil))⟩
def own : List (Nat × Fd × List Str) := [(0, fd_is_integer, [("thing" : Str)]),
  (1, fd_is_from, [("low" : Str), ("thing" : Str)]),
  (2, fd_is_below, [("many" : Str), ("thing" : Str)]),
  (3, fd_is_tuple, [("many" : Str), ("thing" : Str)]),
  (4, fd_is_ascending, [("members" : Str), ("one" : Str), ("later" : Str)]),
  (11, fd_is_pair, [("things" : Str), ("thing" : Str)]),
  (5, fd_is_lot, [("things" : Str), ("thing" : Str), ("one" : Str)]),
  (22, fd_check_lot, [("things" : Str), ("thing" : Str)]),
  (7, fd_is_counts, [("value" : Str), ("one" : Str)]),
  (10, fd_check_counts, [("thing" : Str)]),
  (17, fd_check_other, [("things" : Str), ("thing" : Str)]),
  (13, fd_net_fault, [("value" : Str), ("index" : Str), ("tie" : Str)]),
  (18, fd_check_net, [("thing" : Str), ("part" : Str)]),
  (14, fd_pair_of, [("one" : Str), ("other" : Str)]),
  (15, fd_is_beats_in, [("net" : Str), ("value" : Str), ("one" : Str), ("other" : Str)]),
  (20, fd_check_beats, [("net" : Str), ("thing" : Str)]),
  (19, fd_scores_in, [("things" : Str), ("beats" : Str), ("found" : Str), ("one" : Str), ("other" : Str)]),
  (21, fd_score_spare_in, [("net" : Str), ("scores" : Str), ("lot" : Str), ("within" : Str), ("one" : Str), ("other" : Str), ("thing" : Str)]),
  (23, fd_check_scores, [("net" : Str), ("scores" : Str)]),
  (28, fd_is_beats, [("net" : Str), ("value" : Str)]),
  (29, fd_scores_of, [("net" : Str), ("beats" : Str)]),
  (30, fd_score_spare, [("net" : Str), ("scores" : Str), ("lot" : Str)]),
  (39, fd_law_vat, [("script" : Str), ("at" : Str), ("mixed" : Str), ("cell" : Str), ("own" : Str)]),
  (24, fd_law_alike, [("found" : Str), ("due" : Str), ("k" : Str)]),
  (25, fd_law_lad, [("vat" : Str), ("many" : Str), ("one" : Str), ("two" : Str), ("figure" : Str)]),
  (27, fd_law_one_of, [("vat" : Str), ("things" : Str)]),
  (26, fd_law_pairs, [("things" : Str), ("found" : Str), ("one" : Str), ("other" : Str)]),
  (37, fd_law_net, [("vat" : Str), ("things" : Str), ("many" : Str), ("pair" : Str)]),
  (33, fd_law_drawn_lot, [("vat" : Str), ("many" : Str), ("one" : Str)]),
  (36, fd_law_beats, [("vat" : Str), ("net" : Str), ("tie" : Str)]),
  (35, fd_law_is_beats, [("net" : Str), ("value" : Str), ("one" : Str), ("thing" : Str)]),
  (34, fd_law_values, [("vat" : Str), ("net" : Str), ("beats" : Str), ("k" : Str), ("found" : Str), ("one" : Str), ("tie" : Str)]),
  (31, fd_law_word, [("which" : Str), ("a" : Str), ("word" : Str)]),
  (32, fd_law_refused_right, [("vat" : Str), ("net" : Str), ("scores" : Str), ("lot" : Str), ("told" : Str), ("wrong" : Str), ("odd" : Str)]),
  (38, fd_law_right, [("vat" : Str), ("net" : Str), ("beats" : Str), ("scores" : Str), ("value" : Str), ("turn" : Str), ("due" : Str), ("within" : Str), ("told" : Str), ("lot" : Str), ("other" : Str), ("thing" : Str), ("one" : Str), ("tie" : Str), ("score" : Str)]),
  (104, fd_law, [("script" : Str), ("at" : Str), ("vat" : Str), ("turn" : Str)])]
def names : List (Nat × Str) := [(0, ("is_integer" : Str)), (1, ("is_from" : Str)), (2, ("is_below" : Str)), (3, ("is_tuple" : Str)), (4, ("is_ascending" : Str)), (11, ("is_pair" : Str)), (5, ("is_lot" : Str)), (22, ("check_lot" : Str)), (7, ("is_counts" : Str)), (10, ("check_counts" : Str)), (17, ("check_other" : Str)), (13, ("net_fault" : Str)), (18, ("check_net" : Str)), (14, ("pair_of" : Str)), (15, ("is_beats_in" : Str)), (20, ("check_beats" : Str)), (19, ("scores_in" : Str)), (21, ("score_spare_in" : Str)), (23, ("check_scores" : Str)), (28, ("is_beats" : Str)), (29, ("scores_of" : Str)), (30, ("score_spare" : Str)), (39, ("_law_vat" : Str)), (24, ("_law_alike" : Str)), (25, ("_law_lad" : Str)), (27, ("_law_one_of" : Str)), (26, ("_law_pairs" : Str)), (37, ("_law_net" : Str)), (33, ("_law_drawn_lot" : Str)), (36, ("_law_beats" : Str)), (35, ("_law_is_beats" : Str)), (34, ("_law_values" : Str)), (31, ("_law_word" : Str)), (32, ("_law_refused_right" : Str)), (38, ("_law_right" : Str)), (104, ("law" : Str)), (105, ("TiesError" : Str)), (8, ("InvalidCounts" : Str)), (6, ("InvalidLot" : Str)), (12, ("InvalidNet" : Str)), (16, ("InvalidBeats" : Str)), (9, ("Unlike" : Str))]
def cls : List Nat := [105, 8, 6, 12, 16, 9]
def held : List (Nat × Str) := [(12, ("part" : Str))]
def subs : List (Nat × Nat × Bool) := [(105, 105, true), (105, 8, false), (105, 6, false), (105, 12, false), (105, 16, false), (105, 9, false), (8, 105, true), (8, 8, true), (8, 6, false), (8, 12, false), (8, 16, false), (8, 9, false), (6, 105, true), (6, 8, false), (6, 6, true), (6, 12, false), (6, 16, false), (6, 9, false), (12, 105, true), (12, 8, false), (12, 6, false), (12, 12, true), (12, 16, false), (12, 9, false), (16, 105, true), (16, 8, false), (16, 6, false), (16, 12, false), (16, 16, true), (16, 9, false), (9, 105, true), (9, 8, false), (9, 6, false), (9, 12, false), (9, 16, false), (9, 9, true)]
def L : Ld := ⟨own, names, cls, held, subs, [], 1000⟩
abbrev Pr : Prg := L.pr
end K64
set_option linter.all false
set_option maxRecDepth 100000
namespace K64
open PySem Pd
/-! the judges of forms -/
def isInt : PyData → Bool | .int _ => true | _ => false
def isFrom (n : Int) : PyData → Bool | .int i => decide (n ≤ i) | _ => false
def isBelow (n : Int) : PyData → Bool | .int i => decide (0 ≤ i) && decide (i < n) | _ => false
def isTup : PyData → Bool | .tuple _ => true | _ => false
def tupN (n : Int) : PyData → Bool | .tuple xs => decide ((xs.length : Int) = n) | _ => false
def isPair (n : Int) : PyData → Bool
  | .tuple [a, b] => isBelow n a && isBelow n b && (match a, b with | .int i, .int j => decide (i < j) | _, _ => false)
  | _ => false
def adj {α : Type} (xs : List α) : List (α × α) := xs.zip (xs.drop 1)
def ascD (ds : List PyData) : Bool := (adj ds).all fun p => dlt p.1 p.2
variable {d : Nat}
theorem ok_is_integer (x : PyData) (hx : x.canLay0) (S : Sto) : callN Pr (d+1) 0 [.v x] S = .ok (.v (.bool (isInt x)), false) S := by
  rw [call_of fd_is_integer rfl rfl]
  cases x <;> simp [fd_is_integer, Pd.start, isTys, isTy, tyOf, isNone, asBool, isInt, PyData.canLay0] at hx ⊢
theorem ok_is_from (n : Int) (x : PyData) (hx : x.canLay0) (S : Sto) : callN Pr (d+2) 1 [.v (.int n), .v x] S = .ok (.v (.bool (isFrom n x)), false) S := by
  rw [call_of fd_is_from rfl rfl]
  simp [fd_is_from, Pd.start, ok_is_integer _ hx]
  cases x <;> simp [isInt, asBool, isFrom, cop]
theorem ok_is_below (n : Int) (x : PyData) (hx : x.canLay0) (S : Sto) : callN Pr (d+3) 2 [.v (.int n), .v x] S = .ok (.v (.bool (isBelow n x)), false) S := by
  rw [call_of fd_is_below rfl rfl]
  simp [fd_is_below, Pd.start, ok_is_from _ _ hx]
  cases x <;> simp [asBool, isFrom, cop, isBelow, ltW, okD, dcm, dlt, PyData.canLay0, PyData.depth]
  split <;> simp [*]
theorem ok_is_tuple (n : Int) (x : PyData) (hx : x.canLay0) (S : Sto) : callN Pr (d+1) 3 [.v (.int n), .v x] S = .ok (.v (.bool (tupN n x)), false) S := by
  rw [call_of fd_is_tuple rfl rfl]
  cases x <;> simp [fd_is_tuple, Pd.start, isTys, isTy, tyOf, isNone, tupN, PyData.canLay0] at hx ⊢
theorem ok_is_tuple0 (x : PyData) (hx : x.canLay0) (S : Sto) : callN Pr (d+1) 3 [.v .none, .v x] S = .ok (.v (.bool (isTup x)), false) S := by
  rw [call_of fd_is_tuple rfl rfl]
  cases x <;> simp [fd_is_tuple, Pd.start, isTys, isTy, tyOf, isNone, asBool, isTup, PyData.canLay0] at hx ⊢
theorem ok_is_pair (n : Int) (x : PyData) (hx : x.canLay0) (S : Sto) : callN Pr (d+4) 11 [.v (.int n), .v x] S = .ok (.v (.bool (isPair n x)), false) S := by
  rw [call_of fd_is_pair rfl rfl]
  simp [fd_is_pair, Pd.start, ok_is_tuple _ _ hx, asBool]
  by_cases ht : tupN 2 x
  · obtain ⟨a, b, rfl⟩ : ∃ a b, x = .tuple [a, b] := by
      cases x with
      | tuple xs =>
        match xs, ht with
        | [a, b], _ => exact ⟨a, b, rfl⟩
        | [], h => simp [tupN] at h
        | [_], h => simp [tupN] at h
        | _ :: _ :: _ :: _, h => simp [tupN] at h; omega
      | _ => simp [tupN] at ht
    simp [PyData.canLay0, PyData.canLayAll0] at hx
    simp [ht, ok_is_below _ _ hx.1, ok_is_below _ _ hx.2, asBool]
    cases a <;> simp [isBelow, isPair, asBool]
    cases b <;> simp [isBelow, isPair, asBool, cop, ltW, okD, dcm, dlt, PyData.canLay0, PyData.depth]
    split <;> simp [*]
    split <;> simp [*]
  · simp [ht]
    cases x with
    | tuple xs =>
      match xs, ht with
      | [a, b], h => simp [tupN] at h
      | [], h => simp [isPair]
      | [_], h => simp [isPair]
      | _ :: _ :: _ :: _, h => simp [isPair]
    | _ => simp [isPair]
theorem ok_is_ascending (ds : List PyData) (h : ∀ p ∈ adj ds, okD p.1 p.2 = true ∧ dcm p.1 p.2 = true) (S : Sto) : callN Pr (d+1) 4 [.v (.tuple ds)] S = .ok (.v (.bool (ascD ds)), false) S := by
  rw [call_of fd_is_ascending rfl rfl]
  simp [fd_is_ascending, Pd.start, cutL_one, -List.drop_one]
  rw [← List.map_drop, zipW_data, lc_map (y := fun p : PyData × PyData => W.v (.bool (dlt p.1 p.2)))]
  · simp [mkSeq_fun, ascD, adj]
  · intro p hp
    have := h p hp
    simp [lcStep, bindT, bindTs, wipeE, cop, ltW, this]
end K64
set_option linter.all false
set_option maxRecDepth 100000
namespace K64
open PySem Pd
variable {d : Nat}
/-! pairs of ints -/
def pr (p : Int × Int) : PyData := .tuple [.int p.1, .int p.2]
def lexlt (p q : Int × Int) : Prop := p.1 < q.1 ∨ (p.1 = q.1 ∧ p.2 < q.2)
instance (p q : Int × Int) : Decidable (lexlt p q) := by unfold lexlt; infer_instance
@[simp] theorem dlt_pr (p q : Int × Int) : dlt (pr p) (pr q) = decide (lexlt p q) := by
  simp only [pr, dlt, dlts, PyData.eqv, lexlt]
  by_cases h : p.1 = q.1
  · by_cases h2 : p.2 = q.2 <;> simp [h, h2]
  · simp [h]
@[simp] theorem dlt_int (a b : Int) : dlt (.int a) (.int b) = decide (a < b) := by simp [dlt]
@[simp] theorem lay_pr (p : Int × Int) : (pr p).canLay0 = true := by simp [pr, PyData.canLay0, PyData.canLayAll0]
@[simp] theorem lay_int (i : Int) : (PyData.int i).canLay0 = true := by simp [PyData.canLay0]
@[simp] theorem dep_pr (p : Int × Int) : (pr p).depth = 1 := by simp [pr, PyData.depth, PyData.depthAll]
@[simp] theorem dep_int (i : Int) : (PyData.int i).depth = 0 := by simp [PyData.depth]
@[simp] theorem okD_pr (p q : Int × Int) : okD (pr p) (pr q) = true := by simp [okD]
@[simp] theorem okD_int (p q : Int) : okD (.int p) (.int q) = true := by simp [okD]
@[simp] theorem dcm_pr (p q : Int × Int) : dcm (pr p) (pr q) = true := by simp [pr, dcm, dcms]
@[simp] theorem dcm_int (p q : Int) : dcm (.int p) (.int q) = true := by simp [dcm]
theorem lexlt_irrefl (p : Int × Int) : ¬ lexlt p p := by simp [lexlt]
theorem lexlt_trans {p q r : Int × Int} (h1 : lexlt p q) (h2 : lexlt q r) : lexlt p r := by unfold lexlt at *; omega
theorem lexlt_total (p q : Int × Int) : lexlt p q ∨ p = q ∨ lexlt q p := by
  obtain ⟨a, b⟩ := p; obtain ⟨c, e⟩ := q
  simp only [lexlt, Prod.mk.injEq]; omega
/-- neighbours in order: all in order -/
theorem adj_pairwise {α : Type} {R : α → α → Prop} [DecidableRel R] (tr : ∀ a b c : α, R a b → R b c → R a c) : ∀ xs : List α, ((adj xs).all fun p => decide (R p.1 p.2)) = true ↔ xs.Pairwise R
  | [] => by simp [adj]
  | [x] => by simp [adj]
  | x :: y :: xs => by
    have ih := adj_pairwise (R := R) tr (y :: xs)
    have e : adj (x :: y :: xs) = (x, y) :: adj (y :: xs) := by simp [adj]
    rw [e, List.all_cons, Bool.and_eq_true, ih, List.pairwise_cons (a := x)]
    simp only [decide_eq_true_eq]
    constructor
    · rintro ⟨h1, h2⟩
      refine ⟨fun z hz => ?_, h2⟩
      rcases List.mem_cons.mp hz with rfl | hz
      · exact h1
      · exact tr _ _ _ h1 ((List.pairwise_cons.mp h2).1 z hz)
    · rintro ⟨h1, h2⟩
      exact ⟨h1 y (by simp), h2⟩
theorem adj_map {α β : Type} (f : α → β) (xs : List α) : adj (xs.map f) = (adj xs).map fun p => (f p.1, f p.2) := by
  unfold adj; rw [← List.map_drop, List.zip_map]; rfl
theorem ascD_pr (ps : List (Int × Int)) : ascD (ps.map pr) = true ↔ ps.Pairwise lexlt := by
  rw [← adj_pairwise (R := lexlt) (fun _ _ _ h1 h2 => lexlt_trans h1 h2)]
  unfold ascD
  rw [adj_map, List.all_map]
  simp [Function.comp_def]
theorem ascD_int (ps : List Int) : ascD (ps.map PyData.int) = true ↔ ps.Pairwise (· < ·) := by
  rw [← adj_pairwise (R := fun a b : Int => a < b) (fun _ _ _ h1 h2 => Int.lt_trans h1 h2)]
  unfold ascD
  rw [adj_map, List.all_map]
  simp [Function.comp_def]
theorem asc_pr (ps : List (Int × Int)) (S : Sto) : callN Pr (d+1) 4 [.v (.tuple (ps.map pr))] S = .ok (.v (.bool (ascD (ps.map pr))), false) S := by
  refine ok_is_ascending _ (fun p hp => ?_) S
  rw [adj_map] at hp
  obtain ⟨q, _, rfl⟩ := List.mem_map.mp hp
  simp
theorem asc_int (ps : List Int) (S : Sto) : callN Pr (d+1) 4 [.v (.tuple (ps.map PyData.int))] S = .ok (.v (.bool (ascD (ps.map PyData.int))), false) S := by
  refine ok_is_ascending _ (fun p hp => ?_) S
  rw [adj_map] at hp
  obtain ⟨q, _, rfl⟩ := List.mem_map.mp hp
  simp
theorem below_ints {n : Int} {xs : List PyData} (h : xs.all (isBelow n) = true) : ∃ is : List Int, xs = is.map PyData.int ∧ ∀ i ∈ is, 0 ≤ i ∧ i < n := by
  induction xs with
  | nil => exact ⟨[], rfl, by simp⟩
  | cons x xs ih =>
    rw [List.all_cons, Bool.and_eq_true] at h
    obtain ⟨is, rfl, h2⟩ := ih h.2
    cases x with
    | int i =>
      refine ⟨i :: is, rfl, ?_⟩
      have := h.1
      simp [isBelow] at this
      intro j hj
      rcases List.mem_cons.mp hj with rfl | hj
      · exact this
      · exact h2 j hj
    | _ => simp [isBelow] at h
theorem pairs_pr {n : Int} {xs : List PyData} (h : xs.all (isPair n) = true) : ∃ ps : List (Int × Int), xs = ps.map pr ∧ ∀ p ∈ ps, 0 ≤ p.1 ∧ p.1 < p.2 ∧ p.2 < n := by
  induction xs with
  | nil => exact ⟨[], rfl, by simp⟩
  | cons x xs ih =>
    rw [List.all_cons, Bool.and_eq_true] at h
    obtain ⟨is, rfl, h2⟩ := ih h.2
    have h1 := h.1
    match x, h1 with
    | .tuple [.int a, .int b], h1 =>
      refine ⟨(a, b) :: is, rfl, ?_⟩
      simp [isPair, isBelow] at h1
      intro j hj
      rcases List.mem_cons.mp hj with rfl | hj
      · exact ⟨h1.1.1.1, h1.2, h1.1.2.2⟩
      · exact h2 j hj
    | .tuple [.int a, .none], h1 => simp [isPair, isBelow] at h1
    | .tuple [.int a, .bool _], h1 => simp [isPair, isBelow] at h1
    | .tuple [.int a, .str _], h1 => simp [isPair, isBelow] at h1
    | .tuple [.int a, .list _], h1 => simp [isPair, isBelow] at h1
    | .tuple [.int a, .tuple _], h1 => simp [isPair, isBelow] at h1
    | .tuple [.int a, .dict _], h1 => simp [isPair, isBelow] at h1
    | .tuple [.none, _], h1 => simp [isPair, isBelow] at h1
    | .tuple [.bool _, _], h1 => simp [isPair, isBelow] at h1
    | .tuple [.str _, _], h1 => simp [isPair, isBelow] at h1
    | .tuple [.list _, _], h1 => simp [isPair, isBelow] at h1
    | .tuple [.tuple _, _], h1 => simp [isPair, isBelow] at h1
    | .tuple [.dict _, _], h1 => simp [isPair, isBelow] at h1
    | .tuple [], h1 => simp [isPair] at h1
    | .tuple [_], h1 => simp [isPair] at h1
    | .tuple (_ :: _ :: _ :: _), h1 => simp [isPair] at h1
    | .none, h1 => simp [isPair] at h1
    | .int _, h1 => simp [isPair] at h1
    | .bool _, h1 => simp [isPair] at h1
    | .str _, h1 => simp [isPair] at h1
    | .list _, h1 => simp [isPair] at h1
    | .dict _, h1 => simp [isPair] at h1
theorem lay_all : ∀ {ds : List PyData}, PyData.canLayAll0 ds = true ↔ ∀ x ∈ ds, x.canLay0 = true
  | [] => by simp [PyData.canLayAll0]
  | x :: xs => by simp [PyData.canLayAll0, lay_all (ds := xs)]
def isLot (n : Int) : PyData → Bool
  | .tuple xs => xs.all (isBelow n) && ascD xs
  | _ => false
theorem ok_is_lot (n : Int) (x : PyData) (hx : x.canLay0) (S : Sto) : callN Pr (d+4) 5 [.v (.int n), .v x] S = .ok (.v (.bool (isLot n x)), false) S := by
  rw [call_of fd_is_lot rfl rfl]
  simp [fd_is_lot, Pd.start, ok_is_tuple0 _ hx]
  cases x with
  | tuple xs =>
    simp [PyData.canLay0, lay_all] at hx
    simp [isTup]
    rw [lc_map (y := fun x => W.v (.bool (isBelow n x)))]
    · simp [mkSeq_fun, isLot, -List.all_eq_true]
      by_cases hb : xs.all (isBelow n) = true
      · obtain ⟨is, rfl, _⟩ := below_ints hb
        simp [hb, asc_int, -List.all_eq_true]
      · simp [hb, -List.all_eq_true]
    · intro x hm
      simp [lcStep, bindT, wipeE, ok_is_below n x (hx x hm)]
  | _ => simp [isTup, isLot]
def exR (c : Nat) (S : Sto) : R (W × Bool) := .exc ⟨c, none⟩ S
theorem ok_check_lot (n : Int) (x : PyData) (hx : x.canLay0) (S : Sto) : callN Pr (d+5) 22 [.v (.int n), .v x] S = if isLot n x then .ok (.v .none, false) S else exR 6 S := by
  rw [call_of fd_check_lot rfl rfl]
  simp [fd_check_lot, Pd.start, ok_is_lot _ _ hx]
  by_cases h : isLot n x <;> simp [h, exR] <;> rfl
def isCounts : PyData → Bool
  | .tuple xs => xs.all (isFrom 0)
  | _ => false
theorem ok_is_counts (x : PyData) (hx : x.canLay0) (S : Sto) : callN Pr (d+3) 7 [.v x] S = .ok (.v (.bool (isCounts x)), false) S := by
  rw [call_of fd_is_counts rfl rfl]
  simp [fd_is_counts, Pd.start, ok_is_tuple0 _ hx]
  cases x with
  | tuple xs =>
    simp [PyData.canLay0, lay_all] at hx
    simp [isTup]
    rw [lc_map (y := fun x => W.v (.bool (isFrom 0 x)))]
    · simp [mkSeq_fun, isCounts]
    · intro x hm
      simp [lcStep, bindT, wipeE, ok_is_from 0 x (hx x hm)]
  | _ => simp [isTup, isCounts]
theorem ok_check_counts (x : PyData) (hx : x.canLay0) (S : Sto) : callN Pr (d+4) 10 [.v x] S = if isCounts x then .ok (.v .none, false) S else exR 8 S := by
  rw [call_of fd_check_counts rfl rfl]
  simp [fd_check_counts, Pd.start, ok_is_counts _ hx]
  by_cases h : isCounts x <;> simp [h, exR] <;> rfl
def lenT : PyData → Int | .tuple xs => xs.length | _ => 0
theorem ok_check_other (n : Int) (x : PyData) (hx : x.canLay0) (S : Sto) : callN Pr (d+5) 17 [.v (.int n), .v x] S = if isCounts x then (if lenT x = n then .ok (.v .none, false) S else exR 9 S) else exR 8 S := by
  rw [call_of fd_check_other rfl rfl]
  simp [fd_check_other, Pd.start, ok_check_counts _ hx]
  by_cases h : isCounts x
  · cases x with
    | tuple xs =>
      by_cases h2 : (xs.length : Int) = n <;> simp [h, h2, lenT, exR] <;> rfl
    | _ => simp [isCounts] at h
  · simp [h, exR]
end K64
set_option linter.all false
set_option maxRecDepth 100000
namespace K64
open PySem Pd
variable {d : Nat}
/-! nets, beats -/
def firstBad (n : Int) : Nat → List PyData → Option Nat
  | _, [] => none
  | k, x :: xs => if isPair n x then firstBad n (k + 1) xs else some k
theorem firstBad_none {n : Int} : ∀ {xs : List PyData} {k : Nat}, firstBad n k xs = none ↔ xs.all (isPair n) = true
  | [], k => by simp [firstBad]
  | x :: xs, k => by
    unfold firstBad
    by_cases h : isPair n x = true
    · rw [if_pos h, firstBad_none]; simp [h]
    · rw [if_neg h]; simp [h]
def tieFault (n : Int) (ts : List PyData) : PyData :=
  match firstBad n 0 ts with
  | some k => .tuple [.int 1, .int k]
  | none => if ascD ts then .none else .tuple [.int 1]
def netFault : PyData → PyData
  | .tuple [a, b] => if isFrom 0 a then (match a, b with | .int n, .tuple ts => tieFault n ts | _, _ => .tuple [.int 1]) else .tuple [.int 0]
  | _ => .tuple []
def faultTurn : Sts := .cons (.ifs (.not (.call false 11 (.cons (.ix (.nm 0) (.cst (.int 0))) (.cons (.nm 2) .nil)))) (.cons (.ret (.tup (.cons (.cst (.int 1)) (.cons (.nm 1) .nil)))) .nil) .nil) .nil
theorem fault_loop (n : Int) (C : CallS) (N : Nat) (sub : Nat → Nat → Option Bool) (keeps : Nat → Bool) (S : Sto) (hC : ∀ x : PyData, x.canLay0 → ∀ S, C 11 [.v (.int n), .v x] S = .ok (.v (.bool (isPair n x)), false) S) (b : PyData) :
    ∀ (ts : List PyData) (k : Nat) (p q : Option W), (∀ x ∈ ts, x.canLay0 = true) → ∃ o, forLoop (forBody C N sub keeps (.tup [.nm 1, .nm 2]) faultTurn) (enumW k (ts.map W.v)) [some (.v (.tuple [.int n, b])), p, q] S = .ok o S ∧ match firstBad n k ts with
        | some j => o = .ret (.v (.tuple [.int 1, .int j])) false
        | none => ∃ p' q', o = .next [some (.v (.tuple [.int n, b])), p', q']
  | [], k, p, q, _ => ⟨_, rfl, p, q, rfl⟩
  | x :: ts, k, p, q, hl => by
    rw [List.map_cons, enumW_cons, for_cons]
    simp [forBody_eq, faultTurn, hC x (hl x (by simp)), firstBad]
    by_cases h : isPair n x = true
    · simp [h]
      exact fault_loop n C N sub keeps S hC b ts (k + 1) _ _ fun z hz => hl z (by simp [hz])
    · simp [h]
theorem tupN_2 {x : PyData} (h : tupN 2 x = true) : ∃ a b, x = .tuple [a, b] := by
  cases x with
  | tuple xs =>
    match xs, h with
    | [a, b], _ => exact ⟨a, b, rfl⟩
    | [], h => simp [tupN] at h
    | [_], h => simp [tupN] at h
    | _ :: _ :: _ :: _, h => simp [tupN] at h; omega
  | _ => simp [tupN] at h
theorem netFault_not {x : PyData} (h : tupN 2 x = false) : netFault x = .tuple [] := by
  cases x with
  | tuple xs =>
    match xs, h with
    | [a, b], h => simp [tupN] at h
    | [], h => rfl
    | [_], h => rfl
    | _ :: _ :: _ :: _, h => rfl
  | _ => rfl
theorem ok_net_fault (x : PyData) (hx : x.canLay0) (S : Sto) : callN Pr (d+5) 13 [.v x] S = .ok (.v (netFault x), false) S := by
  rw [call_of fd_net_fault rfl rfl]
  simp only [fd_net_fault, Pd.start, evSs_cons, evS_ifs]
  simp [ok_is_tuple _ _ hx]
  cases h2 : tupN 2 x with
  | false => simp [netFault_not h2]
  | true =>
    obtain ⟨a, b, rfl⟩ := tupN_2 h2
    simp [PyData.canLay0, lay_all] at hx
    simp [ok_is_from _ _ hx.1]
    cases h3 : isFrom 0 a with
    | false => simp [netFault, h3]
    | true =>
      cases a with
      | int n =>
        simp [ok_is_tuple0 _ hx.2]
        cases b with
        | tuple ts =>
          have hts : ∀ x ∈ ts, x.canLay0 = true := by simpa [PyData.canLay0, lay_all] using hx.2
          simp [isTup]
          obtain ⟨o, e, q⟩ := fault_loop n (callN Pr (d+4)) Pr.fuel Pr.sub Pr.keeps S (fun x hx S => ok_is_pair n x hx S) (.tuple (ts)) ts 0 none none hts
          unfold faultTurn at e
          rw [e]
          have e2 : netFault (.tuple [.int n, .tuple ts]) = tieFault n ts := by simp [netFault, h3]
          rw [e2]
          unfold tieFault
          cases hb : firstBad n 0 ts with
          | some j =>
            rw [hb] at q
            subst q
            simp
          | none =>
            rw [hb] at q
            obtain ⟨p', q', rfl⟩ := q
            obtain ⟨ps, rfl, _⟩ := pairs_pr (firstBad_none.mp hb)
            simp [asc_pr]
            cases h4 : ascD (ps.map pr) <;> simp
        | _ => simp [isTup, netFault, h3]
      | _ => simp [isFrom] at h3
theorem ok_check_net (x : PyData) (hx : x.canLay0) (S : Sto) : callN Pr (d+6) 18 [.v x] S = if isNone (.v (netFault x)) then .ok (.v .none, false) S else .exc ⟨12, some (netFault x)⟩ S := by
  rw [call_of fd_check_net rfl rfl]
  simp [fd_check_net, Pd.start, ok_net_fault _ hx]
  cases h : isNone (.v (netFault x)) <;> simp <;> rfl
/-- a net: things, ties -/
def netD (n : Int) (ts : List (Int × Int)) : PyData := .tuple [.int n, .tuple (ts.map pr)]
def IsNet (n : Int) (ts : List (Int × Int)) : Prop := 0 ≤ n ∧ (∀ p ∈ ts, 0 ≤ p.1 ∧ p.1 < p.2 ∧ p.2 < n) ∧ ts.Pairwise lexlt
theorem net_no_fault {n : Int} {ts : List (Int × Int)} (h : IsNet n ts) : netFault (netD n ts) = .none := by
  have h1 : firstBad n 0 (ts.map pr) = none := by
    rw [firstBad_none, List.all_map, List.all_eq_true]
    intro p hp
    have := h.2.1 p hp
    simp [pr, isPair, isBelow]; omega
  simp [netD, netFault, isFrom, h.1, tieFault, h1, (ascD_pr ts).mpr h.2.2]
theorem net_only {x : PyData} (h : netFault x = .none) : ∃ n ts, x = netD n ts ∧ IsNet n ts := by
  unfold netFault at h
  split at h
  · split at h
    · rename_i h3
      split at h
      · rename_i n ts
        unfold tieFault at h
        split at h
        · cases h
        · rename_i hb
          obtain ⟨ps, rfl, hp⟩ := pairs_pr (firstBad_none.mp hb)
          split at h
          · rename_i ha
            exact ⟨n, ps, rfl, by simpa [isFrom] using h3, hp, (ascD_pr ps).mp ha⟩
          · cases h
      · cases h
    · cases h
  · cases h
@[simp] theorem lay_net (n : Int) (ts : List (Int × Int)) : (netD n ts).canLay0 = true := by
  simp only [netD, PyData.canLay0, lay_all, List.mem_cons, List.mem_map]
  rintro x (rfl | rfl | h)
  · rfl
  · simp only [PyData.canLay0, lay_all, List.mem_map]
    rintro x ⟨p, _, rfl⟩
    simp
  · cases h
end K64
set_option linter.all false
set_option maxRecDepth 100000
namespace K64
open PySem Pd
/-! sorting, by any order -/
section
variable {α : Type}
def insL (lt : α → α → Bool) (x : α) : List α → List α
  | [] => [x]
  | y :: ys => if lt x y then x :: y :: ys else y :: insL lt x ys
def sortL (lt : α → α → Bool) : List α → List α
  | [] => []
  | x :: xs => insL (fun a b => !lt b a) x (sortL lt xs)
theorem insB_map {lt : α → α → Bool} {lt' : PyData → PyData → Bool} (f : α → PyData) (h : ∀ a b, lt' (f a) (f b) = lt a b) (x : α) : ∀ xs : List α, insB lt' (f x) (xs.map f) = (insL lt x xs).map f
  | [] => rfl
  | y :: ys => by
    rw [List.map_cons, insB, insL, h]
    split
    · rfl
    · rw [insB_map f h x ys]; rfl
theorem isort_map {lt : α → α → Bool} (f : α → PyData) (h : ∀ a b, dlt (f a) (f b) = lt a b) : ∀ xs : List α, isort dlt (xs.map f) = (sortL lt xs).map f
  | [] => rfl
  | x :: xs => by
    rw [List.map_cons, isort, sortL, isort_map f h xs]
    exact insB_map f (fun a b => by rw [h]) x _
theorem insL_perm (lt : α → α → Bool) (x : α) : ∀ xs : List α, (insL lt x xs).Perm (x :: xs)
  | [] => List.Perm.refl _
  | y :: ys => by
    rw [insL]
    split
    · exact List.Perm.refl _
    · exact ((insL_perm lt x ys).cons y).trans (List.Perm.swap x y ys)
theorem sortL_perm (lt : α → α → Bool) : ∀ xs : List α, (sortL lt xs).Perm xs
  | [] => List.Perm.refl _
  | x :: xs => (insL_perm _ x _).trans ((sortL_perm lt xs).cons x)
/-- an order -/
structure Ord (lt : α → α → Bool) : Prop where
  asym : ∀ a b, lt a b = true → lt b a = false
  tr : ∀ a b c, lt b a = false → lt c b = false → lt c a = false
  anti : ∀ a b, lt a b = false → lt b a = false → a = b
theorem insL_sorted {lt : α → α → Bool} (O : Ord lt) (x : α) : ∀ xs : List α, xs.Pairwise (fun a b => lt b a = false) → (insL (fun a b => !lt b a) x xs).Pairwise fun a b => lt b a = false
  | [], _ => by simp [insL]
  | y :: ys, h => by
    rw [insL]
    obtain ⟨h1, h2⟩ := List.pairwise_cons.mp h
    split
    · rename_i hc
      have hc' : lt y x = false := by simpa using hc
      refine List.pairwise_cons.mpr ⟨fun z hz => ?_, h⟩
      rcases List.mem_cons.mp hz with rfl | hz
      · exact hc'
      · exact O.tr _ _ _ hc' (h1 z hz)
    · rename_i hc
      have hc' : lt y x = true := by simpa using hc
      refine List.pairwise_cons.mpr ⟨fun z hz => ?_, insL_sorted O x ys h2⟩
      rcases List.mem_cons.mp ((insL_perm _ x ys).mem_iff.mp hz) with rfl | hz
      · exact O.asym _ _ hc'
      · exact h1 z hz
theorem sortL_sorted {lt : α → α → Bool} (O : Ord lt) : ∀ xs : List α, (sortL lt xs).Pairwise fun a b => lt b a = false
  | [] => by simp [sortL]
  | x :: xs => insL_sorted O x _ (sortL_sorted O xs)
theorem sorted_uniq {lt : α → α → Bool} (O : Ord lt) : ∀ {xs ys : List α}, xs.Perm ys → xs.Pairwise (fun a b => lt b a = false) → ys.Pairwise (fun a b => lt b a = false) → xs = ys
  | [], ys, p, _, _ => by rw [List.nil_perm.mp p]
  | x :: xs, [], p, _, _ => by simpa using p.length_eq
  | x :: xs, y :: ys, p, h1, h2 => by
    obtain ⟨a1, a2⟩ := List.pairwise_cons.mp h1
    obtain ⟨b1, b2⟩ := List.pairwise_cons.mp h2
    have e : x = y := by
      have hx : x ∈ y :: ys := p.mem_iff.mp List.mem_cons_self
      have hy : y ∈ x :: xs := p.mem_iff.mpr List.mem_cons_self
      rcases List.mem_cons.mp hx with e | hx
      · exact e
      rcases List.mem_cons.mp hy with e | hy
      · exact e.symm
      exact O.anti _ _ (b1 x hx) (a1 y hy)
    subst e
    rw [sorted_uniq O (List.Perm.cons_inv p) a2 b2]
theorem sortL_of {lt : α → α → Bool} (O : Ord lt) {xs ys : List α} (p : xs.Perm ys) (h : xs.Pairwise fun a b => lt b a = false) : sortL lt ys = xs :=
  (sorted_uniq O (p.trans (sortL_perm lt ys).symm) h (sortL_sorted O ys)).symm
theorem sortL_same {lt : α → α → Bool} (O : Ord lt) {xs : List α} (h : xs.Pairwise fun a b => lt b a = false) : sortL lt xs = xs := sortL_of O (List.Perm.refl _) h
theorem sortL_congr {lt : α → α → Bool} (O : Ord lt) {xs ys : List α} (p : xs.Perm ys) : sortL lt xs = sortL lt ys := sortL_of O ((sortL_perm lt ys).trans p.symm) (sortL_sorted O ys)
end
def ltP (p q : Int × Int) : Bool := decide (lexlt p q)
def ltI (a b : Int) : Bool := decide (a < b)
theorem ltP_t {a b : Int × Int} : ltP a b = true ↔ a.1 < b.1 ∨ (a.1 = b.1 ∧ a.2 < b.2) := (decide_eq_true_iff : decide (lexlt a b) = true ↔ lexlt a b)
theorem ltP_f {a b : Int × Int} : ltP a b = false ↔ ¬ (a.1 < b.1 ∨ (a.1 = b.1 ∧ a.2 < b.2)) := by rw [← ltP_t]; simp
theorem ordP : Ord ltP := by
  refine ⟨fun a b h => ?_, fun a b c h1 h2 => ?_, fun a b h1 h2 => ?_⟩
  · rw [ltP_t] at h; rw [ltP_f]; omega
  · rw [ltP_f] at *; omega
  · rw [ltP_f] at *
    exact Prod.ext (by omega) (by omega)
theorem ordI : Ord ltI := by
  refine ⟨fun a b h => ?_, fun a b c h1 h2 => ?_, fun a b h1 h2 => ?_⟩ <;> simp only [ltI, decide_eq_true_eq, decide_eq_false_iff_not] at * <;> omega
theorem srtOk_pr (ps : List (Int × Int)) : srtOk (ps.map pr) = true := by
  unfold srtOk
  rw [Bool.or_eq_true]
  refine .inr ?_
  have h1 : hdOk (ps.map pr) 0 = true := by simp [hdOk, pr, headK]
  have h2 : cmAll (ps.map pr) = true := by simp [cmAll]
  have h3 : (ps.map pr).all PyData.canLay0 = true := by simp [pr, PyData.canLay0, PyData.canLayAll0]
  have h4 : (ps.map pr).all dep50 = true := by simp [dep50]
  rw [h1, h2, h3, h4]; rfl
theorem srtOk_int (ps : List Int) : srtOk (ps.map PyData.int) = true := by
  unfold srtOk
  rw [Bool.or_eq_true]
  exact .inl (by simp [isIntD])
theorem allV_v (ds : List PyData) : allV (ds.map W.v) = some ds := allV_map ds
theorem sorted_pr (ps : List (Int × Int)) (S : Sto) : biF .sorted [.v (.list (ps.map pr))] S = some (.v (.list ((sortL ltP ps).map pr)), true) := by
  simp only [biF, dataOf, items_lst, Option.bind_some, allV_map, srtOk_pr, if_pos]
  rw [isort_map pr (lt := ltP) (fun a b => by simp [ltP])]
theorem sorted_prT (ps : List (Int × Int)) (S : Sto) : biF .sorted [.v (.tuple (ps.map pr))] S = some (.v (.list ((sortL ltP ps).map pr)), true) := by
  simp only [biF, dataOf, items_tup, Option.bind_some, allV_map, srtOk_pr, if_pos]
  rw [isort_map pr (lt := ltP) (fun a b => by simp [ltP])]
theorem sorted_int (ps : List Int) (S : Sto) : biF .sorted [.v (.list (ps.map PyData.int))] S = some (.v (.list ((sortL ltI ps).map PyData.int)), true) := by
  simp only [biF, dataOf, items_lst, Option.bind_some, allV_map, srtOk_int, if_pos]
  rw [isort_map PyData.int (lt := ltI) (fun a b => by simp [ltI])]
/-! equality of such lists -/
theorem eqvAll_map {α : Type} [DecidableEq α] (f : α → PyData) (h : ∀ a b, PyData.eqv (f a) (f b) = decide (a = b)) : ∀ xs ys : List α, PyData.eqvAll (xs.map f) (ys.map f) = decide (xs = ys)
  | [], [] => by simp [PyData.eqvAll]
  | [], _ :: _ => by simp [PyData.eqvAll]
  | _ :: _, [] => by simp [PyData.eqvAll]
  | x :: xs, y :: ys => by
    simp only [List.map_cons, PyData.eqvAll, h, eqvAll_map f h xs ys]
    by_cases h1 : x = y <;> by_cases h2 : xs = ys <;> simp [h1, h2]
theorem eqv_pr (a b : Int × Int) : PyData.eqv (pr a) (pr b) = decide (a = b) := by
  obtain ⟨a1, a2⟩ := a; obtain ⟨b1, b2⟩ := b
  simp only [pr, PyData.eqv, PyData.eqvAll]
  by_cases h1 : a1 = b1 <;> by_cases h2 : a2 = b2 <;> simp [h1, h2]
theorem eqv_int (a b : Int) : PyData.eqv (.int a) (.int b) = decide (a = b) := by simp [PyData.eqv]; rfl
theorem depAll_le {ds : List PyData} {k : Nat} (h : ∀ x ∈ ds, x.depth ≤ k) : PyData.depthAll ds ≤ k := by
  induction ds with
  | nil => simp [PyData.depthAll]
  | cons x xs ih =>
    simp only [PyData.depthAll]
    have := h x (by simp)
    have := ih fun y hy => h y (by simp [hy])
    omega
theorem eqL_pr (xs ys : List (Int × Int)) (S : Sto) : cop .eq (.v (.list (xs.map pr))) (.v (.list (ys.map pr))) S = some (decide (xs = ys)) := by
  have h1 : (PyData.list (xs.map pr)).canLay0 = true := by simp only [PyData.canLay0, lay_all]; intro x hx; obtain ⟨p, _, rfl⟩ := List.mem_map.mp hx; simp
  have h2 : (PyData.list (ys.map pr)).canLay0 = true := by simp only [PyData.canLay0, lay_all]; intro x hx; obtain ⟨p, _, rfl⟩ := List.mem_map.mp hx; simp
  have h3 : (PyData.list (xs.map pr)).depth ≤ 2 := by
    simp only [PyData.depth]
    have := depAll_le (k := 1) (ds := xs.map pr) fun x hx => by obtain ⟨p, _, rfl⟩ := List.mem_map.mp hx; simp
    omega
  simp only [cop, eqW, Option.bind_some, okD, h1, h2, Bool.and_self, Bool.true_and, decide_eq_true_eq]
  rw [if_pos (by omega), PyData.eqv, eqvAll_map pr eqv_pr]
theorem mem_int (a : Int) (xs : List Int) (S : Sto) : cop .mem (.v (.int a)) (.v (.tuple (xs.map PyData.int))) S = some (decide (a ∈ xs)) := by
  have h2 : PyData.canLayAll0 (xs.map PyData.int) = true := by rw [lay_all]; intro x hx; obtain ⟨p, _, rfl⟩ := List.mem_map.mp hx; simp
  simp only [cop, memW, pureD_v, items_tup, Option.bind_some, allV_map, okM, h2, lay_int, Bool.and_self, Bool.true_and, decide_eq_true_eq, dep_int]
  rw [if_pos (by omega)]
  congr 1
  rw [List.any_map, Bool.eq_iff_iff]
  simp [Function.comp_def, eqv_int]
end K64
set_option linter.all false
set_option maxRecDepth 100000
namespace K64
open PySem Pd
variable {d : Nat}
def turnP (p : Int × Int) : Int × Int := if p.1 < p.2 then p else (p.2, p.1)
theorem ok_pair_of (a b : Int) (S : Sto) : callN Pr (d+1) 14 [.v (.int a), .v (.int b)] S = .ok (.v (pr (turnP (a, b))), false) S := by
  rw [call_of fd_pair_of rfl rfl]
  simp [fd_pair_of, Pd.start, turnP]
  by_cases h : a < b <;> simp [h, pr]
/-- two things below -/
def isTwo (n : Int) : PyData → Bool
  | .tuple [a, b] => isBelow n a && isBelow n b
  | _ => false
theorem isTwo_not {n : Int} {x : PyData} (h : tupN 2 x = false) : isTwo n x = false := by
  cases x with
  | tuple xs =>
    match xs, h with
    | [a, b], h => simp [tupN] at h
    | [], h => rfl
    | [_], h => rfl
    | _ :: _ :: _ :: _, h => rfl
  | _ => rfl
theorem isTwo_pr {n : Int} {xs : List PyData} (h : xs.all (isTwo n) = true) : ∃ ps : List (Int × Int), xs = ps.map pr ∧ ∀ p ∈ ps, 0 ≤ p.1 ∧ p.1 < n ∧ 0 ≤ p.2 ∧ p.2 < n := by
  induction xs with
  | nil => exact ⟨[], rfl, by simp⟩
  | cons x xs ih =>
    rw [List.all_cons, Bool.and_eq_true] at h
    obtain ⟨is, rfl, h2⟩ := ih h.2
    have h1 := h.1
    have ht : tupN 2 x = true := by
      cases e : tupN 2 x with
      | true => rfl
      | false => rw [isTwo_not e] at h1; cases h1
    obtain ⟨a, b, rfl⟩ := tupN_2 ht
    simp only [isTwo, Bool.and_eq_true] at h1
    cases a with
    | int a =>
      cases b with
      | int b =>
        refine ⟨(a, b) :: is, rfl, ?_⟩
        simp [isBelow] at h1
        intro j hj
        rcases List.mem_cons.mp hj with rfl | hj
        · exact ⟨h1.1.1, h1.1.2, h1.2.1, h1.2.2⟩
        · exact h2 j hj
      | _ => simp [isBelow] at h1
    | _ => simp [isBelow] at h1
/-- what is_beats_in tells -/
def isBeats (n : Int) (ts : List (Int × Int)) (x : PyData) : Prop := ∃ ps : List (Int × Int), x = .tuple (ps.map pr) ∧ (∀ p ∈ ps, 0 ≤ p.1 ∧ p.1 < n ∧ 0 ≤ p.2 ∧ p.2 < n) ∧ ps.Pairwise lexlt ∧ sortL ltP (ps.map turnP) = ts
theorem pr_inj {p q : Int × Int} (h : pr p = pr q) : p = q := by
  simp only [pr, PyData.tuple.injEq, List.cons.injEq, PyData.int.injEq, and_true] at h
  exact Prod.ext h.1 h.2
theorem map_pr_inj : ∀ {ps qs : List (Int × Int)}, ps.map pr = qs.map pr → ps = qs
  | [], [], _ => rfl
  | [], _ :: _, h => by simp at h
  | _ :: _, [], h => by simp at h
  | p :: ps, q :: qs, h => by
    simp only [List.map_cons, List.cons.injEq] at h
    rw [pr_inj h.1, map_pr_inj h.2]
open Classical in
noncomputable def beatsB (n : Int) (ts : List (Int × Int)) (x : PyData) : Bool := decide (isBeats n ts x)
open Classical in
theorem beatsB_no {n : Int} {ts : List (Int × Int)} {x : PyData} (h : ¬ isBeats n ts x) : beatsB n ts x = false := by unfold beatsB; exact decide_eq_false h
open Classical in
theorem beatsB_iff {n : Int} {ts : List (Int × Int)} {x : PyData} : beatsB n ts x = true ↔ isBeats n ts x := by unfold beatsB; exact decide_eq_true_iff
theorem ok_is_beats_in {n : Int} {ts : List (Int × Int)} (x : PyData) (hx : x.canLay0) (S : Sto) : callN Pr (d+5) 15 [.v (netD n ts), .v x] S = .ok (.v (.bool (beatsB n ts x)), false) S := by
  rw [call_of fd_is_beats_in rfl rfl]
  simp only [fd_is_beats_in, Pd.start, netD]
  cases ht : tupN ts.length x with
  | false =>
    have hno : beatsB n ts x = false := by
      refine beatsB_no ?_
      rintro ⟨ps, rfl, _, _, h⟩
      rw [← h] at ht
      have := (sortL_perm ltP (ps.map turnP)).length_eq
      simp [tupN, this] at ht
    simp [ok_is_tuple _ _ hx, ht, hno]
  | true =>
    cases x with
    | tuple xs =>
      have hxs : ∀ x ∈ xs, x.canLay0 = true := by simpa [PyData.canLay0, lay_all] using hx
      simp [ok_is_tuple _ _ hx, ht]
      rw [lc_map (y := fun x => W.v (.bool (isTwo n x)))]
      · simp [mkSeq_fun, -List.all_eq_true, -List.all_eq_false]
        cases hb : xs.all (isTwo n) with
        | false =>
          have hno : beatsB n ts (.tuple xs) = false := by
            refine beatsB_no ?_
            rintro ⟨ps, h, h2, _⟩
            cases h
            have : (ps.map pr).all (isTwo n) = true := by
              rw [List.all_map, List.all_eq_true]
              intro p hp
              have := h2 p hp
              simp [pr, isTwo, isBelow]; omega
            rw [this] at hb; cases hb
          simp [hno]
        | true =>
          obtain ⟨ps, rfl, hps⟩ := isTwo_pr hb
          simp [asc_pr]
          cases ha : ascD (ps.map pr) with
          | false =>
            have hno : beatsB n ts (.tuple (ps.map pr)) = false := by
              refine beatsB_no ?_
              rintro ⟨qs, h, _, h2, _⟩
              have h := map_pr_inj (PyData.tuple.inj h)
              subst h
              rw [(ascD_pr ps).mpr h2] at ha; cases ha
            simp [hno]
          | true =>
            have e1 : ps.map (W.v ∘ pr) = ps.map fun p => W.v (pr p) := rfl
            simp only [if_pos, e1]
            rw [lc_map (y := fun p : Int × Int => W.v (pr (turnP p)))]
            · have e2 := mkSeq_fun false (ps.map turnP) pr
              simp only [List.map_map] at e2
              have e3 : (ps.map fun p => W.v (pr (turnP p))) = ps.map ((fun x => W.v (pr x)) ∘ turnP) := rfl
              simp [e3, e2]
              have e4 : ps.map (pr ∘ turnP) = (ps.map turnP).map pr := by simp
              rw [e4, sorted_pr]
              simp [eqL_pr]
              have : beatsB n ts (.tuple (ps.map pr)) = decide (sortL ltP (ps.map turnP) = ts) := by
                rw [Bool.eq_iff_iff, beatsB_iff, decide_eq_true_iff]
                constructor
                · rintro ⟨qs, h, _, _, h2⟩
                  have h := map_pr_inj (PyData.tuple.inj h)
                  subst h
                  exact h2
                · intro h
                  exact ⟨ps, rfl, hps, (ascD_pr ps).mp ha, h⟩
              rw [this]
            · intro p hp
              obtain ⟨a, b⟩ := p
              simp [lcStep, pr]
              have := ok_pair_of (d := d + 3) a b []
              simp [this, pr]
      · intro y hy
        have hl := hxs y hy
        simp [lcStep, ok_is_tuple 2 y hl]
        cases h2 : tupN 2 y with
        | false => simp [isTwo_not h2]
        | true =>
          obtain ⟨a, b, rfl⟩ := tupN_2 h2
          simp [PyData.canLay0, lay_all] at hl
          simp [ok_is_below n a hl.1, ok_is_below n b hl.2, isTwo]
          cases isBelow n a <;> simp
    | _ => simp [tupN] at ht
end K64
set_option linter.all false
set_option maxRecDepth 100000
namespace K64
open PySem Pd
variable {d : Nat}
theorem ok_check_beats {n : Int} {ts : List (Int × Int)} (x : PyData) (hx : x.canLay0) (S : Sto) : callN Pr (d+6) 20 [.v (netD n ts), .v x] S = if beatsB n ts x then .ok (.v .none, false) S else exR 16 S := by
  rw [call_of fd_check_beats rfl rfl]
  simp [fd_check_beats, Pd.start, ok_is_beats_in _ hx]
  cases h : beatsB n ts x <;> simp [exR] <;> rfl
/-! scores -/
def scoreOf (ps : List (Int × Int)) (t : Int) : Int := (ps.filter fun p => p.1 == t).length
def scoresD (n : Nat) (ps : List (Int × Int)) : PyData := .tuple ((List.range n).map fun (t : Nat) => PyData.int (scoreOf ps t))
theorem bindT_pr (t u : Tgt) (p : Int × Int) (ρ : Pd.Env) : bindT (.tup [t, u]) (.v (pr p)) ρ = bindTs [t, u] [.v (.int p.1), .v (.int p.2)] ρ := by simp [pr]
def rngF (n : Nat) (g : Nat → Int) : List W := (List.range n).map fun t => W.v (.int (g t))
theorem rngF_len (n : Nat) (g : Nat → Int) : (rngF n g).length = n := by simp [rngF]
theorem rngF_get {n : Nat} {g : Nat → Int} {i : Nat} (h : i < n) : (rngF n g)[i]? = some (.v (.int (g i))) := by simp [rngF, h]
theorem rngF_set (n : Nat) (g : Nat → Int) (i : Nat) (v : Int) : (rngF n g).set i (.v (.int v)) = rngF n fun t => if t = i then v else g t := by
  unfold rngF
  refine List.ext_getElem? fun k => ?_
  rw [List.getElem?_set]
  by_cases hk : k < n
  · by_cases hi : i = k
    · subst hi; simp [hk]
    · have : ¬ k = i := fun e => hi e.symm
      simp [hk, hi, this]
  · by_cases hi : i = k
    · subst hi; simp [hk]
    · simp [hk, hi]
theorem List.map_const_fun_range {α : Type} (n : Nat) (c : α) : (List.range n).map (fun _ => c) = List.replicate n c := by rw [List.map_const', List.length_range]
theorem scores_loop (C : CallS) (N : Nat) (sub : Nat → Nat → Option Bool) (keeps : Nat → Bool) (n : Nat) (a b : W) : ∀ (ps : List (Int × Int)) (g : Nat → Int) (p q : Option W), (∀ p ∈ ps, 0 ≤ p.1 ∧ p.1 < n) →
    ∃ p' q', forLoop (forBody C N sub keeps (.tup [.nm 3, .nm 4]) (.cons (.augS .add (.nm 2) (.nm 3) (.cst (.int 1))) .nil)) (ps.map fun x => W.v (pr x)) [some a, some b, some (.loc 0), p, q] [.lst (rngF n g)]
      = .ok (.next [some a, some b, some (.loc 0), p', q']) [.lst (rngF n fun t => g t + scoreOf ps t)]
  | [], g, p, q, _ => ⟨p, q, by simp [for_nil, scoreOf]⟩
  | x :: ps, g, p, q, h => by
    have hx := h x (by simp)
    obtain ⟨p', q', e⟩ := scores_loop C N sub keeps n a b ps (fun t => if t = x.1.toNat then g t + 1 else g t) (some (.v (.int x.1))) (some (.v (.int x.2))) fun z hz => h z (by simp [hz])
    refine ⟨p', q', ?_⟩
    have hi : x.1.toNat < n := by omega
    rw [List.map_cons, for_cons]
    have hix : L2.atI (rngF n g) x.1 = some (.v (.int (g x.1.toNat))) := by
      unfold L2.atI
      rw [rngF_len, ixN_ok hx.1 hx.2]
      simp [rngF_get hi]
    simp [forBody_eq, bindT_pr]
    rw [ixL_loc (S := [Ob.lst (rngF n g)]) (l := 0) rfl, hix]
    simp
    rw [setW_loc (S := [Ob.lst (rngF n g)]) (l := 0) rfl, rngF_len, ixN_ok hx.1 hx.2]
    simp only [Option.map_some, R.of_some, R.stm_ok, R.bind_ok, List.set_cons_zero]
    have e1 : (rngF n g).set x.1.toNat (.v (.int (g x.1.toNat + 1))) = rngF n fun t => if t = x.1.toNat then g t + 1 else g t := by
      rw [rngF_set]
      congr 1
      funext t
      by_cases ht : t = x.1.toNat <;> simp [ht]
    rw [e1, e]
    congr 4
    funext t
    by_cases ht : t = x.1.toNat
    · have : x.1 = (t : Int) := by omega
      simp [scoreOf, this]; omega
    · have : ¬ x.1 = (t : Int) := by omega
      simp [scoreOf, ht, this]
theorem unR_ok (w : PyData) (fr : Bool) (S1 S : Sto) : unR (.ok (.v w, fr) S1) S = .ok (.v w, fr) S := rfl
theorem ok_scores_in {n : Nat} (hn : n ≤ 1000) (ps : List (Int × Int)) (h : ∀ p ∈ ps, 0 ≤ p.1 ∧ p.1 < n) (S : Sto) : unR (callN Pr (d+1) 19 [.v (.int n), .v (.tuple (ps.map pr))] []) S = .ok (.v (scoresD n ps), false) S := by
  rw [call_of fd_scores_in rfl rfl]
  have hl : (1 : Nat) * n ≤ LIM := by unfold LIM; omega
  have hb : bop .mul (.v (.list [.int 0])) (.v (.int n)) [] = some (.v (.list ((List.range n).map fun _ => PyData.int 0)), true) := by
    have e : (List.replicate n [W.v (PyData.int 0)]).flatten = ((List.range n).map fun _ => PyData.int 0).map W.v := by
      rw [rep_flat, List.map_map]
      exact (List.map_const_fun_range n _).symm
    simp only [bop, items_lst, roW_v, Bool.not_false, Bool.true_and, List.map_cons, List.map_nil, List.length_cons, List.length_nil, Int.toNat_natCast]
    rw [if_pos, e, mkSeq_map]
    · rfl
    · simp; omega
  obtain ⟨p', q', e⟩ := scores_loop (callN Pr d) Pr.fuel Pr.sub Pr.keeps n (.v (.int n)) (.v (.tuple (ps.map pr))) ps (fun _ => 0) none none h
  have e0 : (((List.range n).map fun _ => PyData.int 0).map W.v) = rngF n fun _ => 0 := by simp [rngF]
  have e2 : ps.map (W.v ∘ pr) = ps.map fun x => W.v (pr x) := rfl
  simp only [fd_scores_in, Pd.start, evSs_cons, evS_asg, evE_box, evE_bin, evE_lst, evEs_cons, evE_cst, evEs_nil, R.bind_ok, mkSeq_1]
  simp [hb, -List.map_const_fun, -List.map_const]
  have e3 : (List.map (W.v ∘ fun x => PyData.int 0) (List.range n)) = rngF n fun x => 0 := rfl
  rw [e2, e3, e]
  simp only [R.sto_ok, unlock_none, R.bind_ok, List.getElem?_cons_succ, List.getElem?_cons_zero, evEs_cons]
  have e4 : biF .tuple [.loc 0] [Ob.lst (rngF n fun t => 0 + scoreOf ps ↑t)] = some (.v (scoresD n ps), false) := by
    simp only [biF, items_loc (S := [Ob.lst (rngF n fun t => 0 + scoreOf ps ↑t)]) (l := 0) rfl, Option.map_some]
    unfold rngF
    rw [mkSeq_fun]
    simp [scoresD]
  simp only [Int.zero_add] at e4
  simp [e4]
end K64
set_option linter.all false
set_option maxRecDepth 100000
namespace K64
open PySem Pd
variable {d : Nat}
theorem counts_ints {xs : List PyData} (h : xs.all (isFrom 0) = true) : ∃ cs : List Int, xs = cs.map PyData.int ∧ ∀ c ∈ cs, 0 ≤ c := by
  induction xs with
  | nil => exact ⟨[], rfl, by simp⟩
  | cons x xs ih =>
    rw [List.all_cons, Bool.and_eq_true] at h
    obtain ⟨cs, rfl, h2⟩ := ih h.2
    cases x with
    | int i =>
      refine ⟨i :: cs, rfl, fun c hc => ?_⟩
      have := h.1
      simp [isFrom] at this
      rcases List.mem_cons.mp hc with rfl | hc
      · exact this
      · exact h2 c hc
    | _ => simp [isFrom] at h
def countsD (cs : List Int) : PyData := .tuple (cs.map PyData.int)
theorem isCounts_D {x : PyData} (h : isCounts x = true) : ∃ cs : List Int, x = countsD cs ∧ ∀ c ∈ cs, 0 ≤ c := by
  cases x with
  | tuple xs =>
    obtain ⟨cs, rfl, h2⟩ := counts_ints h
    exact ⟨cs, rfl, h2⟩
  | _ => simp [isCounts] at h
@[simp] theorem lay_counts (cs : List Int) : (countsD cs).canLay0 = true := by
  simp only [countsD, PyData.canLay0, lay_all, List.mem_map]
  rintro x ⟨p, _, rfl⟩
  simp
theorem isCounts_of {cs : List Int} (h : ∀ c ∈ cs, 0 ≤ c) : isCounts (countsD cs) = true := by
  simp only [countsD, isCounts, List.all_map, List.all_eq_true]
  intro c hc
  simp [isFrom, h c hc]
theorem isLot_D {n : Int} {x : PyData} (h : isLot n x = true) : ∃ is : List Int, x = countsD is ∧ (∀ i ∈ is, 0 ≤ i ∧ i < n) ∧ is.Pairwise (· < ·) := by
  cases x with
  | tuple xs =>
    simp only [isLot, Bool.and_eq_true] at h
    obtain ⟨is, rfl, h2⟩ := below_ints h.1
    exact ⟨is, rfl, h2, (ascD_int is).mp h.2⟩
  | _ => simp [isLot] at h
theorem isLot_of {n : Int} {is : List Int} (h : ∀ i ∈ is, 0 ≤ i ∧ i < n) (h2 : is.Pairwise (· < ·)) : isLot n (countsD is) = true := by
  simp only [countsD, isLot, Bool.and_eq_true]
  refine ⟨?_, (ascD_int is).mpr h2⟩
  rw [List.all_map, List.all_eq_true]
  intro i hi
  have := h i hi
  simp [isBelow]; omega
def within (ts : List (Int × Int)) (lot : List Int) : Int := (ts.filter fun p => decide (p.1 ∈ lot) && decide (p.2 ∈ lot)).length
def sumAt (cs lot : List Int) : Int := (lot.map fun i => cs.getD i.toNat 0).sum
theorem ok_score_spare_in {n : Int} {ts : List (Int × Int)} {cs lot : List Int} (h : ∀ i ∈ lot, 0 ≤ i ∧ i < cs.length) (S : Sto) :
    callN Pr (d+1) 21 [.v (netD n ts), .v (countsD cs), .v (countsD lot)] S = .ok (.v (.int (sumAt cs lot - within ts lot)), false) S := by
  rw [call_of fd_score_spare_in rfl rfl]
  simp only [fd_score_spare_in, Pd.start, netD]
  have e1 : ts.map (W.v ∘ pr) = ts.map fun p => W.v (pr p) := rfl
  simp [e1]
  rw [lc_pure (b := fun p : Int × Int => decide (p.1 ∈ lot) && decide (p.2 ∈ lot)) (y := fun _ => W.v (.int 1))]
  · have e2 := mkSeq_fun false (ts.filter fun p : Int × Int => decide (p.1 ∈ lot) && decide (p.2 ∈ lot)) (fun _ => PyData.int 1)
    simp [e2, -Bool.decide_and]
    have e3 : items (.v (countsD lot)) S = some (false || true, lot.map fun i => W.v (.int i)) := by simp [countsD]
    simp [e3]
    rw [lc_map (y := fun i : Int => W.v (.int (cs.getD i.toNat 0)))]
    · rw [R.calm_ok, R.sto_ok, unlock_none, R.bind_ok]
      have e5 := mkSeq_fun false lot (fun i => PyData.int (cs.getD i.toNat 0))
      simp only [e5]
      simp [sumAt, within]
    · intro i hi
      obtain ⟨h0, h1⟩ := h i hi
      have e6 : L2.atI (cs.map PyData.int) i = some (.int (cs.getD i.toNat 0)) := by
        unfold L2.atI
        rw [List.length_map, ixN_ok h0 h1]
        have : i.toNat < cs.length := by omega
        simp [this]
      simp [lcStep, countsD, e6]
  · intro p hp
    simp [lcStep, bindT_pr, countsD, mem_int]
    by_cases h1 : p.1 ∈ lot <;> by_cases h2 : p.2 ∈ lot <;> simp [h1, h2, mem_int]
theorem exR_is (c : Nat) (S1 S : Sto) : unR (exR c S1) S = exR c S := rfl
theorem ok_check_scores {n : Int} {ts : List (Int × Int)} (hN : IsNet n ts) (x : PyData) (hx : x.canLay0) (S : Sto) : callN Pr (d+7) 23 [.v (netD n ts), .v x] S = if isCounts x then (if lenT x = n then .ok (.v .none, false) S else exR 9 S) else exR 8 S := by
  rw [call_of fd_check_scores rfl rfl]
  simp [fd_check_scores, Pd.start, ok_check_net, net_no_fault hN]
  have e : ixW (.v (netD n ts)) (.v (.int 0)) S = some (.v (.int n)) := by simp [netD]
  simp [e, ok_check_other n x hx]
  cases isCounts x with
  | true =>
    by_cases h2 : lenT x = n <;> simp [h2, exR]
  | false => simp [exR]
theorem no_check_scores {w : PyData} (hw : w.canLay0) (hf : isNone (.v (netFault w)) = false) (x : PyData) (S : Sto) : callN Pr (d+7) 23 [.v w, .v x] S = .exc ⟨12, some (netFault w)⟩ S := by
  rw [call_of fd_check_scores rfl rfl]
  simp [fd_check_scores, Pd.start, ok_check_net w hw, hf]
theorem ok_is_beats {n : Int} {ts : List (Int × Int)} (hN : IsNet n ts) (x : PyData) (hx : x.canLay0) (S : Sto) : callN Pr (d+7) 28 [.v (netD n ts), .v x] S = .ok (.v (.bool (beatsB n ts x)), false) S := by
  rw [call_of fd_is_beats rfl rfl]
  simp [fd_is_beats, Pd.start, ok_check_net, net_no_fault hN, ok_is_beats_in x hx]
theorem no_is_beats {w : PyData} (hw : w.canLay0) (hf : isNone (.v (netFault w)) = false) (x : PyData) (S : Sto) : callN Pr (d+7) 28 [.v w, .v x] S = .exc ⟨12, some (netFault w)⟩ S := by
  rw [call_of fd_is_beats rfl rfl]
  simp [fd_is_beats, Pd.start, ok_check_net w hw, hf]
theorem ok_scores_of {n : Nat} (hn : n ≤ 1000) {ts ps : List (Int × Int)} (hN : IsNet n ts) (hb : isBeats n ts (.tuple (ps.map pr))) (S : Sto) : callN Pr (d+7) 29 [.v (netD n ts), .v (.tuple (ps.map pr))] S = .ok (.v (scoresD n ps), false) S := by
  rw [call_of fd_scores_of rfl rfl]
  have hl : (PyData.tuple (ps.map pr)).canLay0 = true := by
    simp only [PyData.canLay0, lay_all, List.mem_map]
    rintro x ⟨p, _, rfl⟩; simp
  have e : ixW (.v (netD n ts)) (.v (.int 0)) S = some (.v (.int n)) := by simp [netD]
  have hps : ∀ p ∈ ps, 0 ≤ p.1 ∧ p.1 < n := by
    obtain ⟨qs, h, h2, _⟩ := hb
    have h := map_pr_inj (PyData.tuple.inj h)
    subst h
    exact fun p hp => ⟨(h2 p hp).1, (h2 p hp).2.1⟩
  have e2 := ok_scores_in (d := d + 5) hn ps hps S
  simp [fd_scores_of, Pd.start, ok_check_net, net_no_fault hN, ok_check_beats _ hl, beatsB_iff.mpr hb, e, e2]
theorem no_scores_of {n : Int} {ts : List (Int × Int)} (hN : IsNet n ts) (x : PyData) (hx : x.canLay0) (hb : ¬ isBeats n ts x) (S : Sto) : callN Pr (d+7) 29 [.v (netD n ts), .v x] S = exR 16 S := by
  rw [call_of fd_scores_of rfl rfl]
  simp [fd_scores_of, Pd.start, ok_check_net, net_no_fault hN, ok_check_beats _ hx, beatsB_no hb, exR]
theorem no_scores_net {w : PyData} (hw : w.canLay0) (hf : isNone (.v (netFault w)) = false) (x : PyData) (S : Sto) : callN Pr (d+7) 29 [.v w, .v x] S = .exc ⟨12, some (netFault w)⟩ S := by
  rw [call_of fd_scores_of rfl rfl]
  simp [fd_scores_of, Pd.start, ok_check_net w hw, hf]
theorem ix_net (n : Int) (ts : List (Int × Int)) (S : Sto) : ixW (.v (netD n ts)) (.v (.int 0)) S = some (.v (.int n)) := by simp [netD]
theorem ix_net1 (n : Int) (ts : List (Int × Int)) (S : Sto) : ixW (.v (netD n ts)) (.v (.int 1)) S = some (.v (.tuple (ts.map pr))) := by simp [netD]
theorem sp_counts {n : Int} {ts : List (Int × Int)} (hN : IsNet n ts) (x y : PyData) (hx : x.canLay0) (S : Sto) (h : isCounts x = false) : callN Pr (d+8) 30 [.v (netD n ts), .v x, .v y] S = exR 8 S := by
  rw [call_of fd_score_spare rfl rfl]
  simp [fd_score_spare, Pd.start, ok_check_scores hN x hx, h, exR]
theorem sp_unlike {n : Int} {ts : List (Int × Int)} (hN : IsNet n ts) (x y : PyData) (hx : x.canLay0) (S : Sto) (h : isCounts x = true) (h2 : lenT x ≠ n) : callN Pr (d+8) 30 [.v (netD n ts), .v x, .v y] S = exR 9 S := by
  rw [call_of fd_score_spare rfl rfl]
  simp [fd_score_spare, Pd.start, ok_check_scores hN x hx, h, h2, exR]
theorem sp_lot {n : Int} {ts : List (Int × Int)} (hN : IsNet n ts) (x y : PyData) (hx : x.canLay0) (hy : y.canLay0) (S : Sto) (h : isCounts x = true) (h2 : lenT x = n) (h3 : isLot n y = false) : callN Pr (d+8) 30 [.v (netD n ts), .v x, .v y] S = exR 6 S := by
  rw [call_of fd_score_spare rfl rfl]
  have e := ok_check_scores (d := d) hN x hx []
  rw [h, if_pos rfl, if_pos h2] at e
  simp [fd_score_spare, Pd.start, e, ix_net, ok_check_lot n y hy, h3, exR]
theorem sp_ok {n : Int} {ts : List (Int × Int)} (hN : IsNet n ts) {cs is : List Int} (h : ∀ c ∈ cs, 0 ≤ c) (h2 : cs.length = n) (h3 : ∀ i ∈ is, 0 ≤ i ∧ i < n) (h4 : is.Pairwise (· < ·)) (S : Sto) : callN Pr (d+8) 30 [.v (netD n ts), .v (countsD cs), .v (countsD is)] S = .ok (.v (.int (sumAt cs is - within ts is)), false) S := by
  rw [call_of fd_score_spare rfl rfl]
  have e := ok_check_scores (d := d) hN (countsD cs) (lay_counts cs) []
  rw [isCounts_of h, if_pos rfl, if_pos (by simpa [lenT, countsD] using h2)] at e
  simp [fd_score_spare, Pd.start, e, ix_net, ok_check_lot n _ (lay_counts is), isLot_of h3 h4, ok_score_spare_in (d := d + 6) (n := n) (ts := ts) (h2 ▸ h3)]
theorem no_score_spare {w : PyData} (hw : w.canLay0) (hf : isNone (.v (netFault w)) = false) (x y : PyData) (S : Sto) : callN Pr (d+8) 30 [.v w, .v x, .v y] S = .exc ⟨12, some (netFault w)⟩ S := by
  rw [call_of fd_score_spare rfl rfl]
  simp [fd_score_spare, Pd.start, no_check_scores hw hf]
end K64
set_option linter.all false
set_option maxRecDepth 100000
set_option exponentiation.threshold 5000
namespace K64
open PySem Pd
variable {d : Nat}
/-! the vat of draws -/
theorem wide_of {i : Int} (h : i.natAbs < 2 ^ 400) : wide i = true := decide_eq_true (Nat.lt_of_lt_of_le h (Nat.pow_le_pow_right (by decide) (by decide)))
/-- a vat at l, n more draws -/
def Vat (S : Sto) (l n : Nat) : Prop := ∃ a b c : Int, S[l]? = some (.lst [.v (.int a), .v (.int b), .v (.int c)]) ∧ 0 ≤ a ∧ 0 ≤ b ∧ b < 2 ^ 100 ∧ 0 ≤ c ∧ c + n ≤ 2 ^ 100
/-- but at l nothing old is changed -/
def Fr (S S' : Sto) (l : Nat) : Prop := S.length ≤ S'.length ∧ ∀ i, i < S.length → i ≠ l → S'[i]? = S[i]?
theorem Fr.refl (S : Sto) (l : Nat) : Fr S S l := ⟨Nat.le_refl _, fun _ _ _ => rfl⟩
theorem Fr.trans {S S1 S2 : Sto} {l : Nat} (h : Fr S S1 l) (h2 : Fr S1 S2 l) : Fr S S2 l := ⟨Nat.le_trans h.1 h2.1, fun i hi hl => (h2.2 i (Nat.lt_of_lt_of_le hi h.1) hl).trans (h.2 i hi hl)⟩
theorem Fr.set (S : Sto) (l : Nat) (o : Ob) : Fr S (S.set l o) l := ⟨by simp, fun i _ hl => by rw [List.getElem?_set_ne (fun e => hl e.symm)]⟩
theorem Vat.less {S : Sto} {l n m : Nat} (h : Vat S l n) (hm : m ≤ n) : Vat S l m := by
  obtain ⟨a, b, c, h1, h2, h3, h4, h5, h6⟩ := h
  exact ⟨a, b, c, h1, h2, h3, h4, h5, by omega⟩
theorem Vat.lt {S : Sto} {l n : Nat} (h : Vat S l n) : l < S.length := by
  obtain ⟨a, b, c, h1, _⟩ := h
  exact (List.getElem?_eq_some_iff.mp h1).1
theorem set_get {S : Sto} {l : Nat} (h : l < S.length) (o : Ob) : (S.set l o)[l]? = some o := by simp [h]
theorem small_15485863 : small 15485863 = true := by decide
theorem small_86028121 : small 86028121 = true := by decide
theorem small_49979687 : small 49979687 = true := by decide
theorem wide_10 : wide 10 = true := by decide
theorem wide_mio : wide 1000000 = true := by decide
theorem ladA {S : Sto} {l n : Nat} {a b c : Int} (h1 : S[l]? = some (.lst [.v (.int a), .v (.int b), .v (.int c)])) (h2 : 0 < a) {m : Int} (hm : 0 < m) (hm2 : m ≤ 10 ^ 9) :
    callN Pr (d+1) 25 [.loc l, .v (.int m)] S = .ok (.v (.int (a % m)), false) (S.set l (.lst [.v (.int (a / m)), .v (.int b), .v (.int c)])) := by
  rw [call_of fd_law_lad rfl rfl]
  have hw : wide m = true := wide_of (by omega)
  simp [fd_law_lad, Pd.start, ixW_loc h1, h2, hm, hw, setW_loc h1, L2.ixN]
theorem ladB {S : Sto} {l n : Nat} {a b c : Int} (h1 : S[l]? = some (.lst [.v (.int a), .v (.int b), .v (.int c)])) (h2 : ¬ 0 < a) (hb : 0 ≤ b) (hb2 : b < 2 ^ 100) (hc : 0 ≤ c) (hc2 : c < 2 ^ 100) {m : Int} (hm : 0 < m) (hm2 : m ≤ 10 ^ 9) :
    ∃ k : Int, callN Pr (d+1) 25 [.loc l, .v (.int m)] S = .ok (.v (.int (k % m)), false) (S.set l (.lst [.v (.int a), .v (.int b), .v (.int (c + 1))])) := by
  rw [call_of fd_law_lad rfl rfl]
  have hw : wide m = true := wide_of (by omega)
  have hl : l < S.length := (List.getElem?_eq_some_iff.mp h1).1
  have h3 := set_get hl (.lst [.v (.int a), .v (.int b), .v (.int (c + 1))])
  have w1 : wide (b + 15485863 * (c + 1)) = true := wide_of (by omega)
  have hq : 0 ≤ ((b + 15485863 * (c + 1)) ^ 2 + 86028121 * (c + 1)) % (1000000000000000000000007 : Int) ∧ ((b + 15485863 * (c + 1)) ^ 2 + 86028121 * (c + 1)) % (1000000000000000000000007 : Int) < 1000000000000000000000007 := ⟨Int.emod_nonneg _ (by decide), Int.emod_lt_of_pos _ (by decide)⟩
  have w2 : wide (((b + 15485863 * (c + 1)) ^ 2 + 86028121 * (c + 1)) % (1000000000000000000000007 : Int)) = true := wide_of (by omega)
  refine ⟨(((b + 15485863 * (c + 1)) ^ 2 + 86028121 * (c + 1)) % 1000000000000000000000007) ^ 2 + 49979687 * (c + 1) |> (· % 10000000000000000000009) |> (· / 1000000), ?_⟩
  simp [fd_law_lad, Pd.start, ixW_loc h1, h2, setW_loc h1, L2.ixN, hl, ixW_loc h3, small_15485863, small_86028121, small_49979687, w1, w2, wide_10, wide_mio, hm]
theorem lad_ok {S : Sto} {l n : Nat} (h : Vat S l (n + 1)) {m : Int} (hm : 0 < m) (hm2 : m ≤ 10 ^ 9) :
    ∃ (k : Int) (S' : Sto), callN Pr (d+1) 25 [.loc l, .v (.int m)] S = .ok (.v (.int k), false) S' ∧ 0 ≤ k ∧ k < m ∧ Vat S' l n ∧ Fr S S' l := by
  have hlt := h.lt
  obtain ⟨a, b, c, h1, h2, h3, h4, h5, h6⟩ := h
  by_cases ha : 0 < a
  · refine ⟨a % m, _, ladA (n := n) h1 ha hm hm2, Int.emod_nonneg _ (by omega), Int.emod_lt_of_pos _ hm, ⟨a / m, b, c, set_get hlt _, Int.ediv_nonneg h2 (by omega), h3, h4, h5, by omega⟩, Fr.set _ _ _⟩
  · obtain ⟨k, e⟩ := ladB (d := d) (n := n) h1 ha h3 h4 h5 (by omega) hm hm2
    exact ⟨k % m, _, e, Int.emod_nonneg _ (by omega), Int.emod_lt_of_pos _ hm, ⟨a, b, c + 1, set_get hlt _, h2, h3, h4, by omega, by omega⟩, Fr.set _ _ _⟩
theorem one_of_ok {S : Sto} {l n : Nat} (h : Vat S l (n + 1)) {ds : List PyData} (h0 : ds ≠ []) (hl : ds.length ≤ 1000) :
    ∃ (x : PyData) (S' : Sto), callN Pr (d+2) 27 [.loc l, .v (.list ds)] S = .ok (.v x, false) S' ∧ x ∈ ds ∧ Vat S' l n ∧ Fr S S' l := by
  have hp : 0 < ds.length := List.length_pos_iff.mpr h0
  obtain ⟨k, S', e, k0, k1, hv, hf⟩ := lad_ok (d := d) h (m := ds.length) (by omega) (by omega)
  have hk : k.toNat < ds.length := by omega
  refine ⟨ds[k.toNat], S', ?_, List.getElem_mem hk, hv, hf⟩
  have e2 : L2.atI ds k = some ds[k.toNat] := by
    unfold L2.atI
    rw [ixN_ok k0 k1]
    simp [hk]
  rw [call_of fd_law_one_of rfl rfl]
  simp [fd_law_one_of, Pd.start, e, e2]
/-- pairs of things -/
def pairsL (n : Nat) : List (Int × Int) := (List.range n).flatMap fun (i : Nat) => (List.range (n - (i + 1))).map fun (j : Nat) => ((i : Int), (i + 1 + j : Int))
inductive All2 {α β : Type} (P : α → β → Prop) : List α → List β → Prop
  | nil : All2 P [] []
  | cons {x : α} {y : β} {xs : List α} {ys : List β} : P x y → All2 P xs ys → All2 P (x :: xs) (y :: ys)
theorem lc_draw {α : Type} {f : W → Sto → R (List W)} {l : Nat} (e y : α → W) : ∀ (xs : List α) (S : Sto) (n : Nat), (∀ x ∈ xs, ∀ S n, Vat S l (n + 1) → ∃ (b : Bool) (S' : Sto), f (e x) S = .ok (if b then [y x] else []) S' ∧ Vat S' l n ∧ Fr S S' l) →
    Vat S l (n + xs.length) → ∃ (ys : List α) (S' : Sto), lcLoop f (xs.map e) S = .ok (ys.map y) S' ∧ ys.Sublist xs ∧ Vat S' l n ∧ Fr S S' l
  | [], S, n, _, h => ⟨[], S, rfl, List.Sublist.refl _, h, Fr.refl _ _⟩
  | x :: xs, S, n, st, h => by
    obtain ⟨b, S1, e1, v1, f1⟩ := st x (by simp) S (n + xs.length) (h.less (by simp; omega))
    obtain ⟨ys, S2, e2, s2, v2, f2⟩ := lc_draw e y xs S1 n (fun z hz => st z (by simp [hz])) v1
    rw [List.map_cons, lcLoop_cons, e1]
    simp only [R.bind_ok, e2]
    cases b with
    | true => exact ⟨x :: ys, S2, by simp, s2.cons₂ x, v2, f1.trans f2⟩
    | false => exact ⟨ys, S2, by simp, s2.cons x, v2, f1.trans f2⟩
theorem lc_draws {α β : Type} {f : W → Sto → R (List W)} {l : Nat} (e : α → W) (y : β → W) (P : α → β → Prop) : ∀ (xs : List α) (S : Sto) (n : Nat), (∀ x ∈ xs, ∀ S n, Vat S l (n + 1) → ∃ (v : β) (S' : Sto), f (e x) S = .ok [y v] S' ∧ P x v ∧ Vat S' l n ∧ Fr S S' l) →
    Vat S l (n + xs.length) → ∃ (ys : List β) (S' : Sto), lcLoop f (xs.map e) S = .ok (ys.map y) S' ∧ All2 P xs ys ∧ Vat S' l n ∧ Fr S S' l
  | [], S, n, _, h => ⟨[], S, rfl, .nil, h, Fr.refl _ _⟩
  | x :: xs, S, n, st, h => by
    obtain ⟨b, S1, e1, p1, v1, f1⟩ := st x (by simp) S (n + xs.length) (h.less (by simp; omega))
    obtain ⟨ys, S2, e2, s2, v2, f2⟩ := lc_draws e y P xs S1 n (fun z hz => st z (by simp [hz])) v1
    rw [List.map_cons, lcLoop_cons, e1]
    simp only [R.bind_ok, e2]
    exact ⟨b :: ys, S2, by simp, .cons p1 s2, v2, f1.trans f2⟩
theorem wp_lad {S : Sto} {l n : Nat} {Q : W × Bool → Sto → Prop} {E : Exn → Sto → Prop} (h : Vat S l (n + 1)) {m : Int} (hm : 0 < m) (hm2 : m ≤ 10 ^ 9)
    (hQ : ∀ (k : Int) (S' : Sto), 0 ≤ k → k < m → Vat S' l n → Fr S S' l → Q (.v (.int k), false) S') : (callN Pr (d+1) 25 [.loc l, .v (.int m)] S).wp Q E := by
  obtain ⟨k, S', e, h1, h2, h3, h4⟩ := lad_ok (d := d) h hm hm2
  rw [e]; exact hQ k S' h1 h2 h3 h4
theorem wp_one_of {S : Sto} {l n : Nat} {Q : W × Bool → Sto → Prop} {E : Exn → Sto → Prop} (h : Vat S l (n + 1)) {ds : List PyData} (h0 : ds ≠ []) (hl : ds.length ≤ 1000)
    (hQ : ∀ (x : PyData) (S' : Sto), x ∈ ds → Vat S' l n → Fr S S' l → Q (.v x, false) S') : (callN Pr (d+2) 27 [.loc l, .v (.list ds)] S).wp Q E := by
  obtain ⟨k, S', e, h1, h2, h3⟩ := one_of_ok (d := d) h h0 hl
  rw [e]; exact hQ k S' h1 h2 h3
theorem wp_lc_draw {α : Type} {f : W → Sto → R (List W)} {l : Nat} {Q : List W → Sto → Prop} {E : Exn → Sto → Prop} (e y : α → W) (n : Nat) {xs : List α} {S : Sto} (hv : Vat S l (n + xs.length))
    (st : ∀ x ∈ xs, ∀ S n, Vat S l (n + 1) → (f (e x) S).wp (fun ws S' => (ws = [y x] ∨ ws = []) ∧ Vat S' l n ∧ Fr S S' l) fun _ _ => False)
    (hQ : ∀ (ys : List α) (S' : Sto), ys.Sublist xs → Vat S' l n → Fr S S' l → Q (ys.map y) S') : (lcLoop f (xs.map e) S).wp Q E := by
  obtain ⟨ys, S', e1, h1, h2, h3⟩ := lc_draw (f := f) (l := l) e y xs S n (fun x hx S n hv => by
    have := st x hx S n hv
    revert this
    generalize f (e x) S = r
    cases r with
    | ok ws S' =>
      rintro ⟨h1, h2, h3⟩
      rcases h1 with rfl | rfl
      · exact ⟨true, S', rfl, h2, h3⟩
      · exact ⟨false, S', rfl, h2, h3⟩
    | exc e S => intro h; exact h.elim
    | bad => intro h; exact h.elim) hv
  rw [e1]; exact hQ ys S' h1 h2 h3
theorem wp_lc_draws {α β : Type} {f : W → Sto → R (List W)} {l : Nat} {Q : List W → Sto → Prop} {E : Exn → Sto → Prop} (e : α → W) (y : β → W) (P : α → β → Prop) (n : Nat) {xs : List α} {S : Sto} (hv : Vat S l (n + xs.length))
    (st : ∀ x ∈ xs, ∀ S n, Vat S l (n + 1) → (f (e x) S).wp (fun ws S' => ∃ v, ws = [y v] ∧ P x v ∧ Vat S' l n ∧ Fr S S' l) fun _ _ => False)
    (hQ : ∀ (ys : List β) (S' : Sto), All2 P xs ys → Vat S' l n → Fr S S' l → Q (ys.map y) S') : (lcLoop f (xs.map e) S).wp Q E := by
  obtain ⟨ys, S', e1, h1, h2, h3⟩ := lc_draws (f := f) (l := l) e y P xs S n (fun x hx S n hv => by
    have := st x hx S n hv
    revert this
    generalize f (e x) S = r
    cases r with
    | ok ws S' =>
      rintro ⟨v, rfl, h1, h2, h3⟩
      exact ⟨v, S', rfl, h1, h2, h3⟩
    | exc e S => intro h; exact h.elim
    | bad => intro h; exact h.elim) hv
  rw [e1]; exact hQ ys S' h1 h2 h3
end K64
set_option linter.all false
set_option maxRecDepth 100000
namespace K64
open PySem Pd
variable {d : Nat}
/-! pairs, nets, lots, beats that are drawn -/
theorem rngL_map (lo : Int) (n : Nat) : rngL lo n = (List.range n).map fun (i : Nat) => W.v (.int (lo + i)) := rfl
theorem inR_ok {i : Int} (h : -1000000000 ≤ i ∧ i ≤ 1000000000) : inR i = true := decide_eq_true h
theorem mtK_ext {S : Sto} {l : Nat} {ws : List W} (h : S[l]? = some (.lst ws)) : mtK .extend (.loc l) S = some () := by simp [mtK, lstAt, h]
theorem mtK_app {S : Sto} {l : Nat} {ws : List W} (h : S[l]? = some (.lst ws)) : mtK .append (.loc l) S = some () := by simp [mtK, lstAt, h]
theorem mtF_ext {S : Sto} {l : Nat} {xs : List W} {ds : List PyData} (h : S[l]? = some (.lst xs)) (hl : xs.length + ds.length ≤ LIM) : mtF .extend (.loc l) [.v (.list ds)] S = some (.v .none, false, S.set l (.lst (xs ++ ds.map W.v))) := by
  simp [mtF, h, hl]
theorem mtF_app {S : Sto} {l : Nat} {xs : List W} {w : W} (h : S[l]? = some (.lst xs)) (hl : xs.length < LIM) : mtF .append (.loc l) [w] S = some (.v .none, false, S.set l (.lst (xs ++ [w]))) := by
  simp [mtF, h, hl]
theorem pairs_loop {n : Nat} (hn : n ≤ 1000) (C : CallS) (N : Nat) (sub : Nat → Nat → Option Bool) (keeps : Nat → Bool) : ∀ (is : List Nat) (acc : List (Int × Int)) (p q : Option W), (∀ i ∈ is, i < n) → acc.length + is.length * 1000 ≤ 1000000 →
    ∃ p' q', forLoop (forBody C N sub keeps (.nm 2) (.cons (.expr (.mth .extend (.nm 1) (.cons (.lc (.tup (.cons (.nm 2) (.cons (.nm 3) .nil))) (.nm 3) (.rng2 (.bin .add (.nm 2) (.cst (.int 1))) (.nm 0)) .nil [3]) .nil))) .nil))
      (is.map fun (i : Nat) => W.v (.int (0 + i))) [some (.v (.int n)), some (.loc 0), p, q] [.lst (acc.map fun p => W.v (pr p))]
      = .ok (.next [some (.v (.int n)), some (.loc 0), p', q']) [.lst ((acc ++ is.flatMap fun (i : Nat) => (List.range (n - (i + 1))).map fun (j : Nat) => ((i : Int), (i + 1 + j : Int))).map fun p => W.v (pr p))]
  | [], acc, p, q, _, _ => ⟨p, q, by simp [for_nil]⟩
  | i :: is, acc, p, q, h, hb => by
    have hi := h i (by simp)
    have e0 : (((n : Int) - (0 + (i : Int) + 1)).toNat) = n - (i + 1) := by omega
    obtain ⟨p', q', e⟩ := pairs_loop hn C N sub keeps is (acc ++ (List.range (n - (i + 1))).map fun (j : Nat) => ((i : Int), (i + 1 + j : Int))) (some (.v (.int (0 + i)))) q (fun z hz => h z (by simp [hz])) (by
      simp at hb ⊢
      omega)
    refine ⟨p', q', ?_⟩
    rw [List.map_cons, for_cons]
    have c1 : decide ((n : Int) - (0 + (i : Int) + 1) ≤ (LIM : Int)) = true := decide_eq_true (by unfold LIM; omega)
    have c2 : inR (0 + (i : Int) + 1) = true := inR_ok (by omega)
    have c3 : inR (n : Int) = true := inR_ok (by omega)
    have e2 : lcLoop (lcStep (.nm 3) [some (.v (.int n)), some (.loc 0), some (.v (.int (0 + i))), q] [3] (evCs C .nil) fun ρ1 S2 => (evE C (.tup (.cons (.nm 2) (.cons (.nm 3) .nil))) ρ1 S2).bind fun y S3 => .ok [y.1] S3)
        (rngL (0 + (i : Int) + 1) ((n : Int) - (0 + (i : Int) + 1)).toNat) [.lst (acc.map fun p => W.v (pr p))]
        = .ok (((List.range (n - (i + 1))).map fun (j : Nat) => ((i : Int), (i + 1 + j : Int))).map fun p => W.v (pr p)) [.lst (acc.map fun p => W.v (pr p))] := by
      rw [rngL_map, e0, lc_map (y := fun (j : Nat) => W.v (pr ((i : Int), (i + 1 + j : Int))))]
      · simp
      · intro j hj
        simp [lcStep, pr]
    have e3 := mkSeq_fun false ((List.range (n - (i + 1))).map fun (j : Nat) => ((i : Int), (i + 1 + j : Int))) pr
    rw [forBody_eq]
    simp only [bindT_nm, List.set_cons_succ, List.set_cons_zero, evSs_cons, evS_expr, evE_mth, evE_nm, List.getElem?_cons_succ, List.getElem?_cons_zero, R.bind_ok, evEs_cons, evEs_nil, evE_lc, evI_rng2, evE_bin, evE_cst, bop_addI, R.of_some, asInt_int, Option.bind_some, c1, c2, c3, Bool.and_self, if_pos, e2, R.calm_ok, R.sto_ok, unlock_none, e3]
    have hl : (acc.map fun p => W.v (pr p)).length + (((List.range (n - (i + 1))).map fun (j : Nat) => ((i : Int), (i + 1 + j : Int))).map pr).length ≤ LIM := by
      unfold LIM; simp at hb ⊢; omega
    have k1 := mtK_ext (S := [Ob.lst (acc.map fun p => W.v (pr p))]) (l := 0) rfl
    have k2 := mtF_ext (S := [Ob.lst (acc.map fun p => W.v (pr p))]) (l := 0) rfl hl
    rw [k1]
    simp only [R.of_some, R.bind_ok, e2, R.calm_ok, R.sto_ok, unlock_none, e3, Bool.false_eq_true, if_false, k2, R.stm_ok, evSs_nil, List.set_cons_zero]
    have e4 : (acc.map fun p => W.v (pr p)) ++ (((List.range (n - (i + 1))).map fun (j : Nat) => ((i : Int), (i + 1 + j : Int))).map pr).map W.v = (acc ++ (List.range (n - (i + 1))).map fun (j : Nat) => ((i : Int), (i + 1 + j : Int))).map fun p => W.v (pr p) := by
      simp
    rw [e4, e]
    simp
theorem unR_loc {S1 S : Sto} {l : Nat} {ds : List PyData} (fr : Bool) (h : S1[l]? = some (.lst (ds.map W.v))) : unR (.ok (.loc l, fr) S1) S = .ok (.v (.list ds), true) S := by
  simp [unR, unboxW, h]
theorem ok_pairs {n : Nat} (hn : n ≤ 1000) (S : Sto) : unR (callN Pr (d+1) 26 [.v (.int n)] []) S = .ok (.v (.list ((pairsL n).map pr)), true) S := by
  rw [call_of fd_law_pairs rfl rfl]
  obtain ⟨p', q', e⟩ := pairs_loop hn (callN Pr d) Pr.fuel Pr.sub Pr.keeps (List.range n) [] none none (by simp) (by simp; omega)
  have c1 : decide ((n : Int) ≤ (LIM : Int)) = true := decide_eq_true (by unfold LIM; omega)
  have c3 : inR (n : Int) = true := inR_ok (by omega)
  simp only [List.map_nil, List.nil_append] at e
  simp only [fd_law_pairs, Pd.start, evSs_cons, evS_asg, evE_box, evE_lst, evEs_nil, R.bind_ok, mkSeq_nil]
  simp only [Bool.false_eq_true, if_false, List.map_cons, List.map_nil, List.length_cons, List.length_nil, List.cons_append, List.nil_append, R.stm_ok, bindT_nm, R.of_some, R.bind_ok]
  simp only [List.replicate, List.set_cons_succ, List.set_cons_zero, evS_fors, evI_rng1, evE_nm, List.getElem?_cons_zero, R.bind_ok, asInt_int, Option.bind_some, c1, c3, Bool.and_self, if_pos, R.of_some, R.stm_ok, Int.toNat_natCast, rngL_map]
  rw [e]
  simp only [R.sto_ok, unlock_none, R.bind_ok, evSs_nil, evS_ret, evE_nm, List.getElem?_cons_zero, List.getElem?_cons_succ, R.stm_ok, finish_ret]
  exact unR_loc false (by simp [pairsL])
theorem pairs_mem {n : Nat} {p : Int × Int} : p ∈ pairsL n ↔ 0 ≤ p.1 ∧ p.1 < p.2 ∧ p.2 < n := by
  simp only [pairsL, List.mem_flatMap, List.mem_range, List.mem_map]
  constructor
  · rintro ⟨i, hi, j, hj, rfl⟩
    simp only
    omega
  · rintro ⟨h0, h1, h2⟩
    refine ⟨p.1.toNat, by omega, (p.2 - p.1 - 1).toNat, by omega, ?_⟩
    refine Prod.ext ?_ ?_ <;> simp only <;> omega
theorem pairs_sorted (n : Nat) : (pairsL n).Pairwise lexlt := by
  unfold pairsL
  rw [List.pairwise_flatMap]
  refine ⟨fun i _ => ?_, ?_⟩
  · rw [List.pairwise_map]
    refine List.pairwise_lt_range.imp fun {a b} h => ?_
    refine .inr ⟨rfl, ?_⟩
    simp only; omega
  · refine List.pairwise_lt_range.imp fun {a b} h x hx y hy => ?_
    obtain ⟨j, _, rfl⟩ := List.mem_map.mp hx
    obtain ⟨k, _, rfl⟩ := List.mem_map.mp hy
    refine .inl ?_
    simp only; omega
theorem pairs_len {n : Nat} (hn : n ≤ 6) : (pairsL n).length ≤ 15 := by
  match n, hn with
  | 0, _ => decide
  | 1, _ => decide
  | 2, _ => decide
  | 3, _ => decide
  | 4, _ => decide
  | 5, _ => decide
  | 6, _ => decide
/-- a drawn net -/
theorem wp_law_net {S : Sto} {l n : Nat} {Q : W × Bool → Sto → Prop} {E : Exn → Sto → Prop} (h : Vat S l (n + 20)) {k : Nat} (hk : k ≤ 6)
    (hQ : ∀ (ts : List (Int × Int)) (S' : Sto), IsNet k ts → ts.length ≤ 15 → Vat S' l n → Fr S S' l → Q (.v (netD k ts), false) S') : (callN Pr (d+3) 37 [.loc l, .v (.int k)] S).wp Q E := by
  refine wp_call fd_law_net rfl rfl ?_
  simp [fd_law_net, Pd.start]
  refine wp_one_of (n := n + 19) h (by simp) (by simp) fun x S1 hx v1 f1 => ?_
  obtain ⟨m, rfl⟩ : ∃ m : Int, x = .int m := by
    simp only [List.mem_cons, List.not_mem_nil, or_false] at hx
    rcases hx with rfl | rfl | rfl | rfl | rfl | rfl <;> exact ⟨_, rfl⟩
  have e2 := ok_pairs (d := d + 1) (n := k) (by omega) S1
  have e3 : (pairsL k).map (W.v ∘ pr) = (pairsL k).map fun p => W.v (pr p) := rfl
  simp [e2, e3]
  refine wp_lc_draw (fun p => W.v (pr p)) (fun p => W.v (pr p)) n (v1.less (by have := pairs_len hk; omega)) (fun x hx S n hv => ?_) fun ts S2 sub v2 f2 => ?_
  · simp [lcStep]
    refine wp_lad hv (by decide) (by decide) fun q S' _ _ hv' hf' => ?_
    simp
    by_cases hq : q < m <;> simp [hq, hv', hf']
  · have e5 := mkSeq_fun false ts pr
    simp [e5]
    refine hQ ts S2 ⟨by omega, fun p hp => pairs_mem.mp (sub.subset hp), (pairs_sorted k).sublist sub⟩ (Nat.le_trans sub.length_le (pairs_len hk)) v2 (f1.trans f2)
/-- a drawn lot -/
theorem wp_drawn_lot {S : Sto} {l n : Nat} {Q : W × Bool → Sto → Prop} {E : Exn → Sto → Prop} (h : Vat S l (n + 20)) {k : Nat} (hk : k ≤ 6)
    (hQ : ∀ (is : List Int) (S' : Sto), (∀ i ∈ is, 0 ≤ i ∧ i < k) → is.Pairwise (· < ·) → Vat S' l n → Fr S S' l → Q (.v (countsD is), false) S') : (callN Pr (d+2) 33 [.loc l, .v (.int k)] S).wp Q E := by
  refine wp_call fd_law_drawn_lot rfl rfl ?_
  have c1 : decide ((k : Int) ≤ (LIM : Int)) = true := decide_eq_true (by unfold LIM; omega)
  have c3 : inR (k : Int) = true := inR_ok (by omega)
  have c2 : (k : Int) ≤ (LIM : Int) := of_decide_eq_true c1
  simp [fd_law_drawn_lot, Pd.start, c2, c3, rngL_map]
  refine wp_lc_draw (l := l) (fun (i : Nat) => W.v (.int i)) (fun (i : Nat) => W.v (.int i)) n (h.less (by simp; omega)) (fun x hx S n hv => ?_) fun ts S2 sub v2 f2 => ?_
  · simp [lcStep]
    refine wp_lad hv (by decide) (by decide) fun q S' _ _ hv' hf' => ?_
    simp
    by_cases hq : q = 0 <;> simp [hq, hv', hf']
  · have e5 := mkSeq_fun false ts fun (i : Nat) => PyData.int i
    simp [e5]
    have e6 : (W.v (PyData.tuple (ts.map fun (i : Nat) => PyData.int i))) = W.v (countsD (ts.map fun (i : Nat) => (i : Int))) := by simp [countsD]
    rw [e6]
    refine hQ _ S2 (fun i hi => ?_) ?_ v2 f2
    · obtain ⟨j, hj, rfl⟩ := List.mem_map.mp hi
      have := List.mem_range.mp (sub.subset hj)
      omega
    · rw [List.pairwise_map]
      exact (List.pairwise_lt_range.sublist sub).imp fun {a b} h => by omega
/-- drawn beats: each tie one way or the other, sorted -/
theorem wp_law_beats {S : Sto} {l n : Nat} {Q : W × Bool → Sto → Prop} {E : Exn → Sto → Prop} (h : Vat S l (n + 20)) {k : Int} {ts : List (Int × Int)} (hl : ts.length ≤ 15)
    (hQ : ∀ (qs : List (Int × Int)) (S' : Sto), All2 (fun t q => q = t ∨ q = (t.2, t.1)) ts qs → Vat S' l n → Fr S S' l → Q (.v (.tuple ((sortL ltP qs).map pr)), false) S') : (callN Pr (d+2) 36 [.loc l, .v (netD k ts)] S).wp Q E := by
  refine wp_call fd_law_beats rfl rfl ?_
  have e3 : ts.map (W.v ∘ pr) = ts.map fun p => W.v (pr p) := rfl
  simp [fd_law_beats, Pd.start, ix_net1, e3]
  refine wp_lc_draws (l := l) (fun p => W.v (pr p)) (fun p => W.v (pr p)) (fun t q => q = t ∨ q = (t.2, t.1)) n (h.less (by omega)) (fun x hx S n hv => ?_) fun qs S2 al v2 f2 => ?_
  · simp [lcStep]
    refine wp_lad hv (by decide) (by decide) fun q S' _ _ hv' hf' => ?_
    by_cases hq : q = 0
    · simp [hq]
      exact ⟨x.1, x.2, rfl, .inl rfl, hv', hf'⟩
    · simp [hq, pr]
      exact ⟨x.2, x.1, ⟨rfl, rfl⟩, .inr ⟨rfl, rfl⟩, hv', hf'⟩
  · have e5 := mkSeq_fun false qs pr
    simp [e5, sorted_pr]
    exact hQ qs S2 al v2 f2
end K64
set_option linter.all false
set_option maxRecDepth 100000
namespace K64
open PySem Pd
variable {d : Nat}
/-! the law's judge of beats -/
theorem neNil (ds : List PyData) (h : ∀ x ∈ ds, x.canLay0 = true) (S : Sto) : cop .ne (.v (.list ds)) (.v (.list [])) S = some (!ds.isEmpty) := by
  have h1 : (PyData.list ds).canLay0 = true := by simp only [PyData.canLay0, lay_all]; exact h
  have h2 : (PyData.list []).canLay0 = true := by simp [PyData.canLay0, PyData.canLayAll0]
  have h3 : (PyData.list []).depth = 1 := by simp [PyData.depth, PyData.depthAll]
  simp only [cop, eqW, Option.bind_some, okD, h1, h2, Bool.and_self, Bool.true_and, decide_eq_true_eq, h3]
  rw [if_pos (by omega), PyData.eqv]
  cases ds <;> simp [PyData.eqvAll]
theorem isTysT (x : PyData) (hx : x.canLay0) (S : Sto) : isTys (.v x) S [.tuple] = some (isTup x) := by
  cases x <;> simp [isTys, isTy, tyOf, isNone, isTup, PyData.canLay0] at hx ⊢
theorem isTysI (x : PyData) (hx : x.canLay0) (S : Sto) : isTys (.v x) S [.int] = some (match x with | .int _ => true | .bool _ => true | _ => false) := by
  cases x <;> simp [isTys, isTy, tyOf, isNone, PyData.canLay0] at hx ⊢
theorem isTysB (x : PyData) (hx : x.canLay0) (S : Sto) : isTys (.v x) S [.bool] = some (match x with | .bool _ => true | _ => false) := by
  cases x <;> simp [isTys, isTy, tyOf, isNone, PyData.canLay0] at hx ⊢
def twoInts : PyData → Bool
  | .tuple [.int _, .int _] => true
  | _ => false
theorem twoInts_pr {xs : List PyData} (h : xs.all twoInts = true) : ∃ ps : List (Int × Int), xs = ps.map pr := by
  induction xs with
  | nil => exact ⟨[], rfl⟩
  | cons x xs ih =>
    rw [List.all_cons, Bool.and_eq_true] at h
    obtain ⟨ps, rfl⟩ := ih h.2
    have h1 := h.1
    unfold twoInts at h1
    split at h1
    · rename_i a b
      exact ⟨(a, b) :: ps, rfl⟩
    · cases h1
def nonInt : PyData → Bool | .int _ => false | _ => true
theorem nonInt_all (a b : PyData) : ([a, b].filter nonInt).isEmpty = twoInts (.tuple [a, b]) := by
  cases a <;> cases b <;> rfl
def judgeTurn : Sts := .cons (.ifs (.cmp .ne (.lc (.nm 3) (.nm 3) (.seq (.nm 2)) (.cons (.or (.not (.isi (.nm 3) [.int] true)) (.isi (.nm 3) [.bool] true)) .nil) [3]) (.lst .nil)) (.cons (.ret (.cst (.bool false))) .nil) .nil) .nil
theorem judge_loop (C : CallS) (N : Nat) (sub : Nat → Nat → Option Bool) (keeps : Nat → Bool) (S : Sto) (a b : W) : ∀ (xs : List PyData) (p q : Option W), (∀ x ∈ xs, x.canLay0 = true ∧ tupN 2 x = true) →
    ∃ o, forLoop (forBody C N sub keeps (.nm 2) judgeTurn) (xs.map W.v) [some a, some b, p, q] S = .ok o S ∧ if xs.all twoInts then (∃ p', o = .next [some a, some b, p', q]) else o = .ret (.v (.bool false)) false
  | [], p, q, _ => ⟨_, rfl, p, rfl⟩
  | x :: xs, p, q, h => by
    obtain ⟨h1, h2⟩ := h x (by simp)
    obtain ⟨y, z, rfl⟩ := tupN_2 h2
    simp [PyData.canLay0, lay_all] at h1
    rw [List.map_cons, for_cons, forBody_eq]
    have hlc : lcLoop (lcStep (.nm 3) [some a, some b, some (.v (.tuple [y, z])), q] [3] (evCs C (.cons (.or (.not (.isi (.nm 3) [.int] true)) (.isi (.nm 3) [.bool] true)) .nil)) fun ρ1 S2 => (evE C (.nm 3) ρ1 S2).bind fun y S3 => .ok [y.1] S3) ([y, z].map W.v) S
        = .ok (([y, z].filter nonInt).map W.v) S := by
      refine lc_pure W.v nonInt W.v [y, z] fun x hx => ?_
      have hl : x.canLay0 = true := by simp at hx; rcases hx with rfl | rfl <;> simp [h1]
      simp [lcStep, isTysI x hl, isTysB x hl]
      cases x <;> simp [nonInt]
    have hn := neNil ([y, z].filter nonInt) (fun x hx => by
      have := (List.mem_filter.mp hx).1
      simp at this; rcases this with rfl | rfl <;> simp [h1]) S
    simp only [judgeTurn, bindT_nm, List.set_cons_succ, List.set_cons_zero, evSs_cons, evS_ifs, evE_cmp, evE_lc, evI_seq, evE_nm, List.getElem?_cons_succ, List.getElem?_cons_zero, R.bind_ok, items_tup, R.of_some, lockAt_v]
    simp only [evE_nm] at hlc
    rw [hlc]
    simp only [R.calm_ok, R.sto_ok, unlock_none, R.bind_ok, mkSeq_map, evE_lst, evEs_nil, mkSeq_nil, Bool.false_eq_true, if_false, hn, nonInt_all]
    cases h3 : twoInts (.tuple [y, z]) with
    | true =>
      obtain ⟨o, e, q⟩ := judge_loop C N sub keeps S a b xs (some (.v (.tuple [y, z]))) q fun x hx => h x (by simp [hx])
      refine ⟨o, ?_, ?_⟩
      · unfold judgeTurn at e; simpa using e
      · rw [List.all_cons, h3, Bool.true_and]; exact q
    | false => exact ⟨_, by simp; rfl, by rw [List.all_cons, h3]; rfl⟩
theorem mm_turn (a b : Int) : (if b < a then (b, a) else (a, b)) = (min a b, max a b) := by
  split <;> refine Prod.ext ?_ ?_ <;> simp only <;> omega
theorem min1_pr (p : Int × Int) (S : Sto) : biF .min1 [.v (pr p)] S = some (.v (.int (min p.1 p.2)), false) := by
  simp [biF, dataOf, pr, allV, bestOf, allCm, isIntD, least]
  by_cases h : p.2 < p.1 <;> simp [h] <;> omega
theorem max1_pr (p : Int × Int) (S : Sto) : biF .max1 [.v (pr p)] S = some (.v (.int (max p.1 p.2)), false) := by
  simp [biF, dataOf, pr, allV, bestOf, allCm, isIntD, least]
  by_cases h : p.1 < p.2 <;> simp [h] <;> omega
theorem turnP_mm (p : Int × Int) : (min p.1 p.2, max p.1 p.2) = turnP p := by
  unfold turnP
  split <;> refine Prod.ext ?_ ?_ <;> simp only <;> omega
theorem strict_of {ps : List (Int × Int)} (h : ps.Pairwise fun a b => ltP b a = false) (hn : ps.Nodup) : ps.Pairwise lexlt := by
  refine (h.and hn).imp fun {a b} ⟨h1, h2⟩ => ?_
  rcases lexlt_total a b with h | h | h
  · exact h
  · exact absurd h h2
  · rw [show ltP b a = decide (lexlt b a) from rfl, decide_eq_false_iff_not] at h1
    exact absurd h h1
theorem sorted_of {ps : List (Int × Int)} (h : ps.Pairwise lexlt) : ps.Pairwise fun a b => ltP b a = false := h.imp fun {a b} h => by
  refine decide_eq_false fun h2 => lexlt_irrefl a (lexlt_trans h h2)
theorem judge_iff {n : Int} {ts ps : List (Int × Int)} (hN : IsNet n ts) : isBeats n ts (.tuple (ps.map pr)) ↔ sortL ltP (ps.map turnP) = ts ∧ ps = sortL ltP ps := by
  constructor
  · rintro ⟨qs, h, _, h2, h3⟩
    have h := map_pr_inj (PyData.tuple.inj h)
    subst h
    exact ⟨h3, (sortL_same ordP (sorted_of h2)).symm⟩
  · rintro ⟨h1, h2⟩
    have hp : (ps.map turnP).Perm ts := h1 ▸ (sortL_perm ltP _).symm
    have hnd : (ps.map turnP).Nodup := hp.nodup_iff.mpr (hN.2.2.imp fun {a b} h => fun e => by subst e; exact lexlt_irrefl _ h)
    refine ⟨ps, rfl, fun p hm => ?_, strict_of (h2 ▸ sortL_sorted ordP ps) (List.Pairwise.of_map turnP (fun a b h e => h (by rw [e])) hnd), h1⟩
    have := hN.2.1 _ (hp.mem_iff.mp (List.mem_map.mpr ⟨p, hm, rfl⟩))
    unfold turnP at this
    split at this <;> omega
theorem beatsB_nt {n : Int} {ts : List (Int × Int)} {x : PyData} (h : isTup x = false) : beatsB n ts x = false := beatsB_no (by rintro ⟨ps, rfl, _⟩; cases h)
theorem ok_law_is_beats {n : Int} {ts : List (Int × Int)} (hN : IsNet n ts) (x : PyData) (hx : x.canLay0) (S : Sto) : callN Pr (d+1) 35 [.v (netD n ts), .v x] S = .ok (.v (.bool (beatsB n ts x)), false) S := by
  rw [call_of fd_law_is_beats rfl rfl]
  simp only [fd_law_is_beats, Pd.start, evSs_cons, evS_ifs, evE_or]
  simp [isTysT x hx]
  cases x with
  | tuple xs =>
    have hxs : ∀ x ∈ xs, x.canLay0 = true := by simpa [PyData.canLay0, lay_all] using hx
    simp [isTup]
    rw [lc_pure (b := fun x => !tupN 2 x) (y := W.v)]
    · rw [R.calm_ok, R.sto_ok, unlock_none, R.bind_ok, mkSeq_map]
      have hn := neNil (xs.filter fun x => !tupN 2 x) (fun x hx => hxs x ((List.mem_filter.mp hx).1)) S
      simp only [Bool.false_eq_true, if_false, R.bind_ok, hn]
      cases h2 : (xs.filter fun x => !tupN 2 x).isEmpty with
      | false =>
        have : beatsB n ts (.tuple xs) = false := by
          refine beatsB_no ?_
          rintro ⟨ps, h, _⟩
          cases h
          have : ((ps.map pr).filter fun x => !tupN 2 x) = [] := by
            rw [List.filter_eq_nil_iff]
            intro x hx
            obtain ⟨p, _, rfl⟩ := List.mem_map.mp hx
            simp [pr, tupN]
          rw [this] at h2; cases h2
        simp [this]
      | true =>
        have h3 : ∀ x ∈ xs, tupN 2 x = true := by
          rw [List.isEmpty_iff, List.filter_eq_nil_iff] at h2
          intro x hx
          simpa using h2 x hx
        obtain ⟨o, e, q⟩ := judge_loop (callN Pr d) Pr.fuel Pr.sub Pr.keeps S (.v (netD n ts)) (.v (.tuple xs)) xs none none fun x hx => ⟨hxs x hx, h3 x hx⟩
        unfold judgeTurn at e
        simp [e]
        cases h4 : xs.all twoInts with
        | false =>
          rw [h4] at q
          simp at q
          subst q
          have : beatsB n ts (.tuple xs) = false := by
            refine beatsB_no ?_
            rintro ⟨ps, h, _⟩
            cases h
            have : (ps.map pr).all twoInts = true := by simp [pr, twoInts]
            rw [this] at h4; cases h4
          simp [this]
        | true =>
          rw [h4] at q
          simp at q
          obtain ⟨p', rfl⟩ := q
          obtain ⟨ps, rfl⟩ := twoInts_pr h4
          have e1 : ps.map (W.v ∘ pr) = ps.map fun p => W.v (pr p) := rfl
          simp [e1]
          rw [lc_map (y := fun p : Int × Int => W.v (pr (turnP p)))]
          · have e2 := mkSeq_fun false ps (fun p => pr (turnP p))
            have e4 : (ps.map fun p => pr (turnP p)) = (ps.map turnP).map pr := by simp
            have e6 : biF .sorted [.v (.list (ps.map (pr ∘ turnP)))] S = some (.v (.list ((sortL ltP (ps.map turnP)).map pr)), true) := by
              rw [← List.map_map]; exact sorted_pr _ S
            simp [e2, e4, e6, ix_net1, eqL_pr]
            have e5 : beatsB n ts (.tuple (ps.map pr)) = (decide (sortL ltP (ps.map turnP) = ts) && decide (ps = sortL ltP ps)) := by
              rw [Bool.eq_iff_iff, beatsB_iff, judge_iff hN]; simp
            rw [e5]
            by_cases h5 : sortL ltP (ps.map turnP) = ts
            · simp [h5, sorted_prT, eqL_pr]
            · simp [h5]
          · intro p hp
            simp [lcStep, min1_pr, max1_pr]
            rw [← turnP_mm]; rfl
    · intro x hm
      have hl := hxs x hm
      simp [lcStep, isTysT x hl]
      cases x with
      | tuple ys => simp [isTup, tupN]; by_cases h : (ys.length : Int) = 2 <;> simp [h]
      | _ => simp [isTup, tupN]
  | _ =>
    simp [isTup]
    refine beatsB_nt ?_
    rfl
end K64
set_option linter.all false
set_option maxRecDepth 100000
namespace K64
open PySem Pd
variable {d : Nat}
/-! alike -/
@[simp] theorem eqBool (a b : Bool) (S : Sto) : cop .eq (.v (.bool a)) (.v (.bool b)) S = some (a == b) := by
  simp [cop, eqW, okD, PyData.canLay0, PyData.depth, PyData.eqv]
@[simp] theorem neBool (a b : Bool) (S : Sto) : cop .ne (.v (.bool a)) (.v (.bool b)) S = some (!(a == b)) := by
  simp [cop, eqW, okD, PyData.canLay0, PyData.depth, PyData.eqv]
theorem eqStr (a b : Str) (ha : (PyData.str a).canLay0 = true) (hb : (PyData.str b).canLay0 = true) (S : Sto) : cop .eq (.v (.str a)) (.v (.str b)) S = some (a == b) := by
  simp [cop, eqW, okD, ha, hb, PyData.depth, PyData.eqv]
inductive Fine : Nat → PyData → Prop
  | none {k : Nat} : Fine k .none
  | bool {k : Nat} (b : Bool) : Fine k (.bool b)
  | int {k : Nat} (i : Int) : Fine k (.int i)
  | str {k : Nat} (s : Str) : (PyData.str s).canLay0 = true → Fine k (.str s)
  | tup {k : Nat} {xs : List PyData} : xs.length ≤ 1000 → (∀ x ∈ xs, Fine k x) → Fine (k + 1) (.tuple xs)
  | lst {k : Nat} {xs : List PyData} : xs.length ≤ 1000 → (∀ x ∈ xs, Fine k x) → Fine (k + 1) (.list xs)
theorem alike_list {k : Nat} {xs : List PyData} (hl : xs.length ≤ 1000) (ih : ∀ x ∈ xs, ∀ (d : Nat) (S : Sto), callN Pr (d + k + 1) 24 [.v x, .v x] S = .ok (.v (.bool true), false) S) (t : Bool) (d : Nat) (S : Sto) :
    callN Pr (d + (k + 1) + 1) 24 [.v (if t then .tuple xs else .list xs), .v (if t then .tuple xs else .list xs)] S = .ok (.v (.bool true), false) S := by
  rw [call_of fd_law_alike rfl rfl]
  have c1 : (xs.length : Int) ≤ (LIM : Int) := by unfold LIM; omega
  have c3 : inR (xs.length : Int) = true := inR_ok (by omega)
  have key : ∀ y : PyData, (∀ i : Nat, ∀ S, ixW (.v y) (.v (.int i)) S = (xs[i]?).map W.v) → lcLoop (lcStep (.nm 2) [some (.v y), some (.v y), none] [2] (evCs (callN Pr (d + (k + 1))) .nil) fun ρ1 S2 => (evE (callN Pr (d + (k + 1))) (.call false 24 (.cons (.ix (.nm 0) (.nm 2)) (.cons (.ix (.nm 1) (.nm 2)) .nil))) ρ1 S2).bind fun y S3 => .ok [y.1] S3)
      ((List.range xs.length).map fun (i : Nat) => W.v (.int i)) S = .ok ((List.range xs.length).map fun _ => W.v (.bool true)) S := by
    intro y hy
    refine lc_map _ _ _ fun i hi => ?_
    have hi : i < xs.length := List.mem_range.mp hi
    have e := ih xs[i] (List.getElem_mem hi) d []
    have e2 := hy i S
    rw [List.getElem?_eq_getElem hi] at e2
    simp [lcStep, e2, show d + (k + 1) = d + k + 1 from rfl, e]
  have hm := mkSeq_fun false (List.range xs.length) fun _ => PyData.bool true
  have ha := biF_all (List.range xs.length) (fun _ => true) S
  cases t with
  | true =>
    have k1 := key (.tuple xs) fun i S => by simp [atI_nat]
    simp at k1
    simp [fd_law_alike, Pd.start, isTys, isTy, tyOf, c1, c3, rngL_map, k1]
    simp at hm ha
    simp [hm, ha]
  | false =>
    have k1 := key (.list xs) fun i S => by simp [atI_nat]
    simp at k1
    simp [fd_law_alike, Pd.start, isTys, isTy, tyOf, c1, c3, rngL_map, k1]
    simp at hm ha
    simp [hm, ha]
theorem alike_refl {k : Nat} {x : PyData} (h : Fine k x) : ∀ (d : Nat) (S : Sto), callN Pr (d + k + 1) 24 [.v x, .v x] S = .ok (.v (.bool true), false) S := by
  induction h with
  | none => intro d S; rw [call_of fd_law_alike rfl rfl]; simp [fd_law_alike, Pd.start, isTys, isTy, tyOf]
  | bool b => intro d S; rw [call_of fd_law_alike rfl rfl]; simp [fd_law_alike, Pd.start, isTys, isTy, tyOf]
  | int i => intro d S; rw [call_of fd_law_alike rfl rfl]; simp [fd_law_alike, Pd.start, isTys, isTy, tyOf]
  | str s hs => intro d S; rw [call_of fd_law_alike rfl rfl]; simp [fd_law_alike, Pd.start, isTys, isTy, tyOf, eqStr s s hs hs]
  | @tup k xs hl _ ih => intro d S; exact alike_list hl ih true d S
  | @lst k xs hl _ ih => intro d S; exact alike_list hl ih false d S
end K64
set_option linter.all false
set_option maxRecDepth 100000
namespace K64
open PySem Pd
variable {d : Nat}
/-! words -/
theorem s12_12 : Pr.sub 12 12 = some true := rfl
theorem s16_12 : Pr.sub 16 12 = some false := rfl
theorem s16_16 : Pr.sub 16 16 = some true := rfl
theorem s8_12 : Pr.sub 8 12 = some false := rfl
theorem s8_16 : Pr.sub 8 16 = some false := rfl
theorem s8_8 : Pr.sub 8 8 = some true := rfl
theorem s9_12 : Pr.sub 9 12 = some false := rfl
theorem s9_16 : Pr.sub 9 16 = some false := rfl
theorem s9_8 : Pr.sub 9 8 = some false := rfl
theorem s9_9 : Pr.sub 9 9 = some true := rfl
theorem s6_12 : Pr.sub 6 12 = some false := rfl
theorem s6_16 : Pr.sub 6 16 = some false := rfl
theorem s6_8 : Pr.sub 6 8 = some false := rfl
theorem s6_9 : Pr.sub 6 9 = some false := rfl
theorem s6_6 : Pr.sub 6 6 = some true := rfl
theorem word0_net {w : PyData} (hw : w.canLay0) (hf : isNone (.v (netFault w)) = false) (x : PyData) (S : Sto) : callN Pr (d+8) 31 [.v (.int 0), .v (.list [w, x])] S = .ok (.v (.str "net"), false) S := by
  rw [call_of fd_law_word rfl rfl]
  simp [fd_law_word, Pd.start, no_is_beats hw hf, s12_12]
theorem word1_net {w : PyData} (hw : w.canLay0) (hf : isNone (.v (netFault w)) = false) (x : PyData) (S : Sto) : callN Pr (d+8) 31 [.v (.int 1), .v (.list [w, x])] S = .ok (.v (.str "net"), false) S := by
  rw [call_of fd_law_word rfl rfl]
  simp [fd_law_word, Pd.start, no_scores_net hw hf, s12_12]
theorem word1_beats {n : Int} {ts : List (Int × Int)} (hN : IsNet n ts) (x : PyData) (hx : x.canLay0) (hb : ¬ isBeats n ts x) (S : Sto) : callN Pr (d+8) 31 [.v (.int 1), .v (.list [netD n ts, x])] S = .ok (.v (.str "beats"), false) S := by
  rw [call_of fd_law_word rfl rfl]
  simp [fd_law_word, Pd.start, no_scores_of hN x hx hb, exR, s16_12, s16_16]
theorem word2_net {w : PyData} (hw : w.canLay0) (hf : isNone (.v (netFault w)) = false) (x y : PyData) (S : Sto) : callN Pr (d+9) 31 [.v (.int 2), .v (.list [w, x, y])] S = .ok (.v (.str "net"), false) S := by
  rw [call_of fd_law_word rfl rfl]
  simp [fd_law_word, Pd.start, no_score_spare hw hf, s12_12]
theorem word2_counts {n : Int} {ts : List (Int × Int)} (hN : IsNet n ts) (x y : PyData) (hx : x.canLay0) (S : Sto) (h : isCounts x = false) : callN Pr (d+9) 31 [.v (.int 2), .v (.list [netD n ts, x, y])] S = .ok (.v (.str "counts"), false) S := by
  rw [call_of fd_law_word rfl rfl]
  simp [fd_law_word, Pd.start, sp_counts hN x y hx _ h, exR, s8_12, s8_16, s8_8]
theorem word2_unlike {n : Int} {ts : List (Int × Int)} (hN : IsNet n ts) (x y : PyData) (hx : x.canLay0) (S : Sto) (h : isCounts x = true) (h2 : lenT x ≠ n) : callN Pr (d+9) 31 [.v (.int 2), .v (.list [netD n ts, x, y])] S = .ok (.v (.str "unlike"), false) S := by
  rw [call_of fd_law_word rfl rfl]
  simp [fd_law_word, Pd.start, sp_unlike hN x y hx _ h h2, exR, s9_12, s9_16, s9_8, s9_9]
theorem word2_lot {n : Int} {ts : List (Int × Int)} (hN : IsNet n ts) (x y : PyData) (hx : x.canLay0) (hy : y.canLay0) (S : Sto) (h : isCounts x = true) (h2 : lenT x = n) (h3 : isLot n y = false) : callN Pr (d+9) 31 [.v (.int 2), .v (.list [netD n ts, x, y])] S = .ok (.v (.str "lot"), false) S := by
  rw [call_of fd_law_word rfl rfl]
  simp [fd_law_word, Pd.start, sp_lot hN x y hx hy _ h h2 h3, exR, s6_12, s6_16, s6_8, s6_9, s6_6]
theorem word2_ok {n : Int} {ts : List (Int × Int)} (hN : IsNet n ts) {cs is : List Int} (h : ∀ c ∈ cs, 0 ≤ c) (h2 : cs.length = n) (h3 : ∀ i ∈ is, 0 ≤ i ∧ i < n) (h4 : is.Pairwise (· < ·)) (S : Sto) : callN Pr (d+9) 31 [.v (.int 2), .v (.list [netD n ts, countsD cs, countsD is])] S = .ok (.v (.str ""), false) S := by
  rw [call_of fd_law_word rfl rfl]
  simp [fd_law_word, Pd.start, sp_ok hN h h2 h3 h4]
/-! refused, right -/
theorem eqv_refl : ∀ (k : Nat) (x : PyData), x.depth ≤ k → x.canLay0 = true → PyData.eqv x x = true
  | _, .none, _, _ => by simp [PyData.eqv]
  | _, .bool _, _, _ => by simp [PyData.eqv]
  | _, .int _, _, _ => by simp [PyData.eqv]
  | _, .str _, _, _ => by simp [PyData.eqv]
  | 0, .list xs, h, _ => by simp [PyData.depth] at h
  | 0, .tuple xs, h, _ => by simp [PyData.depth] at h
  | k + 1, .list xs, h, h2 => by
    simp [PyData.depth] at h; simp [PyData.canLay0, lay_all] at h2
    rw [PyData.eqv]
    have : ∀ ys : List PyData, PyData.depthAll ys ≤ k → (∀ x ∈ ys, x.canLay0 = true) → PyData.eqvAll ys ys = true := by
      intro ys
      induction ys with
      | nil => intro _ _; simp [PyData.eqvAll]
      | cons y ys ih =>
        intro h1 h2
        simp [PyData.depthAll] at h1
        simp [PyData.eqvAll, eqv_refl k y (by omega) (h2 y (by simp)), ih (by omega) fun x hx => h2 x (by simp [hx])]
    exact this xs h h2
  | k + 1, .tuple xs, h, h2 => by
    simp [PyData.depth] at h; simp [PyData.canLay0, lay_all] at h2
    rw [PyData.eqv]
    have : ∀ ys : List PyData, PyData.depthAll ys ≤ k → (∀ x ∈ ys, x.canLay0 = true) → PyData.eqvAll ys ys = true := by
      intro ys
      induction ys with
      | nil => intro _ _; simp [PyData.eqvAll]
      | cons y ys ih =>
        intro h1 h2
        simp [PyData.depthAll] at h1
        simp [PyData.eqvAll, eqv_refl k y (by omega) (h2 y (by simp)), ih (by omega) fun x hx => h2 x (by simp [hx])]
    exact this xs h h2
  | _, .dict _, _, h2 => by simp [PyData.canLay0] at h2
theorem eq_same {x : PyData} (h : x.canLay0 = true) (hd : x.depth ≤ 50) (S : Sto) : cop .eq (.v x) (.v x) S = some true := by
  simp only [cop, eqW, Option.bind_some, okD, h, Bool.and_self, Bool.true_and, decide_eq_true_eq, Nat.min_self]
  rw [if_pos hd, eqv_refl 50 x hd h]
theorem lay_net' : (PyData.str "net").canLay0 = true := by decide +kernel
theorem lay_beats : (PyData.str "beats").canLay0 = true := by decide +kernel
theorem lay_counts' : (PyData.str "counts").canLay0 = true := by decide +kernel
theorem lay_unlike : (PyData.str "unlike").canLay0 = true := by decide +kernel
theorem lay_lot : (PyData.str "lot").canLay0 = true := by decide +kernel
theorem lay_empty : (PyData.str "").canLay0 = true := by decide +kernel
theorem lay_0 : (PyData.str "0").canLay0 = true := by decide +kernel
theorem lay_01 : (PyData.str "01").canLay0 = true := by decide +kernel
theorem dep_str (s : Str) : (PyData.str s).depth = 0 := by simp [PyData.depth]
theorem told_eq (S : Sto) : cop .eq (.v (.list [.str "net", .str "net", .str "beats", .str "net", .str "counts", .str "unlike", .str "lot", .str ""])) (.v (.list [.str "net", .str "net", .str "beats", .str "net", .str "counts", .str "unlike", .str "lot", .str ""])) S = some true :=
  eq_same (by simp only [PyData.canLay0.eq_5, PyData.canLayAll0, lay_net', lay_beats, lay_counts', lay_unlike, lay_lot, lay_empty, Bool.and_self]) (by simp [PyData.depth, PyData.depthAll]) S
theorem mul_tup {m : Nat} (m1 : 1 ≤ m) (m2 : m ≤ 6) (S : Sto) : bop .mul (.v (.tuple [.int (-1)])) (.v (.int m)) S = some (.v (.tuple (List.replicate m (.int (-1)))), false) := by
  have e : ∀ k : Nat, mkSeq true (List.replicate k (W.v (.int (-1)))) = .v (.tuple (List.replicate k (.int (-1)))) := fun k => by
    rw [← List.map_replicate, mkSeq_map]; rfl
  by_cases h : m = 1
  · subst h; simp [bop]
  · have h1 : ¬ (m : Int) = 1 := by omega
    have h2 : (2 : Int) ≤ m := by omega
    have h3 : (m : Int) ≤ 1000 := by omega
    simp [bop, h1, h2, h3, rep_flat, e]
theorem wp_refused {S : Sto} {l n : Nat} {Q : W × Bool → Sto → Prop} {E : Exn → Sto → Prop} (h : Vat S l (n + 3)) {k : Nat} (hk : k ≤ 6) {ts : List (Int × Int)} (hN : IsNet k ts) {cs : List Int} (hc : ∀ c ∈ cs, 0 ≤ c) (hl : cs.length = k)
    (hQ : ∀ S', Vat S' l n → Fr S S' l → Q (.v (.bool true), false) S') : (callN Pr (d+10) 32 [.loc l, .v (netD k ts), .v (countsD cs)] S).wp Q E := by
  refine wp_call fd_law_refused_right rfl rfl ?_
  simp [fd_law_refused_right, Pd.start]
  refine wp_one_of (n := n + 2) h (by simp) (by simp) fun x S1 hx v1 f1 => ?_
  have hx1 : x.canLay0 = true ∧ isNone (.v (netFault x)) = false := by
    simp only [List.mem_cons, List.not_mem_nil, or_false] at hx
    rcases hx with rfl | rfl | rfl | rfl | rfl <;> simp [PyData.canLay0, PyData.canLayAll0, netFault, isFrom, tieFault, firstBad, isPair, isBelow]
  have hm : ∃ m : Nat, max 1 (k : Int) = m ∧ 1 ≤ m ∧ m ≤ 6 := ⟨(max 1 (k : Int)).toNat, by omega, by omega, by omega⟩
  obtain ⟨m, em, m1, m2⟩ := hm
  have hb := mul_tup m1 m2 S1
  have hlist : ∀ S, biF .list [.v (countsD cs)] S = some (.v (.list (cs.map PyData.int)), true) := fun S => by simp [countsD]
  simp [ix_net, em, hb, hlist]
  refine wp_one_of (n := n + 1) v1 (by simp) (by simp) fun o S2 ho v2 f2 => ?_
  have ho1 : o.canLay0 = true ∧ isCounts o = false := by
    simp only [List.mem_cons, List.not_mem_nil, or_false] at ho
    rcases ho with rfl | rfl | rfl | rfl | rfl
    · exact ⟨rfl, rfl⟩
    · refine ⟨by simp only [PyData.canLay0, lay_all, List.mem_replicate]; rintro x ⟨_, rfl⟩; simp, ?_⟩
      simp only [isCounts]
      obtain ⟨m', rfl⟩ : ∃ m', m = m' + 1 := ⟨m - 1, by omega⟩
      simp [List.replicate_succ, isFrom]
    · exact ⟨by simp only [PyData.canLay0, lay_all, List.mem_map]; rintro x ⟨p, _, rfl⟩; simp, rfl⟩
    · exact ⟨by simp only [PyData.canLay0.eq_6, PyData.canLayAll0, lay_0, Bool.and_self], rfl⟩
    · exact ⟨rfl, rfl⟩
  simp [ix_net]
  refine wp_one_of (n := n) v2 (by simp) (by simp) fun lt S3 hlt v3 f3 => ?_
  have hl1 : lt.canLay0 = true ∧ isLot k lt = false := by
    simp only [List.mem_cons, List.not_mem_nil, or_false] at hlt
    rcases hlt with rfl | rfl | rfl | rfl | rfl | rfl | rfl <;> simp [PyData.canLay0, PyData.canLayAll0, isLot, isBelow, ascD, adj]
  have a1 : bop .add (.v (countsD cs)) (.v (.tuple [.int 0])) S3 = some (.v (countsD (cs ++ [0])), false) := by
    simp [countsD]; unfold LIM; omega
  have a2 : isCounts (countsD (cs ++ [0])) = true := isCounts_of (by intro c hc'; rcases List.mem_append.mp hc' with h | h; exact hc c h; simp at h; omega)
  have a3 : lenT (countsD (cs ++ [0])) ≠ k := by simp [lenT, countsD]; omega
  have a4 : isCounts (countsD cs) = true := isCounts_of hc
  have a5 : lenT (countsD cs) = k := by simp [lenT, countsD]; omega
  have a6 : ¬ isBeats k ts .none := by rintro ⟨ps, h, _⟩; cases h
  have w8 := word2_ok (d := d) hN hc (by omega) (is := []) (by simp) (by simp) []
  simp only [countsD, List.map_nil] at w8
  simp [word0_net hx1.1 hx1.2, word1_net hx1.1 hx1.2, word1_beats hN .none rfl a6, word2_net hx1.1 hx1.2, word2_counts hN o lt ho1.1 _ ho1.2, a1, word2_unlike hN _ lt (lay_counts _) _ a2 a3, word2_lot hN _ lt (lay_counts _) hl1.1 _ a4 a5 hl1.2]
  simp only [countsD]
  simp [w8, told_eq]
  have hL : 8 ≤ LIM := by unfold LIM; omega
  simp [hL, told_eq]
  exact hQ S3 v3 ((f1.trans f2).trans f3)
end K64
set_option linter.all false
set_option maxRecDepth 100000
namespace K64
open PySem Pd
variable {d : Nat}
/-! values made of beats -/
def AllLay (vs : List PyData) : Prop := ∀ x ∈ vs, x.canLay0 = true
theorem lay_tup {ds : List PyData} : (PyData.tuple ds).canLay0 = true ↔ AllLay ds := by simp only [PyData.canLay0, lay_all]; exact Iff.rfl
theorem lay_lst {ds : List PyData} : (PyData.list ds).canLay0 = true ↔ AllLay ds := by simp only [PyData.canLay0, lay_all]; exact Iff.rfl
theorem lay_prs (ps : List (Int × Int)) : AllLay (ps.map pr) := by
  intro x hx; obtain ⟨p, _, rfl⟩ := List.mem_map.mp hx; simp
theorem AllLay.app {a b : List PyData} (h : AllLay a) (h2 : AllLay b) : AllLay (a ++ b) := fun x hx => by
  rcases List.mem_append.mp hx with h' | h'
  · exact h x h'
  · exact h2 x h'
theorem AllLay.sub {a b : List PyData} (h : AllLay b) (hs : ∀ x ∈ a, x ∈ b) : AllLay a := fun x hx => h x (hs x hx)
theorem AllLay.one {x : PyData} (h : x.canLay0 = true) : AllLay [x] := fun y hy => by simp at hy; subst hy; exact h
theorem addT {xs ys : List PyData} (h : xs.length + ys.length ≤ 1000) (S : Sto) : bop .add (.v (.tuple xs)) (.v (.tuple ys)) S = some (.v (.tuple (xs ++ ys)), false) := by
  rw [bop_addT, if_pos (by unfold LIM; omega)]
theorem addL {xs ys : List PyData} (h : xs.length + ys.length ≤ 1000) (S : Sto) : bop .add (.v (.list xs)) (.v (.list ys)) S = some (.v (.list (xs ++ ys)), true) := by
  rw [bop_addL, if_pos (by unfold LIM; omega)]
theorem rev_pr (p : Int × Int) (S : Sto) : items (.v (pr p)) S = some (true, [W.v (.int p.1), W.v (.int p.2)]) := by simp [pr]
/-- beats with one put in -/
def oddTurn : Sts := .cons (.asg (.nm 4) (.bin .add (.nm 4) (.lst (.cons (.bin .add (.bin .add (.sl (.nm 2) .nil (.nm 3)) (.tup (.cons (.nm 5) .nil))) (.sl (.nm 2) (.nm 3) .nil)) (.cons (.bin .add (.bin .add (.sl (.nm 2) .nil (.nm 3)) (.tup (.cons (.nm 5) .nil))) (.sl (.nm 2) (.bin .add (.nm 3) (.cst (.int 1))) .nil)) .nil))))) .nil
theorem odd_loop (C : CallS) (N : Nat) (sub : Nat → Nat → Option Bool) (keeps : Nat → Bool) (S : Sto) (a b q : Option W) {ps : List (Int × Int)} (hl : ps.length ≤ 15) (k : Nat) : ∀ (xs found : List PyData) (p : Option W), AllLay xs → AllLay found → found.length + 2 * xs.length ≤ 100 →
    ∃ found' p', forLoop (forBody C N sub keeps (.nm 5) oddTurn) (xs.map W.v) [a, b, some (.v (.tuple (ps.map pr))), some (.v (.int k)), some (.v (.list found)), p, q] S = .ok (.next [a, b, some (.v (.tuple (ps.map pr))), some (.v (.int k)), some (.v (.list found')), p', q]) S ∧ AllLay found' ∧ found'.length ≤ 100
  | [], found, p, _, hf, hn => ⟨found, p, rfl, hf, by simpa using hn⟩
  | x :: xs, found, p, hx, hf, hn => by
    have l1 : (List.take k (ps.map pr)).length ≤ 15 := by simp; omega
    have l2 : (List.drop k (ps.map pr)).length ≤ 15 := by simp; omega
    have l3 : (List.drop (k + 1) (ps.map pr)).length ≤ 15 := by simp; omega
    have c1 : cutL (ps.map pr) none (some (k : Int)) = List.take k (ps.map pr) := cutL_to _ k
    have c2 : cutL (ps.map pr) (some (k : Int)) none = List.drop k (ps.map pr) := cutL_from _ k
    have c3 : cutL (ps.map pr) (some ((k : Int) + 1)) none = List.drop (k + 1) (ps.map pr) := cutL_from _ (k + 1)
    have a1 : ∀ S, bop .add (.v (.tuple (List.take k (ps.map pr)))) (.v (.tuple [x])) S = some (.v (.tuple (List.take k (ps.map pr) ++ [x])), false) := addT (by simp at l1 ⊢; omega)
    have a2 : ∀ S, bop .add (.v (.tuple (List.take k (ps.map pr) ++ [x]))) (.v (.tuple (List.drop k (ps.map pr)))) S = some (.v (.tuple (List.take k (ps.map pr) ++ [x] ++ List.drop k (ps.map pr))), false) := addT (by simp at l1 l2 ⊢; omega)
    have a3 : ∀ S, bop .add (.v (.tuple (List.take k (ps.map pr) ++ [x]))) (.v (.tuple (List.drop (k + 1) (ps.map pr)))) S = some (.v (.tuple (List.take k (ps.map pr) ++ [x] ++ List.drop (k + 1) (ps.map pr))), false) := addT (by simp at l1 l3 ⊢; omega)
    have a4 : ∀ u v S, bop .add (.v (.list found)) (.v (.list [u, v])) S = some (.v (.list (found ++ [u, v])), true) := fun u v => addL (by simp at hn ⊢; omega)
    have y1 : AllLay (List.take k (ps.map pr)) := (lay_prs ps).sub fun x h => List.mem_of_mem_take h
    have y2 : AllLay (List.drop k (ps.map pr)) := (lay_prs ps).sub fun x h => List.mem_of_mem_drop h
    have y3 : AllLay (List.drop (k + 1) (ps.map pr)) := (lay_prs ps).sub fun x h => List.mem_of_mem_drop h
    have yx := AllLay.one (hx x (by simp))
    have z1 : (PyData.tuple (List.take k (ps.map pr) ++ [x] ++ List.drop k (ps.map pr))).canLay0 = true := lay_tup.mpr ((y1.app yx).app y2)
    have z2 : (PyData.tuple (List.take k (ps.map pr) ++ [x] ++ List.drop (k + 1) (ps.map pr))).canLay0 = true := lay_tup.mpr ((y1.app yx).app y3)
    obtain ⟨f', p', e, h1, h2⟩ := odd_loop C N sub keeps S a b q hl k xs (found ++ [.tuple (List.take k (ps.map pr) ++ [x] ++ List.drop k (ps.map pr)), .tuple (List.take k (ps.map pr) ++ [x] ++ List.drop (k + 1) (ps.map pr))]) (some (.v x)) (hx.sub fun z h => by simp [h])
      (hf.app fun z hz => by simp only [List.mem_cons, List.not_mem_nil, or_false] at hz; rcases hz with rfl | rfl; exact z1; exact z2) (by simp at hn ⊢; omega)
    refine ⟨f', p', ?_, h1, h2⟩
    rw [List.map_cons, for_cons, forBody_eq]
    have hstep : evSs C N sub keeps oddTurn [a, b, some (.v (.tuple (ps.map pr))), some (.v (.int k)), some (.v (.list found)), some (.v x), q] S = .ok (.next [a, b, some (.v (.tuple (ps.map pr))), some (.v (.int k)), some (.v (.list (found ++ [.tuple (List.take k (ps.map pr) ++ [x] ++ List.drop k (ps.map pr)), .tuple (List.take k (ps.map pr) ++ [x] ++ List.drop (k + 1) (ps.map pr))]))), some (.v x), q]) S := by
      simp [oddTurn, c1, c2, c3, -List.map_take, -List.map_drop, a1, a2, a3, a4, -List.append_assoc]
    simp only [bindT_nm, List.set_cons_succ, List.set_cons_zero, hstep, R.bind_ok]
    exact e
end K64
set_option linter.all false
set_option maxRecDepth 100000
namespace K64
open PySem Pd
variable {d : Nat}
def swp (p : Int × Int) : Int × Int := (p.2, p.1)
theorem mkSeq_rev (t : Bool) (ds : List PyData) : mkSeq t (ds.map W.v).reverse = .v (if t then .tuple ds.reverse else .list ds.reverse) := by
  rw [← List.map_reverse, mkSeq_map]
theorem mkSeq_revF (t : Bool) (ps : List (Int × Int)) : mkSeq t (ps.map fun p => W.v (pr p)).reverse = .v (if t then .tuple (ps.map pr).reverse else .list (ps.map pr).reverse) := by
  rw [← mkSeq_rev, List.map_map]; rfl
theorem sorted_swp (ps : List (Int × Int)) (S : Sto) : biF .sorted [.v (.list (ps.map fun p => pr (swp p)))] S = some (.v (.list ((sortL ltP (ps.map swp)).map pr)), true) := by
  have := sorted_pr (ps.map swp) S
  rwa [List.map_map] at this
theorem wp_values {S : Sto} {l n : Nat} {Q : W × Bool → Sto → Prop} {E : Exn → Sto → Prop} (h : Vat S l (n + 1)) {k : Int} {ts ps : List (Int × Int)} (ht : ts.length ≤ 15) (hp : ps.length ≤ 15)
    (hQ : ∀ (vs : List PyData) (S' : Sto), AllLay vs → Vat S' l n → Fr S S' l → Q (.v (.list vs), true) S') : (callN Pr (d+2) 34 [.loc l, .v (netD k ts), .v (.tuple (ps.map pr))] S).wp Q E := by
  refine wp_call fd_law_values rfl rfl ?_
  have e3 : ts.map (W.v ∘ pr) = ts.map fun p => W.v (pr p) := rfl
  have e3' : ps.map (W.v ∘ pr) = ps.map fun p => W.v (pr p) := rfl
  have c0 : cutL (ps.map pr) none (some 1) = List.take 1 (ps.map pr) := cutL_to _ 1
  have c1 : cutL (ps.map pr) (some 1) none = List.drop 1 (ps.map pr) := cutL_from _ 1
  have a0 : ∀ S, bop .add (.v (.tuple (ps.map pr))) (.v (.tuple (List.take 1 (ps.map pr)))) S = some (.v (.tuple (ps.map pr ++ List.take 1 (ps.map pr))), false) := addT (by simp; omega)
  have a0' : ps.length + min 1 ps.length ≤ LIM := by unfold LIM; omega
  have s0 := fun S => sorted_swp ps S
  have lc1 : ∀ (f : W → Sto → R (List W)) (S : Sto), (∀ p : Int × Int, f (.v (pr p)) S = .ok [.v (pr (swp p))] S) → lcLoop f (ts.map fun p => W.v (pr p)) S = .ok (ts.map fun p => W.v (pr (swp p))) S := fun f S hf => lc_map _ _ _ fun x _ => hf x
  have lc2 : ∀ (f : W → Sto → R (List W)) (S : Sto), (∀ p : Int × Int, f (.v (pr p)) S = .ok [.v (pr (swp p))] S) → lcLoop f (ps.map fun p => W.v (pr p)) S = .ok (ps.map fun p => W.v (pr (swp p))) S := fun f S hf => lc_map _ _ _ fun x _ => hf x
  have m1 := mkSeq_fun false ts fun p => pr (swp p)
  have m2 := mkSeq_fun false ps fun p => pr (swp p)
  simp only [fd_law_values, Pd.start, evSs_cons, wp_bind, evS_asg, evE_call, evEs_cons, evE_nm, evE_bin, evE_blt, evE_cst, evEs_nil]
  simp
  refine wp_lad (n := n) h (by omega) (by omega) fun q S1 q0 q1 v1 f1 => ?_
  obtain ⟨K, rfl⟩ : ∃ K : Nat, q = K := ⟨q.toNat, by omega⟩
  have hK : K ≤ ps.length := by omega
  simp [e3, e3', c0, c1, a0, a0', ix_net1, -List.map_take, -List.map_drop, -List.drop_one, mkSeq_revF, -bop_addT, -bop_addL]
  rw [lc1 _ _ (fun p => by simp [lcStep, rev_pr]; rfl)]
  simp [m1, -List.map_take, -List.map_drop, -List.drop_one, -bop_addT, -bop_addL]
  rw [lc2 _ _ (fun p => by simp [lcStep, rev_pr]; rfl)]
  simp [m2, s0, ix_net, -List.map_take, -List.map_drop, -List.drop_one, -bop_addT, -bop_addL]
  have y0 := lay_prs ps
  have y1 := lay_prs ts
  have lx : AllLay [.none, .tuple [.int 0], .tuple [.int 0, .int 0], .list [.int 0, .int 1], .tuple [.int 0, .int k], .tuple [.int (-1), .int 0], .str "01", .tuple [.bool true, .int 0], .tuple [.int 0, .int 1, .int 2], .tuple [.int 0, .int 1], .tuple [.int 1, .int 0]] := by
    intro x hx
    simp only [List.mem_cons, List.not_mem_nil, or_false] at hx
    rcases hx with rfl | rfl | rfl | rfl | rfl | rfl | rfl | rfl | rfl | rfl | rfl <;> first | exact lay_01 | simp [PyData.canLay0, PyData.canLayAll0]
  have lf : AllLay [PyData.tuple (List.map pr ps), PyData.list (List.map pr ps), PyData.tuple (List.map pr ps).reverse,
                  PyData.tuple (List.drop 1 (List.map pr ps)),
                  PyData.tuple (List.map pr ps ++ List.take 1 (List.map pr ps)), PyData.tuple (List.map pr ts),
                  PyData.tuple (List.map (fun p => pr (swp p)) ts),
                  PyData.tuple (List.map pr (sortL ltP (List.map swp ps)))] := by
    intro x hx
    simp only [List.mem_cons, List.not_mem_nil, or_false] at hx
    rcases hx with rfl | rfl | rfl | rfl | rfl | rfl | rfl | rfl
    · exact lay_tup.mpr y0
    · exact lay_lst.mpr y0
    · exact lay_tup.mpr (y0.sub fun x h => List.mem_reverse.mp h)
    · exact lay_tup.mpr (y0.sub fun x h => List.mem_of_mem_drop h)
    · exact lay_tup.mpr (y0.app (y0.sub fun x h => List.mem_of_mem_take h))
    · exact lay_tup.mpr y1
    · refine lay_tup.mpr fun x hx => ?_
      obtain ⟨p, _, rfl⟩ := List.mem_map.mp hx
      simp
    · exact lay_tup.mpr (lay_prs _)
  obtain ⟨f', p', e, hf1, hf2⟩ := odd_loop (callN Pr (d+1)) Pr.fuel Pr.sub Pr.keeps S1 (some (.loc l)) (some (.v (netD k ts))) none hp K _ _ none lx lf (by simp)
  simp only [List.map_cons, List.map_nil, oddTurn] at e
  rw [e]
  have fin : ∀ (E' : Exn → Sto → Prop) (vs : List PyData), AllLay vs → vs.length ≤ 110 → (R.of (bop .add (.v (.list vs)) (.v (.list [.tuple [], .none, .int 7, .str "beats", .tuple [.tuple []]])) S1) S1).wp (fun a S => Q (a.1, a.2) S) E' := by
    intro E' vs hv hn
    rw [addL (by simp; omega)]
    refine hQ _ _ (hv.app fun x hx => ?_) v1 f1
    simp only [List.mem_cons, List.not_mem_nil, or_false] at hx
    rcases hx with rfl | rfl | rfl | rfl | rfl <;> first | exact lay_beats | simp [PyData.canLay0, PyData.canLayAll0]
  by_cases hlt : K < ps.length
  · have l1 : (List.take K (ps.map pr)).length ≤ 15 := by simp; omega
    have l3 : (List.drop (K + 1) (ps.map pr)).length ≤ 15 := by simp; omega
    have d1 : cutL (ps.map pr) none (some (K : Int)) = List.take K (ps.map pr) := cutL_to _ K
    have d3 : cutL (ps.map pr) (some ((K : Int) + 1)) none = List.drop (K + 1) (ps.map pr) := cutL_from _ (K + 1)
    have x1 : L2.atI (ps.map pr) (K : Int) = some (pr ps[K]) := by rw [atI_nat]; simp [hlt]
    have r1 : ∀ S, (items (.v (pr ps[K])) S).map (fun p => (mkSeq p.1 p.2.reverse, !p.1)) = some (.v (pr (swp ps[K])), false) := fun S => by rw [rev_pr]; rfl
    have b1 : ∀ S, bop .add (.v (.tuple (List.take K (ps.map pr)))) (.v (.tuple [pr (swp ps[K])])) S = some (.v (.tuple (List.take K (ps.map pr) ++ [pr (swp ps[K])])), false) := addT (by simp at l1 ⊢; omega)
    have b2 : ∀ S, bop .add (.v (.tuple (List.take K (ps.map pr) ++ [pr (swp ps[K])]))) (.v (.tuple (List.drop (K + 1) (ps.map pr)))) S = some (.v (.tuple (List.take K (ps.map pr) ++ [pr (swp ps[K])] ++ List.drop (K + 1) (ps.map pr))), false) := addT (by simp at l1 l3 ⊢; omega)
    have b3 : ∀ S, bop .add (.v (.tuple (ps.map pr))) (.v (.tuple [pr (swp ps[K])])) S = some (.v (.tuple ((ps ++ [swp ps[K]]).map pr)), false) := fun S => by
      rw [addT (by simp; omega)]; simp
    have b4 : ∀ u v S, bop .add (.v (.list f')) (.v (.list [u, v])) S = some (.v (.list (f' ++ [u, v])), true) := fun u v => addL (by simp; omega)
    have b5 := fun S => sorted_prT (ps ++ [swp ps[K]]) S
    simp [hlt, d1, d3, x1, r1, b1, b2, b3, b4, b5, -bop_addT, -bop_addL, -List.map_take, -List.map_drop, -List.map_append, -List.append_assoc]
    refine fin _ _ (hf1.app fun x hx => ?_) ?_
    rotate_left
    · simp; omega
    simp only [List.mem_cons, List.not_mem_nil, or_false] at hx
    rcases hx with rfl | rfl
    · exact lay_tup.mpr (((y0.sub fun x h => List.mem_of_mem_take h).app (AllLay.one (by simp))).app (y0.sub fun x h => List.mem_of_mem_drop h))
    · exact lay_tup.mpr (lay_prs _)
  · simp [hlt, -bop_addT, -bop_addL]
    exact fin _ f' hf1 (by omega)
end K64
set_option linter.all false
set_option maxRecDepth 100000
namespace K64
open PySem Pd
variable {d : Nat}
/-! counting -/
def both (lot : List Int) (p : Int × Int) : Bool := decide (p.1 ∈ lot) && decide (p.2 ∈ lot)
def outw (lot : List Int) (p : Int × Int) : Bool := decide (p.1 ∈ lot) && !decide (p.2 ∈ lot)
theorem sum_one {lot : List Int} (h : lot.Nodup) (a : Int) : (lot.map fun i => if a = i then (1 : Int) else 0).sum = if a ∈ lot then 1 else 0 := by
  induction lot with
  | nil => simp
  | cons i lot ih =>
    obtain ⟨h1, h2⟩ := List.nodup_cons.mp h
    rw [List.map_cons, List.sum_cons, ih h2]
    by_cases e : a = i
    · subst e; simp [h1]
    · simp [e]
theorem sum_add {α : Type} (f g : α → Int) : ∀ xs : List α, (xs.map fun x => f x + g x).sum = (xs.map f).sum + (xs.map g).sum
  | [] => rfl
  | x :: xs => by simp only [List.map_cons, List.sum_cons, sum_add f g xs]; omega
theorem sum_scores {lot : List Int} (h : lot.Nodup) : ∀ ps : List (Int × Int), (lot.map fun i => scoreOf ps i).sum = ((ps.filter (both lot)).length : Int) + (ps.filter (outw lot)).length
  | [] => by
    have : ∀ l : List Int, (l.map fun i => scoreOf [] i).sum = 0 := fun l => by
      induction l with
      | nil => rfl
      | cons a l ih => rw [List.map_cons, List.sum_cons, ih]; rfl
    simp [this]
  | p :: ps => by
    have e : ∀ i, scoreOf (p :: ps) i = scoreOf ps i + (if p.1 = i then 1 else 0) := fun i => by
      unfold scoreOf
      by_cases h : p.1 = i <;> simp [h]
    have e2 : (lot.map fun i => scoreOf (p :: ps) i) = lot.map fun i => scoreOf ps i + (if p.1 = i then 1 else 0) := List.map_congr_left fun i _ => e i
    rw [e2, sum_add, sum_scores h ps, sum_one h]
    by_cases h1 : p.1 ∈ lot <;> by_cases h2 : p.2 ∈ lot <;> simp [both, outw, h1, h2] <;> omega
theorem both_turn (lot : List Int) (p : Int × Int) : both lot (turnP p) = both lot p := by
  unfold turnP
  split
  · rfl
  · simp [both, Bool.and_comm]
theorem within_eq {ts ps : List (Int × Int)} (lot : List Int) (h : (ps.map turnP).Perm ts) : within ts lot = (ps.filter (both lot)).length := by
  have e1 : within ts lot = ((ts.filter (both lot)).length : Int) := rfl
  rw [e1, ← (h.filter (both lot)).length_eq, List.filter_map, List.length_map]
  congr 2
  exact List.filter_congr fun p _ => both_turn lot p
/-! drawn beats are beats -/
theorem all2_turn {ts qs : List (Int × Int)} (h : All2 (fun t q => q = t ∨ q = (t.2, t.1)) ts qs) (ht : ∀ t ∈ ts, t.1 < t.2) : qs.map turnP = ts := by
  induction h with
  | nil => rfl
  | @cons t q ts qs h _ ih =>
    have h1 := ht t (by simp)
    rw [List.map_cons, ih fun t h => ht t (by simp [h])]
    congr 1
    rcases h with rfl | rfl
    · simp [turnP, h1]
    · have : ¬ t.2 < t.1 := by omega
      simp [turnP, this]
theorem all2_len {α β : Type} {P : α → β → Prop} {xs : List α} {ys : List β} (h : All2 P xs ys) : ys.length = xs.length := by
  induction h with
  | nil => rfl
  | cons _ _ ih => simp [ih]
theorem drawn_beats {n : Int} {ts qs : List (Int × Int)} (hN : IsNet n ts) (h : All2 (fun t q => q = t ∨ q = (t.2, t.1)) ts qs) : isBeats n ts (.tuple ((sortL ltP qs).map pr)) ∧ ((sortL ltP qs).map turnP).Perm ts ∧ (sortL ltP qs).length = ts.length := by
  have e := all2_turn h fun t ht => (hN.2.1 t ht).2.1
  have hp : ((sortL ltP qs).map turnP).Perm ts := e ▸ (sortL_perm ltP qs).map turnP
  have hnd : ((sortL ltP qs).map turnP).Nodup := hp.nodup_iff.mpr (hN.2.2.imp fun {a b} h => fun e => by subst e; exact lexlt_irrefl _ h)
  refine ⟨⟨_, rfl, fun p hm => ?_, strict_of (sortL_sorted ordP qs) (List.Pairwise.of_map turnP (fun a b h e => h (by rw [e])) hnd), sortL_of ordP hp.symm (sorted_of hN.2.2)⟩, hp, by rw [(sortL_perm ltP qs).length_eq, all2_len h]⟩
  have := hN.2.1 _ (hp.mem_iff.mp (List.mem_map.mpr ⟨p, hm, rfl⟩))
  unfold turnP at this
  split at this <;> (try simp only at this) <;> omega
def scs (n : Nat) (ps : List (Int × Int)) : List Int := (List.range n).map fun (t : Nat) => scoreOf ps t
theorem scs_len (n : Nat) (ps : List (Int × Int)) : (scs n ps).length = n := by simp [scs]
theorem scs_pos (n : Nat) (ps : List (Int × Int)) : ∀ c ∈ scs n ps, 0 ≤ c := fun c hc => by
  obtain ⟨t, _, rfl⟩ := List.mem_map.mp hc
  unfold scoreOf; omega
theorem scs_D (n : Nat) (ps : List (Int × Int)) : countsD (scs n ps) = scoresD n ps := by
  unfold countsD scs scoresD; rw [List.map_map]; rfl
theorem sumAt_scs {n : Nat} {ps : List (Int × Int)} {lot : List Int} (h : ∀ i ∈ lot, 0 ≤ i ∧ i < n) : sumAt (scs n ps) lot = (lot.map fun i => scoreOf ps i).sum := by
  unfold sumAt
  congr 1
  refine List.map_congr_left fun i hi => ?_
  obtain ⟨h0, h1⟩ := h i hi
  have hn : i.toNat < n := by omega
  have : ((i.toNat : Nat) : Int) = i := by omega
  simp [scs, List.getD, hn, this]
/-- what the law asks of the spare -/
theorem spare_law {n : Nat} {ts ps : List (Int × Int)} {lot : List Int} (hp : (ps.map turnP).Perm ts) (h : ∀ i ∈ lot, 0 ≤ i ∧ i < n) (hl : lot.Pairwise (· < ·)) :
    sumAt (scs n ps) lot - within ts lot = (ps.filter (outw lot)).length := by
  rw [sumAt_scs h, sum_scores (hl.imp fun {a b} h => by omega), within_eq lot hp]
  omega
end K64
set_option linter.all false
set_option maxRecDepth 100000
namespace K64
open PySem Pd
variable {d : Nat}
theorem place_10 (a b : W) : place [] [1, 0] [a, b] = [b, a] := rfl
theorem place_210 (a b c : W) : place [] [2, 1, 0] [a, b, c] = [c, b, a] := rfl
theorem alike_bools (b : Bool) (S : Sto) : callN Pr (d + 2) 24 [.v (.list [.bool b, .bool b]), .v (.list [.bool b, .bool b])] S = .ok (.v (.bool true), false) S :=
  alike_refl (k := 1) (.lst (by simp) (by simp; exact .bool b)) d S
theorem alike_ints (a b : Int) (S : Sto) : callN Pr (d + 2) 24 [.v (.list [.int a, .int b]), .v (.list [.int a, .int b])] S = .ok (.v (.bool true), false) S :=
  alike_refl (k := 1) (.lst (by simp) (by simp; exact ⟨.int a, .int b⟩)) d S
theorem alike_scores {n : Nat} (hn : n ≤ 1000) (ps : List (Int × Int)) (S : Sto) : callN Pr (d + 3) 24 [.v (.list [scoresD n ps, scoresD n ps]), .v (.list [scoresD n ps, scoresD n ps])] S = .ok (.v (.bool true), false) S := by
  have h : Fine 1 (scoresD n ps) := .tup (by simpa using hn) fun x hx => by
    obtain ⟨t, _, rfl⟩ := List.mem_map.mp hx
    exact .int _
  exact alike_refl (k := 2) (.lst (by simp) (by simp; exact h)) d S
theorem neStr (a b : Str) (ha : (PyData.str a).canLay0 = true) (hb : (PyData.str b).canLay0 = true) (S : Sto) : cop .ne (.v (.str a)) (.v (.str b)) S = some (!(a == b)) := by
  have := eqStr a b ha hb S
  simp only [cop] at this ⊢
  rw [this]; rfl
theorem notin_int (a : Int) (xs : List Int) (S : Sto) : cop .nmem (.v (.int a)) (.v (.tuple (xs.map PyData.int))) S = some (!decide (a ∈ xs)) := by
  have := mem_int a xs S
  simp only [cop] at this ⊢
  rw [this]; rfl
def rightTurn : Sts := .cons (.asg (.nm 6) (.call false 35 (.cons (.nm 1) (.cons (.nm 4) .nil))))
  (.cons (.ifs (.or (.not (.call false 24 (.cons (.lst (.cons (.call false 28 (.cons (.nm 1) (.cons (.nm 4) .nil))) (.cons (.callK false 28 .nil [1, 0] (.cons (.nm 4) (.cons (.nm 1) .nil))) .nil))) (.cons (.lst (.cons (.nm 6) (.cons (.nm 6) .nil))) .nil)))) (.and (.not (.nm 6)) (.cmp .ne (.call false 31 (.cons (.cst (.int 1)) (.cons (.lst (.cons (.nm 1) (.cons (.nm 4) .nil))) .nil))) (.cst (.str "beats"))))) (.cons (.ret (.cst (.bool false)))
  .nil) .nil)
  .nil)
theorem right_loop {n : Int} {ts : List (Int × Int)} (hN : IsNet n ts) (N : Nat) (sub : Nat → Nat → Option Bool) (keeps : Nat → Bool) (S : Sto) (a b c e5 : Option W) (rest : List (Option W)) : ∀ (vs : List PyData) (p q : Option W), AllLay vs →
    ∃ p' q', forLoop (forBody (callN Pr (d + 10)) N sub keeps (.nm 4) rightTurn) (vs.map W.v) (a :: some (.v (netD n ts)) :: b :: c :: p :: e5 :: q :: rest) S = .ok (.next (a :: some (.v (netD n ts)) :: b :: c :: p' :: e5 :: q' :: rest)) S
  | [], p, q, _ => ⟨p, q, rfl⟩
  | x :: vs, p, q, hv => by
    have hx := hv x (by simp)
    obtain ⟨p', q', e⟩ := right_loop hN N sub keeps S a b c e5 rest vs (some (.v x)) (some (.v (.bool (beatsB n ts x)))) (AllLay.sub hv fun z h => by simp [h])
    refine ⟨p', q', ?_⟩
    rw [List.map_cons, for_cons, forBody_eq]
    have hstep : evSs (callN Pr (d + 10)) N sub keeps rightTurn (a :: some (.v (netD n ts)) :: b :: c :: some (.v x) :: e5 :: q :: rest) S = .ok (.next (a :: some (.v (netD n ts)) :: b :: c :: some (.v x) :: e5 :: some (.v (.bool (beatsB n ts x))) :: rest)) S := by
      simp [rightTurn, ok_law_is_beats hN x hx, ok_is_beats hN x hx, place_10, alike_bools]
      cases hb : beatsB n ts x with
      | true => simp
      | false =>
        have hnb : ¬ isBeats n ts x := fun h => by rw [beatsB_iff.mpr h] at hb; cases hb
        simp [word1_beats hN x hx hnb, neStr _ _ lay_beats lay_beats]
    simp only [bindT_nm, List.set_cons_succ, List.set_cons_zero, hstep, R.bind_ok]
    exact e
end K64
set_option linter.all false
set_option maxRecDepth 100000
namespace K64
open PySem Pd
variable {d : Nat}
theorem ix_pr0 (p : Int × Int) (S : Sto) : ixW (.v (pr p)) (.v (.int 0)) S = some (.v (.int p.1)) := by simp [pr]
theorem ix_pr1 (p : Int × Int) (S : Sto) : ixW (.v (pr p)) (.v (.int 1)) S = some (.v (.int p.2)) := by simp [pr]
def turn2 : Sts := (.cons (.asg (.tup [(.nm 9), (.nm 10)]) (.tup (.cons (.call true 33 (.cons (.nm 0) (.cons (.ix (.nm 1) (.cst (.int 0))) .nil))) (.cons (.blt .tuple (.cons (.lc (.bin .add (.nm 14) (.call true 25 (.cons (.nm 0) (.cons (.cst (.int 3)) .nil)))) (.nm 14) (.seq (.nm 3)) .nil [14]) .nil)) .nil))))
  (.cons (.asg (.nm 6) (.blt .len (.cons (.lc (.nm 12) (.nm 12) (.seq (.nm 2)) (.cons (.and (.cmp .mem (.ix (.nm 12) (.cst (.int 0))) (.nm 9)) (.cmp .nmem (.ix (.nm 12) (.cst (.int 1))) (.nm 9))) .nil) [12]) .nil)))
  (.cons (.asg (.nm 7) (.blt .len (.cons (.lc (.nm 13) (.nm 13) (.seq (.ix (.nm 1) (.cst (.int 1)))) (.cons (.and (.cmp .mem (.ix (.nm 13) (.cst (.int 0))) (.nm 9)) (.cmp .mem (.ix (.nm 13) (.cst (.int 1))) (.nm 9))) .nil) [13]) .nil)))
  (.cons (.asg (.nm 8) (.lst (.cons (.call false 30 (.cons (.nm 1) (.cons (.nm 3) (.cons (.nm 9) .nil)))) (.cons (.callK false 30 .nil [2, 1, 0] (.cons (.nm 9) (.cons (.nm 10) (.cons (.nm 1) .nil)))) .nil))))
  (.cons (.ifs (.not (.call false 24 (.cons (.nm 8) (.cons (.lst (.cons (.nm 6) (.cons (.bin .sub (.blt .sum (.cons (.lc (.ix (.nm 10) (.nm 11)) (.nm 11) (.seq (.nm 9)) .nil [11]) .nil)) (.nm 7)) .nil))) .nil)))) (.cons (.ret (.cst (.bool false)))
  .nil) .nil)
  .nil)))))
theorem items_counts (cs : List Int) (S : Sto) : items (.v (countsD cs)) S = some (true, cs.map fun i => W.v (.int i)) := by simp [countsD]
theorem all2_pos {cs os : List Int} (h : All2 (fun a b => 0 ≤ b - a) cs os) (hc : ∀ c ∈ cs, 0 ≤ c) : ∀ c ∈ os, 0 ≤ c := by
  induction h with
  | nil => intro c hc; cases hc
  | @cons a b cs os h _ ih =>
    intro c hm
    rcases List.mem_cons.mp hm with rfl | hm
    · have := hc a (by simp); omega
    · exact ih (fun c h => hc c (by simp [h])) c hm
theorem wp_turn2 {S : Sto} {l n k : Nat} (N : Nat) (sub : Nat → Nat → Option Bool) (keeps : Nat → Bool) {E : Exn → Sto → Prop} {Q : Out → Sto → Prop} (h : Vat S l (n + 40)) (hk : k ≤ 6) {ts ps : List (Int × Int)} (hN : IsNet k ts) (hp : (ps.map turnP).Perm ts) (p4 p5 p6 p7 p8 p9 p10 : Option W)
    (hQ : ∀ S' p6 p7 p8 p9 p10, Vat S' l n → Fr S S' l → Q (.next [some (.loc l), some (.v (netD k ts)), some (.v (.tuple (ps.map pr))), some (.v (countsD (scs k ps))), p4, p5, p6, p7, p8, p9, p10, none, none, none, none]) S') :
    (evSs (callN Pr (d + 11)) N sub keeps turn2 [some (.loc l), some (.v (netD k ts)), some (.v (.tuple (ps.map pr))), some (.v (countsD (scs k ps))), p4, p5, p6, p7, p8, p9, p10, none, none, none, none] S).wp Q E := by
  have e3 : ps.map (W.v ∘ pr) = ps.map fun p => W.v (pr p) := rfl
  have e4 : ts.map (W.v ∘ pr) = ts.map fun p => W.v (pr p) := rfl
  simp only [turn2, evSs_cons, wp_bind, evS_asg, evE_call, evEs_cons, evE_nm, evEs_nil, wp_stm, evE_tup]
  simp [ix_net]
  refine wp_drawn_lot (n := n + 20) h hk fun is S1 hi hs v1 f1 => ?_
  simp [items_counts]
  refine wp_lc_draws (l := l) (fun i => W.v (.int i)) (fun i => W.v (.int i)) (fun a b => 0 ≤ b - a) n (v1.less (by rw [scs_len]; omega)) (fun x hx S n hv => ?_) fun os S2 al v2 f2 => ?_
  · simp [lcStep]
    refine wp_lad hv (by decide) (by decide) fun q S' _ _ hv' hf' => ?_
    simp
    exact ⟨by omega, hv', hf'⟩
  · have m1 := mkSeq_fun false os PyData.int
    have hc : W.v (.tuple (os.map PyData.int)) = W.v (countsD os) := rfl
    simp [m1, hc, e3]
    have hlen : os.length = k := by rw [all2_len al, scs_len]
    have hpos : ∀ c ∈ os, 0 ≤ c := all2_pos al (scs_pos k ps)
    rw [lc_pure (fun p => W.v (pr p)) (outw is) (fun p => W.v (pr p)) ps (fun p _ => by
      simp [lcStep, ix_pr0, ix_pr1, countsD, mem_int]
      by_cases h1 : p.1 ∈ is <;> by_cases h2 : p.2 ∈ is <;> simp [h1, h2, notin_int, outw])]
    have m2 := mkSeq_fun false (ps.filter (outw is)) pr
    simp [m2, ix_net1, e4]
    rw [lc_pure (fun p => W.v (pr p)) (both is) (fun p => W.v (pr p)) ts (fun p _ => by
      simp [lcStep, ix_pr0, ix_pr1, countsD, mem_int]
      by_cases h1 : p.1 ∈ is <;> by_cases h2 : p.2 ∈ is <;> simp [h1, h2, mem_int, both])]
    have m3 := mkSeq_fun false (ts.filter (both is)) pr
    have s1 := sp_ok (d := d + 3) hN (cs := scs k ps) (is := is) (scs_pos k ps) (by rw [scs_len]) hi hs []
    have s2 := sp_ok (d := d + 3) hN (cs := os) (is := is) hpos (by rw [hlen]) hi hs []
    simp [m3, s1, s2, place_210, items_counts]
    rw [lc_map (fun i => W.v (.int i)) (fun i : Int => W.v (.int (os.getD i.toNat 0))) is (fun i hm => by
      obtain ⟨h0, h1⟩ := hi i hm
      have e6 : L2.atI (os.map PyData.int) i = some (.int (os.getD i.toNat 0)) := by
        unfold L2.atI
        rw [List.length_map, hlen, ixN_ok h0 h1]
        have : i.toNat < os.length := by omega
        simp [this]
      simp [lcStep, countsD, e6])]
    have m4 := mkSeq_fun false is (fun i => PyData.int (os.getD i.toNat 0))
    have sl := spare_law (n := k) hp hi hs
    have hw : within ts is = ((ts.filter (both is)).length : Int) := rfl
    have hs2 : (is.map fun i => os.getD i.toNat 0).sum = sumAt os is := rfl
    simp only [R.calm_ok, R.sto_ok, unlock_none, R.bind_ok, wp_ok, m4, Bool.false_eq_true, if_false, biF_sum, hs2, R.of_some, bop_subI, sl]
    rw [← hw]
    have al2 := alike_ints (d := d + 9) ((ps.filter (outw is)).length : Int) (sumAt os is - within ts is) []
    simp [al2]
    exact hQ S2 _ _ _ _ _ v2 (f1.trans f2)
theorem wp_right {S : Sto} {l n : Nat} {Q : W × Bool → Sto → Prop} {E : Exn → Sto → Prop} (h : Vat S l (n + 500))
    (hQ : ∀ S', Vat S' l n → Fr S S' l → Q (.v (.bool true), false) S') : (callN Pr (d+12) 38 [.loc l] S).wp Q E := by
  refine wp_call fd_law_right rfl rfl ?_
  simp only [fd_law_right, Pd.start, evSs_cons, wp_bind, evS_asg, evE_call, evEs_cons, evE_nm, evEs_nil, wp_stm]
  simp
  refine wp_one_of (n := n + 499) h (by simp) (by simp) fun x S1 hx v1 f1 => ?_
  obtain ⟨k, rfl, hk⟩ : ∃ k : Nat, x = .int k ∧ k ≤ 6 := by
    simp only [List.mem_cons, List.not_mem_nil, or_false] at hx
    rcases hx with rfl | rfl | rfl | rfl | rfl | rfl | rfl
    · exact ⟨5, rfl, by decide⟩
    · exact ⟨4, rfl, by decide⟩
    · exact ⟨6, rfl, by decide⟩
    · exact ⟨3, rfl, by decide⟩
    · exact ⟨2, rfl, by decide⟩
    · exact ⟨1, rfl, by decide⟩
    · exact ⟨0, rfl, by decide⟩
  simp only [wp_ok]
  refine wp_law_net (n := n + 479) v1 hk fun ts S2 hN hts v2 f2 => ?_
  simp only []
  refine wp_law_beats (n := n + 459) v2 hts fun qs S3 al v3 f3 => ?_
  obtain ⟨hb, hp, hlen⟩ := drawn_beats hN al
  generalize hps : sortL ltP qs = ps at *
  have c1 : decide ((k : Int) ≤ (LIM : Int)) = true := decide_eq_true (by unfold LIM; omega)
  have c2 : (k : Int) ≤ (LIM : Int) := of_decide_eq_true c1
  have c3 : inR (k : Int) = true := inR_ok (by omega)
  have e3 : ps.map (W.v ∘ pr) = ps.map fun p => W.v (pr p) := rfl
  simp [ix_net, c2, c3, rngL_map, e3]
  rw [lc_map (fun (i : Nat) => W.v (.int i)) (fun (i : Nat) => W.v (.int (scoreOf ps i))) (List.range k) (fun i _ => by
    simp [lcStep, e3]
    rw [lc_pure (fun p => W.v (pr p)) (fun p : Int × Int => p.1 == (i : Int)) (fun p => W.v (pr p)) ps (fun p _ => by
      simp [lcStep, ix_pr0]
      by_cases h1 : p.1 = (i : Int) <;> simp [h1])]
    have m2 := mkSeq_fun false (ps.filter fun p : Int × Int => p.1 == (i : Int)) pr
    simp [m2, scoreOf])]
  have m1 := mkSeq_fun false (List.range k) fun (i : Nat) => PyData.int (scoreOf ps i)
  have hsc : W.v (.tuple ((List.range k).map fun (i : Nat) => PyData.int (scoreOf ps i))) = W.v (countsD (scs k ps)) := by rw [scs_D]; rfl
  simp [m1, hsc]
  refine wp_values (n := n + 458) v3 hts (by omega) fun vs S4 hvs v4 f4 => ?_
  obtain ⟨p', q', e⟩ := right_loop (d := d + 1) hN Pr.fuel Pr.sub Pr.keeps S4 (some (.loc l)) (some (.v (.tuple (ps.map pr)))) (some (.v (countsD (scs k ps)))) none [none, none, none, none, none, none, none, none] vs none none hvs
  unfold rightTurn at e
  simp only [items_lst, R.of_some, wp_ok, lockAt_v]
  rw [e]
  have s1 := ok_scores_of (d := d + 4) (n := k) (by omega) hN hb []
  have al1 := alike_scores (d := d + 8) (n := k) (by omega) ps []
  rw [← scs_D] at s1 al1
  have c5 : (5 : Int) ≤ (LIM : Int) ∧ inR 5 = true := ⟨by decide, by decide⟩
  simp [s1, place_10, al1, c5]
  refine wp_for (fun xs ρ S => (∃ p4 p5 p6 p7 p8 p9 p10, ρ = [some (.loc l), some (.v (netD k ts)), some (.v (.tuple (ps.map pr))), some (.v (countsD (scs k ps))), p4, p5, p6, p7, p8, p9, p10, none, none, none, none]) ∧ Vat S l (n + 3 + 40 * xs.length) ∧ Fr S4 S l)
    ⟨⟨_, _, _, _, _, _, _, rfl⟩, v4.less (by simp), Fr.refl _ _⟩ ?_ ?_
  · rintro ρ S5 ⟨⟨p4, p5, p6, p7, p8, p9, p10, rfl⟩, v5, f5⟩
    simp
    exact wp_refused (n := n) v5 hk hN (scs_pos k ps) (scs_len k ps) fun S6 v6 f6 => hQ S6 v6 ((((f1.trans f2).trans f3).trans f4).trans (f5.trans f6))
  · rintro x r ρ S5 ⟨⟨p4, p5, p6, p7, p8, p9, p10, rfl⟩, v5, f5⟩
    rw [forBody_eq]
    simp only [bindT_nm, List.set_cons_succ, List.set_cons_zero]
    exact wp_turn2 (n := n + 3 + 40 * r.length) Pr.fuel Pr.sub Pr.keeps (v5.less (by simp; omega)) hk hN hp p4 (some x) p6 p7 p8 p9 p10 fun S6 q6 q7 q8 q9 q10 v6 f6 => ⟨⟨_, _, _, _, _, _, _, rfl⟩, v6, f5.trans f6⟩
end K64
set_option linter.all false
set_option maxRecDepth 100000
set_option exponentiation.threshold 5000
namespace K64
open PySem Pd
variable {d : Nat}
theorem small_6700417 : small 6700417 = true := by decide
theorem small_524287 : small 524287 = true := by decide
theorem small_99991 : small 99991 = true := by decide
theorem small_7919 : small 7919 = true := by decide
theorem wp_vat {ns : List Int} {at_ : Nat} (ha : at_ < 3) {S : Sto} {Q : W × Bool → Sto → Prop} {E : Exn → Sto → Prop}
    (hQ : ∀ a b : Int, 0 ≤ a → 0 ≤ b → b < 2 ^ 100 → Q (.v (.list [.int a, .int b, .int 0]), true) S) : (callN Pr (d+1) 39 [.ro (ns.map PyData.int), .v (.int at_)] S).wp Q E := by
  refine wp_call fd_law_vat rfl rfl ?_
  have c1 : cutL (ns.map PyData.int) none (some 63) = (ns.take 63).map PyData.int := by rw [cutL_map]; exact congrArg _ (cutL_to ns 63)
  have hl : ((ns.take 63).length : Int) ≤ 63 := by simp; omega
  have e3 : ∀ l : List Int, l.map (W.v ∘ PyData.int) = l.map fun i => W.v (.int i) := fun _ => rfl
  have ew : wide 10 = true := by decide
  simp [fd_law_vat, Pd.start, c1, small_99991, small_7919, e3, -List.map_take]
  refine wp_for (fun xs ρ S' => S' = S ∧ (∃ m c, ρ = [some (.ro (ns.map PyData.int)), some (.v (.int at_)), some (.v (.int m)), c, none] ∧ 0 ≤ m ∧ m < 2 ^ 100) ∧ ∃ is : List Int, xs = is.map fun i => W.v (.int i))
    ⟨rfl, ⟨_, _, rfl, by omega, by simp at hl; omega⟩, _, rfl⟩ ?_ ?_
  · rintro ρ S' ⟨rfl, ⟨m, c, rfl, m0, m1⟩, _⟩
    by_cases hat : at_ < ns.length
    · have x1 : L2.atI (ns.map PyData.int) (at_ : Int) = some (.int ns[at_]) := by rw [atI_nat]; simp [hat]
      simp [hat, x1, ew]
      exact hQ _ _ (by omega) m0 m1
    · simp [hat, ew]
      exact hQ _ _ (by omega) m0 m1
  · rintro x r ρ S' ⟨rfl, ⟨m, c, rfl, m0, m1⟩, is, hx⟩
    cases is with
    | nil => cases hx
    | cons i is =>
      simp only [List.map_cons, List.cons.injEq] at hx
      obtain ⟨rfl, rfl⟩ := hx
      simp [forBody_eq, small_6700417, small_524287, ew]
      refine ⟨⟨Int.emod_nonneg _ (by decide), ?_⟩, is, rfl⟩
      have := Int.emod_lt_of_pos (m * 6700417 + i * 524287 + 65537) (show (0 : Int) < 10000000000000000000000013 by decide)
      omega
theorem net3 : IsNet 3 [(0, 1), (0, 2), (1, 2)] := by
  refine ⟨by decide, by decide, ?_⟩
  simp [lexlt]
theorem law_true (ns : List Int) : ∃ S', callN Pr 20 104 [.ro (ns.map PyData.int)] [] = .ok (.v (.bool true), false) S' := by
  have key : (callN Pr 20 104 [.ro (ns.map PyData.int)] []).wp (fun p _ => p = (.v (.bool true), false)) fun _ _ => False := by
    refine wp_call fd_law rfl rfl ?_
    have hm : ∃ m : Nat, max 2 (min 3 (ns.length : Int)) = m ∧ m ≤ 3 := ⟨(max 2 (min 3 (ns.length : Int))).toNat, by omega, by omega⟩
    obtain ⟨m, em, hm⟩ := hm
    have c2 : (m : Int) ≤ (LIM : Int) := by unfold LIM; omega
    have c3 : inR (m : Int) = true := inR_ok (by omega)
    simp [fd_law, Pd.start, em, c2, c3, rngL_map]
    refine wp_for (fun xs ρ S => (∃ p q r, ρ = [some (.ro (ns.map PyData.int)), p, q, r]) ∧ ∃ is : List Nat, xs = is.map (fun (i : Nat) => W.v (.int i)) ∧ ∀ i ∈ is, i < 3) ⟨⟨_, _, _, rfl⟩, _, rfl, fun i hi => by have := List.mem_range.mp hi; omega⟩ ?_ ?_
    · rintro ρ S ⟨⟨p, q, r, rfl⟩, _⟩
      have s1 := sp_ok (d := 11) net3 (cs := [1, 1, 1]) (is := [0, 1]) (by simp) rfl (by simp) (by simp) []
      have al := alike_refl (k := 0) (.int 1) 18 []
      have ev : sumAt [1, 1, 1] [0, 1] - within [(0, 1), (0, 2), (1, 2)] [0, 1] = 1 := by decide
      rw [ev] at s1
      simp only [netD, countsD, List.map_cons, List.map_nil, pr] at s1
      simp [s1, al]
    · rintro x r ρ S ⟨⟨p, q, r', rfl⟩, is, hx, his⟩
      cases is with
      | nil => cases hx
      | cons i is =>
        simp only [List.map_cons, List.cons.injEq] at hx
        obtain ⟨rfl, rfl⟩ := hx
        rw [forBody_eq]
        simp
        refine wp_vat (d := 18) (his i (by simp)) fun a b a0 b0 b1 => ?_
        simp
        have c5 : (2 : Int) ≤ (LIM : Int) ∧ inR 2 = true := ⟨by decide, by decide⟩
        have hv : Vat (S ++ [Ob.lst [W.v (PyData.int a), W.v (PyData.int b), W.v (PyData.int 0)]]) S.length 1000 := ⟨a, b, 0, by simp, a0, b0, b1, by decide, by decide⟩
        simp [c5]
        refine wp_for (fun xs ρ S' => (∃ p r, ρ = [some (.ro (ns.map PyData.int)), p, some (.loc S.length), r]) ∧ Vat S' S.length (500 * xs.length)) ⟨⟨_, _, rfl⟩, hv.less (by simp [rngL])⟩ ?_ ?_
        · rintro ρ S' ⟨⟨p, r, rfl⟩, _⟩
          simp
          exact ⟨is, rfl, fun j hj => his j (by simp [hj])⟩
        · rintro x r ρ S' ⟨⟨p, r2, rfl⟩, hv'⟩
          rw [forBody_eq]
          simp
          refine wp_right (d := 7) (n := 500 * r.length) (hv'.less (by simp; omega)) fun S2 v2 f2 => ?_
          simp
          exact v2
  obtain ⟨p, S', e, rfl⟩ := wp_iff.mp key
  exact ⟨S', e⟩
end K64
set_option Elab.async false
set_option linter.all false
set_option maxRecDepth 100000
set_option maxHeartbeats 0
namespace K64
open PySem PySem.Spec PyProof.Rows L2 Pd
abbrev Rw : PySem.W.OpenRow := PySem.W.OpenLaw.row PySem.Challenge.rw_countsofties_k64_beats_and_scores
abbrev Pg : Program := PySem.Challenge.pw_countsofties_k64_beats_and_scores
theorem chk : chkA L L.own (fnsOf Pg) = true := by decide +kernel
abbrev hk : PySem.W.Hook := hookX 5 L Pg
def ob (s : PySem.W.SharedT) : He.AlD := obsX 5 L Pg (HandSHeadRun.getT s)
theorem ob_eq (s : PySem.W.SharedT) : ob s = hk.obs s.abs := obsX_eq (HandSHeadRun.getT_eq s)
def loose : List PySem.Str := (Pg.main.body.filterMap Pd.nmOf).filter fun x => !(x == ("law" : PySem.Str))
theorem run (w : World) : HandSHeadRun.RunEq Rw (PySem.W.view Rw.prog [47]) hk ob 4000 loose w := by
  intro os
  kernel_rfl
end K64
open PySem PySem.W PySem.Calls PyProof.Rows
theorem PySem.Challenge.cw_countsofties_k64_beats_and_scores_holds : PySem.Challenge.rw_countsofties_k64_beats_and_scores.Holds := by
  w_on; o_law
  refine HandSHeadRun.head_any (r := OpenLaw.row PySem.Challenge.rw_countsofties_k64_beats_and_scores) (q := view (OpenLaw.row PySem.Challenge.rw_countsofties_k64_beats_and_scores).prog [47]) (H := K64.hk) (ob := K64.ob) (M := 4000) (loose := K64.loose) (d := HandSHeadRun.topDef (OpenLaw.row PySem.Challenge.rw_countsofties_k64_beats_and_scores).prog 47) (kwd := []) K64.ob_eq
    (by kernel_rfl) (fun s => by kernel_rfl) K64.run (by kernel_rfl) (by kernel_rfl) (by kernel_rfl) (by rfl) (by first | assumption | decide +kernel) (by decide +kernel) ⟨rfl, rfl, rfl, rfl, rfl, by decide +kernel⟩ ?hw ?hc
  case hw => w_witness2
  case hc =>
    exact Pd.law_end (l := PySem.Challenge.rw_countsofties_k64_beats_and_scores) (L := K64.L) (f := 104) (x := "script") 19 63 rfl (by decide) (by kernel_rfl) ⟨rfl, by decide, by decide⟩ rfl K64.chk rfl rfl (by kernel_rfl) fun ns _ => K64.law_true ns
