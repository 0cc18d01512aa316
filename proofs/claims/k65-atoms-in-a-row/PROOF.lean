import PyProof.Rows.All
import Wide.All
import OpenK.AllK
import Wide.FinOn
import PySem.Challenge.RW_mendsure_k65_atoms_in_a_row
import HandS.ForMost
import KE.SortData
import KE.KDictKeyed
import HandS.IsInst
import HandS.TupAny
import HandS.Wide
import HandS.Deep
import HandS.Style
import HandS.Replace
import HandS.More
import HandS.TupMul
import PyProof.StrBlock2
import HandS.Dict
import HandS.Small
import HandS.SetKeys
import HandS.DictComp
import KE.DataCmp
import HandS.Iter
import HandS.Zip
import HandS.Rev
import KE.GoesMore
import KE.GoesEnum
import PyProof.Draws
import HandS.ForExc
import HandS.WordsExc
import KE.KDictSum
import HandS.SetFor
import HandS.Strs
import HandS.Ends
set_option Elab.async false
set_option linter.all false
set_option maxRecDepth 100000
/-! Md, part A: a small language over data (PyData), and what it does: a total function.
A slot of a frame holds nothing, frozen data, or a list, dict or instance that is the slot's own (nobody else knows it). -/
noncomputable section
namespace Md
open PySem

abbrev Da := PyData
/-- the world that a proof stands in -/
class Wd where
  w : World

/-- what a slot holds -/
inductive T where
  | fz (d : Da)
  | ro (ds : List Da)
  | lst (ds : List Da)
  | lk (ds : List Da)
  /-- a list of lists, all of them the slot's own -/
  | nst (xss : List (List Da))
  /-- a dict with numbers and texts as keys -/
  | dct (kvs : List (Da × Da))
  /-- .. that may be walked, and no more be written -/
  | lkd (kvs : List (Da × Da))
  /-- a dict with tuples as keys -/
  | dtt (kvs : List (Da × Da))
  /-- .. its values lists of its own -/
  | dcl (kvs : List (Da × List Da))
  | ins (c : Str) (fs : List (Str × Da))

/-- an instance of class c as frozen data -/
def insD (c : Str) (fs : List (Str × Da)) : Da := .dict ((.none, .str c) :: fs.map fun p => (.str p.1, p.2))

def T.view : T → Da
  | .fz d => d
  | .ro ds => .list ds
  | .lst ds => .list ds
  | .lk ds => .list ds
  | .nst xss => .list (xss.map .list)
  | .dct kvs => .dict kvs
  | .lkd kvs => .dict kvs
  | .dtt kvs => .dict kvs
  | .dcl kvs => .dict (kvs.map fun p => (p.1, .list p.2))
  | .ins c fs => insD c fs

/-- an expression's outcome: data or a new thing of its own; the slot i's own thing; the k-th list within it -/
inductive R where
  | t (t : T)
  | p (i : Nat)
  | q (i k : Nat)

abbrev Sl := List (Option T)

inductive Res (α : Type) where
  | ok (a : α) (sl : Sl)
  | ex (c : Str) (f : Option Da) (sl : Sl)
  | no

@[inline] def Res.bind {α β : Type} (r : Res α) (f : α → Sl → Res β) : Res β :=
  match r with
  | .ok a sl => f a sl
  | .ex c w sl => .ex c w sl
  | .no => .no

/-- a call's outcome: the value, the arguments' things behind it -/
inductive FRes where
  | ok (t : T) (args : List T)
  | ex (c : Str) (f : Option Da) (args : List T)
  | no

inductive BOp where
  | add | sub | mul | fdiv | mod | pow | shl | shr | band | bor
  deriving DecidableEq
inductive COp where
  | eq | ne | lt | le | gt | ge | isN | notN | isin | notin
  deriving DecidableEq
/-- built-ins of one argument -/
inductive B1 where
  | len | all | any | sum | min | max | abs | sorted | tuple | list | str | int | dict | bool
  deriving DecidableEq
inductive B2 where
  | min | max | divmod
  deriving DecidableEq
/-- what isinstance asks -/
inductive Kd where
  | int | bool | str | list | tuple | intstr | cls (c : Nat)
  deriving DecidableEq
/-- methods that read -/
inductive M1 where
  | startswith | split | join | count | index
  deriving DecidableEq
/-- what is walked -/
inductive IK where
  | seq | rng1 | rng2 | rng3 | enum | zip | rev | vals
  deriving DecidableEq

/-- where a loop's item goes -/
inductive Tg where
  | one (i : Nat)
  | tup (is : List Nat)

inductive E where
  | nm (i : Nat)
  | nml (i : Nat)
  | gl (x : Str)
  | non
  | bl (b : Bool)
  | int (i : Int)
  | str (x : Str)
  | bin (o : BOp) (a b : E)
  | neg (a : E)
  | not (a : E)
  | cmp (o : COp) (a b : E)
  | chn (o o' : COp) (a b c : E)
  | one (a : E)
  | and (a b : E)
  | or (a b : E)
  | ife (c a b : E)
  | tup (es : E)
  | lst (es : E)
  | idx (a i : E)
  | sl (a lo hi : E) (hl hh : Bool)
  | rev (a : E)
  | call (f : Nat) (es : E)
  | b1 (f : B1) (a : E)
  | b2 (f : B2) (a b : E)
  | trng (k : IK) (a b : E)
  | isi (a : E) (k : Kd)
  | m1 (m : M1) (o a : E)
  | fld (o : E) (f : Str)
  | meth (c : Nat) (f : Nat) (o : E) (es : E)
  | make (c : Nat) (f : Nat) (es : E)
  | lc (elt : E) (tg : Tg) (k : IK) (a b c : E) (cond : E) (has : Bool)
  | dnew
  | sdf (i : Nat) (k e : E)
  | getT (i : Nat) (k : E)
  | inT (neg : Bool) (i : Nat) (k : E)
  | listT (i : Nat)
  | valsT (i : Nat)
  | sortT (i : Nat)
  | lm (m : M1) (a b : E)
  | sset (a : E)
  | slen (a : E)
  | pop (i : Nat) (e : E)
  | rvl (i : Nat)
  | clr (i : Nat)
  | insl (i : Nat) (k e : E)
  | nil
  | cons (e es : E)

/-! ### operators on data -/
theorem szOk_ex : ∃ f : Nat → Bool, ∀ n : Nat, f n = (decide (n ≤ sizeLine)) := ⟨fun n => decide (n ≤ sizeLine), fun _ => rfl⟩
noncomputable def szOk (n : Nat) : Bool := Classical.choose szOk_ex n
theorem szOk_eq (n : Nat) : szOk n = (decide (n ≤ sizeLine)) := Classical.choose_spec szOk_ex n
theorem mulOk_ex : ∃ f : Int → Int → Bool, ∀ i j : Int, f i j = (decide ((-(2 ^ 64) < i ∧ i < 2 ^ 64) ∨ (-(2 ^ 64) < j ∧ j < 2 ^ 64)) || decide (i.natAbs.log2 + j.natAbs.log2 < 1000000)) := ⟨fun i j => decide ((-(2 ^ 64) < i ∧ i < 2 ^ 64) ∨ (-(2 ^ 64) < j ∧ j < 2 ^ 64)) || decide (i.natAbs.log2 + j.natAbs.log2 < 1000000), fun _ _ => rfl⟩
noncomputable def mulOk (i j : Int) : Bool := Classical.choose mulOk_ex i j
theorem mulOk_eq (i j : Int) : mulOk i j = (decide ((-(2 ^ 64) < i ∧ i < 2 ^ 64) ∨ (-(2 ^ 64) < j ∧ j < 2 ^ 64)) || decide (i.natAbs.log2 + j.natAbs.log2 < 1000000)) := Classical.choose_spec mulOk_ex i j
theorem divOk_ex : ∃ f : Int → Bool, ∀ j : Int, f j = (decide (0 < j) && (decide (j < 1073741824) || decide (j.natAbs.log2 < 9000))) := ⟨fun j => decide (0 < j) && (decide (j < 1073741824) || decide (j.natAbs.log2 < 9000)), fun _ => rfl⟩
noncomputable def divOk (j : Int) : Bool := Classical.choose divOk_ex j
theorem divOk_eq (j : Int) : divOk j = (decide (0 < j) && (decide (j < 1073741824) || decide (j.natAbs.log2 < 9000))) := Classical.choose_spec divOk_ex j
theorem powOk_ex : ∃ f : Int → Int → Bool, ∀ a n : Int, f a n = (decide (0 ≤ n) && (decide (n ≤ 1000000 ∧ a.natAbs < 2 ^ 64) || decide ((Builtin.Int.intBits a : Int) * n ≤ 2 ^ 27))) := ⟨fun a n => decide (0 ≤ n) && (decide (n ≤ 1000000 ∧ a.natAbs < 2 ^ 64) || decide ((Builtin.Int.intBits a : Int) * n ≤ 2 ^ 27)), fun _ _ => rfl⟩
noncomputable def powOk (a n : Int) : Bool := Classical.choose powOk_ex a n
theorem powOk_eq (a n : Int) : powOk a n = (decide (0 ≤ n) && (decide (n ≤ 1000000 ∧ a.natAbs < 2 ^ 64) || decide ((Builtin.Int.intBits a : Int) * n ≤ 2 ^ 27))) := Classical.choose_spec powOk_ex a n
theorem shlOk_ex : ∃ f : Int → Int → Bool, ∀ a n : Int, f a n = (decide (0 ≤ n) && decide (n ≤ 1000000) && decide (a.natAbs < 2 ^ 64)) := ⟨fun a n => decide (0 ≤ n) && decide (n ≤ 1000000) && decide (a.natAbs < 2 ^ 64), fun _ _ => rfl⟩
noncomputable def shlOk (a n : Int) : Bool := Classical.choose shlOk_ex a n
theorem shlOk_eq (a n : Int) : shlOk a n = (decide (0 ≤ n) && decide (n ≤ 1000000) && decide (a.natAbs < 2 ^ 64)) := Classical.choose_spec shlOk_ex a n
def repS (x : Str) (n : Int) : Str := Txt.mul x n
def repL (xs : List Da) (n : Int) : List Da := (List.replicate n.toNat xs).flatten

def binop : BOp → Da → Da → Option Da
  | .add, .int i, .int j => some (.int (i + j))
  | .add, .str x, .str y => if szOk (x.length + y.length) then some (.str (x ++ y)) else none
  | .add, .tuple xs, .tuple ys => if szOk (xs.length + ys.length) then some (.tuple (xs ++ ys)) else none
  | .add, .list xs, .list ys => if szOk (xs.length + ys.length) then some (.list (xs ++ ys)) else none
  | .sub, .int i, .int j => some (.int (i - j))
  | .mul, .int i, .int j => if mulOk i j then some (.int (i * j)) else none
  | .mul, .str x, .int n => if decide (n < 2 ^ 62) && decide (-(2 ^ 62) < n) && szOk (x.length * n.toNat) then some (.str (repS x n)) else none
  | .mul, .list xs, .int n => if decide (n < 2 ^ 62) && decide (-(2 ^ 62) < n) && szOk (xs.length * n.toNat) then some (.list (repL xs n)) else none
  | .mul, .tuple xs, .int n => if decide (2 ≤ n) && decide (n ≤ 1000) && decide (xs.length ≤ 1000) && !xs.isEmpty then some (.tuple (repL xs n)) else none
  | .fdiv, .int i, .int j => if divOk j then some (.int (i / j)) else none
  | .mod, .int i, .int j => if decide (0 < j) then some (.int (i % j)) else none
  | .pow, .int i, .int j => if powOk i j then some (.int (i ^ j.toNat)) else none
  | .shl, .int i, .int j => if shlOk i j then some (.int (i * 2 ^ j.toNat)) else none
  | .shr, .int i, .int j => if decide (0 ≤ j) then some (.int (i / 2 ^ j.toNat)) else none
  | .band, .int i, .int j => some (.int (Builtin.bitAnd i j))
  | .bor, .int i, .int j => some (.int (Builtin.bitOr i j))
  | _, _, _ => none

mutual
/-- no dict within, at most k deep -/
def fits : Nat → Da → Bool
  | _, .none => true
  | _, .bool _ => true
  | _, .int _ => true
  | _, .str _ => true
  | 0, .list _ => false
  | k + 1, .list xs => fitsAll k xs
  | 0, .tuple _ => false
  | k + 1, .tuple xs => fitsAll k xs
  | _, .dict _ => false
def fitsAll : Nat → List Da → Bool
  | _, [] => true
  | k, x :: xs => fits k x && fitsAll k xs
end

mutual
/-- two keys are the same -/
def keq : Da → Da → Bool
  | .int i, .int j => decide (i = j)
  | .str x, .str y => decide (x = y)
  | .tuple xs, .tuple ys => keqs xs ys
  | _, _ => false
def keqs : List Da → List Da → Bool
  | [], [] => true
  | x :: xs, y :: ys => keq x y && keqs xs ys
  | _, _ => false
end
/-- a key that is a number or a text -/
def kOk : Da → Bool
  | .int _ => true
  | .str _ => true
  | _ => false
mutual
/-- what may stand in a key that is a tuple, at most k deep -/
def nkOk : Nat → Da → Bool
  | _, .int _ => true
  | _, .str _ => true
  | k + 1, .tuple xs => nksOk k xs
  | _, _ => false
def nksOk : Nat → List Da → Bool
  | _, [] => true
  | k, x :: xs => nkOk k x && nksOk k xs
end
/-- a key that is a tuple -/
def tOk : Da → Bool
  | .tuple xs => nksOk 7 xs
  | _ => false
/-- the value of a key -/
def lookD {α : Type} (k : Da) : List (Da × α) → Option α
  | [] => none
  | (a, v) :: r => if keq a k then some v else lookD k r
/-- a key's value is stored -/
def putD {α : Type} (kvs : List (Da × α)) (k : Da) (v : α) : List (Da × α) :=
  if (lookD k kvs).isSome then kvs.map fun p => if keq p.1 k then (p.1, v) else p else kvs ++ [(k, v)]
def mergeD (kvs more : List (Da × Da)) : List (Da × Da) := more.foldl (fun acc p => putD acc p.1 p.2) kvs
/-- a dict, no instance -/
def isD : List (Da × Da) → Bool
  | (.none, _) :: _ => false
  | (.bool _, _) :: _ => false
  | _ => true
/-- a number, a text -/
def flatD : Da → Bool
  | .int _ => true
  | .str _ => true
  | _ => false
/-- two dicts of numbers and texts are equal -/
def dEq (xs ys : List (Da × Da)) : Bool := isD xs && isD ys && decide (xs.length = ys.length) && xs.all fun p => flatD p.2 && (match lookD p.1 ys with
  | some w => flatD w && PyData.eqv p.2 w
  | none => false)
def dEqD : Da → Da → Bool
  | .dict xs, .dict ys => dEq xs ys
  | _, _ => false
def strIn (x y : Str) : Bool := !(Builtin.Str.occurrences y x 0 y.length 1).isEmpty

def compare : COp → Da → Da → Option Bool
  | .eq, a, b => if fits 64 a && fits 64 b then some (PyData.eqv a b) else if dEqD a b then some true else none
  | .ne, a, b => if fits 64 a && fits 64 b then some (!PyData.eqv a b) else if dEqD a b then some false else none
  | .lt, .int i, .int j => some (decide (i < j))
  | .lt, .str x, .str y => some (decide (x.cps.toList < y.cps.toList))
  | .lt, .tuple xs, .tuple ys => if fits 64 (.tuple xs) && fits 64 (.tuple ys) && PySem.W.alike (.tuple xs) (.tuple ys) then some (PySem.W.dataLt (.tuple xs) (.tuple ys)) else none
  | .le, .int i, .int j => some (decide (i ≤ j))
  | .gt, .int i, .int j => some (decide (j < i))
  | .ge, .int i, .int j => some (decide (j ≤ i))
  | .isN, a, .none => some (match a with | .none => true | _ => false)
  | .notN, a, .none => some (match a with | .none => false | _ => true)
  | .isin, .str x, .str y => some (strIn x y)
  | .notin, .str x, .str y => some (!strIn x y)
  | .isin, a, .list ys => if fits 64 a && fitsAll 63 ys then some (ys.any fun y => PyData.eqv y a) else none
  | .notin, a, .list ys => if fits 64 a && fitsAll 63 ys then some (!ys.any fun y => PyData.eqv y a) else none
  | .isin, a, .dict kvs => if kOk a && isD kvs then some (lookD a kvs).isSome else none
  | .notin, a, .dict kvs => if kOk a && isD kvs then some (!(lookD a kvs).isSome) else none
  | .isin, a, .tuple ys => if fits 64 a && fitsAll 63 ys then some (ys.any fun y => PyData.eqv y a) else none
  | .notin, a, .tuple ys => if fits 64 a && fitsAll 63 ys then some (!ys.any fun y => PyData.eqv y a) else none
  | _, _, _ => none

def allB : List Da → Option Bool
  | [] => some true
  | .bool b :: r => (allB r).map (b && ·)
  | _ => none
def anyB : List Da → Option Bool
  | [] => some false
  | .bool b :: r => (anyB r).map (b || ·)
  | _ => none
def sumI : List Da → Option Int
  | [] => some 0
  | .int i :: r => (sumI r).map (i + ·)
  | _ => none
def intsOf : List Da → Option (List Int)
  | [] => some []
  | .int i :: r => (intsOf r).map (i :: ·)
  | _ => none


/-! ### the parts of an evaluation -/
def R.view (sl : Sl) : R → Option Da
  | .t x => some x.view
  | .p i => match sl[i]? with
    | some (some (.ro _)) => none
    | some (some (.nst _)) => none
    | some (some (.dtt _)) => none
    | some (some (.dcl _)) => none
    | some (some (.ins _ _)) => none
    | some (some x) => some x.view
    | _ => none
  | .q i k => match sl[i]? with
    | some (some (.nst xss)) => (xss[k]?).map .list
    | _ => none
/-- .. a list that may only be read, too -/
def R.viewR (sl : Sl) : R → Option Da
  | .t x => some x.view
  | .p i => match sl[i]? with
    | some (some (.ro ds)) => some (.list ds)
    | some (some (.lkd kvs)) => some (.dict ((.bool true, .none) :: kvs))
    | _ => R.view sl (.p i)
  | r => R.view sl r
/-- frozen where it is new -/
def R.settle : R → R
  | .t x => .t (.fz x.view)
  | r => r
/-- new data: a list is its finder's own -/
def own : Da → T
  | .list ds => .lst ds
  | w => .fz w
/-- the value, frozen -/
def R.take (sl : Sl) : R → Option (Da × Sl)
  | .t x => some (x.view, sl)
  | .p i => match sl[i]? with
    | some (some (.ro _)) => none
    | some (some (.lk _)) => none
    | some (some (.lkd _)) => none
    | some (some (.nst _)) => none
    | some (some (.dtt _)) => none
    | some (some (.dcl _)) => none
    | some (some (.ins _ _)) => none
    | some (some x) => some (x.view, sl.set i (some (.fz x.view)))
    | _ => none
  | .q _ _ => none
/-- things of more than one sort of places -/
def T.isBig : T → Bool
  | .nst _ => true
  | .dtt _ => true
  | .dcl _ => true
  | .ins _ _ => true
  | _ => false
def T.isOwn : T → Bool
  | .fz _ => false
  | _ => true
def T.isLk : T → Bool
  | .lk _ => true
  | _ => false
/-- what may be handed on as a new thing: data, a list, a dict -/
def T.isNew : T → Bool
  | .fz _ => true
  | .lst _ => true
  | .dct _ => true
  | _ => false
/-- slot i takes a thing; np: the parameters that came with a thing of their own keep it -/
def put (np : Nat → Bool) (sl : Sl) (i : Nat) (t : T) : Option Sl :=
  if np i then none else match sl[i]? with
  | none => none
  | some none => some (sl.set i (some t))
  | some (some t0) => if t0.isLk then none else some (sl.set i (some t))
def putF (np : Nat → Bool) (sl : Sl) (i : Nat) (w : Da) : Option Sl := put np sl i (.fz w)
def putAll (np : Nat → Bool) : Sl → List Nat → List Da → Option Sl
  | sl, [], [] => some sl
  | sl, i :: is, w :: ws => match putF np sl i w with
    | some sl1 => putAll np sl1 is ws
    | none => none
  | _, _, _ => none
def Tg.put (np : Nat → Bool) (tg : Tg) (w : Da) (sl : Sl) : Option Sl :=
  match tg with
  | .one i => putF np sl i w
  | .tup is => match w with
    | .tuple ws => putAll np sl is ws
    | _ => none
def Tg.slots : Tg → List Nat
  | .one i => [i]
  | .tup is => is

/-- the arguments' things -/
def argsOf (sl : Sl) : List R → Option (List T)
  | [] => some []
  | .t t :: rs => (argsOf sl rs).map (t :: ·)
  | .p i :: rs => match sl[i]? with
    | some (some t) => (argsOf sl rs).map (t :: ·)
    | _ => none
  | .q _ _ :: _ => none
def placesOf : List R → List Nat
  | [] => []
  | .p i :: rs => i :: placesOf rs
  | .q i _ :: rs => i :: placesOf rs
  | _ :: rs => placesOf rs
def putBack : Sl → List R → List T → Sl
  | sl, .p i :: rs, t :: ts => putBack (sl.set i (some t)) rs ts
  | sl, _ :: rs, _ :: ts => putBack sl rs ts
  | sl, _, _ => sl

def atW (xs : List Da) (i : Int) : Option Da := L2.atI xs i
def cutL {α : Type} (xs : List α) (lo hi : Option Int) : List α := (xs.drop (HT.sIx xs.length 0 lo)).take (HT.sIx xs.length xs.length hi - HT.sIx xs.length 0 lo)
def index : Da → Da → Option Da
  | .list xs, .int i => atW xs i
  | .tuple xs, .int i => atW xs i
  | .str x, .int i => if szOk x.length then (L2.atI x.cps.toList i).map fun c => .str ⟨#[c]⟩ else none
  | .dict kvs, k => match kvs with
    | (.none, _) :: _ => none
    | (.bool _, _) :: r => if kOk k then lookD k r else none
    | _ => if kOk k then lookD k kvs else none
  | _, _ => none
def cut (w : Da) (lo hi : Option Int) : Option Da :=
  match w with
  | .list xs => some (.list (cutL xs lo hi))
  | .tuple xs => some (.tuple (cutL xs lo hi))
  | .str x => if szOk x.length then some (.str (L2.cutS x lo hi)) else none
  | _ => none
def part (w : Option Da) : Option (Option Int) :=
  match w with
  | none => some none
  | some (.int i) => some (some i)
  | _ => none

structure Pg where
  const : Str → Option Da
  sub : Nat → Nat → Bool

def notD : Da → Bool
  | .dict _ => false
  | _ => true
def isKd (P : Pg) : Kd → Da → Bool
  | .int, .int _ => true
  | .int, .bool _ => true
  | .bool, .bool _ => true
  | .str, .str _ => true
  | .list, .list _ => true
  | .tuple, .tuple _ => true
  | .intstr, .int _ => true
  | .intstr, .bool _ => true
  | .intstr, .str _ => true
  | .cls c, .dict ((.none, .int c') :: _) => P.sub c'.toNat c
  | _, _ => false

def alikeB (ds : List Da) : Bool := ds.all fun d => ds.all fun e => PySem.W.alike d e
def sortB (ds : List Da) : Bool := (ds.all fun d => match d with
    | .tuple (_ :: _) => true
    | _ => false) || (ds.all fun d => match d with
    | .none => false
    | .tuple _ => false
    | _ => true) || (decide (ds.length < 2) && ds.all fun d => match d with
    | .none => false
    | _ => true)
/-- the data in their order -/
def srt (ds : List Da) : List Da := ds.mergeSort (PySem.W.dataLe false id)
/-- numbers and texts, each once, as they come -/
def onceD (ds : List Da) : List Da := ds.foldl (fun acc d => if acc.any (fun x => keq x d) then acc else acc ++ [d]) []
/-- the pairs of a list of pairs -/
def pairsD : List Da → Option (List (Da × Da))
  | [] => some []
  | .tuple [k, v] :: r => if kOk k then (pairsD r).map ((k, v) :: ·) else none
  | _ => none
def call1 : B1 → Da → Option T
  | .sorted, .list xs => if alikeB xs && sortB xs && fitsAll 64 xs then some (.lst (srt xs)) else none
  | .len, .str x => if szOk x.length then some (.fz (.int x.length)) else none
  | .len, .list xs => some (.fz (.int xs.length))
  | .len, .tuple xs => some (.fz (.int xs.length))
  | .all, .list xs => (allB xs).map fun b => .fz (.bool b)
  | .any, .list xs => (anyB xs).map fun b => .fz (.bool b)
  | .sum, .list xs => (sumI xs).map fun i => .fz (.int i)
  | .abs, .int i => some (.fz (.int (if i < 0 then -i else i)))
  | .tuple, .list xs => some (.fz (.tuple xs))
  | .tuple, .tuple xs => some (.fz (.tuple xs))
  | .list, .list xs => some (.lst xs)
  | .list, .tuple xs => some (.lst xs)
  | .list, .dict kvs => if isD kvs then some (.lst (kvs.map (·.1))) else none
  | .dict, .dict kvs => if isD kvs then some (.dct kvs) else none
  | .dict, .list ps => (pairsD ps).map fun kvs => .dct (mergeD [] kvs)
  | .str, .int i => if decide (i.natAbs.log2 < 1920) then some (.fz (.str (toString i : String))) else none
  | .int, .int i => some (.fz (.int i))
  | .int, .bool b => some (.fz (.int (if b then 1 else 0)))
  | .int, .str x => match PySem.intText? x with
    | some i => if decide (x.length ≤ 640) then some (.fz (.int i)) else none
    | none => none
  | _, _ => none
def call2 : B2 → Da → Da → Option T
  | .min, .int i, .int j => some (.fz (.int (if j < i then j else i)))
  | .max, .int i, .int j => some (.fz (.int (if j > i then j else i)))
  | .divmod, .int i, .int j => if decide (0 < j) && decide (j < 1073741824) then some (.fz (.tuple [.int (i / j), .int (i % j)])) else none
  | _, _, _ => none
/-- the first place of an equal one -/
def placeD (ds : List Da) (d : Da) : Option Nat := ds.findIdx? fun z => PyData.eqv z d
def callL : M1 → List Da → Da → Option T
  | .index, ds, d => if fits 64 d && fitsAll 63 ds then (placeD ds d).map fun j => .fz (.int (j : Nat)) else none
  | .count, ds, d => if fits 64 d && fitsAll 63 ds then some (.fz (.int ((ds.countP fun z => PyData.eqv z d : Nat) : Int))) else none
  | _, _, _ => none
def callM : M1 → Str → Da → Option T
  | .startswith, x, .str y => some (.fz (.bool (PySem.Txt.startswith x y)))
  | .index, x, .str y => match Builtin.Str.occurrences x y 0 x.length 1 with
    | i :: _ => some (.fz (.int (i : Nat)))
    | [] => none
  | _, _, _ => none

def rangeUp (lo : Int) (n : Nat) : List Da := (List.range n).map fun (k : Nat) => .int (lo + (k : Int))
def enumW (xs : List Da) : List Da := (List.range xs.length).zipWith (fun (k : Nat) x => .tuple [.int (k : Int), x]) xs
def zipW (xs ys : List Da) : List Da := xs.zipWith (fun x y => .tuple [x, y]) ys
theorem rngOk_ex : ∃ f : Int → Bool, ∀ i : Int, f i = (decide (-(2 ^ 62) ≤ i) && decide (i < 2 ^ 62)) := ⟨fun i => decide (-(2 ^ 62) ≤ i) && decide (i < 2 ^ 62), fun _ => rfl⟩
noncomputable def rngOk (i : Int) : Bool := Classical.choose rngOk_ex i
theorem rngOk_eq (i : Int) : rngOk i = (decide (-(2 ^ 62) ≤ i) && decide (i < 2 ^ 62)) := Classical.choose_spec rngOk_ex i
def seqOf : Da → Option (List Da)
  | .list xs => some xs
  | .tuple xs => some xs
  | _ => none
/-- the items walked -/
def items : IK → Da → Da → Da → Option (List Da)
  | .seq, .list xs, _, _ => some xs
  | .seq, .tuple xs, _, _ => some xs
  | .seq, .str x, _, _ => some (x.cps.toList.map fun c => .str ⟨#[c]⟩)
  | .rng1, .int n, _, _ => if rngOk n then some (rangeUp 0 n.toNat) else none
  | .rng2, .int a, .int b, _ => if rngOk a && rngOk b then some (rangeUp a (b - a).toNat) else none
  | .enum, .list xs, _, _ => some (enumW xs)
  | .enum, .tuple xs, _, _ => some (enumW xs)
  | .zip, .list xs, .list ys, _ => some (zipW xs ys)
  | .zip, .tuple xs, .tuple ys, _ => some (zipW xs ys)
  | .rev, .list xs, _, _ => some xs.reverse
  | .rev, .tuple xs, _, _ => some xs.reverse
  | .seq, .dict ((.bool _, _) :: kvs), _, _ => some (kvs.map (·.1))
  | _, _, _, _ => none
/-- a list that is walked is locked -/
def lockR (sl : Sl) : R → Option Sl
  | .t _ => some sl
  | .p i => match sl[i]? with
    | some (some (.lst ds)) => some (sl.set i (some (.lk ds)))
    | some (some (.lk _)) => some sl
    | some (some (.ro _)) => some sl
    | some (some (.lkd _)) => some sl
    | _ => none
  | .q _ _ => none
def lockOf (sl : Sl) : R → List Nat
  | .p i => match sl[i]? with
    | some (some (.lst _)) => [i]
    | _ => []
  | _ => []
def unlock (sl : Sl) : List Nat → Option Sl
  | [] => some sl
  | i :: is => match sl[i]? with
    | some (some (.lk ds)) => unlock (sl.set i (some (.lst ds))) is
    | _ => none
/-- the three parts of what is walked; the items, where they come from -/
def itr (k : IK) (fa fb fc : Sl → Res R) (sl : Sl) : Res (List Da × R × R) :=
  (fa sl).bind fun ra sl1 => (fb sl1).bind fun rb sl2 => (fc sl2).bind fun rc sl3 =>
    match ra.settle.viewR sl3, rb.settle.viewR sl3, rc.settle.viewR sl3 with
    | some x, some y, some z => match items k x y z with
      | some ws => .ok (ws, ra.settle, rb.settle) sl3
      | none => .no
    | _, _, _ => .no
def wipe (sl : Sl) : List Nat → Sl
  | [] => sl
  | v :: vs => (wipe sl vs).set v none
def plainAt (sl : Sl) : List Nat → Bool
  | [] => true
  | v :: vs => (match sl[v]? with
    | some none => true
    | some (some (.fz _)) => true
    | _ => false) && plainAt sl vs
def restore (old sl : Sl) : List Nat → Sl
  | [] => sl
  | v :: vs => match old[v]? with
    | some o => (restore old sl vs).set v o
    | none => restore old sl vs

def lcGo (np : Nat → Bool) (tg : Tg) (body : Sl → Res (Option Da)) : List Da → List Da → Sl → Res (List Da)
  | [], acc, sl => .ok acc sl
  | x :: r, acc, sl => match tg.put np x sl with
    | none => .no
    | some sl1 => match body sl1 with
      | .ok none sl2 => lcGo np tg body r acc (wipe sl2 tg.slots)
      | .ok (some w) sl2 => if decide (acc.length < sizeLine) then lcGo np tg body r (acc ++ [w]) (wipe sl2 tg.slots) else .no
      | _ => .no

def testOf (r : Res R) : Res Bool := r.bind fun rt s1 => match rt.settle.view s1 with
  | some (.bool k) => .ok k s1
  | _ => .no
def prt (has : Bool) (r : Res R) (sl : Sl) : Res (Option Int) := if has then r.bind fun rt s1 => match rt.settle.view s1 with
  | some (.int i) => .ok (some i) s1
  | _ => .no
  else .ok none sl
def two (o : Option T) (sl : Sl) : Res R :=
  match o with
  | some t => .ok (.t t) sl
  | none => .no

/-- a turn of a comprehension: its test, its item -/
def lcB (has : Bool) (fc fe : Sl → Res R) (s : Sl) : Res (Option Da) := (if has then testOf (fc s) else .ok true s).bind fun k s1 => if k then (fe s1).bind fun re s2 => (match re.take s2 with
                | some (w, s3) => .ok (some w) s3
                | none => .no) else .ok none s1
mutual
def ev (P : Pg) (np : Nat → Bool) (cb : Nat → List T → FRes) : E → Sl → Res R
  | .nm i, sl => match sl[i]? with
    | some (some (.fz w)) => .ok (.t (.fz w)) sl
    | some (some _) => .ok (.p i) sl
    | _ => .no
  | .nml i, sl => match sl[i]? with
    | some (some (.dct kvs)) => .ok (.p i) (sl.set i (some (.lkd kvs)))
    | some (some (.lkd _)) => .ok (.p i) sl
    | _ => .no
  | .gl x, sl => match P.const x with
    | some w => .ok (.t (.fz w)) sl
    | none => .no
  | .non, sl => .ok (.t (.fz .none)) sl
  | .bl b, sl => .ok (.t (.fz (.bool b))) sl
  | .int i, sl => .ok (.t (.fz (.int i))) sl
  | .str x, sl => .ok (.t (.fz (.str x))) sl
  | .bin o a b, sl => (ev P np cb a sl).bind fun ra sl1 => (ev P np cb b sl1).bind fun rb sl2 => match ra.settle.view sl2, rb.settle.view sl2 with
    | some x, some y => two ((binop o x y).map own) sl2
    | _, _ => .no
  | .neg a, sl => (ev P np cb a sl).bind fun ra sl1 => match ra.settle.view sl1 with
    | some (.int i) => .ok (.t (.fz (.int (-i)))) sl1
    | _ => .no
  | .not a, sl => (testOf (ev P np cb a sl)).bind fun k sl1 => .ok (.t (.fz (.bool (!k)))) sl1
  | .cmp o a b, sl => (ev P np cb a sl).bind fun ra sl1 => (ev P np cb b sl1).bind fun rb sl2 => match ra.settle.view sl2, rb.settle.view sl2 with
    | some x, some y => two ((compare o x y).map fun k => .fz (.bool k)) sl2
    | _, _ => .no
  | .chn o o' a b c, sl => (ev P np cb a sl).bind fun ra sl1 => (ev P np cb b sl1).bind fun rb sl2 => match ra.settle.view sl2, rb.settle.view sl2 with
    | some x, some y => match compare o x y with
      | some true => (ev P np cb c sl2).bind fun rc sl3 => match rb.settle.view sl3, rc.settle.view sl3 with
        | some y', some z => two ((compare o' y' z).map fun k => .fz (.bool k)) sl3
        | _, _ => .no
      | some false => .ok (.t (.fz (.bool false))) sl2
      | none => .no
    | _, _ => .no
  | .one a, sl => (testOf (ev P np cb a sl)).bind fun k sl1 => .ok (.t (.fz (.bool k))) sl1
  | .and a r, sl => (testOf (ev P np cb a sl)).bind fun k sl1 => if k then ev P np cb r sl1 else .ok (.t (.fz (.bool false))) sl1
  | .or a r, sl => (testOf (ev P np cb a sl)).bind fun k sl1 => if k then .ok (.t (.fz (.bool true))) sl1 else ev P np cb r sl1
  | .ife c a b, sl => (testOf (ev P np cb c sl)).bind fun k sl1 => if k then ev P np cb a sl1 else ev P np cb b sl1
  | .tup es, sl => (evs P np cb es sl).bind fun ws sl1 => if szOk ws.length then .ok (.t (.fz (.tuple ws))) sl1 else .no
  | .lst es, sl => (evs P np cb es sl).bind fun ws sl1 => if szOk ws.length then .ok (.t (.lst ws)) sl1 else .no
  | .idx a i, sl => (ev P np cb a sl).bind fun ra sl1 => (ev P np cb i sl1).bind fun ri sl2 => match ra.settle.viewR sl2, ri.settle.view sl2 with
    | some x, some y => two ((index x y).map .fz) sl2
    | _, _ => .no
  | .sl a lo hi hl hh, sl => (ev P np cb a sl).bind fun ra sl1 => (prt hl (ev P np cb lo sl1) sl1).bind fun l sl2 => (prt hh (ev P np cb hi sl2) sl2).bind fun h sl3 =>
      match ra.settle.viewR sl3 with
      | some x => two ((cut x l h).map own) sl3
      | none => .no
  | .call f es, sl => (evr P np cb es sl).bind fun rs sl1 => match argsOf sl1 rs with
    | some ts => if (placesOf rs).Nodup then (match cb f ts with
      | .ok t ts' => .ok (.t t) (putBack sl1 rs ts')
      | .ex c w ts' => .ex c w (putBack sl1 rs ts')
      | .no => .no) else .no
    | none => .no
  | .b1 f a, sl => (ev P np cb a sl).bind fun ra sl1 => match (if f = .len then ra.settle.viewR sl1 else ra.settle.view sl1) with
    | some x => two (call1 f x) sl1
    | none => .no
  | .b2 f a b, sl => (ev P np cb a sl).bind fun ra sl1 => (ev P np cb b sl1).bind fun rb sl2 => match ra.settle.view sl2, rb.settle.view sl2 with
    | some x, some y => two (call2 f x y) sl2
    | _, _ => .no
  | .dnew, sl => .ok (.t (.dct [])) sl
  | .sdf i k e, sl => match sl[i]? with
    | some (some (.dct _)) => (ev P np cb k sl).bind fun rk sl1 => match rk.settle.view sl1 with
      | some kd => (ev P np cb e sl1).bind fun re sl2 => match re.take sl2 with
        | some (w, sl3) => match sl3[i]? with
          | some (some (.dct kvs)) => if kOk kd && decide (kvs.length < sizeLine) then (match lookD kd kvs with
            | some w' => .ok (.t (.fz w')) sl3
            | none => .ok (.t (.fz w)) (sl3.set i (some (.dct (putD kvs kd w))))) else .no
          | _ => .no
        | none => .no
      | none => .no
    | _ => .no
  | .getT i k, sl => match sl[i]? with
    | some (some (.dtt _)) => (ev P np cb k sl).bind fun rk sl1 => match rk.settle.view sl1, sl1[i]? with
      | some kd, some (some (.dtt kvs)) => if tOk kd then two ((lookD kd kvs).map .fz) sl1 else .no
      | _, _ => .no
    | _ => .no
  | .inT neg i k, sl => (ev P np cb k sl).bind fun rk sl1 => match rk.settle.view sl1, sl1[i]? with
    | some kd, some (some (.dtt kvs)) => if tOk kd then .ok (.t (.fz (.bool (neg ^^ (lookD kd kvs).isSome)))) sl1 else .no
    | _, _ => .no
  | .listT i, sl => match sl[i]? with
    | some (some (.dtt kvs)) => .ok (.t (.lst (kvs.map (·.1)))) sl
    | _ => .no
  | .valsT i, sl => match sl[i]? with
    | some (some (.dtt kvs)) => .ok (.t (.lst (kvs.map (·.2)))) sl
    | _ => .no
  | .sortT i, sl => match sl[i]? with
    | some (some (.dtt kvs)) => two (call1 .sorted (.list (kvs.map (·.1)))) sl
    | some (some (.dct kvs)) => two (call1 .sorted (.list (kvs.map (·.1)))) sl
    | _ => .no
  | .lm m a b, sl => (ev P np cb a sl).bind fun ra sl1 => match ra.settle.view sl1 with
    | some (.list _) => (ev P np cb b sl1).bind fun rb sl2 => match ra.settle.view sl2, rb.settle.view sl2 with
      | some (.list ds), some y => two (callL m ds y) sl2
      | _, _ => .no
    | _ => .no
  | .sset a, sl => (ev P np cb a sl).bind fun ra sl1 => match ra.settle.view sl1 with
    | some (.list ds) => if ds.all kOk && alikeB ds && decide (ds.length < 4000) then .ok (.t (.lst (srt (onceD ds)))) sl1 else .no
    | _ => .no
  | .slen a, sl => (ev P np cb a sl).bind fun ra sl1 => match ra.settle.view sl1 with
    | some (.list ds) => if ds.all kOk && decide (ds.length < 4000) then .ok (.t (.fz (.int ((onceD ds).length : Nat)))) sl1 else .no
    | _ => .no
  | .rev a, sl => (ev P np cb a sl).bind fun ra sl1 => match ra.settle.viewR sl1 with
    | some (.list ds) => .ok (.t (.lst ds.reverse)) sl1
    | _ => .no
  | .pop i e, sl => match sl[i]? with
    | some (some (.lst _)) => (ev P np cb e sl).bind fun re sl1 => match re.settle.view sl1, sl1[i]? with
      | some (.int j), some (some (.lst ds)) => if decide (-(2 ^ 63) ≤ j) && decide (j < 2 ^ 63) then (match seqIndex? j ds.length with
        | some k => match ds[k]? with
          | some w => .ok (.t (.fz w)) (sl1.set i (some (.lst (ds.eraseIdx k))))
          | none => .no
        | none => .no) else .no
      | _, _ => .no
    | _ => .no
  | .rvl i, sl => match sl[i]? with
    | some (some (.lst ds)) => .ok (.t (.fz .none)) (sl.set i (some (.lst ds.reverse)))
    | _ => .no
  | .clr i, sl => match sl[i]? with
    | some (some (.lst _)) => .ok (.t (.fz .none)) (sl.set i (some (.lst [])))
    | _ => .no
  | .insl i k e, sl => match sl[i]? with
    | some (some (.lst _)) => (ev P np cb k sl).bind fun rk sl1 => match rk.settle.view sl1 with
      | some (.int j) => (ev P np cb e sl1).bind fun re sl2 => match re.take sl2 with
        | some (w, sl3) => match sl3[i]? with
          | some (some (.lst ds)) => if decide (0 ≤ j) && decide (j < 2 ^ 63) && decide (ds.length < sizeLine) then .ok (.t (.fz .none)) (sl3.set i (some (.lst (ds.take j.toNat ++ [w] ++ ds.drop j.toNat)))) else .no
          | _ => .no
        | none => .no
      | _ => .no
    | _ => .no
  | .isi a k, sl => (ev P np cb a sl).bind fun ra sl1 => match ra.settle.view sl1 with
    | some x => if notD x then .ok (.t (.fz (.bool (isKd P k x)))) sl1 else .no
    | none => .no
  | .m1 m a b, sl => (ev P np cb a sl).bind fun ra sl1 => match ra.settle with
    | .t (.fz (.str x)) => (ev P np cb b sl1).bind fun rb sl2 => match rb.settle.view sl2 with
      | some y => two (callM m x y) sl2
      | _ => .no
    | _ => .no
  | .lc elt tg k a b c cond has, sl => (itr k (ev P np cb a) (ev P np cb b) (ev P np cb c) sl).bind fun w sl3 => match lockR sl3 w.2.1 with
    | some sl4 => match lockR sl4 w.2.2 with
      | some sl5 => if plainAt sl5 tg.slots then
          (match lcGo np tg (lcB has (ev P np cb cond) (ev P np cb elt)) w.1 [] (wipe sl5 tg.slots) with
          | .ok out s => (match unlock (restore sl5 s tg.slots) (lockOf sl4 w.2.2 ++ lockOf sl3 w.2.1) with
            | some s' => .ok (.t (.lst out)) s'
            | none => .no)
          | _ => .no)
        else .no
      | none => .no
    | none => .no
  | _, _ => .no
/-- items of a display, frozen -/
def evs (P : Pg) (np : Nat → Bool) (cb : Nat → List T → FRes) : E → Sl → Res (List Da)
  | .nil, sl => .ok [] sl
  | .cons e es, sl => (ev P np cb e sl).bind fun r sl1 => match r.take sl1 with
    | some (w, sl2) => (evs P np cb es sl2).bind fun ws sl3 => .ok (w :: ws) sl3
    | none => .no
  | _, _ => .no
/-- arguments -/
def evr (P : Pg) (np : Nat → Bool) (cb : Nat → List T → FRes) : E → Sl → Res (List R)
  | .nil, sl => .ok [] sl
  | .cons e es, sl => (ev P np cb e sl).bind fun r sl1 => (evr P np cb es sl1).bind fun rs sl2 => .ok (r.settle :: rs) sl2
  | _, _ => .no
end

def augI : BOp → Int → Int → Option Int
  | .add, i, j => some (i + j)
  | .sub, i, j => some (i - j)
  | .mul, i, j => if mulOk i j then some (i * j) else none
  | _, _, _ => none
/-! ### statements -/
inductive S where
  | nop
  | never
  | brk
  | cont
  | seq (a b : S)
  | ex (e : E)
  | as (i : Nat) (e : E)
  | ast (is : List Nat) (e : E)
  | aug (i : Nat) (o : BOp) (e : E)
  | ret (e : E)
  | ifs (c : E) (a b : S)
  | for (tg : Tg) (k : IK) (a b c : E) (body : S)
  | whl (m : Nat) (c : E) (body : S)
  | app (i : Nat) (e : E)
  | ext (i : Nat) (e : E)
  | setL (i : Nat) (k e : E)
  | newT (i : Nat)
  | setT (i : Nat) (k e : E)
  | kil (ks : List Nat) (b : S)

inductive SRes where
  | nx (sl : Sl)
  | bk (sl : Sl)
  | ct (sl : Sl)
  | rt (t : T) (sl : Sl)
  | ex (c : Str) (f : Option Da) (sl : Sl)
  | no

def Res.andS {α : Type} (r : Res α) (f : α → Sl → SRes) : SRes :=
  match r with
  | .ok a sl => f a sl
  | .ex c w sl => .ex c w sl
  | .no => .no
def SRes.andS (r : SRes) (f : Sl → SRes) : SRes :=
  match r with
  | .nx sl => f sl
  | r => r
/-- what slots hold is forgotten -/
def kilS (np : Nat → Bool) : List Nat → Sl → Sl
  | [], sl => sl
  | k :: ks, sl => kilS np ks (if np k then sl else sl.set k none)
def SRes.kil (np : Nat → Bool) (ks : List Nat) : SRes → SRes
  | .nx sl => .nx (kilS np ks sl)
  | .bk sl => .bk (kilS np ks sl)
  | .ct sl => .ct (kilS np ks sl)
  | r => r
def nxt (o : Option Sl) : SRes :=
  match o with
  | some sl => .nx sl
  | none => .no
def forGo (np : Nat → Bool) (tg : Tg) (body : Sl → SRes) : List Da → Sl → SRes
  | [], sl => .nx sl
  | x :: r, sl => match tg.put np x sl with
    | none => .no
    | some sl1 => match body sl1 with
      | .nx sl2 => forGo np tg body r sl2
      | .ct sl2 => forGo np tg body r sl2
      | .bk sl2 => .nx sl2
      | o => o
def whileGo (test : Sl → Res Bool) (body : Sl → SRes) : Nat → Sl → SRes
  | 0, _ => .no
  | m + 1, sl => (test sl).andS fun k sl1 => if k then (match body sl1 with
      | .nx sl2 => whileGo test body m sl2
      | .ct sl2 => whileGo test body m sl2
      | .bk sl2 => .nx sl2
      | o => o) else .nx sl1
/-- locks are opened behind a loop, whichever way it is left -/
def SRes.mapO (f : Sl → Option Sl) : SRes → SRes
  | .nx sl => match f sl with
    | some s => .nx s
    | none => .no
  | .bk sl => match f sl with
    | some s => .bk s
    | none => .no
  | .ct sl => match f sl with
    | some s => .ct s
    | none => .no
  | .rt t sl => match f sl with
    | some s => .rt t s
    | none => .no
  | .ex c w sl => match f sl with
    | some s => .ex c w s
    | none => .no
  | .no => .no
def retOf (np : Nat → Bool) (r : R) (sl : Sl) : SRes :=
  match r with
  | .t t => .rt t sl
  | .p i => if np i then (match (R.p i).take sl with
      | some (w, sl1) => .rt (.fz w) sl1
      | none => .no) else (match sl[i]? with
      | some (some (.lst ds)) => .rt (.lst ds) (sl.set i none)
      | some (some (.dct kvs)) => .rt (.dct kvs) (sl.set i none)
      | _ => .no)
  | .q _ _ => .no

def exec (P : Pg) (np : Nat → Bool) (cb : Nat → List T → FRes) : S → Sl → SRes
  | .nop, sl => .nx sl
  | .never, _ => .no
  | .brk, sl => .bk sl
  | .cont, sl => .ct sl
  | .seq a b, sl => (exec P np cb a sl).andS (exec P np cb b)
  | .ex e, sl => (ev P np cb e sl).andS fun _ sl1 => .nx sl1
  | .as i e, sl => (ev P np cb e sl).andS fun r sl1 => match r with
    | .t t => nxt (put np sl1 i t)
    | r => match r.take sl1 with
      | some (w, sl2) => nxt (putF np sl2 i w)
      | none => .no
  | .ast is e, sl => (ev P np cb e sl).andS fun r sl1 => match r.take sl1 with
    | some (.tuple ws, sl2) => nxt (putAll np sl2 is ws)
    | _ => .no
  | .aug i o e, sl => match sl[i]? with
    | some (some (.fz (.int x))) => (ev P np cb e sl).andS fun r sl1 => match r.settle.view sl1 with
      | some (.int y) => (match augI o x y with
        | some w => nxt (putF np sl1 i (.int w))
        | none => .no)
      | _ => .no
    | _ => .no
  | .ret e, sl => (ev P np cb e sl).andS fun r sl1 => retOf np r sl1
  | .ifs c a b, sl => (testOf (ev P np cb c sl)).andS fun k sl1 => if k then exec P np cb a sl1 else exec P np cb b sl1
  | .for tg k a b c body, sl => (itr k (ev P np cb a) (ev P np cb b) (ev P np cb c) sl).andS fun w sl3 => match lockR sl3 w.2.1 with
    | some sl4 => match lockR sl4 w.2.2 with
      | some sl5 => SRes.mapO (fun s => unlock s (lockOf sl4 w.2.2 ++ lockOf sl3 w.2.1)) (forGo np tg (exec P np cb body) w.1 sl5)
      | none => .no
    | none => .no
  | .whl m c body, sl => whileGo (fun s => testOf (ev P np cb c s)) (exec P np cb body) m sl
  | .app i e, sl => match sl[i]? with
    | some (some (.lst _)) => (ev P np cb e sl).andS fun r sl1 => match r.take sl1 with
      | some (w, sl2) => match sl2[i]? with
        | some (some (.lst ds)) => if decide (ds.length < sizeLine) then .nx (sl2.set i (some (.lst (ds ++ [w])))) else .no
        | _ => .no
      | none => .no
    | _ => .no
  | .ext i e, sl => match sl[i]? with
    | some (some (.lst _)) => (ev P np cb e sl).andS fun r sl1 => match r.settle.view sl1 with
      | some (.list ws) => match sl1[i]? with
        | some (some (.lst ds)) => if szOk (ds.length + ws.length) then .nx (sl1.set i (some (.lst (ds ++ ws)))) else .no
        | _ => .no
      | _ => .no
    | _ => .no
  | .newT i, sl => nxt (put np sl i (.dtt []))
  | .kil ks b, sl => (exec P np cb b sl).kil np ks
  | .setT i k e, sl => (ev P np cb e sl).andS fun r sl1 => match r.take sl1 with
    | some (w, sl2) => match sl2[i]? with
      | some (some (.dtt _)) => (ev P np cb k sl2).andS fun rk sl3 => match rk.settle.view sl3, sl3[i]? with
        | some kd, some (some (.dtt kvs)) => if tOk kd && decide (kvs.length < sizeLine) then .nx (sl3.set i (some (.dtt (putD kvs kd w)))) else .no
        | _, _ => .no
      | _ => .no
    | none => .no
  | .setL i k e, sl => (ev P np cb e sl).andS fun r sl1 => match r.take sl1 with
    | some (w, sl2) => match sl2[i]? with
      | some (some (.lst _)) => (ev P np cb k sl2).andS fun rk sl3 => match rk.settle.view sl3, sl3[i]? with
        | some (.int j), some (some (.lst ds)) => match L2.ixN ds.length j with
          | some n => .nx (sl3.set i (some (.lst (ds.set n w))))
          | none => .no
        | _, _ => .no
      | some (some (.dct _)) => (ev P np cb k sl2).andS fun rk sl3 => match rk.settle.view sl3, sl3[i]? with
        | some kd, some (some (.dct kvs)) => if kOk kd && decide (kvs.length < sizeLine) then .nx (sl3.set i (some (.dct (putD kvs kd w)))) else .no
        | _, _ => .no
      | _ => .no
    | none => .no

/-- a def: its parameters' number, its slots' number, its body -/
structure Fd where
  np : Nat
  ns : Nat
  body : S
/-- the arguments' things behind a call: what came as a thing of its own, as it is now -/
def backs : List T → Sl → Option (List T)
  | [], _ => some []
  | _ :: _, [] => none
  | t :: ts, o :: sl => if t.isOwn then (match o with
      | some u => (backs ts sl).map (u :: ·)
      | none => none) else (backs ts sl).map (t :: ·)
def finish (ts : List T) (r : SRes) : FRes :=
  match r with
  | .nx sl => match backs ts sl with
    | some ts' => .ok (.fz .none) ts'
    | none => .no
  | .rt t sl => match backs ts sl with
    | some ts' => .ok t ts'
    | none => .no
  | .ex c w sl => match backs ts sl with
    | some ts' => .ex c w ts'
    | none => .no
  | _ => .no
/-- the parameters that came with a thing of their own -/
def flg (ts : List T) (i : Nat) : Bool := match ts[i]? with
  | some t => t.isOwn
  | none => false
def run (P : Pg) (D : Nat → Option Fd) : Nat → Nat → List T → FRes
  | 0, _, _ => .no
  | n + 1, f, ts => match D f with
    | some d => if ts.length = d.np then finish ts (exec P (flg ts) (run P D n) d.body (ts.map some ++ List.replicate (d.ns - d.np) none)) else .no
    | none => .no

end Md

/-! Md, part B: how data stands in the abstract heap. -/
namespace Md
open PySem PySem.Spec L2
variable [Wd]

/-- a key as data -/
def keyD : L2.Key → Da
  | .inl i => .int i
  | .inr x => .str x
def keyOk : L2.Key → Prop
  | .inl _ => True
  | .inr x => PyData.strOk x = true
section
variable (K : PySem.W.Frag)
mutual
/-- v is the frozen datum d; F: what is frozen -/
inductive Rp (F : Hp) : V → Da → Prop where
  | non : Rp F .non .none
  | bl (b : Bool) : Rp F (.bl b) (.bool b)
  | int (i : Int) : Rp F (.int i) (.int i)
  | str (x : Str) (h : PyData.strOk x = true) : Rp F (.str x) (.str x)
  | lst {a : Addr} {vs : List V} {ds : List Da} : F a = some (.lst vs) → RpA F vs ds → Rp F (.ref a) (.list ds)
  | tup {a : Addr} {vs : List V} {ds : List Da} : SqT K F a vs → RpA F vs ds → Rp F (.ref a) (.tuple ds)
  | dic {a : Addr} {ks : List (L2.Key × V)} {kvs : List (Da × Da)} : F a = some (.dK ks) → RpK F ks kvs → Rp F (.ref a) (.dict kvs)
  | ins {a C dx : Addr} {c : Str} {vs : List (Str × V)} {fs : List (Str × Da)} : F a = some (.ins C dx vs) → F dx = some (.own a) → PySem.W.nsIn K mainGlobals c = some (some (.ref C)) → RpF F vs fs → Rp F (.ref a) (insD c fs)
inductive RpA (F : Hp) : List V → List Da → Prop where
  | nil : RpA F [] []
  | cons {v : V} {vs : List V} {d : Da} {ds : List Da} : Rp F v d → RpA F vs ds → RpA F (v :: vs) (d :: ds)
inductive RpK (F : Hp) : List (L2.Key × V) → List (Da × Da) → Prop where
  | nil : RpK F [] []
  | cons {k : L2.Key} {v : V} {r : List (L2.Key × V)} {d : Da} {ds : List (Da × Da)} : keyOk k → Rp F v d → RpK F r ds → RpK F ((k, v) :: r) ((keyD k, d) :: ds)
inductive RpF (F : Hp) : List (Str × V) → List (Str × Da) → Prop where
  | nil : RpF F [] []
  | cons {f : Str} {v : V} {r : List (Str × V)} {d : Da} {ds : List (Str × Da)} : Rp F v d → RpF F r ds → RpF F ((f, v) :: r) ((f, d) :: ds)
end
end

section
variable {K : PySem.W.Frag} {F F' H H' : Hp}
theorem sqL_mono (s : Same F F') {a : Addr} {xs : List V} (h : SqL K F a xs) : SqL K F' a xs := s.seq h
theorem sqT_mono (s : Same F F') {a : Addr} {xs : List V} (h : SqT K F a xs) : SqT K F' a xs := by
  rcases h with (h | ⟨o, h⟩) | h
  · exact .inl (.inl (s _ _ h))
  · exact .inl (.inr ⟨o, s _ _ h⟩)
  · exact .inr h
mutual
theorem Rp.mono (s : Same F F') : ∀ {v : V} {d : Da}, Rp K F v d → Rp K F' v d
  | _, _, .non => .non
  | _, _, .bl b => .bl b
  | _, _, .int i => .int i
  | _, _, .str x h => .str x h
  | _, _, .lst q r => .lst (s _ _ q) (r.mono s)
  | _, _, .tup q r => .tup (sqT_mono s q) (r.mono s)
  | _, _, .dic q r => .dic (s _ _ q) (r.mono s)
  | _, _, .ins q1 q2 q3 r => .ins (s _ _ q1) (s _ _ q2) q3 (r.mono s)
theorem RpA.mono (s : Same F F') : ∀ {vs : List V} {ds : List Da}, RpA K F vs ds → RpA K F' vs ds
  | _, _, .nil => .nil
  | _, _, .cons r rs => .cons (r.mono s) (rs.mono s)
theorem RpK.mono (s : Same F F') : ∀ {ks : List (L2.Key × V)} {kvs : List (Da × Da)}, RpK K F ks kvs → RpK K F' ks kvs
  | _, _, .nil => .nil
  | _, _, .cons h r rs => .cons h (r.mono s) (rs.mono s)
theorem RpF.mono (s : Same F F') : ∀ {vs : List (Str × V)} {fs : List (Str × Da)}, RpF K F vs fs → RpF K F' vs fs
  | _, _, .nil => .nil
  | _, _, .cons r rs => .cons (r.mono s) (rs.mono s)
end
theorem RpK.head {ks : List (L2.Key × V)} {kvs : List (Da × Da)} {k w : Da} {r : List (Da × Da)} (h : RpK K F ks kvs) (e : kvs = (k, w) :: r) : (match k with
    | .int _ => true
    | .str _ => true
    | _ => false) = true := by
  cases h with
  | nil => cases e
  | cons _ _ _ =>
    rename_i j _ _ _ _ _ _ _
    cases e
    cases j <;> rfl
theorem RpK.length : ∀ {ks : List (L2.Key × V)} {kvs : List (Da × Da)}, RpK K F ks kvs → ks.length = kvs.length
  | _, _, .nil => rfl
  | _, _, .cons _ _ r => by simp [RpK.length r]
theorem RpA.length : ∀ {vs : List V} {ds : List Da}, RpA K F vs ds → vs.length = ds.length
  | _, _, .nil => rfl
  | _, _, .cons _ r => by simp [RpA.length r]
theorem RpA.get : ∀ {vs : List V} {ds : List Da} {i : Nat} {v : V}, RpA K F vs ds → vs[i]? = some v → ∃ d, ds[i]? = some d ∧ Rp K F v d
  | _, _, _, _, .nil, e => by simp at e
  | _, _, 0, _, .cons r _, e => by simp at e; subst e; exact ⟨_, rfl, r⟩
  | _, _, i + 1, _, .cons _ r, e => by simpa using RpA.get (i := i) r (by simpa using e)
theorem RpA.get' : ∀ {vs : List V} {ds : List Da} {i : Nat} {d : Da}, RpA K F vs ds → ds[i]? = some d → ∃ v, vs[i]? = some v ∧ Rp K F v d
  | _, _, _, _, .nil, e => by simp at e
  | _, _, 0, _, .cons r _, e => by simp at e; subst e; exact ⟨_, rfl, r⟩
  | _, _, i + 1, _, .cons _ r, e => by simpa using RpA.get' (i := i) r (by simpa using e)
theorem RpA.append : ∀ {vs ws : List V} {ds es : List Da}, RpA K F vs ds → RpA K F ws es → RpA K F (vs ++ ws) (ds ++ es)
  | _, _, _, _, .nil, r => r
  | _, _, _, _, .cons a r, r' => .cons a (r.append r')
theorem RpA.take : ∀ (n : Nat) {vs : List V} {ds : List Da}, RpA K F vs ds → RpA K F (vs.take n) (ds.take n)
  | 0, _, _, _ => .nil
  | n + 1, _, _, .nil => .nil
  | n + 1, _, _, .cons a r => .cons a (r.take n)
theorem RpA.drop : ∀ (n : Nat) {vs : List V} {ds : List Da}, RpA K F vs ds → RpA K F (vs.drop n) (ds.drop n)
  | 0, _, _, r => r
  | n + 1, _, _, .nil => .nil
  | n + 1, _, _, .cons _ r => r.drop n
theorem RpA.set {v : V} {d : Da} (h : Rp K F v d) : ∀ (n : Nat) {vs : List V} {ds : List Da}, RpA K F vs ds → RpA K F (vs.set n v) (ds.set n d)
  | _, _, _, .nil => .nil
  | 0, _, _, .cons _ r => .cons h r
  | n + 1, _, _, .cons a r => .cons a (r.set h n)
theorem RpA.reverse {vs : List V} {ds : List Da} (h : RpA K F vs ds) : RpA K F vs.reverse ds.reverse := by
  induction h using RpA.rec (motive_1 := fun _ _ _ => True) (motive_3 := fun _ _ _ => True) (motive_4 := fun _ _ _ => True) with
  | nil => exact .nil
  | cons a r _ ih => rw [List.reverse_cons, List.reverse_cons]; exact ih.append (.cons a .nil)
  | _ => trivial

mutual
theorem Rp.dp : ∀ {d : Da} {v : V} (k : Nat), Rp K F v d → fits k d = true → Dp K F v d ∧ d.canLay0 = true ∧ d.depth ≤ k
  | .none, _, k, .non, _ => ⟨.non, rfl, Nat.zero_le _⟩
  | .bool _, _, k, .bl b, _ => ⟨.bl b, rfl, Nat.zero_le _⟩
  | .int _, _, k, .int i, _ => ⟨.int i, rfl, Nat.zero_le _⟩
  | .str _, _, k, .str x h, _ => ⟨.str x, h, Nat.zero_le _⟩
  | .list ds, _, 0, .lst q r, h => by simp [fits] at h
  | .list ds, _, k + 1, .lst q r, h => by
    rw [fits] at h
    obtain ⟨a, b, c⟩ := RpA.dp k r h
    exact ⟨.lst (.inl (.inl q)) a, by rw [PyData.canLay0]; exact b, by rw [PyData.depth]; omega⟩
  | .tuple ds, _, 0, .tup q r, h => by simp [fits] at h
  | .tuple ds, _, k + 1, .tup q r, h => by
    rw [fits] at h
    obtain ⟨a, b, c⟩ := RpA.dp k r h
    exact ⟨.tup q a, by rw [PyData.canLay0]; exact b, by rw [PyData.depth]; omega⟩
theorem RpA.dp : ∀ {ds : List Da} {vs : List V} (k : Nat), RpA K F vs ds → fitsAll k ds = true → DpAll K F vs ds ∧ PyData.canLayAll0 ds = true ∧ PyData.depthAll ds ≤ k
  | [], _, k, .nil, _ => ⟨.nil, rfl, Nat.zero_le _⟩
  | d :: ds, _, k, .cons a r, h => by
    rw [fitsAll, Bool.and_eq_true] at h
    obtain ⟨a1, b1, c1⟩ := Rp.dp k a h.1
    obtain ⟨a2, b2, c2⟩ := RpA.dp k r h.2
    exact ⟨.cons a1 a2, by rw [PyData.canLayAll0, b1, b2]; rfl, by rw [PyData.depthAll]; exact Nat.max_le.mpr ⟨c1, c2⟩⟩
end
theorem shaped_of {d : Da} {v : V} (r : Rp K F v d) (h : fits 64 d = true) : SeqAt.shaped d = true := by
  obtain ⟨_, b, c⟩ := r.dp 64 h
  unfold SeqAt.shaped
  rw [b, decide_eq_true c]; rfl
end

/-! ### who owns what: label 0 nobody here, 1 what an expression has just made, i + 2 the slot i -/
abbrev Lbl := Addr → Nat
structure Ok (F H : Hp) (L : Lbl) : Prop where
  sub : Same F H
  dis : ∀ a, L a ≠ 0 → F a = none
  dom : ∀ a, L a ≠ 0 → H a ≠ none
theorem Ok.zero {F H : Hp} {L : Lbl} (ok : Ok F H L) {a : Addr} (h : H a = none) : L a = 0 := by
  by_cases e : L a = 0
  · exact e
  · exact absurd h (ok.dom a e)
theorem Ok.fn {F H : Hp} {L : Lbl} (ok : Ok F H L) {a : Addr} (h : H a = none) : F a = none := by
  cases e : F a with
  | none => rfl
  | some o => rw [ok.sub a o e] at h; cases h

mutual
/-- a key that is a tuple, as the library has it -/
def keyN : Da → NestedKey
  | .int i => .num i
  | .str x => .text x
  | .tuple xs => .tup (keyNs xs)
  | _ => .none
def keyNs : List Da → List NestedKey
  | [] => []
  | x :: xs => keyN x :: keyNs xs
end
/-- an entry of a dict with tuples as keys -/
def entN (w : World) (x : NestedKey × Addr × Value) : DictEntry := ⟨NestedKey.hash w x.1, .ref x.2.1, x.2.2⟩
abbrev TK := NestedKey × Addr × V
def DtRel (p : TK) (q : NestedKey × Addr × Value) : Prop := p.1 = q.1 ∧ p.2.1 = q.2.1 ∧ RelV p.2.2 q.2.2
/-- a dict with tuples as keys stands at a -/
def DtR (w : World) (h : Heap) (a : Addr) (ks : List TK) : Prop := ks.length ≤ sizeLine ∧ (a == sysModules) = false ∧ ∃ vals : List (NestedKey × Addr × Value), Paired DtRel ks vals ∧
  ∃ o es ep, h.get? a = some o ∧ o.ExactDict ∧ o.data = .dict es ep ∧ es.toList = vals.map (entN w) ∧ (vals.map (·.1)).Nodup
def DtO (w : World) (a : Addr) (ks : List TK) : HO := .ext fun h => DtR w h a ks
section
variable (K : PySem.W.Frag)
/-- .. its keys and its values as data -/
inductive RpT (F : Hp) : List TK → List (Da × Da) → Prop where
  | nil : RpT F [] []
  | cons {b : Addr} {v : V} {k d : Da} {r : List TK} {ds : List (Da × Da)} : tOk k = true → Rp K F (.ref b) k → Rp K F v d → RpT F r ds → RpT F ((keyN k, b, v) :: r) ((k, d) :: ds)
/-- .. its values lists of its own, at the places bs -/
inductive RpL (F H : Hp) : List TK → List Addr → List (Da × List Da) → Prop where
  | nil : RpL F H [] [] []
  | cons {b c : Addr} {k : Da} {vs : List V} {xs : List Da} {r : List TK} {bs : List Addr} {ds : List (Da × List Da)} : tOk k = true → Rp K F (.ref b) k → H c = some (.lst vs) → RpA K F vs xs → RpL F H r bs ds → RpL F H ((keyN k, b, .ref c) :: r) (c :: bs) ((k, xs) :: ds)
/-- lists at the places bs -/
inductive RpN (F H : Hp) : List Addr → List (List Da) → Prop where
  | nil : RpN F H [] []
  | cons {b : Addr} {vs : List V} {xs : List Da} {bs : List Addr} {ds : List (List Da)} : H b = some (.lst vs) → RpA K F vs xs → RpN F H bs ds → RpN F H (b :: bs) (xs :: ds)
end
section
variable {K : PySem.W.Frag} {F F' H H' : Hp}
theorem RpT.mono (s : Same F F') : ∀ {ks : List TK} {kvs : List (Da × Da)}, RpT K F ks kvs → RpT K F' ks kvs
  | _, _, .nil => .nil
  | _, _, .cons a b c r => .cons a (b.mono s) (c.mono s) (r.mono s)
theorem RpL.mono (s : Same F F') : ∀ {ks : List TK} {bs : List Addr} {kvs : List (Da × List Da)}, (∀ a ∈ bs, H' a = H a) → RpL K F H ks bs kvs → RpL K F' H' ks bs kvs
  | _, _, _, _, .nil => .nil
  | _, _, _, k, .cons a b c d r => .cons a (b.mono s) (by rw [k _ List.mem_cons_self]; exact c) (d.mono s) (r.mono s fun x hx => k x (List.mem_cons_of_mem _ hx))
theorem RpN.mono (s : Same F F') : ∀ {bs : List Addr} {xss : List (List Da)}, (∀ a ∈ bs, H' a = H a) → RpN K F H bs xss → RpN K F' H' bs xss
  | _, _, _, .nil => .nil
  | _, _, k, .cons c d r => .cons (by rw [k _ List.mem_cons_self]; exact c) (d.mono s) (r.mono s fun x hx => k x (List.mem_cons_of_mem _ hx))
theorem RpT.length : ∀ {ks : List TK} {kvs : List (Da × Da)}, RpT K F ks kvs → ks.length = kvs.length
  | _, _, .nil => rfl
  | _, _, .cons _ _ _ r => by simp [r.length]
end
/-- things of their own at the places A -/
def Big (K : PySem.W.Frag) (F H : Hp) (A : List Addr) (v : V) : T → Prop
  | .dtt kvs => ∃ a ks, v = .ref a ∧ A = [a] ∧ H a = some (DtO Wd.w a ks) ∧ RpT K F ks kvs
  | .dcl kvs => ∃ a ks bs, v = .ref a ∧ A = a :: bs ∧ (a :: bs).Nodup ∧ H a = some (DtO Wd.w a ks) ∧ RpL K F H ks bs kvs
  | .nst xss => ∃ a bs, v = .ref a ∧ A = a :: bs ∧ (a :: bs).Nodup ∧ H a = some (.lst (bs.map .ref)) ∧ RpN K F H bs xss
  | .ins c fs => ∃ a C dx vs, v = .ref a ∧ A = [a, dx] ∧ H a = some (.ins C dx vs) ∧ H dx = some (.own a) ∧ PySem.W.nsIn K mainGlobals c = some (some (.ref C)) ∧ RpF K F vs fs
  | _ => False
theorem Big.mono {K : PySem.W.Frag} {F F' H H' : Hp} {A : List Addr} {v : V} : ∀ {t : T}, Big K F H A v t → Same F F' → (∀ a ∈ A, H' a = H a) → Big K F' H' A v t
  | .dtt kvs, ⟨a, ks, e1, e2, e3, r⟩, s, k => ⟨a, ks, e1, e2, by rw [k a (by rw [e2]; exact List.mem_cons_self)]; exact e3, r.mono s⟩
  | .dcl kvs, ⟨a, ks, bs, e1, e2, e3, e4, r⟩, s, k => ⟨a, ks, bs, e1, e2, e3, by rw [k a (by rw [e2]; exact List.mem_cons_self)]; exact e4, r.mono s fun x hx => k x (by rw [e2]; exact List.mem_cons_of_mem _ hx)⟩
  | .nst xss, ⟨a, bs, e1, e2, e3, e4, r⟩, s, k => ⟨a, bs, e1, e2, e3, by rw [k a (by rw [e2]; exact List.mem_cons_self)]; exact e4, r.mono s fun x hx => k x (by rw [e2]; exact List.mem_cons_of_mem _ hx)⟩
  | .ins c fs, ⟨a, C, dx, vs, e1, e2, e3, e4, e5, r⟩, s, k => ⟨a, C, dx, vs, e1, e2, by rw [k a (by rw [e2]; exact List.mem_cons_self)]; exact e3, by rw [k dx (by rw [e2]; exact List.mem_cons_of_mem _ List.mem_cons_self)]; exact e4, e5, r.mono s⟩
  | .fz _, h, _, _ => h.elim
  | .ro _, h, _, _ => h.elim
  | .lst _, h, _, _ => h.elim
  | .lk _, h, _, _ => h.elim
  | .dct _, h, _, _ => h.elim
  | .lkd _, h, _, _ => h.elim
section
variable (K : PySem.W.Frag)
inductive Ow (F H : Hp) (L : Lbl) (l : Nat) : V → T → Prop where
  | fz {v : V} {d : Da} : Rp K F v d → Ow F H L l v (.fz d)
  | ro {a : Addr} {vs : List V} {ds : List Da} : SqL K F a vs → RpA K F vs ds → Ow F H L l (.ref a) (.ro ds)
  | lst {a : Addr} {vs : List V} {ds : List Da} : H a = some (.lst vs) → L a = l → RpA K F vs ds → Ow F H L l (.ref a) (.lst ds)
  | lk {a : Addr} {vs : List V} {ds : List Da} : H a = some (.lst vs) → L a = 0 → F a = none → RpA K F vs ds → Ow F H L l (.ref a) (.lk ds)
  | dct {a : Addr} {ks : List (L2.Key × V)} {kvs : List (Da × Da)} : H a = some (.dK ks) → L a = l → RpK K F ks kvs → Ow F H L l (.ref a) (.dct kvs)
  | lkd {a : Addr} {o : Obj} {ks : List (L2.Key × V)} {kvs : List (Da × Da)} : F a = some (.frz o (.dK ks)) → RpK K F ks kvs → Ow F H L l (.ref a) (.lkd kvs)
  | big {v : V} {t : T} (A : List Addr) : t.isBig = true → (∀ a ∈ A, L a = l ∧ H a ≠ none) → Big K F H A v t → Ow F H L l v t
structure Rel (F H : Hp) (L : Lbl) (σ : St) (sl : Sl) : Prop where
  len : sl.length = σ.length
  at_ : ∀ (i : Nat) (t : T), sl[i]? = some (some t) → ∃ v, σ[i]? = some (some v) ∧ Ow K F H L (i + 2) v t
structure G (F H : Hp) (L : Lbl) (σ : St) (sl : Sl) : Prop where
  ok : Ok F H L
  rel : Rel K F H L σ sl
  tmp : ∀ a, L a ≠ 1
end
/-- from one state to the next: what is frozen stays, what nobody here owns stays; what is owned or frozen anew was owned, or is new -/
structure Stp (F H : Hp) (L : Lbl) (F' H' : Hp) (L' : Lbl) : Prop where
  fro : Same F F'
  out : ∀ a o, H a = some o → L a = 0 → H' a = some o
  own : ∀ a, L' a ≠ 0 → L a ≠ 0 ∨ H a = none
  new : ∀ a, F' a ≠ none → F a ≠ none ∨ L a ≠ 0 ∨ H a = none
section
variable {K : PySem.W.Frag} {F F' F'' H H' H'' : Hp} {L L' L'' : Lbl} {σ : St} {sl sl' : Sl}
theorem Stp.refl (F H : Hp) (L : Lbl) : Stp F H L F H L := ⟨Same.refl _, fun _ _ h _ => h, fun _ h => .inl h, fun _ h => .inl h⟩
theorem Stp.trans (a : Stp F H L F' H' L') (b : Stp F' H' L' F'' H'' L'') : Stp F H L F'' H'' L'' where
  fro := a.fro.trans b.fro
  out := fun x o h l => by
    refine b.out x o (a.out x o h l) ?_
    cases e : L' x with
    | zero => rfl
    | succ n =>
      rcases a.own x (by rw [e]; simp) with q | q
      · exact absurd l q
      · rw [q] at h; cases h
  own := fun x h => by
    rcases b.own x h with q | q
    · exact a.own x q
    · by_cases l : L x = 0
      · cases e : H x with
        | none => exact .inr rfl
        | some o => rw [a.out x o e l] at q; cases q
      · exact .inl l
  new := fun x h => by
    rcases b.new x h with q | q | q
    · exact a.new x q
    · rcases a.own x q with z | z
      · exact .inr (.inl z)
      · exact .inr (.inr z)
    · by_cases l : L x = 0
      · cases e : H x with
        | none => exact .inr (.inr rfl)
        | some o => rw [a.out x o e l] at q; cases q
      · exact .inr (.inl l)
theorem Stp.zero (st : Stp F H L F' H' L') {a : Addr} {o : HO} (e : H a = some o) (l : L a = 0) : H' a = some o ∧ L' a = 0 := by
  refine ⟨st.out a o e l, ?_⟩
  by_cases z : L' a = 0
  · exact z
  · rcases st.own a z with q | q
    · exact absurd l q
    · rw [q] at e; cases e
theorem Stp.nof (st : Stp F H L F' H' L') {a : Addr} {o : HO} (e : H a = some o) (l : L a = 0) (f : F a = none) : F' a = none := by
  cases z : F' a with
  | none => rfl
  | some u =>
    rcases st.new a (by rw [z]; simp) with q | q | q
    · exact absurd f q
    · exact absurd l q
    · rw [q] at e; cases e
theorem Ow.mono {l : Nat} {v : V} {t : T} (h : Ow K F H L l v t) (st : Stp F H L F' H' L') (k : ∀ a o, H a = some o → L a = l → H' a = some o ∧ L' a = l) : Ow K F' H' L' l v t := by
  cases h with
  | fz r => exact .fz (r.mono st.fro)
  | ro q r => exact .ro (sqL_mono st.fro q) (r.mono st.fro)
  | lst e q r => exact .lst (k _ _ e q).1 (k _ _ e q).2 (r.mono st.fro)
  | lk e q f r => exact .lk (st.zero e q).1 (st.zero e q).2 (st.nof e q f) (r.mono st.fro)
  | dct e q r => exact .dct (k _ _ e q).1 (k _ _ e q).2 (r.mono st.fro)
  | lkd e r => exact .lkd (st.fro _ _ e) (r.mono st.fro)
  | big A b hA hb =>
    have key : ∀ a ∈ A, ∃ o, H a = some o ∧ H' a = some o ∧ L' a = l := fun a ha => by
      obtain ⟨q, n⟩ := hA a ha
      cases e : H a with
      | none => exact absurd e n
      | some o => exact ⟨o, rfl, (k _ _ e q).1, (k _ _ e q).2⟩
    refine .big A b (fun a ha => ?_) (hb.mono st.fro fun a ha => ?_)
    · obtain ⟨o, _, h2, h3⟩ := key a ha
      exact ⟨h3, by rw [h2]; simp⟩
    · obtain ⟨o, h1, h2, _⟩ := key a ha
      rw [h1, h2]
theorem Rel.mono (h : Rel K F H L σ sl) (st : Stp F H L F' H' L') (k : ∀ a o, H a = some o → 2 ≤ L a → H' a = some o ∧ L' a = L a) : Rel K F' H' L' σ sl :=
  ⟨h.len, fun i t e => by
    obtain ⟨v, h1, h2⟩ := h.at_ i t e
    exact ⟨v, h1, h2.mono st fun a o e q => by
      obtain ⟨x, y⟩ := k a o e (by omega)
      exact ⟨x, by rw [y]; exact q⟩⟩⟩
/-- a view: the top cell as it stands, what is in it frozen -/
def Vw (K : PySem.W.Frag) (F H : Hp) (v : V) (d : Da) : Prop :=
  match d with
  | .list ds => ∃ a vs, v = .ref a ∧ H a = some (.lst vs) ∧ RpA K F vs ds
  | .dict kvs => (∃ a ks, v = .ref a ∧ Rd H a (.dK ks) ∧ RpK K F ks kvs) ∨ Rp K F v (.dict kvs)
  | d => Rp K F v d
/-- .. of a list that may only be read, too -/
def VwR (K : PySem.W.Frag) (F H : Hp) (v : V) (d : Da) : Prop :=
  match d with
  | .list ds => ∃ a vs, v = .ref a ∧ SqL K H a vs ∧ RpA K F vs ds
  | .dict kvs => (∃ a ks, v = .ref a ∧ Rd H a (.dK ks) ∧ RpK K F ks kvs) ∨ Rp K F v (.dict kvs) ∨ ∃ a o ks r, kvs = (.bool true, .none) :: r ∧ v = .ref a ∧ F a = some (.frz o (.dK ks)) ∧ RpK K F ks r
  | d => Rp K F v d
theorem Vw.r {v : V} {d : Da} (h : Vw K F H v d) : VwR K F H v d := by
  cases d with
  | list ds =>
    obtain ⟨a, vs, e, q, r⟩ := h
    exact ⟨a, vs, e, .inl (.inl q), r⟩
  | dict kvs =>
    rcases h with h | h
    · exact .inl h
    · exact .inr (.inl h)
  | _ => exact h
theorem Rp.vw (ok : Ok F H L) {v : V} {d : Da} (r : Rp K F v d) : Vw K F H v d := by
  cases r with
  | lst q r => exact ⟨_, _, rfl, ok.sub _ _ q, r⟩
  | non => exact .non
  | bl b => exact .bl b
  | int i => exact .int i
  | str x h => exact .str x h
  | tup q r => exact .tup q r
  | dic q r => exact .inr (.dic q r)
  | ins q1 q2 q3 r => exact .inr (.ins q1 q2 q3 r)
def T.isRo : T → Bool
  | .ro _ => true
  | _ => false
theorem Ow.vw (ok : Ok F H L) {l : Nat} {v : V} {t : T} (r : Ow K F H L l v t) (n : t.isRo = false) (n2 : t.isBig = false) : Vw K F H v t.view := by
  cases r with
  | fz r => exact r.vw ok
  | ro _ _ => cases n
  | lst e _ r => exact ⟨_, _, rfl, e, r⟩
  | lk e _ _ r => exact ⟨_, _, rfl, e, r⟩
  | dct e _ r => exact .inl ⟨_, _, rfl, .inl e, r⟩
  | lkd e r => exact .inl ⟨_, _, rfl, .inr ⟨_, ok.sub _ _ e⟩, r⟩
  | big A b _ _ => rw [b] at n2; cases n2
theorem Vw.rp (ok : Ok F H L) {v : V} {d : Da} (h : Vw K F H v d) (n : ∀ b, d ≠ .dict b) : Rp K H v d := by
  cases d with
  | list ds =>
    obtain ⟨a, vs, rfl, q, r⟩ := h
    exact .lst q (r.mono ok.sub)
  | none => exact Rp.mono ok.sub h
  | bool b => exact Rp.mono ok.sub h
  | int b => exact Rp.mono ok.sub h
  | str b => exact Rp.mono ok.sub h
  | tuple b => exact Rp.mono ok.sub h
  | dict b => exact absurd rfl (n b)
/-- what has the label l is frozen -/
def frzF (F H : Hp) (L : Lbl) (l : Nat) : Hp := fun a => if L a = l then H a else F a
def clr (L : Lbl) (l : Nat) : Lbl := fun a => if L a = l then 0 else L a
def mov (L : Lbl) (l m : Nat) : Lbl := fun a => if L a = l then m else L a
theorem frz_same (ok : Ok F H L) {l : Nat} (hl : l ≠ 0) : Same F (frzF F H L l) := fun a o e => by
  unfold frzF
  by_cases h : L a = l
  · have := ok.dis a (by rw [h]; exact hl)
    rw [this] at e; cases e
  · rw [if_neg h]; exact e
theorem frz_ok (ok : Ok F H L) {l : Nat} : Ok (frzF F H L l) H (clr L l) where
  sub := fun a o e => by
    unfold frzF at e
    by_cases h : L a = l
    · rw [if_pos h] at e; exact e
    · rw [if_neg h] at e; exact ok.sub a o e
  dis := fun a h => by
    unfold clr at h
    unfold frzF
    by_cases q : L a = l
    · rw [if_pos q] at h; exact absurd rfl h
    · rw [if_neg q] at h ⊢; exact ok.dis a h
  dom := fun a h => by
    unfold clr at h
    by_cases q : L a = l
    · rw [if_pos q] at h; exact absurd rfl h
    · rw [if_neg q] at h; exact ok.dom a h
theorem clr_ok (ok : Ok F H L) {l : Nat} : Ok F H (clr L l) := ⟨ok.sub, fun a h => by
  unfold clr at h
  by_cases q : L a = l
  · rw [if_pos q] at h; exact absurd rfl h
  · rw [if_neg q] at h; exact ok.dis a h, fun a h => by
  unfold clr at h
  by_cases q : L a = l
  · rw [if_pos q] at h; exact absurd rfl h
  · rw [if_neg q] at h; exact ok.dom a h⟩
theorem frz_stp (ok : Ok F H L) {l : Nat} (hl : l ≠ 0) : Stp F H L (frzF F H L l) H (clr L l) where
  fro := frz_same ok hl
  out := fun _ _ h _ => h
  own := fun a h => by
    unfold clr at h
    by_cases q : L a = l
    · rw [if_pos q] at h; exact absurd rfl h
    · rw [if_neg q] at h; exact .inl h
  new := fun a h => by
    unfold frzF at h
    by_cases q : L a = l
    · exact .inr (.inl (by rw [q]; exact hl))
    · rw [if_neg q] at h; exact .inl h
theorem Ow.frz (ok : Ok F H L) {l : Nat} (hl : l ≠ 0) {v : V} {t : T} (h : Ow K F H L l v t) (n : t.isNew = true) : Rp K (frzF F H L l) v t.view := by
  cases h with
  | fz r => exact r.mono (frz_same ok hl)
  | ro _ _ => cases n
  | lk _ _ _ _ => cases n
  | lst e q r => exact .lst (by unfold frzF; rw [if_pos q]; exact e) (r.mono (frz_same ok hl))
  | dct e q r => exact .dic (by unfold frzF; rw [if_pos q]; exact e) (r.mono (frz_same ok hl))
  | lkd _ _ => cases n
  | big A b _ _ => cases t <;> first | (cases b; done) | (cases n; done)
theorem Rel.frz (ok : Ok F H L) {l : Nat} (hl : l ≠ 0) (h : Rel K F H L σ sl) (hn : ∀ (i : Nat) (t : T), sl[i]? = some (some t) → i + 2 = l → t.isOwn = false) : Rel K (frzF F H L l) H (clr L l) σ sl :=
  ⟨h.len, fun i t e => by
    obtain ⟨v, h1, h2⟩ := h.at_ i t e
    refine ⟨v, h1, ?_⟩
    by_cases q : i + 2 = l
    · have := hn i t e q
      cases h2 with
      | fz r => exact .fz (r.mono (frz_same ok hl))
      | ro q r => exact .ro (sqL_mono (frz_same ok hl) q) (r.mono (frz_same ok hl))
      | lst _ _ _ => cases this
      | lk _ _ _ _ => cases this
      | dct _ _ _ => cases this
      | lkd _ _ => cases this
      | big A b _ _ => cases t <;> first | (cases b; done) | (cases this; done)
    · exact h2.mono (frz_stp ok hl) fun a o e r => ⟨e, by unfold clr; rw [if_neg (by omega)]; exact r⟩⟩
theorem Rel.frz1 (ok : Ok F H L) (h : Rel K F H L σ sl) : Rel K (frzF F H L 1) H (clr L 1) σ sl := h.frz ok (by decide) fun i t e q => by omega
theorem clr_tmp : ∀ a, clr L 1 a ≠ 1 := fun a => by
  unfold clr
  by_cases q : L a = 1
  · rw [if_pos q]; decide
  · rw [if_neg q]; exact q
/-- a new tuple, frozen -/
theorem new_tup (g : G K F H L σ sl) {p : Addr} {vs : List V} {ds : List Da} (r : RpA K F vs ds) (np : H p = none) :
    ∃ F', G K F' (upd H p (.tup vs)) L σ sl ∧ Stp F H L F' (upd H p (.tup vs)) L ∧ Rp K F' (.ref p) (.tuple ds) := by
  have fp : F p = none := g.ok.fn np
  have lp : L p = 0 := g.ok.zero np
  have sF : Same F (upd F p (.tup vs)) := fun a o e => by rw [upd_ne (ne_of_none e fp)]; exact e
  have sH : Same H (upd H p (.tup vs)) := fun a o e => by rw [upd_ne (ne_of_none e np)]; exact e
  have st : Stp F H L (upd F p (.tup vs)) (upd H p (.tup vs)) L := ⟨sF, fun a o e _ => sH a o e, fun a h => .inl h, fun a h => by
    by_cases q : a = p
    · subst q; exact .inr (.inr np)
    · rw [upd_ne q] at h; exact .inl h⟩
  refine ⟨upd F p (.tup vs), ⟨⟨fun a o e => ?_, fun a h => ?_, fun a h => ?_⟩, g.rel.mono st fun a o e _ => ⟨sH a o e, rfl⟩, g.tmp⟩, st, .tup (.inl (.inl upd_same)) (r.mono sF)⟩
  · by_cases q : a = p
    · subst q; rw [upd_same] at e ⊢; exact e
    · rw [upd_ne q] at e ⊢; exact g.ok.sub a o e
  · have q : a ≠ p := fun q => h (by rw [q]; exact lp)
    rw [upd_ne q]; exact g.ok.dis a h
  · have q : a ≠ p := fun q => h (by rw [q]; exact lp)
    rw [upd_ne q]; exact g.ok.dom a h
/-- a new list, the expression's own -/
theorem new_lst (g : G K F H L σ sl) {p : Addr} {vs : List V} {ds : List Da} (r : RpA K F vs ds) (np : H p = none) :
    Ok F (upd H p (.lst vs)) (fun a => if a = p then 1 else L a) ∧ Rel K F (upd H p (.lst vs)) (fun a => if a = p then 1 else L a) σ sl ∧
      Stp F H L F (upd H p (.lst vs)) (fun a => if a = p then 1 else L a) ∧ Ow K F (upd H p (.lst vs)) (fun a => if a = p then 1 else L a) 1 (.ref p) (.lst ds) := by
  have fp : F p = none := g.ok.fn np
  have sH : Same H (upd H p (.lst vs)) := fun a o e => by rw [upd_ne (ne_of_none e np)]; exact e
  have st : Stp F H L F (upd H p (.lst vs)) (fun a => if a = p then 1 else L a) := ⟨Same.refl _, fun a o e _ => sH a o e, fun a h => by
    by_cases q : a = p
    · exact .inr (by rw [q]; exact np)
    · exact .inl (by rwa [if_neg q] at h), fun a h => .inl h⟩
  refine ⟨⟨fun a o e => sH a o (g.ok.sub a o e), fun a h => ?_, fun a h => ?_⟩, g.rel.mono st fun a o e _ => ⟨sH a o e, if_neg (ne_of_none e np)⟩, st, .lst upd_same (if_pos rfl) r⟩
  · by_cases q : a = p
    · rw [q]; exact fp
    · exact g.ok.dis a (by rwa [if_neg q] at h)
  · by_cases q : a = p
    · rw [q, upd_same]; simp
    · rw [upd_ne q]; exact g.ok.dom a (by rwa [if_neg q] at h)
/-- a new dict, the expression's own -/
theorem new_dct (g : G K F H L σ sl) {p : Addr} {ks : List (L2.Key × V)} {kvs : List (Da × Da)} (r : RpK K F ks kvs) (np : H p = none) :
    Ok F (upd H p (.dK ks)) (fun a => if a = p then 1 else L a) ∧ Rel K F (upd H p (.dK ks)) (fun a => if a = p then 1 else L a) σ sl ∧
      Stp F H L F (upd H p (.dK ks)) (fun a => if a = p then 1 else L a) ∧ Ow K F (upd H p (.dK ks)) (fun a => if a = p then 1 else L a) 1 (.ref p) (.dct kvs) := by
  have fp : F p = none := g.ok.fn np
  have sH : Same H (upd H p (.dK ks)) := fun a o e => by rw [upd_ne (ne_of_none e np)]; exact e
  have st : Stp F H L F (upd H p (.dK ks)) (fun a => if a = p then 1 else L a) := ⟨Same.refl _, fun a o e _ => sH a o e, fun a h => by
    by_cases q : a = p
    · exact .inr (by rw [q]; exact np)
    · exact .inl (by rwa [if_neg q] at h), fun a h => .inl h⟩
  refine ⟨⟨fun a o e => sH a o (g.ok.sub a o e), fun a h => ?_, fun a h => ?_⟩, g.rel.mono st fun a o e _ => ⟨sH a o e, if_neg (ne_of_none e np)⟩, st, .dct upd_same (if_pos rfl) r⟩
  · by_cases q : a = p
    · rw [q]; exact fp
    · exact g.ok.dis a (by rwa [if_neg q] at h)
  · by_cases q : a = p
    · rw [q, upd_same]; simp
    · rw [upd_ne q]; exact g.ok.dom a (by rwa [if_neg q] at h)
end
end Md

/-! Md, part C: which text of Python an expression of the small language stands for. -/
namespace Md
open PySem PySem.Spec L2
variable [Wd]

structure Cp where
  N : List Str
  sc : Scope
  fl : Bool
  np : Nat → Bool
  bl : List Str
  fn : Nat → Option Str
  P : Pg
  gs : List Str

def visB (sc : Scope) (x : Str) : Bool := match sc.names.lookup x with
  | some .local => true
  | some .cell => true
  | some .free => true
  | _ => false
def glB (sc : Scope) (x : Str) : Bool := match sc.names.lookup x with
  | some .globalImplicit => true
  | _ => false
def locB (sc : Scope) (x : Str) : Bool := match sc.names.lookup x with
  | some .local => true
  | _ => false
def celB (sc : Scope) (x : Str) : Bool := match sc.names.lookup x with
  | some .cell => true
  | _ => false
def dbg (x : Str) : Bool := (x == ("__debug__" : Str)) || (x == ("__classdict__" : Str)) || (x == ("__name__" : Str))
def BOp.op : BOp → Operator
  | .add => .Add
  | .sub => .Sub
  | .mul => .Mult
  | .fdiv => .FloorDiv
  | .mod => .Mod
  | .pow => .Pow
  | .shl => .LShift
  | .shr => .RShift
  | .band => .BitAnd
  | .bor => .BitOr
def COp.op : COp → CmpOp
  | .eq => .Eq
  | .ne => .NotEq
  | .lt => .Lt
  | .le => .LtE
  | .gt => .Gt
  | .ge => .GtE
  | .isN => .Is
  | .notN => .IsNot
  | .isin => .In
  | .notin => .NotIn
def B1.nm : B1 → Str
  | .len => "len"
  | .all => "all"
  | .any => "any"
  | .sum => "sum"
  | .min => "min"
  | .max => "max"
  | .abs => "abs"
  | .sorted => "sorted"
  | .tuple => "tuple"
  | .list => "list"
  | .str => "str"
  | .int => "int"
  | .dict => "dict"
  | .bool => "bool"
def M1.nm : M1 → Str
  | .startswith => "startswith"
  | .split => "split"
  | .join => "join"
  | .count => "count"
  | .index => "index"
def notCall (e : Expr) : Bool := match e with
  | .Call _ _ _ _ => false
  | _ => true
def B2.nm : B2 → Str
  | .min => "min"
  | .max => "max"
  | .divmod => "divmod"
def opB (a b : Operator) : Bool := match a, b with
  | .Add, .Add => true
  | .Sub, .Sub => true
  | .Mult, .Mult => true
  | .FloorDiv, .FloorDiv => true
  | .Mod, .Mod => true
  | .Pow, .Pow => true
  | .LShift, .LShift => true
  | .RShift, .RShift => true
  | .BitAnd, .BitAnd => true
  | .BitOr, .BitOr => true
  | _, _ => false
theorem opB_eq {a b : Operator} (h : opB a b = true) : a = b := by
  cases a <;> cases b <;> first | rfl | (simp [opB] at h)
def copB (a b : CmpOp) : Bool := match a, b with
  | .Eq, .Eq => true
  | .NotEq, .NotEq => true
  | .Lt, .Lt => true
  | .LtE, .LtE => true
  | .Gt, .Gt => true
  | .GtE, .GtE => true
  | .Is, .Is => true
  | .IsNot, .IsNot => true
  | .In, .In => true
  | .NotIn, .NotIn => true
  | _, _ => false
theorem copB_eq {a b : CmpOp} (h : copB a b = true) : a = b := by
  cases a <;> cases b <;> first | rfl | (simp [copB] at h)
/-- a built-in's name as it is read here -/
def bltB (p : Cp) (x y : Str) : Bool := decide (x = y) && glB p.sc x && p.bl.contains x && !dbg x
def kdB (p : Cp) (k : Kd) (e : Expr) : Bool :=
  match k, e with
  | .int, .Name x _ => bltB p x "int"
  | .bool, .Name x _ => bltB p x "bool"
  | .str, .Name x _ => bltB p x "str"
  | .list, .Name x _ => bltB p x "list"
  | .tuple, .Name x _ => bltB p x "tuple"
  | _, _ => false
def noneE (e : Expr) : Bool := match e with
  | .Constant .none _ _ => true
  | _ => false
def own1 (p : Cp) (i : Nat) : Str × Nat := (p.N.getD i Str.empty, i)
def tgB (p : Cp) (i : Nat) (e : Expr) : Bool := match e with
  | .Name x _ => decide (p.N[i]? = some x) && (locB p.sc x || (p.fl && celB p.sc x))
  | _ => false
def tgsB (p : Cp) : List Nat → List Expr → Bool
  | [], [] => true
  | i :: is, e :: es => tgB p i e && tgsB p is es
  | _, _ => false
def ckTg (p : Cp) (tg : Tg) (e : Expr) : Bool := match tg, e with
  | .one i, e => tgB p i e
  | .tup is, .Tuple es _ _ => tgsB p is es
  | _, _ => false
def unitE (c : E) : Bool := match c with
  | .non => true
  | _ => false
/-- the walked thing; ca, cb, cc look at its parts -/
def tupE (e : Expr) : Bool := match e with
  | .Tuple _ _ _ => true
  | _ => false
def ckI (p : Cp) (k : IK) (ca cb cc : Expr → Bool) (ub uc tt : Bool) (e : Expr) : Bool := match k with
  | .seq => ca e && ub && uc
  | .rng1 => match e with
    | .Call (.Name x _) [a] [] _ => bltB p x "range" && ca a && ub && uc
    | _ => false
  | .rng2 => match e with
    | .Call (.Name x _) [a, b] [] _ => bltB p x "range" && ca a && cb b && uc
    | _ => false
  | .rev => match e with
    | .Call (.Name x _) [a] [] _ => bltB p x "reversed" && ca a && ub && uc
    | _ => false
  | .enum => match e with
    | .Call (.Name x _) [a] [] _ => bltB p x "enumerate" && ca a && ub && uc && tt
    | _ => false
  | .zip => match e with
    | .Call (.Name x _) [a, b] [] _ => bltB p x "zip" && ca a && cb b && uc && tt
    | _ => false
  | _ => false

mutual
def ckE (p : Cp) : E → Expr → Bool
  | .nm i, e => match e with
    | .Name x _ => decide (p.N[i]? = some x) && visB p.sc x && !dbg x
    | _ => false
  | .nml i, e => match e with
    | .Name x _ => decide (p.N[i]? = some x) && visB p.sc x && !dbg x
    | _ => false
  | .gl x, e => match e with
    | .Name y _ => decide (x = y) && glB p.sc y && !dbg y && p.gs.contains y
    | _ => false
  | .dnew, e => match e with
    | .Dict [] [] _ => true
    | _ => false
  | .getT i k, e => match e with
    | .Subscript x (.Slice _ _ _ _) _ => false
    | .Subscript (.Name x _) y _ => decide (p.N[i]? = some x) && visB p.sc x && !dbg x && ckE p k y
    | _ => false
  | .inT neg i k, e => match e with
    | .Compare y [op] [.Name x _] _ => copB (if neg then .NotIn else .In) op && decide (p.N[i]? = some x) && visB p.sc x && !dbg x && ckE p k y
    | _ => false
  | .listT i, e => match e with
    | .Call (.Name f _) [.Name x _] [] _ => bltB p f "list" && decide (p.N[i]? = some x) && visB p.sc x && !dbg x
    | _ => false
  | .sortT i, e => match e with
    | .Call (.Name f _) [.Name x _] [] _ => bltB p f "sorted" && decide (p.N[i]? = some x) && visB p.sc x && !dbg x
    | _ => false
  | .valsT i, e => match e with
    | .Call (.Name f _) [.Call (.Attribute (.Name x _) y apos) [] [] cpos] [] _ => bltB p f "list" && decide (p.N[i]? = some x) && visB p.sc x && !dbg x && decide (y = "values") && (apos.endLine == cpos.line)
    | _ => false
  | .sdf i k v, e => match e with
    | .Call (.Attribute (.Name x _) y apos) [a, b] [] cpos => decide (p.N[i]? = some x) && visB p.sc x && !dbg x && decide (y = "setdefault") && (apos.endLine == cpos.line) && ckE p k a && ckE p v b
    | _ => false
  | .non, e => noneE e
  | .bl b, e => match e with
    | .Constant (.bool c) _ _ => b == c
    | _ => false
  | .int i, e => match e with
    | .Constant (.int j) _ _ => decide (i = j)
    | _ => false
  | .str x, e => match e with
    | .Constant (.str y) _ _ => decide (x = y) && PyData.strOk x
    | _ => false
  | .bin o a b, e => match e with
    | .BinOp x op y _ => opB o.op op && ckE p a x && ckE p b y
    | _ => false
  | .neg a, e => match e with
    | .UnaryOp .USub x _ => ckE p a x
    | _ => false
  | .not a, e => match e with
    | .UnaryOp .Not x _ => ckE p a x
    | _ => false
  | .cmp o a b, e => match e with
    | .Compare x [op] [y] _ => copB o.op op && ckE p a x && ckE p b y
    | _ => false
  | .chn o o' a b c, e => match e with
    | .Compare x [op, op'] [y, z] _ => copB o.op op && copB o'.op op' && ckE p a x && ckE p b y && ckE p c z
    | _ => false
  | .one a, e => match e with
    | .BoolOp _ [x] _ => ckE p a x
    | _ => false
  | .and a r, e => match e with
    | .BoolOp .And (x :: y :: l) pos => ckE p a x && ckE p r (.BoolOp .And (y :: l) pos)
    | _ => false
  | .or a r, e => match e with
    | .BoolOp .Or (x :: y :: l) pos => ckE p a x && ckE p r (.BoolOp .Or (y :: l) pos)
    | _ => false
  | .ife c a b, e => match e with
    | .IfExp z x y _ => ckE p c z && ckE p a x && ckE p b y
    | _ => false
  | .tup es, e => match e with
    | .Tuple l _ _ => ckL p es l
    | _ => false
  | .lst es, e => match e with
    | .List l _ => ckL p es l
    | _ => false
  | .idx a i, e => match e with
    | .Subscript x (.Slice _ _ _ _) _ => false
    | .Subscript x y _ => ckE p a x && ckE p i y
    | _ => false
  | .sl a lo hi hl hh, e => match e with
    | .Subscript x (.Slice l h none _) _ => ckE p a x && (match l with
        | none => !hl
        | some y => hl && ckE p lo y) && (match h with
        | none => !hh
        | some y => hh && ckE p hi y)
    | _ => false
  | .call f es, e => match e with
    | .Call (.Name x _) (y :: l) [] _ => decide (p.fn f = some x) && glB p.sc x && !dbg x && ckL p es (y :: l)
    | _ => false
  | .b1 f a, e => match e with
    | .Call (.Name x _) [y] [] _ => bltB p x f.nm && ckE p a y
    | _ => false
  | .b2 f a b, e => match e with
    | .Call (.Name x _) [y, z] [] _ => bltB p x f.nm && ckE p a y && ckE p b z
    | _ => false
  | .isi a k, e => match e with
    | .Call (.Name x _) [y, z] [] _ => bltB p x "isinstance" && ckE p a y && kdB p k z
    | _ => false
  | .m1 m a b, e => match e with
    | .Call (.Attribute x y apos) [z] [] cpos => (match m with
        | .startswith => true
        | .index => true
        | _ => false) && decide (y = m.nm) && notCall x && (apos.endLine == cpos.line) && ckE p a x && ckE p b z
    | _ => false
  | .lm m a b, e => match e with
    | .Call (.Attribute x y apos) [z] [] cpos => (match m with
        | .index => true
        | .count => true
        | _ => false) && decide (y = m.nm) && notCall x && (apos.endLine == cpos.line) && ckE p a x && ckE p b z
    | _ => false
  | .sset a, e => match e with
    | .Call (.Name f _) [.Call (.Name g _) [x] [] _] [] _ => bltB p f "sorted" && bltB p g "set" && ckE p a x
    | _ => false
  | .slen a, e => match e with
    | .Call (.Name f _) [.Call (.Name g _) [x] [] _] [] _ => bltB p f "len" && bltB p g "set" && ckE p a x
    | _ => false
  | .rev a, e => match e with
    | .Subscript x (.Slice none none (some (.UnaryOp .USub (.Constant (.int 1) _ _) _)) _) _ => ckE p a x
    | _ => false
  | .pop i a, e => match e with
    | .Call (.Attribute (.Name x _) y apos) [z] [] cpos => decide (p.N[i]? = some x) && visB p.sc x && !dbg x && decide (y = "pop") && (apos.endLine == cpos.line) && ckE p a z
    | _ => false
  | .rvl i, e => match e with
    | .Call (.Attribute (.Name x _) y apos) [] [] cpos => decide (p.N[i]? = some x) && visB p.sc x && !dbg x && decide (y = "reverse") && (apos.endLine == cpos.line)
    | _ => false
  | .clr i, e => match e with
    | .Call (.Attribute (.Name x _) y apos) [] [] cpos => decide (p.N[i]? = some x) && visB p.sc x && !dbg x && decide (y = "clear") && (apos.endLine == cpos.line)
    | _ => false
  | .insl i k v, e => match e with
    | .Call (.Attribute (.Name x _) y apos) [a, b] [] cpos => decide (p.N[i]? = some x) && visB p.sc x && !dbg x && decide (y = "insert") && (apos.endLine == cpos.line) && ckE p k a && ckE p v b
    | _ => false
  | .lc elt tg k a b c cond has, e => match e with
    | .ListComp y [⟨t, it, ifs, 0⟩] sc _ =>
      blkC p.N p.sc sc (tg.slots.map (own1 p)) && ckI p k (ckE p a) (ckE p b) (ckE p c) (unitE b) (unitE c) (tupE t) it && ckTg { p with sc := relS sc p.sc, fl := false } tg t &&
        (match ifs with
        | [] => !has
        | [z] => has && ckE { p with sc := relS sc p.sc, fl := false } cond z
        | _ => false) && ckE { p with sc := relS sc p.sc, fl := false } elt y
    | _ => false
  | _, _ => false
def ckL (p : Cp) : E → List Expr → Bool
  | .nil, l => match l with
    | [] => true
    | _ => false
  | .cons e es, l => match l with
    | x :: r => ckE p e x && ckL p es r
    | [] => false
  | _, _ => false
end

/-- what a built-in's name says -/
theorem blt_of {p : Cp} {x y : Str} (h : bltB p x y = true) : x = y ∧ glB p.sc x = true ∧ x ∈ p.bl ∧ dbg x = false := by
  unfold bltB at h
  simp only [Bool.and_eq_true, decide_eq_true_eq, Bool.not_eq_true', List.contains_iff_mem] at h
  exact ⟨h.1.1.1, h.1.1.2, h.1.2, h.2⟩
theorem gl_of {sc : Scope} {x : Str} (h : glB sc x = true) : sc.names.lookup x = some .globalImplicit := by
  unfold glB at h
  split at h <;> first | assumption | cases h
theorem vis_of {sc : Scope} {x : Str} (h : visB sc x = true) : Vis sc x := by
  unfold visB at h
  split at h
  · exact .inl (by assumption)
  · exact .inr (.inl (by assumption))
  · exact .inr (.inr (by assumption))
  · cases h
theorem loc_of {sc : Scope} {x : Str} (h : locB sc x = true) : sc.names.lookup x = some .local := by
  unfold locB at h
  split at h <;> first | assumption | cases h
theorem cel_of {sc : Scope} {x : Str} (h : celB sc x = true) : sc.names.lookup x = some .cell := by
  unfold celB at h
  split at h <;> first | assumption | cases h
theorem dbg_of {x : Str} (h : dbg x = false) : (x == ("__debug__" : Str)) = false ∧ (x == ("__classdict__" : Str)) = false ∧ x ≠ "__name__" := by
  unfold dbg at h
  rw [Bool.or_eq_false_iff, Bool.or_eq_false_iff] at h
  exact ⟨h.1.1, h.1.2, fun e => by rw [e] at h; simp at h⟩

/-- the head of a text that an expression stands for -/
inductive Hd : Expr → Prop where
  | nm {x q} : Hd (.Name x q)
  | co {x k q} : Hd (.Constant x k q)
  | bi {a o b q} : Hd (.BinOp a o b q)
  | un {o a q} : Hd (.UnaryOp o a q)
  | cm {a o b q} : Hd (.Compare a o b q)
  | bo {o a q} : Hd (.BoolOp o a q)
  | ie {a b c q} : Hd (.IfExp a b c q)
  | tu {l k q} : Hd (.Tuple l k q)
  | li {l q} : Hd (.List l q)
  | su {a b q} : Hd (.Subscript a b q)
  | ca {f l k q} : Hd (.Call f l k q)
  | at_ {a x q} : Hd (.Attribute a x q)
  | lc {y g s q} : Hd (.ListComp y g s q)
  | di {a b q} : Hd (.Dict a b q)
theorem hd_of {p : Cp} {c : E} {e : Expr} (h : ckE p c e = true) : Hd e := by
  cases e with
  | Name => exact .nm
  | Constant => exact .co
  | BinOp => exact .bi
  | UnaryOp => exact .un
  | Compare => exact .cm
  | BoolOp => exact .bo
  | IfExp => exact .ie
  | Tuple => exact .tu
  | List => exact .li
  | Subscript => exact .su
  | Call => exact .ca
  | Attribute => exact .at_
  | ListComp => exact .lc
  | Dict => exact .di
  | _ => cases c <;> simp [ckE, noneE] at h
theorem Hd.star {e : Expr} (h : Hd e) (es : List Expr) (env : Env) : starEach (e :: es) env = (false, eval e env) :: starEach es env := by
  cases h <;> rfl
theorem Hd.marks {e : Expr} (h : Hd e) (op : CmpOp) : behindInMarks op e = false := by
  cases h <;> rfl
theorem Hd.folded {e : Expr} (h : Hd e) (env : Env) : ∀ x, foldedSetIterable e env x = pure x := by
  intro x
  cases h <;> rfl
theorem Hd.sole {e t : Expr} (h : Hd e) (hn : ∀ y g s q, e ≠ .ListComp y g s q) (l : Nat) (env : Env) : swapsWithSole [t] e l env = pure false := by
  cases h <;> first | rfl | exact absurd rfl (hn _ _ _ _)

end Md

/-! Md, part D: what an expression does, against the model. -/
namespace Md
open PySem PySem.Spec
open PyProof.Rows L2
variable [Wd]

def WE (X : Cx) (e : Expr) : TE := fun σ H Q => ∀ (pins : List (Addr × Obj)) (s : Shared), Inv X pins σ H s → wpAny (model X.prog X.w) X.A (eval e X.env) (EP X pins σ Q) X.xe s
def WT (X : Cx) (e : Expr) : TT := fun σ H Q => ∀ (pins : List (Addr × Obj)) (s : Shared), Inv X pins σ H s → wpAny (model X.prog X.w) X.A (isTrue e X.env (eval e X.env)) (TP X pins σ Q) X.xe s
def WW (X : Cx) (e : Expr) : TT := fun σ H Q => ∀ (whole : Sem Value) (pins : List (Addr × Obj)) (s : Shared), Inv X pins σ H s → wpAny (model X.prog X.w) X.A (isTrue e X.env whole) (TP X pins σ Q) X.xe s
def WA (X : Cx) (es : List Expr) : TA := fun σ H Q => ∀ (pos : Pos) (pins : List (Addr × Obj)) (s : Shared), Inv X pins σ H s → wpAny (model X.prog X.w) X.A (spliced (backTo pos (starEach es X.env))) (AP X pins σ Q) X.xe s
section
variable {X : Cx} {e : Expr} {es : List Expr} {σ : L2.St} {H : Hp}
theorem we_pe : PE X e (WE X e) := ⟨fun pins s _ _ _ I h => h pins s I⟩
theorem wt_pt : PT X e (WT X e) := ⟨fun pins s _ _ _ I h => h pins s I⟩
theorem ww_pw : PW X e (WW X e) := ⟨fun wh pins s _ _ _ I h => h wh pins s I⟩
theorem wa_pa : PA X es (WA X es) := ⟨fun pos pins s _ _ _ I h => h pos pins s I⟩
theorem we_of {t : TE} {Q : VK} (h : PE X e t) (q : t σ H Q) : WE X e σ H Q := fun pins s I => h.run pins s σ H Q I q
theorem wt_of {t : TT} {Q : Bool → Hp → Prop} (h : PT X e t) (q : t σ H Q) : WT X e σ H Q := fun pins s I => h.run pins s σ H Q I q
theorem ww_of {t : TT} {Q : Bool → Hp → Prop} (h : PW X e t) (q : t σ H Q) : WW X e σ H Q := fun wh pins s I => h.run wh pins s σ H Q I q
theorem wa_of {t : TA} {Q : List V → Hp → Prop} (h : PA X es t) (q : t σ H Q) : WA X es σ H Q := fun pos pins s I => h.run pos pins s σ H Q I q
/-- the weakest rule of an operator, of a call by values -/
def wk2 (X : Cx) (f : Value → Value → Sem Value) : R2 := fun x y H Q => ∀ (pins : List (Addr × Obj)) (s : Shared) (σ : L2.St) (v u : Value), Inv X pins σ H s → RelV x v → RelV y u → wpAny (model X.prog X.w) X.A (f v u) (EP X pins σ Q) X.xe s
theorem wk2_ok {f : Value → Value → Sem Value} : OpR X f (wk2 X f) := fun pins s σ H x y v u Q I rx ry h => h pins s σ v u I rx ry
theorem wk2_of {f : Value → Value → Sem Value} {r : R2} (h : OpR X f r) {x y : V} {Q : VK} (q : r x y H Q) : wk2 X f x y H Q := fun pins s σ v u I rx ry => h pins s σ H x y v u Q I rx ry q
def wkC (X : Cx) (f : Value) : List V → Hp → VK → Prop := fun xs H Q => ∀ (pins : List (Addr × Obj)) (s : Shared) (σ : L2.St) (us : List Value), Inv X pins σ H s → Vals xs us → wpAny (model X.prog X.w) X.A (call f us) (EP X pins σ Q) X.xe s
theorem wkC_ok {f : Value} : CallR X f (wkC X f) := fun pins s σ H xs us Q I r h => h pins s σ us I r
theorem wkC_of {f : Value} {r : List V → Hp → VK → Prop} (h : CallR X f r) {xs : List V} {Q : VK} (q : r xs H Q) : wkC X f xs H Q := fun pins s σ us I rx => h pins s σ H xs us Q I rx q
def wkS (X : Cx) : V → Option Int → Option Int → Hp → VK → Prop := fun x lo hi H Q => ∀ (pins : List (Addr × Obj)) (s : Shared) (σ : L2.St) (v vl vu : Value) (sl : Addr), Inv X pins σ H s → RelV x v → s.heap.IsSliceOf sl vl vu .none → IsPart vl lo → IsPart vu hi →
  ∃ T id, typeLookup (.type T) "__getitem__" = pure (some (.builtin id)) ∧ s.TypeIs v T ∧ wpAny (model X.prog X.w) X.A (getItem v (.ref sl)) (EP X pins σ Q) X.xe s
theorem wkS_ok : SlR X (wkS X) := fun pins s σ H x v vl vu lo hi sl Q I rx hs pl pu h => h pins s σ v vl vu sl I rx hs pl pu
theorem wkS_of {r : V → Option Int → Option Int → Hp → VK → Prop} (h : SlR X r) {x : V} {lo hi : Option Int} {Q : VK} (q : r x lo hi H Q) : wkS X x lo hi H Q := fun pins s σ v vl vu sl I rx hs pl pu => h pins s σ H x v vl vu lo hi sl Q I rx hs pl pu q
def wkI (X : Cx) : R2 := fun x y H Q => ∀ (value slice : Expr) (pins : List (Addr × Obj)) (s : Shared) (σ : L2.St) (v u : Value), Inv X pins σ H s → RelV x v → RelV y u →
  subscripted slice false v u = operate [v, u] (getItem v u) → wpAny (model X.prog X.w) X.A (subscriptTail value slice v u) (EP X pins σ Q) X.xe s
theorem wkI_ok : IxR X (wkI X) := fun value slice pins s σ H x y v u Q I rx ry h hs => h value slice pins s σ v u I rx ry hs
theorem wkI_of {r : R2} (h : IxR X r) {x y : V} {Q : VK} (q : r x y H Q) : wkI X x y H Q := fun value slice pins s σ v u I rx ry hs => h value slice pins s σ H x y v u Q I rx ry q hs
end

/-! ### states behind an evaluation -/
/-- a list that is locked behind was locked ahead -/
def Lkb (sl sl' : Sl) : Prop := ∀ (i : Nat) (ds : List Da), sl'[i]? = some (some (.lk ds)) → sl[i]? = some (some (.lk ds))
theorem Lkb.refl (sl : Sl) : Lkb sl sl := fun _ _ h => h
theorem Lkb.trans {a b c : Sl} (h : Lkb a b) (k : Lkb b c) : Lkb a c := fun i ds e => h i ds (k i ds e)
theorem Lkb.set (sl : Sl) (i : Nat) {o : Option T} (ho : ∀ ds, o ≠ some (.lk ds)) : Lkb sl (sl.set i o) := fun j ds h => by
  by_cases q : i = j
  · subst q
    by_cases z : i < sl.length
    · rw [List.getElem?_set_self z] at h
      exact absurd (Option.some.inj h) (ho ds)
    · rw [List.getElem?_eq_none (by simpa using z)] at h; cases h
  · rw [List.getElem?_set_ne q] at h; exact h
structure Aft (K : PySem.W.Frag) (σ : L2.St) (F H : Hp) (L : Lbl) (sl0 sl : Sl) (F' H' : Hp) (L' : Lbl) : Prop where
  ok : Ok F' H' L'
  rel : Rel K F' H' L' σ sl
  st : Stp F H L F' H' L'
  lk : Lkb sl0 sl
abbrev XQ := Str → Option Da → Sl → Hp → Hp → Lbl → Prop
def RsQ {α : Type} (K : PySem.W.Frag) (σ : L2.St) (Xq : XQ) (F H : Hp) (L : Lbl) (sl0 : Sl) (P : α → Sl → Hp → Hp → Lbl → Prop) (r : Res α) : Prop :=
  match r with
  | .ok a sl => ∀ F' H' L', Aft K σ F H L sl0 sl F' H' L' → P a sl F' H' L'
  | .ex c w sl => ∀ F' H' L', Aft K σ F H L sl0 sl F' H' L' → (∀ a, L' a ≠ 1) → Xq c w sl F' H' L'
  | .no => False
/-- v is the outcome r: what is new bears the label 1 -/
def RP (K : PySem.W.Frag) (F H : Hp) (L : Lbl) (σ : L2.St) (sl : Sl) (v : V) : R → Prop
  | .t t => Ow K F H L 1 v t ∧ t.isNew = true
  | .p i => σ[i]? = some (some v) ∧ (∃ t, sl[i]? = some (some t)) ∧ ∀ a, L a ≠ 1
  | .q _ _ => False
/-- .. settled -/
def RQ (K : PySem.W.Frag) (F : Hp) (σ : L2.St) (v : V) : R → Prop
  | .t (.fz d) => Rp K F v d
  | .t _ => False
  | .p i => σ[i]? = some (some v)
  | .q _ _ => False
abbrev PQ (K : PySem.W.Frag) (σ : L2.St) (Q : VK) : R → Sl → Hp → Hp → Lbl → Prop := fun r sl F H L => ∀ v, RP K F H L σ sl v r → Q v H
abbrev PT' (Q : Bool → Hp → Prop) : Bool → Sl → Hp → Hp → Lbl → Prop := fun k _ _ H L => (∀ a, L a ≠ 1) → Q k H
section
variable {K : PySem.W.Frag} {σ : L2.St} {Xq : XQ} {F F1 F2 H H1 H2 : Hp} {L L1 L2 : Lbl} {sl sl1 : Sl} {α β : Type} {P : α → Sl → Hp → Hp → Lbl → Prop}
theorem G.aft (g : G K F H L σ sl) : Aft K σ F H L sl sl F H L := ⟨g.ok, g.rel, .refl F H L, .refl sl⟩
theorem RsQ.from {sl0 sl1 : Sl} (st : Stp F H L F1 H1 L1) (lk : Lkb sl0 sl1) {r : Res α} (h : RsQ K σ Xq F H L sl0 P r) : RsQ K σ Xq F1 H1 L1 sl1 P r := by
  cases r with
  | ok a sl => exact fun F' H' L' A => h F' H' L' ⟨A.ok, A.rel, st.trans A.st, lk.trans A.lk⟩
  | ex c w sl => exact fun F' H' L' A n => h F' H' L' ⟨A.ok, A.rel, st.trans A.st, lk.trans A.lk⟩ n
  | no => exact h
theorem RsQ.bind {sl0 : Sl} {r : Res β} {f : β → Sl → Res α} (h : RsQ K σ Xq F H L sl0 P (r.bind f)) : RsQ K σ Xq F H L sl0 (fun b sl1 F1 H1 L1 => RsQ K σ Xq F1 H1 L1 sl1 P (f b sl1)) r := by
  cases r with
  | ok a sl => exact fun F' H' L' A => RsQ.from A.st A.lk h
  | ex c w sl => exact h
  | no => exact h
theorem RsQ.imp {P' : α → Sl → Hp → Hp → Lbl → Prop} {sl0 : Sl} {r : Res α} (h : RsQ K σ Xq F H L sl0 P r) (k : ∀ a sl F' H' L', Aft K σ F H L sl0 sl F' H' L' → P a sl F' H' L' → P' a sl F' H' L') : RsQ K σ Xq F H L sl0 P' r := by
  cases r with
  | ok a sl => exact fun F' H' L' A => k a sl F' H' L' A (h F' H' L' A)
  | ex c w sl => exact h
  | no => exact h
theorem RQ.mono (s : Same F F1) {v : V} : ∀ {r : R}, RQ K F σ v r → RQ K F1 σ v r
  | .t (.fz d), h => Rp.mono s h
  | .t (.ro _), h => h.elim
  | .t (.lst _), h => h.elim
  | .t (.lk _), h => h.elim
  | .t (.nst _), h => h.elim
  | .t (.dct _), h => h.elim
  | .t (.lkd _), h => h.elim
  | .t (.dtt _), h => h.elim
  | .t (.dcl _), h => h.elim
  | .t (.ins _ _), h => h.elim
  | .p i, h => h
  | .q _ _, h => h.elim
theorem settle_view (r : R) : r.settle.view sl = r.view sl := by
  cases r <;> rfl
theorem RQ.view (g : G K F H L σ sl) {v : V} {r : R} (h : RQ K F σ v r) {d : Da} (e : r.view sl = some d) : Vw K F H v d := by
  cases r with
  | t t =>
    cases t with
    | fz w =>
      cases (show some w = some d from e)
      exact Rp.vw g.ok h
    | _ => exact h.elim
  | p i =>
    have e' : (match sl[i]? with
      | some (some (.ro _)) => none
      | some (some (.nst _)) => none
      | some (some (.dtt _)) => none
      | some (some (.dcl _)) => none
      | some (some (.ins _ _)) => none
      | some (some x) => some x.view
      | _ => none) = some d := e
    split at e'
    · cases e'
    · cases e'
    · cases e'
    · cases e'
    · cases e'
    · rename_i t n1 n2 n3 n4 n5 ht
      cases e'
      obtain ⟨v', h1, h2⟩ := g.rel.at_ i t ht
      have z : some (some v') = some (some v) := h1.symm.trans h
      cases z
      refine h2.vw g.ok ?_ ?_
      · cases t <;> first | rfl | exact absurd rfl (n1 _)
      · cases t <;> first | rfl | exact absurd rfl (n2 _) | exact absurd rfl (n3 _) | exact absurd rfl (n4 _) | exact absurd rfl (n5 _ _)
    · cases e'
  | q _ _ => exact h.elim
theorem RQ.viewR (g : G K F H L σ sl) {v : V} {r : R} (h : RQ K F σ v r) {d : Da} (e : r.viewR sl = some d) : VwR K F H v d := by
  cases r with
  | t t => exact (RQ.view (r := .t t) g h e).r
  | p i =>
    have e' : (match sl[i]? with
      | some (some (.ro ds)) => some (PyData.list ds)
      | some (some (.lkd kvs)) => some (PyData.dict ((.bool true, .none) :: kvs))
      | _ => R.view sl (.p i)) = some d := e
    split at e'
    · rename_i ds ht
      cases e'
      obtain ⟨v', h1, h2⟩ := g.rel.at_ i _ ht
      have z : some (some v') = some (some v) := h1.symm.trans h
      cases z
      cases h2 with
      | ro q r => exact ⟨_, _, rfl, sqL_mono g.ok.sub q, r⟩
      | big A b _ _ => cases b
    · rename_i kvs ht
      cases e'
      obtain ⟨v', h1, h2⟩ := g.rel.at_ i _ ht
      have z : some (some v') = some (some v) := h1.symm.trans h
      cases z
      cases h2 with
      | lkd q r => exact .inr (.inr ⟨_, _, _, _, rfl, rfl, q, r⟩)
      | big A b _ _ => cases b
    · exact (RQ.view g h e').r
  | q _ _ => exact h.elim
/-- what is new is frozen -/
theorem settle1 {sl0 : Sl} {v : V} {r : R} (A : Aft K σ F H L sl0 sl F1 H1 L1) (h : RP K F1 H1 L1 σ sl v r) :
    ∃ F2 L2, Stp F1 H1 L1 F2 H1 L2 ∧ G K F2 H1 L2 σ sl ∧ RQ K F2 σ v r.settle := by
  cases r with
  | t t => exact ⟨_, _, frz_stp A.ok (by decide), ⟨frz_ok A.ok, A.rel.frz1 A.ok, clr_tmp⟩, Ow.frz A.ok (by decide) h.1 h.2⟩
  | p i => exact ⟨F1, L1, .refl _ _ _, ⟨A.ok, A.rel, h.2.2⟩, h.1⟩
  | q _ _ => exact h.elim
theorem res_fz (g : G K F H L σ sl) {Q : VK} {d : Da} (h : RsQ K σ Xq F H L sl (PQ K σ Q) (.ok (.t (.fz d)) sl)) {v : V} (r : Rp K F v d) : Q v H := h F H L g.aft v ⟨.fz r, rfl⟩
theorem res_tup (g : G K F H L σ sl) {Q : VK} {ds : List Da} (h : RsQ K σ Xq F H L sl (PQ K σ Q) (.ok (.t (.fz (.tuple ds))) sl)) {vs : List V} (r : RpA K F vs ds) : ∀ p, H p = none → Q (.ref p) (upd H p (.tup vs)) := fun p np => by
  obtain ⟨F', g', st, q⟩ := new_tup g r np
  exact h F' _ L ⟨g'.ok, g'.rel, st, .refl _⟩ _ ⟨.fz q, rfl⟩
theorem res_lst (g : G K F H L σ sl) {Q : VK} {ds : List Da} (h : RsQ K σ Xq F H L sl (PQ K σ Q) (.ok (.t (.lst ds)) sl)) {vs : List V} (r : RpA K F vs ds) : ∀ p, H p = none → Q (.ref p) (upd H p (.lst vs)) := fun p np => by
  obtain ⟨o, rl, st, q⟩ := new_lst g r np
  exact h F _ _ ⟨o, rl, st, .refl _⟩ _ ⟨q, rfl⟩
end

/-! ### where the text stands -/
structure Cd (X : Cx) (p : Cp) : Prop where
  N : X.N = p.N
  sc : X.env.scope = p.sc
  nd : p.N.Nodup
  calm : X.calm = true
  fl : p.fl = true → ∀ x, X.fn x = true
  free : ∀ x ∈ p.bl, X.mg x = none
  con : ∀ x w, x ∈ p.gs → p.P.const x = some w → ∃ u v, X.mg x = some u ∧ RelV v u ∧ ∀ F, Rp X.K F v w
  units : X.A.units + 200 < cLine
  wd : X.w = Wd.w

def SE (X : Cx) (p : Cp) (cb : Nat → List T → FRes) (Xq : XQ) (c : E) (e : Expr) : Prop := ∀ (σ : L2.St) (sl : Sl) (F H : Hp) (L : Lbl) (Q : VK), G X.K F H L σ sl → RsQ X.K σ Xq F H L sl (PQ X.K σ Q) (ev p.P p.np cb c sl) → WE X e σ H Q
def ST (X : Cx) (p : Cp) (cb : Nat → List T → FRes) (Xq : XQ) (c : E) (e : Expr) : Prop := ∀ (σ : L2.St) (sl : Sl) (F H : Hp) (L : Lbl) (Q : Bool → Hp → Prop), G X.K F H L σ sl → RsQ X.K σ Xq F H L sl (PT' Q) (testOf (ev p.P p.np cb c sl)) → WT X e σ H Q
def SW (X : Cx) (p : Cp) (cb : Nat → List T → FRes) (Xq : XQ) (c : E) (e : Expr) : Prop := ∀ (σ : L2.St) (sl : Sl) (F H : Hp) (L : Lbl) (Q : Bool → Hp → Prop), G X.K F H L σ sl → RsQ X.K σ Xq F H L sl (PT' Q) (testOf (ev p.P p.np cb c sl)) → WW X e σ H Q
section
variable {X : Cx} {p : Cp} {cb : Nat → List T → FRes} {Xq : XQ} {σ : L2.St} {F F1 H H1 : Hp} {L L1 : Lbl} {sl sl1 : Sl} {a b c : E} {x y z : Expr} {pos : Pos} {α : Type} {P : α → Sl → Hp → Hp → Lbl → Prop}
/-- one operand, then the rest -/
theorem SE.step (ha : SE X p cb Xq a x) (g : G X.K F H L σ sl) {f : R → Sl → Res α} (h : RsQ X.K σ Xq F H L sl P ((ev p.P p.np cb a sl).bind f)) {Q : VK}
    (k : ∀ r sl1 v F1 H1 L1, G X.K F1 H1 L1 σ sl1 → Same F F1 → RQ X.K F1 σ v r.settle → RsQ X.K σ Xq F1 H1 L1 sl1 P (f r sl1) → Q v H1) : WE X x σ H Q := by
  refine ha σ sl F H L Q g (h.bind.imp fun r sl1 F1 H1 L1 A h1 v hv => ?_)
  obtain ⟨F2, L2, st, g2, q⟩ := settle1 A hv
  exact k r sl1 v F2 H1 L2 g2 (A.st.fro.trans st.fro) q (h1.from st (.refl _))
theorem ST.step (ha : ST X p cb Xq a x) (g : G X.K F H L σ sl) {f : Bool → Sl → Res α} (h : RsQ X.K σ Xq F H L sl P ((testOf (ev p.P p.np cb a sl)).bind f)) {Q : Bool → Hp → Prop}
    (k : ∀ k sl1 F1 H1 L1, G X.K F1 H1 L1 σ sl1 → RsQ X.K σ Xq F1 H1 L1 sl1 P (f k sl1) → Q k H1) : WT X x σ H Q :=
  ha σ sl F H L Q g (h.bind.imp fun r sl1 F1 H1 L1 A h1 n => k r sl1 F1 H1 L1 ⟨A.ok, A.rel, n⟩ h1)
/-- a test by its value -/
theorem ST.val (ha : SE X p cb Xq a x) (he : ∀ whole, isTrue x X.env whole = (do let v ← whole; standAt x.pos; holding [v] (truthy v))) : ST X p cb Xq a x := by
  intro σ sl F H L Q g h
  refine wt_of (pt_val we_pe he) ?_
  show WE X x σ H _
  refine ha.step g h fun r sl1 v F1 H1 L1 g1 _ q h1 => ?_
  split at h1
  · rename_i k e
    have w := q.view g1 e
    cases (show Rp X.K F1 v (.bool k) from w)
    exact ⟨k, rfl, h1 F1 H1 L1 g1.aft g1.tmp⟩
  · exact h1.elim
end
end Md

/-! Md, part E: the operators on data, against the model. -/
namespace Md
open PySem PySem.Spec
open PyProof.Rows L2
variable [Wd]

section
variable {X : Cx} {σ : L2.St} {Xq : XQ} {F H : Hp} {L : Lbl} {sl : Sl} {Q : VK} {v u : V}
theorem of_two {o : Option T} (h : RsQ X.K σ Xq F H L sl (PQ X.K σ Q) (two o sl)) : ∃ t, o = some t ∧ RsQ X.K σ Xq F H L sl (PQ X.K σ Q) (.ok (.t t) sl) := by
  cases o with
  | none => exact h.elim
  | some t => exact ⟨t, rfl, h⟩
theorem of_if {α : Type} {c : Bool} {w : α} {f : α → T} (h : RsQ X.K σ Xq F H L sl (PQ X.K σ Q) (two ((if c = true then some w else none).map f) sl)) : c = true ∧ RsQ X.K σ Xq F H L sl (PQ X.K σ Q) (.ok (.t (f w)) sl) := by
  cases c with
  | true => exact ⟨rfl, h⟩
  | false => exact h.elim
theorem szOk_le {n : Nat} (h : szOk n = true) : n ≤ sizeLine := of_decide_eq_true (by rwa [szOk_eq] at h)
theorem strOk_iff {x : Str} : PyData.strOk x = true ↔ ∀ c ∈ x.cps.toList, c < 0x110000 := by
  unfold PyData.strOk
  rw [← Array.all_toList, List.all_eq_true]
  simp
theorem strOk_of {x : Str} (h : ∀ c ∈ x.cps.toList, c < 0x110000) : PyData.strOk x = true := strOk_iff.mpr h
theorem strOk_append {x y : Str} (h : PyData.strOk x = true) (k : PyData.strOk y = true) : PyData.strOk (x ++ y) = true := by
  refine strOk_of fun c hc => ?_
  have e : (x ++ y).cps.toList = x.cps.toList ++ y.cps.toList := by show (x.cps ++ y.cps).toList = _; simp
  rw [e] at hc
  rcases List.mem_append.mp hc with q | q
  · exact strOk_iff.mp h c q
  · exact strOk_iff.mp k c q
theorem strOk_sub {x y : Str} (h : PyData.strOk x = true) (k : ∀ c ∈ y.cps.toList, c ∈ x.cps.toList) : PyData.strOk y = true := strOk_of fun c hc => strOk_iff.mp h c (k c hc)
theorem foldl_mem {a : Array Nat} {c : Nat} : ∀ (l : List (Array Nat)) (acc : Array Nat), (∀ b ∈ l, b = a) → c ∈ (l.foldl (· ++ ·) acc).toList → c ∈ a.toList ∨ c ∈ acc.toList
  | [], _, _, h => .inr h
  | b :: l, acc, ha, h => by
    rcases foldl_mem l (acc ++ b) (fun z hz => ha z (List.mem_cons_of_mem _ hz)) h with q | q
    · exact .inl q
    · rw [Array.toList_append] at q
      rcases List.mem_append.mp q with z | z
      · exact .inr z
      · exact .inl (by rw [← ha b List.mem_cons_self]; exact z)
theorem strOk_mul {x : Str} {n : Int} (h : PyData.strOk x = true) : PyData.strOk (Txt.mul x n) = true := by
  refine strOk_sub h fun c hc => ?_
  unfold Txt.mul at hc
  split at hc
  · simp [Str.empty] at hc
  · split at hc
    · exact hc
    · rcases foldl_mem (a := x.cps) _ _ (fun b hb => (List.mem_replicate.mp hb).2) hc with q | q
      · exact q
      · simp at q
theorem mulOk_ok {i j : Int} (h : mulOk i j = true) : wk2 X (binaryOp .Mult) (.int i) (.int j) H Q ↔ wk2 X (binaryOp .Mult) (.int i) (.int j) H Q := Iff.rfl
theorem wk_mul {i j : Int} (h : mulOk i j = true) (q : Q (.int (i * j)) H) : wk2 X (binaryOp .Mult) (.int i) (.int j) H Q := by
  rw [mulOk_eq] at h
  rw [Bool.or_eq_true] at h
  rcases h with h | h
  · have h := of_decide_eq_true h
    exact wk2_of op_mul ⟨i, j, rfl, rfl, h, q⟩
  · have h := of_decide_eq_true h
    exact wk2_of op_mulW ⟨i, j, rfl, rfl, h, q⟩
theorem wk_div {i j : Int} (h : divOk j = true) (q : Q (.int (i / j)) H) : wk2 X (binaryOp .FloorDiv) (.int i) (.int j) H Q := by
  rw [divOk_eq] at h
  rw [Bool.and_eq_true, Bool.or_eq_true] at h
  obtain ⟨h0, h⟩ := h
  have h0 := of_decide_eq_true h0
  rcases h with h | h
  · exact wk2_of op_fdiv ⟨i, j, rfl, rfl, ⟨h0, of_decide_eq_true h⟩, q⟩
  · exact wk2_of op_fdivW ⟨i, j, rfl, rfl, ⟨h0, of_decide_eq_true h⟩, q⟩
theorem op_powW : OpR X (binaryOp .Pow) (rI (fun i j => 0 ≤ j ∧ (Builtin.Int.intBits i : Int) * j ≤ 2 ^ 27) fun i j => .int (i ^ j.toNat)) := opI fun _ _ _ _ _ _ _ hc q => pow_int hc.1 hc.2 q
theorem wk_pow {i j : Int} (h : powOk i j = true) (q : Q (.int (i ^ j.toNat)) H) : wk2 X (binaryOp .Pow) (.int i) (.int j) H Q := by
  rw [powOk_eq] at h
  rw [Bool.and_eq_true, Bool.or_eq_true] at h
  obtain ⟨h0, h⟩ := h
  have h0 := of_decide_eq_true h0
  rcases h with h | h
  · exact wk2_of op_pow ⟨i, j, rfl, rfl, ⟨h0, of_decide_eq_true h⟩, q⟩
  · exact wk2_of op_powW ⟨i, j, rfl, rfl, ⟨h0, of_decide_eq_true h⟩, q⟩
theorem wk_shl {i j : Int} (h : shlOk i j = true) (q : Q (.int (i * 2 ^ j.toNat)) H) : wk2 X (binaryOp .LShift) (.int i) (.int j) H Q := by
  rw [shlOk_eq] at h
  rw [Bool.and_eq_true, Bool.and_eq_true] at h
  exact wk2_of op_shl ⟨i, j, rfl, rfl, ⟨of_decide_eq_true h.1.1, of_decide_eq_true h.1.2, of_decide_eq_true h.2⟩, q⟩
theorem mul_txt {x : Str} {n : Int} (h1 : n < 2 ^ 62) (h2 : -(2 ^ 62) < n) (h3 : x.length * n.toNat ≤ sizeLine) : MulOk x n := by
  have hs : (sizeLine : Nat) = 16777216 := sizeLine_eq
  refine ⟨?_, fun a b c => ?_, fun a b => ?_⟩
  · rw [decide_eq_false (by omega), decide_eq_false (by omega)]; rfl
  · have h0 : 0 < n := by omega
    have h4 : (x.length : Int) * n ≤ 16777216 := by
      have : ((x.length * n.toNat : Nat) : Int) ≤ 16777216 := by omega
      rw [Int.natCast_mul, Int.toNat_of_nonneg (by omega)] at this
      exact this
    have : (x.length : Int) ≤ (2 ^ 63 - 1) / n := (Int.le_ediv_iff_mul_le h0).mpr (by omega)
    omega
  · exact notLongL (by omega)
theorem op_mulS : OpR X (binaryOp .Mult) (fun x y H Q => ∃ z n, x = .str z ∧ y = .int n ∧ MulOk z n ∧ Q (.str (Txt.mul z n)) H) := by
  intro pins s σ H x y v u Q I rx ry h
  obtain ⟨z, n, rfl, rfl, ok, q⟩ := h
  obtain ⟨t, rfl⟩ := rx
  obtain ⟨t', rfl⟩ := ry
  exact SB.mul ok fun t k => ⟨.str _, H, I.tok _, ⟨_, rfl⟩, q⟩
theorem RpA.rep {vs : List V} {ds : List Da} (r : RpA X.K F vs ds) : ∀ n : Nat, RpA X.K F (List.replicate n vs).flatten (List.replicate n ds).flatten
  | 0 => .nil
  | n + 1 => by
    rw [List.replicate_succ, List.flatten_cons, List.replicate_succ, List.flatten_cons]
    exact r.append (RpA.rep r n)
theorem RpA.nil_iff {vs : List V} {ds : List Da} (r : RpA X.K F vs ds) : vs = [] ↔ ds = [] := by
  cases r <;> simp
theorem binop_ok (g : G X.K F H L σ sl) (o : BOp) (d e : Da) (hv : Vw X.K F H v d) (hu : Vw X.K F H u e) (h : RsQ X.K σ Xq F H L sl (PQ X.K σ Q) (two ((binop o d e).map own) sl)) : wk2 X (binaryOp o.op) v u H Q := by
  cases o <;> cases d <;> cases e <;> first | exact h.elim | skip
  · -- int + int
    cases (show Rp _ _ _ _ from hv); cases (show Rp _ _ _ _ from hu)
    exact wk2_of op_add ⟨_, _, rfl, rfl, res_fz g h (.int _)⟩
  · -- str + str
    rename_i x y
    cases (show Rp _ _ _ _ from hv); cases (show Rp _ _ _ _ from hu)
    rename_i k2 k1
    obtain ⟨c, h⟩ := of_if h
    · skip
      exact wk2_of op_add_str ⟨_, _, rfl, rfl, szOk_le c, res_fz g h (.str _ (strOk_append (by assumption) (by assumption)))⟩
  · -- list + list
    rename_i xs ys
    obtain ⟨a, vs, rfl, e1, r1⟩ := hv
    obtain ⟨b, us, rfl, e2, r2⟩ := hu
    obtain ⟨c, h⟩ := of_if h
    · skip
      exact wk2_of op_cat ⟨a, b, vs, us, rfl, rfl, e1, e2, by rw [r1.length, r2.length]; exact szOk_le c, res_lst g h (r1.append r2)⟩
  · -- tuple + tuple
    rename_i xs ys
    have hv' : Rp X.K F v (.tuple xs) := hv
    have hu' : Rp X.K F u (.tuple ys) := hu
    obtain ⟨c, h⟩ := of_if h
    · skip
      cases hv' with
      | tup q1 r1 =>
        cases hu' with
        | tup q2 r2 =>
          rename_i a vs b us
          refine wk2_of op_catA ⟨a, b, vs, us, rfl, rfl, sqT_mono g.ok.sub q1, sqT_mono g.ok.sub q2, by rw [r1.length, r2.length]; exact szOk_le c, fun z => ?_, fun _ z => ?_, fun _ _ => res_tup g h (r1.append r2)⟩
          · have : xs = [] := r1.nil_iff.mp z
            subst this
            exact res_fz g h (by simpa using Rp.tup q2 r2)
          · have : ys = [] := r2.nil_iff.mp z
            subst this
            exact res_fz g h (by simpa using Rp.tup q1 r1)
  · cases (show Rp _ _ _ _ from hv); cases (show Rp _ _ _ _ from hu)
    exact wk2_of op_sub ⟨_, _, rfl, rfl, res_fz g h (.int _)⟩
  · rename_i i j
    cases (show Rp _ _ _ _ from hv); cases (show Rp _ _ _ _ from hu)
    obtain ⟨c, h⟩ := of_if h
    · skip
      exact wk_mul c (res_fz g h (.int _))
  · -- str * int
    rename_i x n
    cases (show Rp _ _ _ _ from hv); cases (show Rp _ _ _ _ from hu)
    obtain ⟨c, h⟩ := of_if h
    · skip
      rw [Bool.and_eq_true, Bool.and_eq_true] at c
      exact wk2_of op_mulS ⟨_, _, rfl, rfl, mul_txt (of_decide_eq_true c.1.1) (of_decide_eq_true c.1.2) (szOk_le c.2), res_fz g h (.str _ (strOk_mul (by assumption)))⟩
  · -- list * int
    rename_i xs n
    obtain ⟨a, vs, rfl, e1, r1⟩ := hv
    cases (show Rp _ _ _ _ from hu)
    obtain ⟨c, h⟩ := of_if h
    · skip
      rw [Bool.and_eq_true, Bool.and_eq_true] at c
      have c1 := of_decide_eq_true c.1.1
      have c2 := of_decide_eq_true c.1.2
      exact wk2_of op_rep ⟨a, n, vs, rfl, rfl, e1, by omega, by omega, by rw [r1.length]; exact szOk_le c.2, res_lst g h (r1.rep _)⟩
  · -- tuple * int
    rename_i xs n
    have hv' : Rp X.K F v (.tuple xs) := hv
    cases (show Rp _ _ _ _ from hu)
    obtain ⟨c, h⟩ := of_if h
    · skip
      rw [Bool.and_eq_true, Bool.and_eq_true, Bool.and_eq_true] at c
      have c1 := of_decide_eq_true c.1.1.1
      have c2 := of_decide_eq_true c.1.1.2
      have c3 := of_decide_eq_true c.1.2
      cases hv' with
      | tup q1 r1 =>
        rename_i a vs
        refine wk2_of op_repT ⟨a, n, vs, rfl, rfl, sqT_mono g.ok.sub q1, fun z => ?_, c1, c2, by rw [r1.length]; exact c3, res_tup g h (r1.rep _)⟩
        have := r1.nil_iff.mp z
        rw [this] at c; simp at c
  · rename_i i j
    cases (show Rp _ _ _ _ from hv); cases (show Rp _ _ _ _ from hu)
    obtain ⟨c, h⟩ := of_if h
    · skip
      exact wk_div c (res_fz g h (.int _))
  · rename_i i j
    cases (show Rp _ _ _ _ from hv); cases (show Rp _ _ _ _ from hu)
    obtain ⟨c, h⟩ := of_if h
    · skip
      exact wk2_of op_mod ⟨_, _, rfl, rfl, of_decide_eq_true c, res_fz g h (.int _)⟩
  · rename_i i j
    cases (show Rp _ _ _ _ from hv); cases (show Rp _ _ _ _ from hu)
    obtain ⟨c, h⟩ := of_if h
    · skip
      exact wk_pow c (res_fz g h (.int _))
  · rename_i i j
    cases (show Rp _ _ _ _ from hv); cases (show Rp _ _ _ _ from hu)
    obtain ⟨c, h⟩ := of_if h
    · skip
      exact wk_shl c (res_fz g h (.int _))
  · rename_i i j
    cases (show Rp _ _ _ _ from hv); cases (show Rp _ _ _ _ from hu)
    obtain ⟨c, h⟩ := of_if h
    · skip
      exact wk2_of op_shr ⟨_, _, rfl, rfl, of_decide_eq_true c, res_fz g h (.int _)⟩
  · cases (show Rp _ _ _ _ from hv); cases (show Rp _ _ _ _ from hu)
    exact wk2_of op_and ⟨_, _, rfl, rfl, res_fz g h (.int _)⟩
  · cases (show Rp _ _ _ _ from hv); cases (show Rp _ _ _ _ from hu)
    exact wk2_of op_or ⟨_, _, rfl, rfl, res_fz g h (.int _)⟩
end
end Md

/-! Md, dicts with numbers and texts as keys: their data, what is read. -/
namespace Md
open PySem PySem.Spec
open PyProof.Rows L2
variable [Wd]
theorem keq_keyD (k j : L2.Key) : keq (keyD k) (keyD j) = decide (k = j) := by
  cases k <;> cases j <;> simp [keyD, keq]
theorem kOk_of {K : PySem.W.Frag} {F : Hp} {v : V} {d : Da} (r : Rp K F v d) (h : kOk d = true) : ∃ k, v = kV k ∧ d = keyD k ∧ keyOk k := by
  cases r with
  | int i => exact ⟨.inl i, rfl, rfl, trivial⟩
  | str x ok => exact ⟨.inr x, rfl, rfl, ok⟩
  | _ => cases h
theorem key_rp {K : PySem.W.Frag} {F : Hp} (k : L2.Key) (h : keyOk k) : Rp K F (kV k) (keyD k) := by
  cases k with
  | inl i => exact .int i
  | inr x => exact .str x h
section
variable {K : PySem.W.Frag} {F : Hp}
theorem RpK.look (k : L2.Key) : ∀ {ks : List (L2.Key × V)} {kvs : List (Da × Da)}, RpK K F ks kvs → (valV ks k = none ∧ lookD (keyD k) kvs = none) ∨ ∃ v d, valV ks k = some v ∧ lookD (keyD k) kvs = some d ∧ Rp K F v d
  | _, _, .nil => .inl ⟨rfl, rfl⟩
  | _, _, .cons (k := j) (v := v) (d := d) h r rs => by
    rw [lookD, keq_keyD]
    by_cases e : j = k
    · rw [valV_pos (p := (j, v)) e, decide_eq_true e]
      exact .inr ⟨v, d, rfl, rfl, r⟩
    · rw [valV_neg (p := (j, v)) e, decide_eq_false e]
      simpa using rs.look k
theorem RpK.some_iff {k : L2.Key} {ks : List (L2.Key × V)} {kvs : List (Da × Da)} (r : RpK K F ks kvs) : (valV ks k).isSome = (lookD (keyD k) kvs).isSome := by
  rcases r.look k with ⟨a, b⟩ | ⟨v, d, a, b, _⟩ <;> rw [a, b] <;> rfl
theorem RpK.snoc {k : L2.Key} {v : V} {d : Da} (h : keyOk k) (rv : Rp K F v d) : ∀ {ks : List (L2.Key × V)} {kvs : List (Da × Da)}, RpK K F ks kvs → RpK K F (ks ++ [(k, v)]) (kvs ++ [(keyD k, d)])
  | _, _, .nil => .cons h rv .nil
  | _, _, .cons a b r => .cons a b (r.snoc h rv)
theorem RpK.repl {k : L2.Key} {v : V} {d : Da} (rv : Rp K F v d) : ∀ {ks : List (L2.Key × V)} {kvs : List (Da × Da)}, RpK K F ks kvs → RpK K F (ks.map fun p => if p.1 = k then (p.1, v) else p) (kvs.map fun p => if keq p.1 (keyD k) = true then (p.1, d) else p)
  | _, _, .nil => .nil
  | _, _, .cons (k := j) a b r => by
    rw [List.map_cons, List.map_cons]
    have e := keq_keyD j k
    by_cases q : j = k
    · simp only [e, if_pos q, decide_eq_true q, if_true]
      exact .cons a rv (r.repl rv)
    · simp only [e, if_neg q, decide_eq_false q, if_false]
      exact .cons a b (r.repl rv)
theorem RpK.put {k : L2.Key} {v : V} {d : Da} (h : keyOk k) (rv : Rp K F v d) {ks : List (L2.Key × V)} {kvs : List (Da × Da)} (r : RpK K F ks kvs) : RpK K F (putK ks k v) (putD kvs (keyD k) d) := by
  unfold putD putK
  rw [valV_any k ks, r.some_iff]
  by_cases q : (lookD (keyD k) kvs).isSome = true
  · rw [if_pos q, if_pos q]; exact r.repl rv
  · rw [if_neg q, if_neg q]; exact r.snoc h rv
theorem RpK.merge : ∀ {more : List (L2.Key × V)} {ms : List (Da × Da)}, RpK K F more ms → ∀ {ks : List (L2.Key × V)} {kvs : List (Da × Da)}, RpK K F ks kvs → RpK K F (mergeK ks more) (mergeD kvs ms)
  | _, _, .nil, _, _, r => r
  | _, _, .cons a b rs, _, _, r => by
    show RpK K F (mergeK (putK _ _ _) _) (mergeD (putD _ _ _) _)
    exact rs.merge (r.put a b)
theorem RpK.keys : ∀ {ks : List (L2.Key × V)} {kvs : List (Da × Da)}, RpK K F ks kvs → RpA K F (ks.map fun p => kV p.1) (kvs.map (·.1))
  | _, _, .nil => .nil
  | _, _, .cons a _ r => .cons (key_rp _ a) r.keys
theorem RpK.isD {ks : List (L2.Key × V)} {kvs : List (Da × Da)} (r : RpK K F ks kvs) : isD kvs = true := by
  cases r with
  | nil => rfl
  | cons a b c =>
    rename_i k _ _ _ _
    cases k <;> rfl
end
section
variable {X : Cx} {σ : L2.St} {Xq : XQ} {F H : Hp} {L : Lbl} {sl : Sl} {Q : VK} {v u : V}
/-- a dict that is no instance -/
theorem Vw.dic (g : G X.K F H L σ sl) {kvs : List (Da × Da)} (h : Vw X.K F H v (.dict kvs)) (d : Md.isD kvs = true) : ∃ a ks, v = .ref a ∧ Rd H a (.dK ks) ∧ RpK X.K F ks kvs := by
  rcases h with h | h
  · exact h
  · cases h with
    | dic q r => exact ⟨_, _, rfl, .inl (g.ok.sub _ _ q), r⟩
    | ins _ _ _ _ => cases d
theorem op_din (hu : X.A.units + 200 < cLine) (neg : Bool) : OpR X (compareOp (if neg then .NotIn else .In)) (fun x y H Q => ∃ k a ks, x = kV k ∧ y = .ref a ∧ Rd H a (.dK ks) ∧ Q (.bl (if neg then !(valV ks k).isSome else (valV ks k).isSome)) H) := by
  intro pins s σ H x y v u Q I rx ry h
  obtain ⟨k, a, ks, rfl, rfl, hr, q⟩ := h
  cases ry
  have gd : DGet H a (kV k) (valV ks k) := .inl ⟨ks, k, hr, rfl, rfl⟩
  cases neg with
  | false => exact d_in (by omega) I gd rx fun s' I' => ⟨.bl _, H, I', rfl, q⟩
  | true => exact d_notIn (by omega) I gd rx fun s' I' => ⟨.bl _, H, I', rfl, q⟩
/-- two dicts that are equal -/
theorem op_deq (hu : X.A.units + 200 < cLine) (neg : Bool) : OpR X (compareOp (if neg then .NotEq else .Eq)) (fun x y H Q => ∃ a b ks ls, x = .ref a ∧ y = .ref b ∧ Rd H a (.dK ks) ∧ Rd H b (.dK ls) ∧ ks.length = ls.length ∧ (∀ p ∈ ks, valV ls p.1 = some p.2 ∧ flatB p.2 = true) ∧ Q (.bl (!neg)) H) := by
  intro pins s σ H x y v u Q I rx ry h
  obtain ⟨a, b, ks, ls, rfl, rfl, ea, eb, hlen, hp, q⟩ := h
  cases rx
  cases ry
  obtain ⟨_, ya, va, ra, da⟩ := dk_rd I.hok ea
  obtain ⟨_, yb, vb, rb, db⟩ := dk_rd I.hok eb
  have hl : va.length = vb.length := by rw [← ra.length, ← rb.length]; exact hlen
  have hits := fun (A : Around) => hits_all (A := A) (s := s) rb ra hp
  cases neg with
  | false => exact PySem.W.keq_eq (knd := mixKind X.prog X.w) (r := true) ya yb da db (by omega) (fun _ => hits _) (fin_bl I q (by simp [hl]))
  | true => exact PySem.W.keq_ne (knd := mixKind X.prog X.w) (r := true) ya yb da db (by omega) (fun _ => hits _) (fin_bl I q (by simp [hl]))
theorem flat_rp {K : PySem.W.Frag} {F : Hp} {v w : V} {d e : Da} (r : Rp K F v d) (q : Rp K F w e) (fd : flatD d = true) (fe : flatD e = true) (h : PyData.eqv d e = true) : v = w ∧ flatB v = true := by
  cases r with
  | int i => cases q with
    | int j => have := of_decide_eq_true (show decide (i = j) = true by rw [← h, PyData.eqv]; exact Bool.eq_iff_iff.mpr (by simp)); subst this; exact ⟨rfl, rfl⟩
    | str _ _ => simp [PyData.eqv] at h
    | _ => cases fe
  | str x _ => cases q with
    | str y _ => have := of_decide_eq_true (show decide (x = y) = true by rw [← h, PyData.eqv]; exact Bool.eq_iff_iff.mpr (by simp)); subst this; exact ⟨rfl, rfl⟩
    | int _ => simp [PyData.eqv] at h
    | _ => cases fe
  | _ => cases fd
theorem RpK.deq {K : PySem.W.Frag} {F : Hp} {ls : List (L2.Key × V)} {ys : List (Da × Da)} (rl : RpK K F ls ys) : ∀ {ks : List (L2.Key × V)} {xs : List (Da × Da)}, RpK K F ks xs → (xs.all fun p => flatD p.2 && (match lookD p.1 ys with
  | some w => flatD w && PyData.eqv p.2 w
  | none => false)) = true → ∀ p ∈ ks, valV ls p.1 = some p.2 ∧ flatB p.2 = true
  | _, _, .nil, _, p, hp => by cases hp
  | _, _, .cons (k := k) (v := v) (d := d) a b r, h, p, hp => by
    rw [List.all_cons, Bool.and_eq_true, Bool.and_eq_true] at h
    obtain ⟨⟨h1, h2⟩, h3⟩ := h
    rcases List.mem_cons.mp hp with rfl | hp
    · rcases rl.look k with ⟨_, e⟩ | ⟨w, e, e1, e2, e3⟩
      · rw [e] at h2; cases h2
      · simp only [e2, Bool.and_eq_true] at h2
        obtain ⟨q1, q2⟩ := flat_rp b e3 h1 h2.1 h2.2
        exact ⟨by rw [q1]; exact e1, q2⟩
    · exact rl.deq r h3 p hp
theorem rd_typeIs {pins : List (Addr × Obj)} {s : Shared} {a : Addr} {ks : List (L2.Key × V)} (I : Inv X pins σ H s) (g : Rd H a (.dK ks)) : s.TypeIs (.ref a) "dict" := by
  obtain ⟨_, _, vs, _, dd⟩ := dk_rd I.hok g
  exact dd.typeIs
theorem ix_dic (hu : X.A.units + 200 < cLine) : IxR X (fun x y H Q => ∃ k a ks w, x = .ref a ∧ y = kV k ∧ Rd H a (.dK ks) ∧ valV ks k = some w ∧ Q w H) := by
  intro value slice pins s σ H x y v u Q I rx ry h hs
  obtain ⟨k, a, ks, w, rfl, rfl, hr, hv, q⟩ := h
  cases rx
  have gd : DGet H a (kV k) (some w) := .inl ⟨ks, k, hr, rfl, hv.symm⟩
  have hT := rd_typeIs I hr
  unfold subscriptTail
  refine wpAny_bind ?_
  rw [getitemInPython_of_ne hT.not_modules]
  refine wpAny_bind (wpAny_specialOf hT PySem.F.slot_dict_getitem.lookup ?_)
  have fin : wpAny (model X.prog X.w) X.A (subscripted slice false (.ref a) u) (fun r s₃ => wpAny (model X.prog X.w) X.A (letTemporaryGo value (.ref a) r >>= fun _ => pure r) (EP X pins σ Q) X.xe s₃) X.xe s := by
    rw [hs]
    exact wpAny_operating (d_getItem (by omega) I gd ry fun w' s' I' rw' => wpAny_bind (wpAny_letTemporaryGo (wpAny_pure ⟨w, H, I', rw', q⟩)))
  first
    | exact wpAny_pure (wpAny_bind fin)
    | exact wpAny_bind (wpAny_pure (wpAny_bind fin))
    | exact wpAny_bind fin
end
end Md

/-! Md, part F: comparisons on data, against the model. -/
namespace Md
open PySem PySem.Spec
open PyProof.Rows L2
variable [Wd]

section
variable {X : Cx} {σ : L2.St} {Xq : XQ} {F H : Hp} {L : Lbl} {sl : Sl} {Q : VK} {v u : V}
theorem op_inTD (hu : X.A.units + 65 < cLine) : OpR X (compareOp .In) (fun x y H Q => ∃ d ds, Dp X.K H x d ∧ Dp X.K H y (.tuple ds) ∧ SeqAt.shaped d = true ∧ SeqAt.shaped (.tuple ds) = true ∧ Q (.bl (ds.any fun z => PyData.eqv z d)) H) := by
  intro pins s σ H x y v u Q I rx ry h
  obtain ⟨d, ds, hd, he, sd, se, q⟩ := h
  obtain ⟨as, r1⟩ := Dp.reads I d x v hd rx
  obtain ⟨bs, r2⟩ := Dp.reads I (.tuple ds) y u he ry
  exact SeqAt.in_tuple_reads r2 r1 (SeqAt.canLay_of_shaped se) (SeqAt.canLay_of_shaped sd) (room_in_shaped sd hu) ⟨.bl _, H, I, rfl, q⟩
theorem op_notInTD (hu : X.A.units + 65 < cLine) : OpR X (compareOp .NotIn) (fun x y H Q => ∃ d ds, Dp X.K H x d ∧ Dp X.K H y (.tuple ds) ∧ SeqAt.shaped d = true ∧ SeqAt.shaped (.tuple ds) = true ∧ Q (.bl (!ds.any fun z => PyData.eqv z d)) H) := by
  intro pins s σ H x y v u Q I rx ry h
  obtain ⟨d, ds, hd, he, sd, se, q⟩ := h
  obtain ⟨as, r1⟩ := Dp.reads I d x v hd rx
  obtain ⟨bs, r2⟩ := Dp.reads I (.tuple ds) y u he ry
  exact SeqAt.notIn_tuple_reads r2 r1 (SeqAt.canLay_of_shaped se) (SeqAt.canLay_of_shaped sd) (room_in_shaped sd hu) ⟨.bl _, H, I, rfl, q⟩
theorem op_ltD (hu : X.A.units + 64 < cLine) : OpR X (compareOp .Lt) (fun x y H Q => ∃ d e, Dp X.K H x d ∧ Dp X.K H y e ∧ SeqAt.shaped d = true ∧ PySem.W.alike d e = true ∧ d ≠ .none ∧ Q (.bl (PySem.W.dataLt d e)) H) := by
  intro pins s σ H x y v u Q I rx ry h
  obtain ⟨d, e, hd, he, sd, al, nn, q⟩ := h
  obtain ⟨as, r1⟩ := Dp.reads I d x v hd rx
  obtain ⟨bs, r2⟩ := Dp.reads I e y u he ry
  have hm : min d.depth e.depth ≤ d.depth := Nat.min_le_left _ _
  have h64 := SeqAt.depth_of_shaped sd
  exact PySem.W.rcLt_alike d e X.A s v u as bs r1 r2 al nn (by omega) X.prog X.w X.xe _ ⟨.bl _, H, I, rfl, q⟩
theorem of_ifB {c : Bool} {w : Bool} (h : RsQ X.K σ Xq F H L sl (PQ X.K σ Q) (two ((if c = true then some w else none).map fun k => T.fz (.bool k)) sl)) : c = true ∧ RsQ X.K σ Xq F H L sl (PQ X.K σ Q) (.ok (.t (.fz (.bool w))) sl) := by
  cases c with
  | true => exact ⟨rfl, h⟩
  | false => exact h.elim
theorem Vw.refD {v : V} {b : List (Da × Da)} (h : Vw X.K F H v (.dict b)) : ∃ a, v = .ref a := by
  rcases h with ⟨a, ks, e, _, _⟩ | h
  · exact ⟨a, e⟩
  · cases h <;> exact ⟨_, rfl⟩
theorem dp_of (g : G X.K F H L σ sl) {d : Da} (hv : Vw X.K F H v d) (c : fits 64 d = true) : Dp X.K H v d ∧ SeqAt.shaped d = true := by
  have r := hv.rp g.ok fun b e => by rw [e] at c; cases c
  exact ⟨(r.dp 64 c).1, shaped_of r c⟩
theorem compare_ok (g : G X.K F H L σ sl) (hu : X.A.units + 200 < cLine) (o : COp) (d e : Da) (hv : Vw X.K F H v d) (he : Vw X.K F H u e) (h : RsQ X.K σ Xq F H L sl (PQ X.K σ Q) (two ((compare o d e).map fun k => T.fz (.bool k)) sl)) : wk2 X (compareOp o.op) v u H Q := by
  have hu1 : X.A.units + 64 < cLine := by omega
  have hu2 : X.A.units + 65 < cLine := by omega
  cases o with
  | eq =>
    have hq : RsQ X.K σ Xq F H L sl (PQ X.K σ Q) (two ((if (fits 64 d && fits 64 e) = true then some (PyData.eqv d e) else if dEqD d e = true then some true else none).map fun k => T.fz (.bool k)) sl) := h
    by_cases c : (fits 64 d && fits 64 e) = true
    · rw [if_pos c] at hq
      rw [Bool.and_eq_true] at c
      obtain ⟨a1, a2⟩ := dp_of g hv c.1
      obtain ⟨b1, b2⟩ := dp_of g he c.2
      exact wk2_of (op_eqD hu1) ⟨d, e, a1, b1, a2, b2, res_fz g hq (.bl _)⟩
    · rw [if_neg c] at hq
      by_cases c2 : dEqD d e = true
      · rw [if_pos c2] at hq
        cases d <;> first | (cases c2; done) | skip
        rename_i xs
        cases e <;> first | (cases c2; done) | skip
        rename_i ys
        have c2 : dEq xs ys = true := c2
        unfold dEq at c2
        rw [Bool.and_eq_true, Bool.and_eq_true, Bool.and_eq_true] at c2
        obtain ⟨⟨⟨e1, e2⟩, e3⟩, e4⟩ := c2
        obtain ⟨a, ks, rfl, ra, rk⟩ := hv.dic g e1
        obtain ⟨b, ls, rfl, rb, rl⟩ := he.dic g e2
        exact wk2_of (op_deq hu false) ⟨a, b, ks, ls, rfl, rfl, ra, rb, by rw [rk.length, rl.length]; exact of_decide_eq_true e3, rl.deq rk e4, res_fz g hq (.bl _)⟩
      · rw [if_neg c2] at hq; exact hq.elim
  | ne =>
    have hq : RsQ X.K σ Xq F H L sl (PQ X.K σ Q) (two ((if (fits 64 d && fits 64 e) = true then some (!PyData.eqv d e) else if dEqD d e = true then some false else none).map fun k => T.fz (.bool k)) sl) := h
    by_cases c : (fits 64 d && fits 64 e) = true
    · rw [if_pos c] at hq
      rw [Bool.and_eq_true] at c
      obtain ⟨a1, a2⟩ := dp_of g hv c.1
      obtain ⟨b1, b2⟩ := dp_of g he c.2
      exact wk2_of (op_neD hu1) ⟨d, e, a1, b1, a2, b2, res_fz g hq (.bl _)⟩
    · rw [if_neg c] at hq
      by_cases c2 : dEqD d e = true
      · rw [if_pos c2] at hq
        cases d <;> first | (cases c2; done) | skip
        rename_i xs
        cases e <;> first | (cases c2; done) | skip
        rename_i ys
        have c2 : dEq xs ys = true := c2
        unfold dEq at c2
        rw [Bool.and_eq_true, Bool.and_eq_true, Bool.and_eq_true] at c2
        obtain ⟨⟨⟨e1, e2⟩, e3⟩, e4⟩ := c2
        obtain ⟨a, ks, rfl, ra, rk⟩ := hv.dic g e1
        obtain ⟨b, ls, rfl, rb, rl⟩ := he.dic g e2
        exact wk2_of (op_deq hu true) ⟨a, b, ks, ls, rfl, rfl, ra, rb, by rw [rk.length, rl.length]; exact of_decide_eq_true e3, rl.deq rk e4, res_fz g hq (.bl _)⟩
      · rw [if_neg c2] at hq; exact hq.elim
  | lt =>
    cases d <;> cases e <;> first | exact h.elim | skip
    · cases (show Rp _ _ _ _ from hv); cases (show Rp _ _ _ _ from he)
      exact wk2_of op_lt ⟨_, _, rfl, rfl, res_fz g h (.bl _)⟩
    · cases (show Rp _ _ _ _ from hv); cases (show Rp _ _ _ _ from he)
      exact wk2_of op_lt_str ⟨_, _, rfl, rfl, res_fz g h (.bl _)⟩
    · obtain ⟨c, h⟩ := of_ifB h
      rw [Bool.and_eq_true, Bool.and_eq_true] at c
      obtain ⟨a1, a2⟩ := dp_of g hv c.1.1
      obtain ⟨b1, b2⟩ := dp_of g he c.1.2
      exact wk2_of (op_ltD hu1) ⟨_, _, a1, b1, a2, c.2, fun z => (nomatch z), res_fz g h (.bl _)⟩
  | le =>
    cases d <;> cases e <;> first | exact h.elim | skip
    cases (show Rp _ _ _ _ from hv); cases (show Rp _ _ _ _ from he)
    exact wk2_of op_le ⟨_, _, rfl, rfl, res_fz g h (.bl _)⟩
  | gt =>
    cases d <;> cases e <;> first | exact h.elim | skip
    cases (show Rp _ _ _ _ from hv); cases (show Rp _ _ _ _ from he)
    exact wk2_of op_gt ⟨_, _, rfl, rfl, res_fz g h (.bl _)⟩
  | ge =>
    cases d <;> cases e <;> first | exact h.elim | skip
    cases (show Rp _ _ _ _ from hv); cases (show Rp _ _ _ _ from he)
    exact wk2_of op_ge ⟨_, _, rfl, rfl, res_fz g h (.bl _)⟩
  | isN =>
    cases e with
    | none =>
      cases (show Rp _ _ _ _ from he)
      refine wk2_of op_isN ⟨rfl, ?_⟩
      by_cases q : ∃ b, d = .dict b
      · obtain ⟨b, rfl⟩ := q
        obtain ⟨a, rfl⟩ := hv.refD
        exact res_fz g h (.bl _)
      · have r := hv.rp g.ok fun b e => q ⟨b, e⟩
        cases d <;> cases r <;> first | exact res_fz g h (.bl _) | exact absurd ⟨_, rfl⟩ q
    | _ => cases d <;> exact h.elim
  | notN =>
    cases e with
    | none =>
      cases (show Rp _ _ _ _ from he)
      refine wk2_of op_notN ⟨rfl, ?_⟩
      by_cases q : ∃ b, d = .dict b
      · obtain ⟨b, rfl⟩ := q
        obtain ⟨a, rfl⟩ := hv.refD
        exact res_fz g h (.bl _)
      · have r := hv.rp g.ok fun b e => q ⟨b, e⟩
        cases d <;> cases r <;> first | exact res_fz g h (.bl _) | exact absurd ⟨_, rfl⟩ q
    | _ => cases d <;> exact h.elim
  | isin =>
    cases e with
    | str y =>
      cases d with
      | str x =>
        cases (show Rp _ _ _ _ from hv); cases (show Rp _ _ _ _ from he)
        exact wk2_of op_in_str ⟨_, _, rfl, rfl, res_fz g h (.bl _)⟩
      | _ => exact h.elim
    | list ys =>
      have h : RsQ X.K σ Xq F H L sl (PQ X.K σ Q) (two ((if (fits 64 d && fitsAll 63 ys) = true then some (ys.any fun y => PyData.eqv y d) else none).map fun k => T.fz (.bool k)) sl) := by cases d <;> exact h
      obtain ⟨c, h⟩ := of_ifB h
      rw [Bool.and_eq_true] at c
      obtain ⟨a1, a2⟩ := dp_of g hv c.1
      obtain ⟨b1, b2⟩ := dp_of g he (show fits 64 (.list ys) = true from c.2)
      exact wk2_of (op_inD hu2) ⟨d, ys, a1, b1, a2, b2, res_fz g h (.bl _)⟩
    | tuple ys =>
      have h : RsQ X.K σ Xq F H L sl (PQ X.K σ Q) (two ((if (fits 64 d && fitsAll 63 ys) = true then some (ys.any fun y => PyData.eqv y d) else none).map fun k => T.fz (.bool k)) sl) := by cases d <;> exact h
      obtain ⟨c, h⟩ := of_ifB h
      rw [Bool.and_eq_true] at c
      obtain ⟨a1, a2⟩ := dp_of g hv c.1
      obtain ⟨b1, b2⟩ := dp_of g he (show fits 64 (.tuple ys) = true from c.2)
      exact wk2_of (op_inTD hu2) ⟨d, ys, a1, b1, a2, b2, res_fz g h (.bl _)⟩
    | dict kvs =>
      have h : RsQ X.K σ Xq F H L sl (PQ X.K σ Q) (two ((if (kOk d && isD kvs) = true then some (lookD d kvs).isSome else none).map fun k => T.fz (.bool k)) sl) := by cases d <;> exact h
      obtain ⟨c, h⟩ := of_ifB h
      rw [Bool.and_eq_true] at c
      obtain ⟨a, ks, rfl, hr, rk⟩ := he.dic g c.2
      obtain ⟨k, rfl, rfl, ok⟩ := kOk_of (hv.rp g.ok fun b e => by rw [e] at c; cases c.1) c.1
      refine wk2_of (op_din hu false) ⟨k, a, ks, rfl, rfl, hr, ?_⟩
      have e := rk.some_iff (k := k)
      simp only [Bool.false_eq_true, if_false, e]
      exact res_fz g h (.bl _)
    | _ => cases d <;> exact h.elim
  | notin =>
    cases e with
    | str y =>
      cases d with
      | str x =>
        cases (show Rp _ _ _ _ from hv); cases (show Rp _ _ _ _ from he)
        exact wk2_of op_notin_str ⟨_, _, rfl, rfl, res_fz g h (.bl _)⟩
      | _ => exact h.elim
    | list ys =>
      have h : RsQ X.K σ Xq F H L sl (PQ X.K σ Q) (two ((if (fits 64 d && fitsAll 63 ys) = true then some (!ys.any fun y => PyData.eqv y d) else none).map fun k => T.fz (.bool k)) sl) := by cases d <;> exact h
      obtain ⟨c, h⟩ := of_ifB h
      rw [Bool.and_eq_true] at c
      obtain ⟨a1, a2⟩ := dp_of g hv c.1
      obtain ⟨b1, b2⟩ := dp_of g he (show fits 64 (.list ys) = true from c.2)
      exact wk2_of (op_notInD hu2) ⟨d, ys, a1, b1, a2, b2, res_fz g h (.bl _)⟩
    | tuple ys =>
      have h : RsQ X.K σ Xq F H L sl (PQ X.K σ Q) (two ((if (fits 64 d && fitsAll 63 ys) = true then some (!ys.any fun y => PyData.eqv y d) else none).map fun k => T.fz (.bool k)) sl) := by cases d <;> exact h
      obtain ⟨c, h⟩ := of_ifB h
      rw [Bool.and_eq_true] at c
      obtain ⟨a1, a2⟩ := dp_of g hv c.1
      obtain ⟨b1, b2⟩ := dp_of g he (show fits 64 (.tuple ys) = true from c.2)
      exact wk2_of (op_notInTD hu2) ⟨d, ys, a1, b1, a2, b2, res_fz g h (.bl _)⟩
    | dict kvs =>
      have h : RsQ X.K σ Xq F H L sl (PQ X.K σ Q) (two ((if (kOk d && isD kvs) = true then some (!(lookD d kvs).isSome) else none).map fun k => T.fz (.bool k)) sl) := by cases d <;> exact h
      obtain ⟨c, h⟩ := of_ifB h
      rw [Bool.and_eq_true] at c
      obtain ⟨a, ks, rfl, hr, rk⟩ := he.dic g c.2
      obtain ⟨k, rfl, rfl, ok⟩ := kOk_of (hv.rp g.ok fun b e => by rw [e] at c; cases c.1) c.1
      refine wk2_of (op_din hu true) ⟨k, a, ks, rfl, rfl, hr, ?_⟩
      have e := rk.some_iff (k := k)
      simp only [if_true, e]
      exact res_fz g h (.bl _)
    | _ => cases d <;> exact h.elim
end
end Md

/-! Md, sorted(list) over data that are alike. -/
namespace Md
open PySem PySem.Spec
open PyProof.Rows L2
open PySem.W (alike AllAlike Sortable dataLe sorted_data)
variable [Wd]
theorem alikeB_ok {ds : List Da} (h : alikeB ds = true) : AllAlike (ds.map id) := by
  rw [List.map_id]
  intro d hd e he
  exact List.all_eq_true.mp (List.all_eq_true.mp h d hd) e he
def SortOk (ds : List Da) : Prop := Sortable ds ∨ (ds.length < 2 ∧ ∀ d, d ∈ ds → d ≠ .none)
theorem sortB_ok {ds : List Da} (h : sortB ds = true) : SortOk (ds.map id) := by
  rw [List.map_id]
  unfold sortB at h
  rw [Bool.or_eq_true, Bool.or_eq_true] at h
  rcases h with (h | h) | h
  · refine .inl (.inl fun d hd => ?_)
    have := List.all_eq_true.mp h d hd
    cases d <;> first | (cases this; done) | skip
    rename_i xs
    cases xs with
    | nil => cases this
    | cons x r => exact ⟨x, r, rfl⟩
  · refine .inl (.inr fun d hd => ?_)
    have := List.all_eq_true.mp h d hd
    cases d <;> first | (cases this; done) | exact ⟨(fun z => nomatch z), fun xs z => nomatch z⟩
  · rw [Bool.and_eq_true] at h
    refine .inr ⟨of_decide_eq_true h.1, fun d hd => ?_⟩
    have := List.all_eq_true.mp h.2 d hd
    cases d <;> first | (cases this; done) | exact fun z => nomatch z
section
open PySem.W PySem.Calls
variable {prog : Program} {w : World} {A : Around} {E : Value → Shared → Prop} {s : Shared} {vs : List Value} {ds : List Da} {R : Value → Da → Prop}
/-- one value, or none, is in order -/
theorem sortsAt_one (e : EachIs (fun v d => ∃ as, Reads s.heap v d as) vs ds) (hal : AllAlike ds) (h1 : ds.length < 2) (hn : ∀ d, d ∈ ds → d ≠ .none) (hu : ∀ d, d ∈ ds → A.units + d.depth < cLine) : SortsAt prog w A s (dataKind s.heap ds) vs := by
  refine ⟨fun v hv => ?_, ⟨general', fun E x y a b Q ha hb hq => ?_, fun h2 => absurd h2 (by rw [e.length]; omega)⟩⟩
  · obtain ⟨d, hd, as, r⟩ := e.left v hv
    exact ⟨_, dataKind_some hal hd r⟩
  · obtain ⟨d, as, hd, ra, rfl⟩ := dataKind_inv ha
    obtain ⟨d', as', hd', rb, rfl⟩ := dataKind_inv hb
    show wpAny (model prog w) A (PyProof.Rows.oneLt' false x y) Q E s
    refine kat_one x y (lt_data ra rb (hal d hd d' hd') (hn d hd) ?_ hq)
    exact Nat.lt_of_le_of_lt (Nat.add_le_add_left (Nat.min_le_left _ _) _) (hu d hd)
theorem sortsAt_ok (e : EachIs (fun v d => ∃ as, Reads s.heap v d as) vs ds) (hal : AllAlike ds) (hk : SortOk ds) (hu : ∀ d, d ∈ ds → A.units + d.depth < cLine) : SortsAt prog w A s (dataKind s.heap ds) vs := by
  rcases hk with hk | ⟨h1, h2⟩
  · exact SortsAt.data e hal hk hu
  · exact sortsAt_one e hal h1 h2 hu
theorem sorted_dataO {l : Addr} {Q : Value → Shared → Prop} (hl : s.heap.IsList l vs.toArray) (e : EachIs R vs ds) (er : EachIs (fun v b => ∃ as, Reads s.heap v b as) vs ds) (hal : AllAlike ds) (hk : SortOk ds) (hL : ds.length ≤ sizeLine)
    (hu : ∀ b, b ∈ ds → A.units + 2 + b.depth < cLine) (h : ∀ out, out.length = ds.length → EachIs R out (ds.mergeSort (dataLe false id)) → Q (.ref (s.heap.objs.size + 1)) { s with heap := sortedAll s.heap vs (List.toArray out) }) :
    wpAny (model prog w) A (call (.builtin "sorted") [.ref l]) Q E s := by
  have er' : EachIs (fun v b => ∃ as, Reads (sortingHeap (copyHeap s.heap vs) (s.heap.objs.size + 1) vs) v b as) vs ds := er.mono fun _ _ ⟨as, r⟩ => ⟨as, PyProof.Rows.Reads.keeps (fun _ _ => sorting_copy_old) r⟩
  exact sorted_vals hl (sortsAt_ok (s := { s with heap := sortingHeap (copyHeap s.heap vs) (s.heap.objs.size + 1) vs }) er' hal hk hu) (by rw [e.length]; exact hL)
    (h _ (by rw [sortVals_length false rfl]; exact e.length) (by
      have q := sortVals_data (enc := id) false e er' (by rw [List.map_id]; exact hal)
      rw [List.map_id] at q
      exact q))
theorem list_sort_dataO {a : Addr} {n : Nat} {Q : Value → Shared → Prop} (ho : s.heap.get? a = some (seqObj "list" vs.toArray n)) (e : EachIs R vs ds) (er : EachIs (fun v b => ∃ as, Reads s.heap v b as ∧ a ∉ as) vs ds) (hal : AllAlike ds) (hk : SortOk ds) (hL : ds.length ≤ sizeLine)
    (hu : ∀ b, b ∈ ds → A.units + 1 + b.depth < cLine) (h : ∀ out, out.length = ds.length → EachIs R out (ds.mergeSort (dataLe false id)) → Q .none { s with heap := sortedHeap s.heap a vs (List.toArray out) }) :
    wpAny (model prog w) A (call (.builtin "list.sort") [.ref a]) Q E s := by
  have er' : EachIs (fun v b => ∃ as, Reads (sortingHeap s.heap a vs) v (id b) as) vs ds := each_keepBut (enc := id) (h' := sortingHeap s.heap a vs) (fun _ _ hb q => sortingHeap_old hb q) (fun o q => by rw [ho] at q; rw [← Option.some.inj q]) (by rw [List.map_id]; exact hal) er
  refine wpAny_call_entry PySem.F.slot_list_sort ⟨_, ho, rfl⟩ PySem.F.entry_list_sort (list_sort_vals (κ := dataKind (sortingHeap s.heap a vs) ds) ho (sortsAt_ok (s := { s with heap := sortingHeap s.heap a vs }) er' hal hk hu) (by rw [e.length]; exact hL) ⟨.none, rfl, ?_⟩) (args_list_sort _)
  exact h _ (by rw [sortVals_length false rfl]; exact e.length) (by
      have q := sortVals_data (enc := id) false e er' (by rw [List.map_id]; exact hal)
      rw [List.map_id] at q
      exact q)
end
section
variable {X : Cx}
theorem each_split {R : V → Da → Prop} : ∀ {us : List Value} {ds : List Da}, PySem.W.EachIs (fun u d => ∃ v, RelV v u ∧ R v d) us ds → ∃ vs, Vals vs us ∧ PySem.W.EachIs R vs ds
  | _, _, .nil => ⟨[], .nil, .nil⟩
  | _, _, .cons ⟨v, r, q⟩ h => by
    obtain ⟨vs, h1, h2⟩ := each_split h
    exact ⟨v :: vs, .cons r h1, .cons q h2⟩
theorem each_join {R : V → Da → Prop} : ∀ {vs : List V} {us : List Value} {ds : List Da}, Vals vs us → PySem.W.EachIs R vs ds → PySem.W.EachIs (fun u d => ∃ v, RelV v u ∧ R v d) us ds
  | _, _, _, .nil, .nil => .nil
  | _, _, _, .cons r h, .cons q k => .cons ⟨_, r, q⟩ (each_join h k)
theorem each_mem {R : V → Da → Prop} : ∀ {vs : List V} {ds : List Da}, PySem.W.EachIs R vs ds → ∀ d ∈ ds, ∃ v, R v d
  | _, _, .cons q h, d, hd => by
    rcases List.mem_cons.mp hd with rfl | hd
    · exact ⟨_, q⟩
    · exact each_mem h d hd
theorem each_rp {K : PySem.W.Frag} {F : Hp} : ∀ {vs : List V} {ds : List Da}, RpA K F vs ds → PySem.W.EachIs (fun v d => Rp K F v d ∧ d ∈ ds) vs ds
  | _, _, .nil => .nil
  | _, _, .cons r h => .cons ⟨r, List.mem_cons_self⟩ ((each_rp h).mono fun v d ⟨a, b⟩ => ⟨a, List.mem_cons_of_mem _ b⟩)
theorem rp_each {K : PySem.W.Frag} {F : Hp} {P : Da → Prop} : ∀ {vs : List V} {ds : List Da}, PySem.W.EachIs (fun v d => Rp K F v d ∧ P d) vs ds → RpA K F vs ds
  | _, _, .nil => .nil
  | _, _, .cons q h => .cons q.1 (rp_each h)
theorem call_sortedD (hu : X.A.units + 200 < cLine) : CallR X (.builtin "sorted") (fun xs H Q => ∃ (a : Addr) (vs : List V) (ds : List Da) (R : V → Da → Prop), xs = [.ref a] ∧ SqL X.K H a vs ∧ PySem.W.EachIs R vs ds ∧ (∀ w d, R w d → Dp X.K H w d ∧ SeqAt.shaped d = true) ∧ alikeB ds = true ∧ sortB ds = true ∧
    ∀ out, PySem.W.EachIs R out (srt ds) → ∀ q, H q = none → Q (.ref q) (upd H q (.lst out))) := by
  intro pins s σ H xs us Q I r h
  obtain ⟨a, vs, ds, R, rfl, hs, hR, hd, al, so, q⟩ := h
  obtain ⟨its, rv, hl, hz⟩ := I.list hs
  rw [Vals.ref1 r]
  have e := each_join rv hR
  have er : PySem.W.EachIs (fun v b => ∃ as, Reads s.heap v (id b) as) its ds := e.mono fun u d ⟨v, r1, r2⟩ => Dp.reads I d v u (hd v d r2).1 r1
  have hlen : its.length = ds.length := e.length
  have hL : ds.length ≤ sizeLine := by rw [← hlen, ← rv.length]; exact hz
  have hb : ∀ b, b ∈ ds → X.A.units + 2 + (id b).depth < cLine := fun b hb => by
    obtain ⟨v, hv⟩ := each_mem hR b hb
    have h64 := SeqAt.depth_of_shaped (hd v b hv).2
    show X.A.units + 2 + b.depth < cLine
    omega
  have al' := alikeB_ok al; have so' := sortB_ok so
  rw [List.map_id] at al' so'
  refine sorted_dataO hl.isList e er al' so' hL hb fun out h1 h2 => ?_
  obtain ⟨ws, h3, h4⟩ := each_split h2
  obtain ⟨ep, he'⟩ := PyProof.Rows.sortedAll_at s.heap its (List.toArray out)
  have hlen2 : ws.length ≤ sizeLine := by rw [h3.length, h1]; exact hL
  exact ⟨.ref _, upd H (s.heap.objs.size + 1) (.lst ws), I.laid (t' := s.toks) (fun _ _ => PyProof.Rows.sortedAll_old) (Nat.le_succ _) ⟨hlen2, out, ep, h3, he'⟩, rfl, q ws h4 _ (I.hok.fresh (Nat.le_succ _))⟩
end
end Md

/-! Md, part G: subscripts, slices, built-ins of one argument, isinstance. -/
namespace Md
open PySem PySem.Spec
open PyProof.Rows L2
variable [Wd]

section
variable {X : Cx} {σ : L2.St} {Xq : XQ} {F H : Hp} {L : Lbl} {sl : Sl} {Q : VK} {v u : V}
theorem RpA.atI {vs : List V} {ds : List Da} {i : Int} {d : Da} (r : RpA X.K F vs ds) (h : L2.atI ds i = some d) : ∃ w, L2.atI vs i = some w ∧ Rp X.K F w d := by
  unfold L2.atI at h ⊢
  rw [r.length]
  cases e : ixN ds.length i with
  | none => rw [e] at h; cases h
  | some j =>
    rw [e] at h
    exact r.get' h
theorem RpA.cut {vs : List V} {ds : List Da} {lo hi : Option Int} (r : RpA X.K F vs ds) : RpA X.K F (cutV vs lo hi) (cutL ds lo hi) := by
  unfold cutV cutL
  rw [r.length]
  exact (r.drop _).take _
theorem ixD_ok (g : G X.K F H L σ sl) (hun : X.A.units + 200 < cLine) {kvs : List (Da × Da)} {e : Da} {a : Addr} {ks : List (L2.Key × V)} (hr : Rd H a (.dK ks)) (rk : RpK X.K F ks kvs) (hu : VwR X.K F H u e) (h : RsQ X.K σ Xq F H L sl (PQ X.K σ Q) (two ((if kOk e = true then lookD e kvs else none).map T.fz) sl)) : wkI X (.ref a) u H Q := by
  by_cases c : kOk e = true
  · rw [if_pos c] at h
    have re : Rp X.K F u e := by cases e <;> first | exact hu | cases c
    obtain ⟨k, rfl, rfl, ok⟩ := kOk_of re c
    rcases rk.look k with ⟨_, z⟩ | ⟨w, d, z1, z2, z3⟩
    · rw [z] at h; exact h.elim
    · rw [z2] at h
      exact wkI_of (ix_dic hun) ⟨k, a, ks, w, rfl, rfl, hr, z1, res_fz g h z3⟩
  · rw [if_neg c] at h; exact h.elim
theorem index_ok (g : G X.K F H L σ sl) (hun : X.A.units + 200 < cLine) (d e : Da) (hv : VwR X.K F H v d) (hu : VwR X.K F H u e) (h : RsQ X.K σ Xq F H L sl (PQ X.K σ Q) (two ((index d e).map T.fz) sl)) : wkI X v u H Q := by
  by_cases dd : ∃ kvs, d = .dict kvs
  · obtain ⟨kvs, rfl⟩ := dd
    have plain : ∀ {a : Addr} {ks : List (L2.Key × V)}, v = .ref a → Rd H a (.dK ks) → RpK X.K F ks kvs → wkI X v u H Q := fun {a ks} e1 hr rk => by
      subst e1
      refine ixD_ok (Xq := Xq) (L := L) (sl := sl) g hun hr rk hu ?_
      cases rk with
      | nil => exact h
      | cons _ _ _ =>
        rename_i k _ _ _ _ _ _ _
        cases k <;> exact h
    rcases hv with ⟨a, ks, e1, hr, rk⟩ | hv | ⟨a, o, ks, r, rfl, e1, hf, rk⟩
    · exact plain e1 hr rk
    · cases hv with
      | dic q rk => exact plain rfl (.inl (g.ok.sub _ _ q)) rk
      | ins _ _ _ _ => exact h.elim
    · subst e1
      exact ixD_ok g hun (.inr ⟨o, g.ok.sub _ _ hf⟩) rk hu h
  cases d <;> cases e <;> first | exact h.elim | exact absurd ⟨_, rfl⟩ dd | skip
  · -- str
    rename_i x i
    cases (show Rp _ _ _ _ from hv); cases (show Rp _ _ _ _ from hu)
    rename_i ok
    by_cases c : szOk x.length = true
    · have h : RsQ X.K σ Xq F H L sl (PQ X.K σ Q) (two (((L2.atI x.cps.toList i).map fun c => PyData.str ⟨#[c]⟩).map T.fz) sl) := by
        have e : index (.str x) (.int i) = if szOk x.length = true then (L2.atI x.cps.toList i).map fun c => PyData.str ⟨#[c]⟩ else none := rfl
        rw [e, if_pos c] at h
        exact h
      cases e : L2.atI x.cps.toList i with
      | none => rw [e] at h; exact h.elim
      | some k =>
        rw [e] at h
        refine wkI_of ix_str ⟨x, i, k, rfl, rfl, szOk_le c, e, res_fz g h (.str _ ?_)⟩
        refine strOk_sub ok fun z hz => ?_
        have hz : z = k := by simpa using hz
        subst hz
        obtain ⟨j, _, h2, _⟩ := atI_get e
        exact List.mem_of_getElem? h2
    · have e : index (.str x) (.int i) = if szOk x.length = true then (L2.atI x.cps.toList i).map fun c => PyData.str ⟨#[c]⟩ else none := rfl
      rw [e, if_neg c] at h
      exact h.elim
  · -- list
    rename_i xs i
    obtain ⟨a, vs, rfl, e1, r1⟩ := hv
    cases (show Rp _ _ _ _ from hu)
    have h : RsQ X.K σ Xq F H L sl (PQ X.K σ Q) (two ((L2.atI xs i).map T.fz) sl) := h
    cases e : L2.atI xs i with
    | none => rw [e] at h; exact h.elim
    | some k =>
      rw [e] at h
      obtain ⟨w, h1, h2⟩ := r1.atI e
      exact wkI_of ix_list ⟨a, vs, i, w, rfl, rfl, e1, h1, res_fz g h h2⟩
  · -- tuple
    rename_i xs i
    have hv' : Rp X.K F v (.tuple xs) := hv
    cases (show Rp _ _ _ _ from hu)
    have h : RsQ X.K σ Xq F H L sl (PQ X.K σ Q) (two ((L2.atI xs i).map T.fz) sl) := h
    cases e : L2.atI xs i with
    | none => rw [e] at h; exact h.elim
    | some k =>
      rw [e] at h
      cases hv' with
      | tup q1 r1 =>
        obtain ⟨w, h1, h2⟩ := r1.atI e
        exact wkI_of ix_tup ⟨_, _, i, w, rfl, rfl, sqT_mono g.ok.sub q1, h1, res_fz g h h2⟩
theorem cutL_all {xs : List Da} {lo hi : Option Int} (c : HT.sIx xs.length 0 lo = 0 ∧ HT.sIx xs.length xs.length hi = xs.length) : cutL xs lo hi = xs := by
  unfold cutL
  rw [c.1, c.2]; simp
theorem cut_ok (g : G X.K F H L σ sl) (d : Da) (lo hi : Option Int) (hv : VwR X.K F H v d) (h : RsQ X.K σ Xq F H L sl (PQ X.K σ Q) (two ((cut d lo hi).map own) sl)) : wkS X v lo hi H Q := by
  cases d <;> first | exact h.elim | skip
  · rename_i x
    cases (show Rp _ _ _ _ from hv)
    rename_i ok
    obtain ⟨c, h⟩ := of_if h
    refine wkS_of sl_str ⟨x, rfl, szOk_le c, res_fz g h (.str _ (strOk_sub ok fun z hz => ?_))⟩
    unfold cutS at hz
    simp only at hz
    exact List.mem_of_mem_drop (List.mem_of_mem_take hz)
  · obtain ⟨a, vs, rfl, e1, r1⟩ := hv
    exact wkS_of sl_list ⟨a, vs, rfl, e1, res_lst g h r1.cut⟩
  · rename_i xs
    have hv' : Rp X.K F v (.tuple xs) := hv
    cases hv' with
    | tup q1 r1 =>
      rename_i a vs
      refine wkS_of sl_tupA ⟨a, vs, rfl, sqT_mono g.ok.sub q1, fun c => ?_, fun _ => res_tup g h r1.cut⟩
      have h' : RsQ X.K σ Xq F H L sl (PQ X.K σ Q) (.ok (.t (.fz (.tuple (cutL xs lo hi)))) sl) := h
      rw [cutL_all (by rw [← r1.length]; exact c)] at h'
      exact res_fz g h' (.tup q1 r1)
theorem allB_ok : ∀ {vs : List V} {ds : List Da} {b : Bool}, RpA X.K F vs ds → allB ds = some b → ∃ bs : List Bool, vs = bs.map V.bl ∧ b = bs.all id
  | _, _, _, .nil, h => ⟨[], rfl, (Option.some.inj h).symm⟩
  | _, _, _, .cons (.bl k) r, h => by
    simp only [allB, Option.map_eq_some_iff] at h
    obtain ⟨c, h1, h2⟩ := h
    obtain ⟨bs, h3, h4⟩ := allB_ok r h1
    exact ⟨k :: bs, by rw [h3]; rfl, by rw [← h2, h4]; rfl⟩
  | _, _, _, .cons .non _, h => by cases h
  | _, _, _, .cons (.int _) _, h => by cases h
  | _, _, _, .cons (.str _ _) _, h => by cases h
  | _, _, _, .cons (.lst _ _) _, h => by cases h
  | _, _, _, .cons (.tup _ _) _, h => by cases h
  | _, _, _, .cons (.dic _ _) _, h => by cases h
  | _, _, _, .cons (.ins _ _ _ _) _, h => by cases h
theorem anyB_ok : ∀ {vs : List V} {ds : List Da} {b : Bool}, RpA X.K F vs ds → anyB ds = some b → ∃ bs : List Bool, vs = bs.map V.bl ∧ b = bs.any id
  | _, _, _, .nil, h => ⟨[], rfl, (Option.some.inj h).symm⟩
  | _, _, _, .cons (.bl k) r, h => by
    simp only [anyB, Option.map_eq_some_iff] at h
    obtain ⟨c, h1, h2⟩ := h
    obtain ⟨bs, h3, h4⟩ := anyB_ok r h1
    exact ⟨k :: bs, by rw [h3]; rfl, by rw [← h2, h4]; rfl⟩
  | _, _, _, .cons .non _, h => by cases h
  | _, _, _, .cons (.int _) _, h => by cases h
  | _, _, _, .cons (.str _ _) _, h => by cases h
  | _, _, _, .cons (.lst _ _) _, h => by cases h
  | _, _, _, .cons (.tup _ _) _, h => by cases h
  | _, _, _, .cons (.dic _ _) _, h => by cases h
  | _, _, _, .cons (.ins _ _ _ _) _, h => by cases h
theorem sumI_ok : ∀ {vs : List V} {ds : List Da} {b : Int}, RpA X.K F vs ds → sumI ds = some b → ∃ bs : List Int, vs = bs.map V.int ∧ b = bs.sum
  | _, _, _, .nil, h => ⟨[], rfl, (Option.some.inj h).symm⟩
  | _, _, _, .cons (.int k) r, h => by
    simp only [sumI, Option.map_eq_some_iff] at h
    obtain ⟨c, h1, h2⟩ := h
    obtain ⟨bs, h3, h4⟩ := sumI_ok r h1
    exact ⟨k :: bs, by rw [h3]; rfl, by rw [← h2, h4]; rfl⟩
  | _, _, _, .cons .non _, h => by cases h
  | _, _, _, .cons (.bl _) _, h => by cases h
  | _, _, _, .cons (.str _ _) _, h => by cases h
  | _, _, _, .cons (.lst _ _) _, h => by cases h
  | _, _, _, .cons (.tup _ _) _, h => by cases h
  | _, _, _, .cons (.dic _ _) _, h => by cases h
  | _, _, _, .cons (.ins _ _ _ _) _, h => by cases h
theorem strOk_string (s : String) : PyData.strOk (Str.ofString s) = true := by
  refine strOk_of fun c hc => ?_
  rw [Str.ofString_eq_toList] at hc
  obtain ⟨ch, _, rfl⟩ := List.mem_map.mp (by simpa using hc)
  have h := ch.valid
  have : ch.toNat = ch.val.toNat := rfl
  simp only [UInt32.isValidChar, Nat.isValidChar] at h
  omega
theorem fitsAll_mem {k : Nat} : ∀ {xs : List Da} {d : Da}, fitsAll k xs = true → d ∈ xs → fits k d = true
  | x :: xs, d, h, hd => by
    rw [fitsAll, Bool.and_eq_true] at h
    rcases List.mem_cons.mp hd with rfl | hd
    · exact h.1
    · exact fitsAll_mem h.2 hd
theorem res_dct (g : G X.K F H L σ sl) {Q : VK} {kvs : List (Da × Da)} (h : RsQ X.K σ Xq F H L sl (PQ X.K σ Q) (.ok (.t (.dct kvs)) sl)) {ks : List (L2.Key × V)} (r : RpK X.K F ks kvs) : ∀ p, H p = none → Q (.ref p) (upd H p (.dK ks)) := fun p np => by
  obtain ⟨o, rl, st, q⟩ := new_dct g r np
  exact h F _ _ ⟨o, rl, st, .refl _⟩ _ ⟨q, rfl⟩
/-- a list of pairs -/
theorem pairsD_ok (g : G X.K F H L σ sl) : ∀ {vs : List V} {ps : List Da} {ms : List (Da × Da)}, RpA X.K F vs ps → pairsD ps = some ms →
    ∃ (as : List Addr) (more : List (L2.Key × V)), vs = as.map V.ref ∧ Paired (fun p kv => SqT X.K H p [kV kv.1, kv.2]) as more ∧ RpK X.K F more ms
  | _, _, _, .nil, h => by
    cases (Option.some.inj h)
    exact ⟨[], [], rfl, .nil, .nil⟩
  | _, p :: ps, ms, .cons r rs, h => by
    cases r with
    | tup q r2 =>
      cases r2 with
      | nil => cases h
      | cons rk r3 =>
        cases r3 with
        | nil => cases h
        | cons rv r4 =>
          cases r4 with
          | cons _ _ => cases h
          | nil =>
            rename_i k d v e
            have h : (if kOk d = true then (pairsD ps).map ((d, e) :: ·) else none) = some ms := h
            by_cases c : kOk d = true
            · rw [if_pos c, Option.map_eq_some_iff] at h
              obtain ⟨ms', h1, rfl⟩ := h
              obtain ⟨as, more, rfl, h2, h3⟩ := pairsD_ok g rs h1
              obtain ⟨j, rfl, rfl, ok⟩ := kOk_of rk c
              rename_i a
              exact ⟨a :: as, (j, v) :: more, rfl, .cons (sqT_mono g.ok.sub q) h2, .cons ok rv h3⟩
            · rw [if_neg c] at h; cases h
    | _ => cases h
/-- the value of a built-in -/
def B1.val : B1 → Value
  | .tuple => .type "tuple"
  | .list => .type "list"
  | .str => .type "str"
  | .int => .type "int"
  | .dict => .type "dict"
  | .bool => .type "bool"
  | .len => .builtin "len"
  | .all => .builtin "all"
  | .any => .builtin "any"
  | .sum => .builtin "sum"
  | .min => .builtin "min"
  | .max => .builtin "max"
  | .abs => .builtin "abs"
  | .sorted => .builtin "sorted"
theorem boot_b1 (f : B1) : bootBuiltins f.nm = some f.val := by cases f <;> decide +kernel
theorem call1_ok (g : G X.K F H L σ sl) (hc : X.calm = true) (hun : X.A.units + 200 < cLine) (f : B1) (d : Da) (hv : Vw X.K F H v d) (h : RsQ X.K σ Xq F H L sl (PQ X.K σ Q) (two (call1 f d) sl)) : wkC X f.val [v] H Q := by
  cases f with
  | len =>
    cases d <;> first | exact h.elim | skip
    · rename_i x
      cases (show Rp _ _ _ _ from hv)
      have h : RsQ X.K σ Xq F H L sl (PQ X.K σ Q) (two ((if szOk x.length = true then some (PyData.int x.length) else none).map T.fz) sl) := by
        by_cases c : szOk x.length = true
        · rw [if_pos c]
          have e : call1 .len (.str x) = if szOk x.length = true then some (.fz (.int x.length)) else none := rfl
          rw [e, if_pos c] at h; exact h
        · have e : call1 .len (.str x) = if szOk x.length = true then some (.fz (.int x.length)) else none := rfl
          rw [e, if_neg c] at h; exact h.elim
      obtain ⟨c, h⟩ := of_if h
      exact wkC_of call_len ⟨_, _, rfl, ⟨szOk_le c, rfl⟩, res_fz g h (.int _)⟩
    · obtain ⟨a, vs, rfl, e1, r1⟩ := hv
      exact wkC_of call_len_seq ⟨a, vs, rfl, .inl (.inl (.inl e1)), res_fz g h (by rw [r1.length]; exact .int _)⟩
    · rename_i xs
      have hv' : Rp X.K F v (.tuple xs) := hv
      cases hv' with
      | tup q1 r1 => exact wkC_of call_len_seq ⟨_, _, rfl, .inr (sqT_mono g.ok.sub q1), res_fz g h (by rw [r1.length]; exact .int _)⟩
  | all =>
    cases d <;> first | exact h.elim | skip
    rename_i xs
    obtain ⟨a, vs, rfl, e1, r1⟩ := hv
    have h : RsQ X.K σ Xq F H L sl (PQ X.K σ Q) (two ((allB xs).map fun b => .fz (.bool b)) sl) := h
    cases e : allB xs with
    | none => rw [e] at h; exact h.elim
    | some b =>
      rw [e] at h
      obtain ⟨bs, rfl, rfl⟩ := allB_ok r1 e
      exact wkC_of (cr_all hc) ⟨a, bs, rfl, .inl (.inl e1), res_fz g h (.bl _)⟩
  | any =>
    cases d <;> first | exact h.elim | skip
    rename_i xs
    obtain ⟨a, vs, rfl, e1, r1⟩ := hv
    have h : RsQ X.K σ Xq F H L sl (PQ X.K σ Q) (two ((anyB xs).map fun b => .fz (.bool b)) sl) := h
    cases e : anyB xs with
    | none => rw [e] at h; exact h.elim
    | some b =>
      rw [e] at h
      obtain ⟨bs, rfl, rfl⟩ := anyB_ok r1 e
      exact wkC_of (cr_any hc) ⟨a, bs, rfl, .inl (.inl e1), res_fz g h (.bl _)⟩
  | sum =>
    cases d <;> first | exact h.elim | skip
    rename_i xs
    obtain ⟨a, vs, rfl, e1, r1⟩ := hv
    have h : RsQ X.K σ Xq F H L sl (PQ X.K σ Q) (two ((sumI xs).map fun b => .fz (.int b)) sl) := h
    cases e : sumI xs with
    | none => rw [e] at h; exact h.elim
    | some b =>
      rw [e] at h
      obtain ⟨bs, rfl, rfl⟩ := sumI_ok r1 e
      exact wkC_of (cr_sum hc) ⟨a, bs, rfl, .inl (.inl e1), res_fz g h (.int _)⟩
  | abs =>
    cases d <;> first | exact h.elim | skip
    cases (show Rp _ _ _ _ from hv)
    exact wkC_of call_abs ⟨_, rfl, res_fz g h (.int _)⟩
  | tuple =>
    cases d <;> first | exact h.elim | skip
    · obtain ⟨a, vs, rfl, e1, r1⟩ := hv
      exact wkC_of call_tuple_of ⟨a, vs, rfl, .inl ⟨.inl (.inl e1), res_tup g h r1⟩⟩
    · rename_i xs
      have hv' : Rp X.K F v (.tuple xs) := hv
      cases hv' with
      | tup q1 r1 => exact wkC_of call_tuple_of ⟨_, _, rfl, .inr ⟨sqT_mono g.ok.sub q1, res_fz g h (.tup q1 r1)⟩⟩
  | list =>
    cases d <;> first | exact h.elim | skip
    · obtain ⟨a, vs, rfl, e1, r1⟩ := hv
      exact wkC_of call_list_of ⟨a, vs, rfl, .inl (.inl (.inl e1)), res_lst g h r1⟩
    · rename_i xs
      have hv' : Rp X.K F v (.tuple xs) := hv
      cases hv' with
      | tup q1 r1 => exact wkC_of call_list_of ⟨_, _, rfl, .inr (sqT_mono g.ok.sub q1), res_lst g h r1⟩
    · rename_i kvs
      have hq : RsQ X.K σ Xq F H L sl (PQ X.K σ Q) (two (if isD kvs = true then some (.lst (kvs.map (·.1))) else none) sl) := h
      by_cases c : isD kvs = true
      · rw [if_pos c] at hq
        obtain ⟨a, ks, rfl, hr, rk⟩ := hv.dic g c
        exact wkC_of (call_listD hc) ⟨a, ks, rfl, hr, res_lst g hq rk.keys⟩
      · rw [if_neg c] at hq; exact hq.elim
  | str =>
    cases d <;> first | exact h.elim | skip
    rename_i i
    cases (show Rp _ _ _ _ from hv)
    have e : call1 .str (.int i) = if decide (i.natAbs.log2 < 1920) = true then some (.fz (.str (toString i : String))) else none := rfl
    rw [e] at h
    by_cases c : decide (i.natAbs.log2 < 1920) = true
    · rw [if_pos c] at h
      exact wkC_of call_str_int ⟨i, rfl, of_decide_eq_true c, res_fz g h (.str _ (strOk_string _))⟩
    · rw [if_neg c] at h; exact h.elim
  | int =>
    cases d <;> first | exact h.elim | skip
    · cases (show Rp _ _ _ _ from hv)
      exact wkC_of call_int1 (.inr ⟨_, rfl, res_fz g h (.int _)⟩)
    · cases (show Rp _ _ _ _ from hv)
      exact wkC_of call_int1 (.inl ⟨_, rfl, res_fz g h (.int _)⟩)
    · rename_i x
      cases (show Rp _ _ _ _ from hv)
      have e : call1 .int (.str x) = match PySem.intText? x with
        | some i => if decide (x.length ≤ 640) then some (.fz (.int i)) else none
        | none => none := rfl
      rw [e] at h
      cases q : PySem.intText? x with
      | none => rw [q] at h; exact h.elim
      | some i =>
        rw [q] at h
        by_cases c : decide (x.length ≤ 640) = true
        · have h : RsQ X.K σ Xq F H L sl (PQ X.K σ Q) (.ok (.t (.fz (.int i))) sl) := by
            simp only [c, if_true] at h
            exact h
          exact wkC_of call_int_str ⟨x, i, rfl, q, of_decide_eq_true c, res_fz g h (.int _)⟩
        · have : False := by
            rw [Bool.not_eq_true] at c
            simp only [c] at h
            exact h
          exact this.elim
  | sorted =>
    cases d <;> first | exact h.elim | skip
    rename_i xs
    obtain ⟨a, vs, rfl, e1, r1⟩ := hv
    have e : call1 .sorted (.list xs) = if alikeB xs && sortB xs && fitsAll 64 xs then some (.lst (srt xs)) else none := rfl
    rw [e] at h
    by_cases c : (alikeB xs && sortB xs && fitsAll 64 xs) = true
    · rw [if_pos c] at h
      rw [Bool.and_eq_true, Bool.and_eq_true] at c
      refine wkC_of (call_sortedD hun) ⟨a, vs, xs, _, rfl, .inl (.inl e1), each_rp r1, fun w d ⟨r, hm⟩ => ?_, c.1.1, c.1.2, fun out ho => ?_⟩
      · have hf : fits 64 d = true := fitsAll_mem c.2 hm
        exact dp_of g (Rp.vw g.ok r) hf
      · exact res_lst g h (rp_each ho)
    · rw [if_neg c] at h; exact h.elim
  | dict =>
    cases d <;> first | exact h.elim | skip
    · rename_i ps
      obtain ⟨a, vs, rfl, e1, r1⟩ := hv
      have h : RsQ X.K σ Xq F H L sl (PQ X.K σ Q) (two ((pairsD ps).map fun kvs => T.dct (mergeD [] kvs)) sl) := h
      cases e : pairsD ps with
      | none => rw [e] at h; exact h.elim
      | some ms =>
        rw [e] at h
        obtain ⟨as, more, rfl, pr, rk⟩ := pairsD_ok g r1 e
        exact wkC_of (call_dictP hc) ⟨a, as, more, rfl, .inl (.inl e1), pr, res_dct g h (rk.merge .nil)⟩
    · rename_i kvs
      have e : call1 .dict (.dict kvs) = if isD kvs then some (.dct kvs) else none := rfl
      rw [e] at h
      by_cases c : isD kvs = true
      · rw [if_pos c] at h
        obtain ⟨a, ks, rfl, hr, rk⟩ := Vw.dic g hv c
        exact wkC_of call_dictD ⟨a, ks, rfl, hr, res_dct g h rk⟩
      · rw [if_neg c] at h; exact h.elim
  | _ => cases d <;> exact h.elim
theorem len_ro (g : G X.K F H L σ sl) (d : Da) (hv : VwR X.K F H v d) (hc : X.calm = true) (hun : X.A.units + 200 < cLine) (h : RsQ X.K σ Xq F H L sl (PQ X.K σ Q) (two (call1 .len d) sl)) : wkC X (.builtin "len") [v] H Q := by
  cases d with
  | list xs =>
    obtain ⟨a, vs, rfl, e1, r1⟩ := hv
    exact wkC_of call_len_seq ⟨a, vs, rfl, .inl e1, res_fz g h (by rw [r1.length]; exact .int _)⟩
  | dict _ => exact h.elim
  | _ => exact call1_ok g hc hun .len _ (by exact hv) h
/-- a datum's type -/
def tyOf : Da → Value
  | .none => .type "NoneType"
  | .bool _ => .type "bool"
  | .int _ => .type "int"
  | .str _ => .type "str"
  | .list _ => .type "list"
  | .tuple _ => .type "tuple"
  | .dict _ => .type "dict"
theorem ty_of (g : G X.K F H L σ sl) {d : Da} (hv : Vw X.K F H v d) (n : ∀ b, d ≠ .dict b) : TyX X.K H v (tyOf d) := by
  have r := hv.rp g.ok n
  cases r with
  | dic _ _ => exact absurd rfl (n _)
  | ins _ _ _ _ => exact absurd rfl (n _)
  | non => exact .base .non
  | bl b => exact .base (.bl b)
  | int i => exact .base (.int i)
  | str x _ => exact .base (.str x)
  | lst e _ => exact .base (.lst e)
  | tup q _ =>
    rcases q with (q | ⟨o, q⟩) | ⟨o, its, n, q, c, _⟩
    · exact .base (.tup q)
    · exact .fTuple q
    · exact .kTuple q c
end
end Md

/-! Md, part H: values that are kept, displays, arguments, calls. -/
namespace Md
open PySem PySem.Spec
open PyProof.Rows L2
variable [Wd]

section
variable {K : PySem.W.Frag} {σ : L2.St} {Xq : XQ} {F F1 F2 H H1 H2 : Hp} {L L1 L2 : Lbl} {sl sl1 sl2 : Sl}
theorem Rel.drop (h : Rel K F H L σ sl) (i : Nat) : Rel K F H L σ (sl.set i none) := ⟨by rw [List.length_set]; exact h.len, fun j t e => by
  by_cases q : i = j
  · subst q
    by_cases z : i < sl.length
    · rw [List.getElem?_set_self z] at e; cases e
    · rw [List.getElem?_eq_none (by simpa using z)] at e; cases e
  · rw [List.getElem?_set_ne q] at e; exact h.at_ j t e⟩
theorem Rel.put (h : Rel K F H L σ sl) {i : Nat} {v : V} {t : T} (hv : σ[i]? = some (some v)) (o : Ow K F H L (i + 2) v t) : Rel K F H L σ (sl.set i (some t)) := ⟨by rw [List.length_set]; exact h.len, fun j u e => by
  by_cases q : i = j
  · subst q
    by_cases z : i < sl.length
    · rw [List.getElem?_set_self z] at e; cases e
      exact ⟨v, hv, o⟩
    · rw [List.getElem?_eq_none (by simpa using z)] at e; cases e
  · rw [List.getElem?_set_ne q] at e; exact h.at_ j u e⟩
/-- an outcome is kept, frozen -/
theorem take1 {sl0 : Sl} {v : V} {r : R} {w : Da} (A : Aft K σ F H L sl0 sl F1 H1 L1) (h : RP K F1 H1 L1 σ sl v r) (e : r.take sl = some (w, sl2)) :
    ∃ F2 L2, Stp F1 H1 L1 F2 H1 L2 ∧ G K F2 H1 L2 σ sl2 ∧ Rp K F2 v w ∧ Lkb sl sl2 := by
  cases r with
  | t t =>
    have e' : some (t.view, sl) = some (w, sl2) := e
    cases e'
    exact ⟨_, _, frz_stp A.ok (by decide), ⟨frz_ok A.ok, A.rel.frz1 A.ok, clr_tmp⟩, Ow.frz A.ok (by decide) h.1 h.2, .refl _⟩
  | p i =>
    have e' : (match sl[i]? with
      | some (some (.ro _)) => none
      | some (some (.lk _)) => none
      | some (some (.lkd _)) => none
      | some (some (.nst _)) => none
      | some (some (.dtt _)) => none
      | some (some (.dcl _)) => none
      | some (some (.ins _ _)) => none
      | some (some x) => some (x.view, sl.set i (some (.fz x.view)))
      | _ => none) = some (w, sl2) := e
    split at e'
    · cases e'
    · cases e'
    · cases e'
    · cases e'
    · cases e'
    · cases e'
    · cases e'
    · rename_i t n1 n2 n3 n4 n5 n6 n7 ht
      cases e'
      obtain ⟨v', h1, h2⟩ := A.rel.at_ i t ht
      have z : some (some v') = some (some v) := h1.symm.trans h.1
      cases z
      have hr : t.isNew = true := by cases t <;> first | rfl | exact absurd rfl (n1 _) | exact absurd rfl (n2 _) | exact absurd rfl (n3 _) | exact absurd rfl (n4 _) | exact absurd rfl (n5 _) | exact absurd rfl (n6 _) | exact absurd rfl (n7 _ _)
      have rp := Ow.frz A.ok (l := i + 2) (by omega) h2 hr
      have rl : Rel K (frzF F1 H1 L1 (i + 2)) H1 (clr L1 (i + 2)) σ (sl.set i none) := (A.rel.drop i).frz A.ok (by omega) fun j u ej q => by
        have : j = i := by omega
        subst this
        by_cases z : j < sl.length
        · rw [List.getElem?_set_self z] at ej; cases ej
        · rw [List.getElem?_eq_none (by simpa using z)] at ej; cases ej
      refine ⟨_, _, frz_stp A.ok (l := i + 2) (by omega), ⟨frz_ok A.ok, ?_, fun a => ?_⟩, rp, Lkb.set _ _ (by intro ds; simp)⟩
      · have := rl.put h.1 (.fz rp)
        rw [List.set_set] at this
        exact this
      · unfold clr
        by_cases q : L1 a = i + 2
        · rw [if_pos q]; decide
        · rw [if_neg q]; exact h.2.2 a
    · cases e'
  | q _ _ => exact h.elim
end
section
variable {X : Cx} {p : Cp} {cb : Nat → List T → FRes} {Xq : XQ} {σ : L2.St} {F F1 H H1 : Hp} {L L1 : Lbl} {sl sl1 : Sl} {a b c : E} {x y z : Expr} {pos : Pos} {α : Type} {P : α → Sl → Hp → Hp → Lbl → Prop}
/-- one operand that is kept -/
theorem SE.stepT (ha : SE X p cb Xq a x) (g : G X.K F H L σ sl) {f : R → Sl → Res α} (h : RsQ X.K σ Xq F H L sl P ((ev p.P p.np cb a sl).bind f)) {Q : VK}
    (k : ∀ r sl1 v w sl2 F1 H1 L1, (r.take sl1 = some (w, sl2)) → G X.K F1 H1 L1 σ sl2 → Stp F H L F1 H1 L1 → Lkb sl sl2 → Rp X.K F1 v w → RsQ X.K σ Xq F1 H1 L1 sl2 P (f r sl1) → Q v H1)
    (hn : ∀ r sl1, r.take sl1 = none → f r sl1 = .no) : WE X x σ H Q := by
  refine ha σ sl F H L Q g (h.bind.imp fun r sl1 F1 H1 L1 A h1 v hv => ?_)
  cases e : r.take sl1 with
  | none => rw [hn r sl1 e] at h1; exact h1.elim
  | some ws =>
    obtain ⟨w, sl2⟩ := ws
    obtain ⟨F2, L2, st, g2, q, lk⟩ := take1 A hv e
    exact k r sl1 v w sl2 F2 H1 L2 e g2 (A.st.trans st) (A.lk.trans lk) q ((h1.from st lk))
def SA (X : Cx) (p : Cp) (cb : Nat → List T → FRes) (Xq : XQ) (c : E) (es : List Expr) : Prop := ∀ (σ : L2.St) (sl : Sl) (F H : Hp) (L : Lbl) (Q : List V → Hp → Prop), G X.K F H L σ sl →
  RsQ X.K σ Xq F H L sl (fun ws sl' F' H' L' => (∀ a, L' a ≠ 1) → ∀ vs, RpA X.K F' vs ws → Q vs H') (evs p.P p.np cb c sl) → WA X es σ H Q
def RQs (K : PySem.W.Frag) (F : Hp) (σ : L2.St) : List V → List R → Prop
  | [], [] => True
  | v :: vs, r :: rs => RQ K F σ v r ∧ RQs K F σ vs rs
  | _, _ => False
theorem RQs.mono {K : PySem.W.Frag} (s : Same F F1) : ∀ {vs : List V} {rs : List R}, RQs K F σ vs rs → RQs K F1 σ vs rs
  | [], [], _ => trivial
  | _ :: _, _ :: _, h => ⟨h.1.mono s, RQs.mono s h.2⟩
  | [], _ :: _, h => h.elim
  | _ :: _, [], h => h.elim
def SR (X : Cx) (p : Cp) (cb : Nat → List T → FRes) (Xq : XQ) (c : E) (es : List Expr) : Prop := ∀ (σ : L2.St) (sl : Sl) (F H : Hp) (L : Lbl) (Q : List V → Hp → Prop), G X.K F H L σ sl →
  RsQ X.K σ Xq F H L sl (fun rs sl' F' H' L' => (∀ a, L' a ≠ 1) → ∀ vs, RQs X.K F' σ vs rs → Q vs H') (evr p.P p.np cb c sl) → WA X es σ H Q
theorem sa_nil : SA X p cb Xq .nil [] := fun σ sl F H L Q g h => wa_of pa_nil (h F H L g.aft g.tmp [] .nil)
theorem sr_nil : SR X p cb Xq .nil [] := fun σ sl F H L Q g h => wa_of pa_nil (h F H L g.aft g.tmp [] trivial)
theorem sa_cons {es : List Expr} (hd : Hd x) (ha : SE X p cb Xq a x) (hb : SA X p cb Xq b es) : SA X p cb Xq (.cons a b) (x :: es) := by
  intro σ sl F H L Q g h
  refine wa_of (pa_cons we_pe wa_pa (hd.star es X.env)) ?_
  refine ha.stepT g h (fun r sl1 v w sl2 F1 H1 L1 et g1 st lk rp h1 => ?_) fun r sl1 e => by simp only [e]
  simp only [et] at h1
  refine hb σ sl2 F1 H1 L1 _ g1 (h1.bind.imp fun ws sl3 F2 H2 L2 A h2 n vs r => ?_)
  exact h2 F2 H2 L2 ⟨A.ok, A.rel, .refl _ _ _, .refl _⟩ n (v :: vs) (.cons (rp.mono A.st.fro) r)
theorem sr_cons {es : List Expr} (hd : Hd x) (ha : SE X p cb Xq a x) (hb : SR X p cb Xq b es) : SR X p cb Xq (.cons a b) (x :: es) := by
  intro σ sl F H L Q g h
  refine wa_of (pa_cons we_pe wa_pa (hd.star es X.env)) ?_
  refine ha.step g h fun r sl1 v F1 H1 L1 g1 s1 q h1 => ?_
  refine hb σ sl1 F1 H1 L1 _ g1 (h1.bind.imp fun ws sl3 F2 H2 L2 A h2 n vs r' => ?_)
  exact h2 F2 H2 L2 ⟨A.ok, A.rel, .refl _ _ _, .refl _⟩ n (v :: vs) ⟨q.mono A.st.fro, r'⟩
theorem se_tup {es : List Expr} {k : Nat} (h : SA X p cb Xq a es) : SE X p cb Xq (.tup a) (.Tuple es k pos) := by
  intro σ sl F H L Q g hq
  refine we_of (pe_tup wa_pa) ?_
  have hq : RsQ X.K σ Xq F H L sl (PQ X.K σ Q) ((evs p.P p.np cb a sl).bind fun ws sl1 => if szOk ws.length then .ok (.t (.fz (.tuple ws))) sl1 else .no) := hq
  refine h σ sl F H L _ g (hq.bind.imp fun ws sl1 F1 H1 L1 A h1 n vs r => ?_)
  by_cases c : szOk ws.length = true
  · rw [if_pos c] at h1
    exact ⟨by rw [r.length]; exact szOk_le c, res_tup ⟨A.ok, A.rel, n⟩ h1 r⟩
  · rw [if_neg c] at h1; exact h1.elim
theorem se_lst {es : List Expr} (h : SA X p cb Xq a es) : SE X p cb Xq (.lst a) (.List es pos) := by
  intro σ sl F H L Q g hq
  refine we_of (pe_lst wa_pa) ?_
  have hq : RsQ X.K σ Xq F H L sl (PQ X.K σ Q) ((evs p.P p.np cb a sl).bind fun ws sl1 => if szOk ws.length then .ok (.t (.lst ws)) sl1 else .no) := hq
  refine h σ sl F H L _ g (hq.bind.imp fun ws sl1 F1 H1 L1 A h1 n vs r => ?_)
  by_cases c : szOk ws.length = true
  · rw [if_pos c] at h1
    exact ⟨by rw [r.length]; exact szOk_le c, res_lst ⟨A.ok, A.rel, n⟩ h1 r⟩
  · rw [if_neg c] at h1; exact h1.elim
end
end Md

/-! Md, part I: what a def promises; calls. -/
namespace Md
open PySem PySem.Spec
open PyProof.Rows L2
variable [Wd]

/-- how the arguments stand -/
def Ags (K : PySem.W.Frag) (F H : Hp) (L : Lbl) (vs : List V) (ts : List T) : Prop := vs.length = ts.length ∧ ∀ (j : Nat) (t : T), ts[j]? = some t → ∃ v, vs[j]? = some v ∧ Ow K F H L (j + 2) v t
/-- what is wanted behind a call -/
def FQ (K : PySem.W.Frag) (F H : Hp) (L : Lbl) (vs : List V) (ts : List T) (Q : VK) (Eq : Str → Option Da → List T → Hp → Hp → Lbl → Prop) (r : FRes) : Prop :=
  match r with
  | .ok t ts' => ∀ v F' H' L', Ok F' H' L' → Stp F H L F' H' L' → Ow K F' H' L' 1 v t → t.isNew = true → Ags K F' H' L' vs ts' → (∀ (j : Nat) ds, ts'[j]? = some (.lk ds) → ts[j]? = some (.lk ds)) → Q v H'
  | .ex c w ts' => ∀ F' H' L', Ok F' H' L' → Stp F H L F' H' L' → (∀ a, L' a ≠ 1) → Ags K F' H' L' vs ts' → (∀ (j : Nat) ds, ts'[j]? = some (.lk ds) → ts[j]? = some (.lk ds)) → Eq c w ts' F' H' L'
  | .no => False
def spF (K : PySem.W.Frag) (cb : Nat → List T → FRes) (f : Nat) (np : Nat) : Sp := fun vs H Q E => ∃ (F : Hp) (L : Lbl) (ts : List T), Ok F H L ∧ (∀ a, L a ≠ 1) ∧ ts.length = np ∧ Ags K F H L vs ts ∧ FQ K F H L vs ts Q (fun _ _ _ _ _ _ => False) (cb f ts)

/-! ### labels in the callee -/
def labGo : List R → Nat → Nat → Nat
  | [], _, _ => 0
  | .p i :: rs, j, l => if l = i + 2 then j + 2 else labGo rs (j + 1) l
  | _ :: rs, j, l => labGo rs (j + 1) l
def unl (rs : List R) (m : Nat) : Nat := match rs[m - 2]? with
  | some (.p i) => i + 2
  | _ => 0
theorem labGo_zero : ∀ (rs : List R) (j : Nat), labGo rs j 0 = 0
  | [], _ => rfl
  | .p i :: rs, j => by rw [labGo, if_neg (by omega)]; exact labGo_zero rs _
  | .t _ :: rs, j => by rw [labGo]; exact labGo_zero rs _; all_goals simp
  | .q _ _ :: rs, j => by rw [labGo]; exact labGo_zero rs _; all_goals simp
theorem labGo_one : ∀ (rs : List R) (j l : Nat), labGo rs j l ≠ 1
  | [], _, _ => by simp [labGo]
  | .p i :: rs, j, l => by
    rw [labGo]
    split
    · omega
    · exact labGo_one rs _ l
  | .t _ :: rs, j, l => by rw [labGo]; exact labGo_one rs _ l; all_goals simp
  | .q _ _ :: rs, j, l => by rw [labGo]; exact labGo_one rs _ l; all_goals simp
theorem placesOf_mem : ∀ {rs : List R} {j i : Nat}, rs[j]? = some (.p i) → i ∈ placesOf rs
  | [], _, _, h => by simp at h
  | r :: rs, 0, i, h => by
    simp at h; subst h
    rw [placesOf]; exact List.mem_cons_self
  | r :: rs, j + 1, i, h => by
    have := placesOf_mem (rs := rs) (j := j) (by simpa using h)
    cases r <;> simp [placesOf, this]
theorem labGo_at : ∀ {rs : List R} {j i : Nat} (k : Nat), (placesOf rs).Nodup → rs[j]? = some (.p i) → labGo rs k (i + 2) = k + j + 2
  | [], _, _, _, _, h => by simp at h
  | r :: rs, 0, i, k, _, h => by
    simp at h; subst h
    rw [labGo, if_pos rfl] <;> omega
  | r :: rs, j + 1, i, k, nd, h => by
    have h' : rs[j]? = some (.p i) := by simpa using h
    have hm := placesOf_mem h'
    cases r with
    | t t => rw [labGo, labGo_at (k + 1) (by simpa [placesOf] using nd) h']; omega; all_goals simp
    | p i' =>
      have nd' : (i' :: placesOf rs).Nodup := nd
      have hne : i ≠ i' := fun e => (List.nodup_cons.mp nd').1 (e ▸ hm)
      rw [labGo, if_neg (by omega), labGo_at (k + 1) (List.nodup_cons.mp nd').2 h']; omega
    | q a b =>
      have nd' : (a :: placesOf rs).Nodup := nd
      rw [labGo, labGo_at (k + 1) (List.nodup_cons.mp nd').2 h']; omega; all_goals simp
theorem labGo_none : ∀ {rs : List R} {l : Nat} (k : Nat), (∀ (j i : Nat), rs[j]? = some (.p i) → l ≠ i + 2) → labGo rs k l = 0
  | [], _, _, _ => rfl
  | r :: rs, l, k, h => by
    have ih := labGo_none (rs := rs) (l := l) (k + 1) fun j i e => h (j + 1) i (by simpa using e)
    cases r with
    | t t => rw [labGo]; exact ih; all_goals simp
    | p i => rw [labGo, if_neg (h 0 i rfl)]; exact ih
    | q a b => rw [labGo]; exact ih; all_goals simp
theorem labGo_some : ∀ {rs : List R} {l : Nat} (k : Nat), labGo rs k l ≠ 0 → ∃ j i, rs[j]? = some (.p i) ∧ l = i + 2 ∧ labGo rs k l = k + j + 2
  | [], _, _, h => absurd rfl h
  | r :: rs, l, k, h => by
    cases r with
    | t t =>
      rw [labGo] at h
      · obtain ⟨j, i, h1, h2, h3⟩ := labGo_some (k + 1) h
        refine ⟨j + 1, i, by simpa using h1, h2, ?_⟩
        rw [labGo]; omega; all_goals simp
      all_goals simp
    | p i =>
      by_cases e : l = i + 2
      · exact ⟨0, i, rfl, e, by rw [labGo, if_pos e] <;> omega⟩
      · rw [labGo, if_neg e] at h
        obtain ⟨j, i', h1, h2, h3⟩ := labGo_some (k + 1) h
        exact ⟨j + 1, i', by simpa using h1, h2, by rw [labGo, if_neg e]; omega⟩
    | q a b =>
      rw [labGo] at h
      · obtain ⟨j, i, h1, h2, h3⟩ := labGo_some (k + 1) h
        refine ⟨j + 1, i, by simpa using h1, h2, ?_⟩
        rw [labGo]; omega; all_goals simp
      all_goals simp
/-- the arguments, each from its outcome -/
theorem argsOf_get {sl : Sl} : ∀ {rs : List R} {ts : List T}, argsOf sl rs = some ts → rs.length = ts.length ∧ ∀ (j : Nat) (t : T), ts[j]? = some t → rs[j]? = some (.t t) ∨ ∃ i, rs[j]? = some (.p i) ∧ sl[i]? = some (some t)
  | [], ts, h => by
    cases (Option.some.inj h)
    exact ⟨rfl, fun j t e => by simp at e⟩
  | .t u :: rs, ts, h => by
    simp only [argsOf, Option.map_eq_some_iff] at h
    obtain ⟨us, h1, rfl⟩ := h
    obtain ⟨h2, h3⟩ := argsOf_get h1
    refine ⟨by simp [h2], fun j t e => ?_⟩
    cases j with
    | zero => simp at e; subst e; exact .inl rfl
    | succ j => simpa using h3 j t (by simpa using e)
  | .p i :: rs, ts, h => by
    simp only [argsOf] at h
    split at h
    · rename_i u hu
      simp only [Option.map_eq_some_iff] at h
      obtain ⟨us, h1, rfl⟩ := h
      obtain ⟨h2, h3⟩ := argsOf_get h1
      refine ⟨by simp [h2], fun j t e => ?_⟩
      cases j with
      | zero => simp at e; subst e; exact .inr ⟨i, rfl, hu⟩
      | succ j => simpa using h3 j t (by simpa using e)
    · cases h
  | .q _ _ :: _, _, h => by cases h
theorem putBack_len : ∀ (rs : List R) (ts : List T) (sl : Sl), (putBack sl rs ts).length = sl.length
  | [], _, _ => by simp [putBack]
  | .p i :: rs, [], sl => by simp [putBack]
  | .p i :: rs, t :: ts, sl => by rw [putBack, putBack_len rs ts]; simp
  | .t _ :: rs, [], sl => by simp [putBack]
  | .t _ :: rs, t :: ts, sl => by rw [putBack]; exact putBack_len rs ts sl; all_goals simp
  | .q _ _ :: rs, [], sl => by simp [putBack]
  | .q _ _ :: rs, t :: ts, sl => by rw [putBack]; exact putBack_len rs ts sl; all_goals simp
/-- a slot behind a call: an argument's, or as it was -/
theorem putBack_get : ∀ (rs : List R) (ts : List T) (sl : Sl) (i : Nat) (t : T), (placesOf rs).Nodup → rs.length = ts.length → (putBack sl rs ts)[i]? = some (some t) →
    (∃ j : Nat, rs[j]? = some (R.p i) ∧ ts[j]? = some t) ∨ ((∀ j : Nat, rs[j]? ≠ some (R.p i)) ∧ sl[i]? = some (some t))
  | [], ts, sl, i, t, _, _, h => .inr ⟨fun j => by simp, by simpa [putBack] using h⟩
  | r :: rs, [], sl, i, t, _, hl, h => by simp at hl
  | .p k :: rs, u :: ts, sl, i, t, nd, hl, h => by
    have nd' : (k :: placesOf rs).Nodup := nd
    rw [putBack] at h
    rcases putBack_get rs ts _ i t (List.nodup_cons.mp nd').2 (by simpa using hl) h with ⟨j, h1, h2⟩ | ⟨h1, h2⟩
    · exact .inl ⟨j + 1, by simpa using h1, by simpa using h2⟩
    · by_cases q : k = i
      · subst q
        by_cases z : k < sl.length
        · rw [List.getElem?_set_self z] at h2; cases h2
          exact .inl ⟨0, rfl, rfl⟩
        · rw [List.getElem?_eq_none (by simpa using z)] at h2; cases h2
      · rw [List.getElem?_set_ne q] at h2
        refine .inr ⟨fun j => ?_, h2⟩
        cases j with
        | zero => simp [q]
        | succ j => simpa using h1 j
  | .t x :: rs, u :: ts, sl, i, t, nd, hl, h => by
    have h' : (putBack sl rs ts)[i]? = some (some t) := h
    rcases putBack_get rs ts sl i t (by simpa [placesOf] using nd) (by simpa using hl) h' with ⟨j, h1, h2⟩ | ⟨h1, h2⟩
    · exact .inl ⟨j + 1, by simpa using h1, by simpa using h2⟩
    · refine .inr ⟨fun j => ?_, h2⟩
      cases j with
      | zero => simp
      | succ j => simpa using h1 j
  | .q x y :: rs, u :: ts, sl, i, t, nd, hl, h => by
    have nd' : (x :: placesOf rs).Nodup := nd
    have h' : (putBack sl rs ts)[i]? = some (some t) := h
    rcases putBack_get rs ts sl i t (List.nodup_cons.mp nd').2 (by simpa using hl) h' with ⟨j, h1, h2⟩ | ⟨h1, h2⟩
    · exact .inl ⟨j + 1, by simpa using h1, by simpa using h2⟩
    · refine .inr ⟨fun j => ?_, h2⟩
      cases j with
      | zero => simp
      | succ j => simpa using h1 j
theorem RQs.get {K : PySem.W.Frag} {F : Hp} {σ : L2.St} : ∀ {vs : List V} {rs : List R} {j : Nat} {r : R}, RQs K F σ vs rs → rs[j]? = some r → ∃ v, vs[j]? = some v ∧ RQ K F σ v r
  | [], [], _, _, _, h => by simp at h
  | v :: vs, r :: rs, 0, _, q, h => by simp at h; subst h; exact ⟨v, rfl, q.1⟩
  | v :: vs, r :: rs, j + 1, _, q, h => by simpa using RQs.get (j := j) q.2 (by simpa using h)
  | [], _ :: _, _, _, q, _ => q.elim
  | _ :: _, [], _, _, q, _ => q.elim
theorem RQs.len {K : PySem.W.Frag} {F : Hp} {σ : L2.St} : ∀ {vs : List V} {rs : List R}, RQs K F σ vs rs → vs.length = rs.length
  | [], [], _ => rfl
  | v :: vs, r :: rs, q => by simp [RQs.len q.2]
  | [], _ :: _, q => q.elim
  | _ :: _, [], q => q.elim
section
variable {K : PySem.W.Frag} {σ : L2.St} {Xq : XQ} {F H : Hp} {L : Lbl} {sl : Sl}
/-- the arguments as the callee has them -/
theorem ags_in (g : G K F H L σ sl) {rs : List R} {ts : List T} {vs : List V} (q : RQs K F σ vs rs) (e : argsOf sl rs = some ts) (nd : (placesOf rs).Nodup) :
    Ok F H (fun a => labGo rs 0 (L a)) ∧ (∀ a, labGo rs 0 (L a) ≠ 1) ∧ Ags K F H (fun a => labGo rs 0 (L a)) vs ts := by
  have lz : ∀ a, labGo rs 0 (L a) ≠ 0 → L a ≠ 0 := fun a h z => h (by rw [z]; exact labGo_zero rs 0)
  obtain ⟨h1, h2⟩ := argsOf_get e
  refine ⟨⟨g.ok.sub, fun a h => g.ok.dis a (lz a h), fun a h => g.ok.dom a (lz a h)⟩, fun a => labGo_one rs 0 _, by rw [q.len, h1], fun j t ht => ?_⟩
  rcases h2 j t ht with h3 | ⟨i, h3, h4⟩
  · obtain ⟨v, hv, r⟩ := q.get h3
    refine ⟨v, hv, ?_⟩
    cases t with
    | fz d => exact .fz r
    | _ => exact r.elim
  · obtain ⟨v, hv, r⟩ := q.get h3
    refine ⟨v, hv, ?_⟩
    obtain ⟨v', h5, h6⟩ := g.rel.at_ i t h4
    have z : some (some v') = some (some v) := h5.symm.trans r
    cases z
    cases h6 with
    | fz r => exact .fz r
    | ro a b => exact .ro a b
    | lst a b c => exact .lst a (by show labGo rs 0 (L _) = _; rw [b, labGo_at 0 nd h3]; omega) c
    | lk a b c d => exact .lk a (by show labGo rs 0 (L _) = _; rw [b]; exact labGo_zero rs 0) c d
    | dct a b c => exact .dct a (by show labGo rs 0 (L _) = _; rw [b, labGo_at 0 nd h3]; omega) c
    | lkd a b => exact .lkd a b
    | big A b c d => exact .big A b (fun x hx => ⟨by show labGo rs 0 (L _) = _; rw [(c x hx).1, labGo_at 0 nd h3]; omega, (c x hx).2⟩) d
/-- the state behind the call -/
def lblOut (rs : List R) (L L' : Lbl) : Lbl := fun a => if L' a = 1 then 1 else if L' a = 0 then (if labGo rs 0 (L a) = 0 then L a else 0) else unl rs (L' a)
theorem ags_out (g : G K F H L σ sl) {rs : List R} {ts ts' : List T} {vs : List V} {F' H' : Hp} {L' : Lbl} (q : RQs K F σ vs rs) (e : argsOf sl rs = some ts) (nd : (placesOf rs).Nodup) (ok : Ok F' H' L') (st : Stp F H (fun a => labGo rs 0 (L a)) F' H' L')
    (ag : Ags K F' H' L' vs ts') (lk : ∀ (j : Nat) ds, ts'[j]? = some (.lk ds) → ts[j]? = some (.lk ds)) :
    Aft K σ F H L sl (putBack sl rs ts') F' H' (lblOut rs L L') := by
  obtain ⟨h1, h2⟩ := argsOf_get e
  have hlen : rs.length = ts'.length := by rw [← q.len]; exact ag.1
  have lz : ∀ a, labGo rs 0 (L a) ≠ 0 → L a ≠ 0 := fun a h z => h (by rw [z]; exact labGo_zero rs 0)
  have keep : ∀ a o, H a = some o → labGo rs 0 (L a) = 0 → H' a = some o ∧ L' a = 0 := fun a o ho l => st.zero ho l
  have keepF : ∀ a o, H a = some o → labGo rs 0 (L a) = 0 → F a = none → F' a = none := fun a o ho l f => st.nof ho l f
  -- what bears a label behind the call
  have out0 : ∀ a, lblOut rs L L' a ≠ 0 → L' a ≠ 0 ∨ (L' a = 0 ∧ labGo rs 0 (L a) = 0 ∧ L a ≠ 0 ∧ lblOut rs L L' a = L a) := fun a h => by
    by_cases z : L' a = 0
    · refine .inr ⟨z, ?_⟩
      unfold lblOut at h ⊢
      rw [if_neg (by omega), if_pos z] at h ⊢
      by_cases y : labGo rs 0 (L a) = 0
      · rw [if_pos y] at h ⊢
        exact ⟨y, h, rfl⟩
      · rw [if_neg y] at h; exact absurd rfl h
    · exact .inl z
  have hst : Stp F H L F' H' (lblOut rs L L') := ⟨st.fro, fun a o ho l => st.out a o ho (by rw [l]; exact labGo_zero rs 0), fun a h => by
    rcases out0 a h with z | ⟨_, _, z, _⟩
    · rcases st.own a z with y | y
      · exact .inl (lz a y)
      · exact .inr y
    · exact .inl z, fun a h => by
    rcases st.new a h with z | z | z
    · exact .inl z
    · exact .inr (.inl (lz a z))
    · exact .inr (.inr z)⟩
  refine ⟨⟨ok.sub, fun a h => ?_, fun a h => ?_⟩, ⟨by rw [putBack_len]; exact g.rel.len, fun i t ht => ?_⟩, hst, fun i ds h => ?_⟩
  · rcases out0 a h with z | ⟨z1, z2, z3, _⟩
    · exact ok.dis a z
    · cases ho : H a with
      | none => exact absurd ho (g.ok.dom a z3)
      | some o => exact keepF a o ho z2 (g.ok.dis a z3)
  · rcases out0 a h with z | ⟨z1, z2, z3, _⟩
    · exact ok.dom a z
    · cases ho : H a with
      | none => exact absurd ho (g.ok.dom a z3)
      | some o => rw [(keep a o ho z2).1]; simp
  · rcases putBack_get rs ts' sl i t nd hlen ht with ⟨j, h3, h4⟩ | ⟨h3, h4⟩
    · obtain ⟨v, hv, ow⟩ := ag.2 j t h4
      obtain ⟨v', hv', r⟩ := q.get h3
      rw [hv] at hv'; cases hv'
      refine ⟨v, r, ?_⟩
      cases ow with
      | fz r => exact .fz r
      | ro a b => exact .ro a b
      | lst a b c =>
        refine .lst a ?_ c
        show lblOut rs L L' _ = _
        unfold lblOut
        rw [b, if_neg (by omega), if_neg (by omega)]
        unfold unl
        rw [show j + 2 - 2 = j by omega, h3]
      | dct a b c =>
        refine .dct a ?_ c
        show lblOut rs L L' _ = _
        unfold lblOut
        rw [b, if_neg (by omega), if_neg (by omega)]
        unfold unl
        rw [show j + 2 - 2 = j by omega, h3]
      | lkd a b => exact .lkd a b
      | big A b c d =>
        refine .big A b (fun x hx => ⟨?_, (c x hx).2⟩) d
        show lblOut rs L L' _ = _
        unfold lblOut
        rw [(c x hx).1, if_neg (by omega), if_neg (by omega)]
        unfold unl
        rw [show j + 2 - 2 = j by omega, h3]
      | lk a b c d =>
        refine .lk a ?_ c d
        have hk := lk j _ h4
        rcases h2 j _ hk with y | ⟨i', y1, y2⟩
        · rw [h3] at y; cases y
        · rw [h3] at y1; cases y1
          obtain ⟨v2, w1, w2⟩ := g.rel.at_ _ _ y2
          rw [r] at w1; cases w1
          cases w2 with
          | big A bb _ _ => cases bb
          | lk _ lz' _ _ =>
            show lblOut rs L L' _ = _
            unfold lblOut
            rw [if_neg (by omega), if_pos b, lz', labGo_zero, if_pos rfl]
    · obtain ⟨v, hv, ow⟩ := g.rel.at_ i t h4
      refine ⟨v, hv, ow.mono hst fun a o ho l => ?_⟩
      have l0 : labGo rs 0 (L a) = 0 := labGo_none 0 fun j i' e' z => h3 j (by
        have : i' = i := by omega
        rw [← this]; exact e')
      obtain ⟨k1, k2⟩ := keep a o ho l0
      refine ⟨k1, ?_⟩
      unfold lblOut
      rw [if_neg (by omega), if_pos k2, if_pos l0]
      exact l
  · rcases putBack_get rs ts' sl i _ nd hlen h with ⟨j, h3, h4⟩ | ⟨_, h4⟩
    · have hk := lk j ds h4
      rcases h2 j _ hk with y | ⟨i', y1, y2⟩
      · rw [h3] at y; cases y
      · rw [h3] at y1; cases y1
        exact y2
    · exact h4
end
/-- calls of defs: from the promise -/
structure Calls (X : Cx) (p : Cp) (cb : Nat → List T → FRes) : Prop where
  run : ∀ (f : Nat) (x : Str), p.fn f = some x → glB p.sc x = true → dbg x = false → ∃ np : Nat, (∀ ts, ts.length ≠ np → cb f ts = .no) ∧ ∀ (e : Expr) (es : List Expr) (q pos : Pos), (starEach (e :: es) X.env = (false, eval e X.env) :: starEach es X.env) → ((PySem.backTo pos (starEach es X.env)).any (·.1) = false) →
    PE X (.Call (.Name x q) (e :: es) [] pos) (tCall (spF X.K cb f np) [] E0 (WA X (e :: es)))
end Md

/-! Md, part J: targets, what is walked. -/
namespace Md
open PySem PySem.Spec
open PyProof.Rows L2
variable [Wd]

def WI (X : Cx) (tg it : Expr) : TI := fun σ H R => ∀ (pins : List (Addr × Obj)) (s : Shared), Inv X pins σ H s →
  wpAny (model X.prog X.w) X.A (eval it X.env) (fun v s1 => wpAny (model X.prog X.w) X.A (pyIter v) (PIE X pins σ tg R) X.xe s1) X.xe s
def WG (X : Cx) (tg : Expr) : TG := fun v σ H Q => ∀ (pins : List (Addr × Obj)) (s : Shared) (u : Value), Inv X pins σ H s → RelV v u →
  wpAny (model X.prog X.w) X.A (assign tg X.env u) (fun _ s' => ∃ σ' H', Inv X pins σ' H' s' ∧ Q σ' H') X.xe s
section
variable {X : Cx} {tg it : Expr}
theorem wi_pi : PI X tg it (WI X tg it) := ⟨fun pins s _ _ _ I h => h pins s I⟩
theorem wi_of {wi : TI} {σ : L2.St} {H : Hp} {R : It → Hp → Prop} (h : PI X tg it wi) (q : wi σ H R) : WI X tg it σ H R := fun pins s I => h.run pins s σ H R I q
theorem wg_pg : PG X tg (WG X tg) := ⟨fun pins s _ _ _ u _ I r h => h pins s u I r⟩
theorem wg_of {g : TG} {v : V} {σ : L2.St} {H : Hp} {Q : L2.St → Hp → Prop} (h : PG X tg g) (q : g v σ H Q) : WG X tg v σ H Q := fun pins s u I r => h.run pins s σ H v u Q I r q
end

section
variable {K : PySem.W.Frag} {σ : L2.St} {F H : Hp} {L : Lbl} {sl : Sl}
theorem Rel.store (h : Rel K F H L σ sl) {i : Nat} {v : V} {t : T} (o : Ow K F H L (i + 2) v t) : Rel K F H L (σ.set i (some v)) (sl.set i (some t)) := ⟨by rw [List.length_set, List.length_set]; exact h.len, fun j u e => by
  by_cases q : i = j
  · subst q
    by_cases z : i < sl.length
    · rw [List.getElem?_set_self z] at e; cases e
      exact ⟨v, List.getElem?_set_self (by rw [← h.len]; exact z), o⟩
    · rw [List.getElem?_eq_none (by simpa using z)] at e; cases e
  · rw [List.getElem?_set_ne q] at e
    obtain ⟨w, h1, h2⟩ := h.at_ j u e
    exact ⟨w, by rw [List.getElem?_set_ne q]; exact h1, h2⟩⟩
theorem put_eq {np : Nat → Bool} {i : Nat} {t : T} {sl1 : Sl} (h : put np sl i t = some sl1) : sl1 = sl.set i (some t) ∧ np i = false ∧ (∀ ds, sl[i]? ≠ some (some (.lk ds))) := by
  unfold put at h
  by_cases n : np i = true
  · rw [if_pos n] at h; cases h
  · rw [if_neg n] at h
    rw [Bool.not_eq_true] at n
    split at h
    · cases h
    · rename_i e
      cases h
      exact ⟨rfl, n, fun ds z => by rw [e] at z; cases z⟩
    · rename_i t0 e
      split at h
      · cases h
      · rename_i c
        cases h
        refine ⟨rfl, n, fun ds z => ?_⟩
        rw [e] at z; cases z
        exact c rfl
theorem putF_eq {np : Nat → Bool} {i : Nat} {w : Da} {sl1 : Sl} (h : putF np sl i w = some sl1) : sl1 = sl.set i (some (.fz w)) ∧ (∀ ds, sl[i]? ≠ some (some (.lk ds))) := ⟨(put_eq h).1, (put_eq h).2.2⟩
/-- locked slots keep their values -/
def Lks (sl : Sl) (σ : L2.St) (sl' : Sl) (σ' : L2.St) : Prop := ∀ (i : Nat) ds, sl'[i]? = some (some (.lk ds)) → sl[i]? = some (some (.lk ds)) ∧ σ'[i]? = σ[i]?
theorem Lks.refl (sl : Sl) (σ : L2.St) : Lks sl σ sl σ := fun _ _ h => ⟨h, rfl⟩
theorem Lks.trans {a b c : Sl} {x y z : L2.St} (h : Lks a x b y) (k : Lks b y c z) : Lks a x c z := fun i ds e => by
  obtain ⟨e1, e2⟩ := k i ds e
  obtain ⟨e3, e4⟩ := h i ds e1
  exact ⟨e3, e2.trans e4⟩
theorem Lkb.s {a b : Sl} (h : Lkb a b) (σ : L2.St) : Lks a σ b σ := fun i ds e => ⟨h i ds e, rfl⟩
theorem Lks.put (sl : Sl) (σ : L2.St) (i : Nat) {o : Option T} (x : Option V) (ho : ∀ ds, o ≠ some (.lk ds)) : Lks sl σ (sl.set i o) (σ.set i x) := fun j ds h => by
  have h1 := Lkb.set sl i ho j ds h
  refine ⟨h1, ?_⟩
  by_cases q : i = j
  · subst q
    by_cases z : i < sl.length
    · rw [List.getElem?_set_self z] at h
      exact absurd (Option.some.inj h) (ho ds)
    · rw [List.getElem?_eq_none (by simpa using z)] at h; cases h
  · rw [List.getElem?_set_ne q]
end

/-! ### targets -/
section
variable {X : Cx} {p : Cp} {σ : L2.St} {F H : Hp} {L : Lbl} {sl sl1 : Sl}
theorem tg_one (C : Cd X p) {i : Nat} {t : Expr} (h : tgB p i t = true) : PG X t (gName i) := by
  cases t with
  | Name x q =>
    unfold tgB at h
    simp only [Bool.and_eq_true, Bool.or_eq_true, decide_eq_true_eq] at h
    obtain ⟨h1, h2⟩ := h
    have hN : X.N.Nodup := by rw [C.N]; exact C.nd
    have hi : X.N[i]? = some x := by rw [C.N]; exact h1
    rcases h2 with h2 | ⟨h2, h3⟩
    · have := loc_of h2
      exact pg_name hN hi (.inl (by rw [C.sc]; exact this)) (.inr (by rw [C.sc]; exact this))
    · have := cel_of h3
      exact pg_name hN hi (.inr (by rw [C.sc]; exact this)) (.inl (C.fl h2 x))
  | _ => simp [tgB] at h
theorem tg_each (C : Cd X p) : ∀ {is : List Nat} {es : List Expr}, tgsB p is es = true → (assignEach es X.env).length = es.length ∧ (assignEach es X.env).findIdx? (·.1) = none ∧ es.length = is.length ∧ PGs X es (is.foldr (fun i t => gCons (gName i) t) gNil)
  | [], [], _ => ⟨rfl, rfl, rfl, pgs_nil⟩
  | i :: is, e :: es, h => by
    rw [tgsB, Bool.and_eq_true] at h
    obtain ⟨h1, h2, h3, h4⟩ := tg_each C h.2
    have he : ∃ x q, e = .Name x q := by
      cases e <;> first | exact ⟨_, _, rfl⟩ | (simp [tgB] at h)
    obtain ⟨x, q, rfl⟩ := he
    refine ⟨?_, ?_, by simp [h3], pgs_cons (tg_one C h.1) h4⟩
    · show (assignEach es X.env).length + 1 = es.length + 1
      rw [h1]
    · show List.findIdx? _ ((false, _) :: assignEach es X.env) = none
      rw [List.findIdx?_cons]
      simp [h2]
  | [], _ :: _, h => by simp [tgsB] at h
  | _ :: _, [], h => by simp [tgsB] at h
theorem putF_G (g : G X.K F H L σ sl) {i : Nat} {v : V} {w : Da} (r : Rp X.K F v w) : G X.K F H L (σ.set i (some v)) (sl.set i (some (.fz w))) := ⟨g.ok, g.rel.store (.fz r), g.tmp⟩
theorem putAll_ok {np : Nat → Bool} : ∀ {is : List Nat} {ws : List Da} {vs : List V} {sl sl1 : Sl} {σ : L2.St} {Q : L2.St → Hp → Prop}, G X.K F H L σ sl → RpA X.K F vs ws → putAll np sl is ws = some sl1 →
    (∀ σ', G X.K F H L σ' sl1 → Lks sl σ sl1 σ' → (∀ j, j ∉ is → σ'[j]? = σ[j]?) → Q σ' H) → (is.foldr (fun i t => gCons (gName i) t) gNil) vs σ H Q
  | [], [], _, sl, sl1, σ, Q, g, .nil, h, k => by
    cases (Option.some.inj h)
    exact ⟨rfl, k σ g (.refl _ _) fun _ _ => rfl⟩
  | i :: is, w :: ws, _, sl, sl1, σ, Q, g, .cons r rs, h, k => by
    rw [putAll] at h
    cases e : putF np sl i w with
    | none => rw [e] at h; cases h
    | some sl2 =>
      rw [e] at h
      obtain ⟨rfl, nl⟩ := putF_eq e
      refine ⟨_, _, rfl, putAll_ok (putF_G g r) rs h fun σ' g' lk ne => k σ' g' ((Lks.put sl σ i _ (by intro ds; simp)).trans lk) fun j hj => ?_⟩
      rw [ne j (fun z => hj (List.mem_cons_of_mem _ z)), List.getElem?_set_ne (fun z => hj (by rw [z]; exact List.mem_cons_self))]
  | [], _ :: _, _, _, _, _, _, _, _, h, _ => by cases h
  | _ :: _, [], _, _, _, _, _, _, _, h, _ => by cases h
theorem putAll_len {np : Nat → Bool} : ∀ {is : List Nat} {ws : List Da} {sl sl1 : Sl}, putAll np sl is ws = some sl1 → ws.length = is.length
  | [], [], _, _, _ => rfl
  | i :: is, w :: ws, sl, sl1, h => by
    rw [putAll] at h
    split at h
    · simp [putAll_len h]
    · cases h
  | [], _ :: _, _, _, h => by cases h
  | _ :: _, [], _, _, h => by cases h
theorem putAll_slen {np : Nat → Bool} : ∀ {is : List Nat} {ws : List Da} {sl sl1 : Sl}, putAll np sl is ws = some sl1 → sl1.length = sl.length
  | [], [], _, _, h => by cases (Option.some.inj h); rfl
  | i :: is, w :: ws, sl, sl1, h => by
    rw [putAll] at h
    split at h
    · rename_i e
      rw [putAll_slen h, (putF_eq e).1, List.length_set]
    · cases h
  | [], _ :: _, _, _, h => by cases h
  | _ :: _, [], _, _, h => by cases h
/-- a target takes a value -/
theorem tg_ok (C : Cd X p) {tg : Tg} {t : Expr} (h : ckTg p tg t = true) {v : V} {w : Da} {Q : L2.St → Hp → Prop} (g : G X.K F H L σ sl) (r : Rp X.K F v w) {np : Nat → Bool} (e : tg.put np w sl = some sl1)
    (k : ∀ σ', G X.K F H L σ' sl1 → Lks sl σ sl1 σ' → (∀ j, j ∉ tg.slots → σ'[j]? = σ[j]?) → Q σ' H) : WG X t v σ H Q := by
  cases tg with
  | one i =>
    refine wg_of (tg_one C h) ?_
    have e : putF np sl i w = some sl1 := e
    obtain ⟨rfl, nl⟩ := putF_eq e
    exact k _ (putF_G g r) (Lks.put sl σ i _ (by intro ds; simp)) fun j hj => List.getElem?_set_ne (fun z => hj (by rw [z]; exact List.mem_singleton.mpr rfl))
  | tup is =>
    cases t with
    | Tuple es q pos =>
      obtain ⟨h1, h2, h3, h4⟩ := tg_each C (show tgsB p is es = true from h)
      cases w with
      | tuple ws =>
        have e : putAll np sl is ws = some sl1 := e
        refine wg_of (pg_tup C.calm h4 h1 h2) ?_
        cases r with
        | tup q1 r1 =>
          refine ⟨_, _, rfl, sqT_mono g.ok.sub q1, ?_, putAll_ok g r1 e k⟩
          rw [r1.length, h3, putAll_len e]
      | _ => cases e
    | _ => simp [ckTg] at h
end

/-! ### what is walked -/
/-- J walks the items ws, where its sources stand -/
structure ItOk (K : PySem.W.Frag) (F0 : Hp) (J : It) (ws : List Da) (va : V) (x : Da) (vb : V) (y : Da) : Prop where
  go : ∀ (F H : Hp), Same F0 F → ∀ (i : Nat), Same F H → VwR K F H va x → VwR K F H vb y → i < ws.length → J.go i H
  stop : ∀ (F H : Hp), Same F0 F → ∀ (i : Nat), Same F H → VwR K F H va x → VwR K F H vb y → ws.length ≤ i → J.stop i H
  yld : ∀ (F H : Hp), Same F0 F → ∀ (L : Lbl) (σ : L2.St) (sl : Sl) (i : Nat) (v : V) (H' : Hp), G K F H L σ sl → VwR K F H va x → VwR K F H vb y → i < ws.length → J.yld i H v H' →
    ∃ F', G K F' H' L σ sl ∧ Stp F H L F' H' L ∧ ∃ w, ws[i]? = some w ∧ Rp K F' v w
section
variable {K : PySem.W.Frag}
theorem it_list {F0 : Hp} {a : Addr} {ws : List Da} {vb : V} {y : Da} : ItOk K F0 (Itl K a) ws (.ref a) (.list ws) vb y where
  go := fun F H _ i _ h _ hi => by
    obtain ⟨b, vs, e, q, r⟩ := h
    cases e
    have hv : i < vs.length := by rw [r.length]; exact hi
    exact ⟨vs, vs[i], q, by simp [hv]⟩
  stop := fun F H _ i _ h _ hi => by
    obtain ⟨b, vs, e, q, r⟩ := h
    cases e
    exact ⟨vs, q, by rw [r.length]; exact hi⟩
  yld := fun F H _ L σ sl i v H' g h _ hi yl => by
    obtain ⟨b, vs, e, q, r⟩ := h
    cases e
    obtain ⟨e1, e2⟩ := yl
    subst e1
    obtain ⟨w, h1, h2⟩ := r.get (e2 vs q)
    exact ⟨F, g, .refl _ _ _, w, h1, h2⟩
theorem VwR.tup {F H : Hp} (s : Same F H) {v : V} {ws : List Da} (h : VwR K F H v (.tuple ws)) : ∃ a vs, v = .ref a ∧ SqT K H a vs ∧ RpA K F vs ws := by
  have h' : Rp K F v (.tuple ws) := h
  cases h' with
  | tup q r => exact ⟨_, _, rfl, sqT_mono s q, r⟩
theorem it_tup {F0 : Hp} {a : Addr} {ws : List Da} {vb : V} {y : Da} : ItOk K F0 (Itt K a) ws (.ref a) (.tuple ws) vb y where
  go := fun F H _ i s h _ hi => by
    obtain ⟨b, vs, e, q, r⟩ := VwR.tup s h
    cases e
    have hv : i < vs.length := by rw [r.length]; exact hi
    exact ⟨vs, vs[i], q, by simp [hv]⟩
  stop := fun F H _ i s h _ hi => by
    obtain ⟨b, vs, e, q, r⟩ := VwR.tup s h
    cases e
    exact ⟨vs, q, by rw [r.length]; exact hi⟩
  yld := fun F H _ L σ sl i v H' g h _ hi yl => by
    obtain ⟨b, vs, e, q, r⟩ := VwR.tup g.ok.sub h
    cases e
    obtain ⟨e1, e2⟩ := yl
    subst e1
    obtain ⟨w, h1, h2⟩ := r.get (e2 vs q)
    exact ⟨F, g, .refl _ _ _, w, h1, h2⟩
theorem it_str {F0 : Hp} {x : Str} {va vb : V} {y : Da} (ok : PyData.strOk x = true) : ItOk K F0 (Its x) (x.cps.toList.map fun c => .str ⟨#[c]⟩) va (.str x) vb y where
  go := fun F H _ i s h _ hi => by
    show i < x.cps.size
    simpa using hi
  stop := fun F H _ i s h _ hi => by
    show x.cps.size ≤ i
    simpa using hi
  yld := fun F H _ L σ sl i v H' g h _ hi yl => by
    obtain ⟨e1, c, e2, e3⟩ := yl
    subst e1
    refine ⟨F, g, .refl _ _ _, .str ⟨#[c]⟩, ?_, ?_⟩
    · rw [List.getElem?_map, Array.getElem?_toList, e2]; rfl
    · rw [e3]
      refine .str _ (strOk_sub ok fun z hz => ?_)
      have hz : z = c := by simpa using hz
      rw [hz]
      exact List.mem_of_getElem? (by rw [Array.getElem?_toList]; exact e2)
theorem it_rng {F0 : Hp} {lo : Int} {n : Nat} {va vb : V} {x y : Da} : ItOk K F0 (Itr lo n) (rangeUp lo n) va x vb y where
  go := fun F H _ i s h _ hi => by
    show i < n
    simpa [rangeUp] using hi
  stop := fun F H _ i s h _ hi => by
    show n ≤ i
    simpa [rangeUp] using hi
  yld := fun F H _ L σ sl i v H' g h _ hi yl => by
    obtain ⟨e1, e2⟩ := yl
    subst e1
    have hi : i < n := by simpa [rangeUp] using hi
    exact ⟨F, g, .refl _ _ _, .int (lo + i), by simp [rangeUp, hi], by rw [e2]; exact .int _⟩
end
section
variable {K : PySem.W.Frag}
theorem RpK.nob {F : Hp} {ks : List (L2.Key × V)} {b : Bool} {w : Da} {r : List (Da × Da)} (h : RpK K F ks ((.bool b, w) :: r)) : False := by
  have := h.head rfl
  cases this
theorem Rp.dicR {F : Hp} {v : V} {k w : Da} {r : List (Da × Da)} (h : Rp K F v (.dict ((k, w) :: r))) : (∃ (a : Addr) (ks : List (L2.Key × V)), F a = some (.dK ks) ∧ RpK K F ks ((k, w) :: r)) ∨ k = .none := by
  generalize e : PyData.dict ((k, w) :: r) = z at h
  cases h with
  | dic q rk => cases e; exact .inl ⟨_, _, q, rk⟩
  | ins _ _ _ _ => injection e with e; injection e with e _; exact .inr (congrArg Prod.fst e)
  | _ => cases e
theorem RpK.get {F : Hp} : ∀ {ks : List (L2.Key × V)} {kvs : List (Da × Da)} {i : Nat} {k : L2.Key} {v : V}, RpK K F ks kvs → ks[i]? = some (k, v) → (kvs.map (·.1))[i]? = some (keyD k) ∧ keyOk k
  | _, _, _, _, _, .nil, e => by simp at e
  | _, _, 0, _, _, .cons h r _, e => by simp at e; obtain ⟨rfl, rfl⟩ := e; exact ⟨rfl, h⟩
  | _, _, i + 1, _, _, .cons _ _ r, e => by simpa using RpK.get (i := i) r (by simpa using e)
theorem it_keys {F0 : Hp} {d : Addr} {o : Obj} {ks : List (L2.Key × V)} {kvs : List (Da × Da)} {vb : V} {x y : Da} (hf : F0 d = some (.frz o (.dK ks))) (rk : RpK K F0 ks kvs) : ItOk K F0 (Itk d o ks) (kvs.map (·.1)) (.ref d) x vb y where
  go := fun F H s0 i s _ _ hi => ⟨s _ _ (s0 _ _ hf), by rw [rk.length]; simpa using hi⟩
  stop := fun F H s0 i s _ _ hi => ⟨s _ _ (s0 _ _ hf), by rw [rk.length]; simpa using hi⟩
  yld := fun F H s0 L σ sl i v H' g _ _ hi yl => by
    obtain ⟨e1, k, w, e2, e3⟩ := yl
    subst e1 e3
    obtain ⟨h1, h2⟩ := rk.get e2
    exact ⟨F, g, .refl _ _ _, keyD k, h1, key_rp k h2⟩
end
section
variable {X : Cx} {p : Cp} {cb : Nat → List T → FRes} {Xq : XQ} {σ : L2.St} {F F1 H H1 : Hp} {L L1 : Lbl} {sl sl1 : Sl} {a b c : E} {x y z : Expr} {pos : Pos} {α : Type} {P : α → Sl → Hp → Hp → Lbl → Prop}
theorem SE.stepE (ha : SE X p cb Xq a x) (g : G X.K F H L σ sl) {f : R → Sl → Res α} (h : RsQ X.K σ Xq F H L sl P ((ev p.P p.np cb a sl).bind f)) {Q : VK}
    (k : ∀ r sl1 v F1 H1 L1, ev p.P p.np cb a sl = .ok r sl1 → G X.K F1 H1 L1 σ sl1 → Same F F1 → RQ X.K F1 σ v r.settle → RsQ X.K σ Xq F1 H1 L1 sl1 P (f r sl1) → Q v H1) : WE X x σ H Q := by
  refine ha σ sl F H L Q g ?_
  cases e : ev p.P p.np cb a sl with
  | no => rw [e] at h; exact h
  | ex c w sl' => rw [e] at h; exact h
  | ok r sl1 =>
    intro F1 H1 L1 A v hv
    obtain ⟨F2, L2, st, g2, q⟩ := settle1 A hv
    rw [e] at h
    exact k r sl1 v F2 H1 L2 e g2 (A.st.fro.trans st.fro) q (RsQ.from (st) (.refl _) (RsQ.from A.st A.lk h))
/-- the walked thing, part by part -/
def SI (X : Cx) (p : Cp) (cb : Nat → List T → FRes) (Xq : XQ) (k : IK) (a b c : E) (tg it : Expr) : Prop := ∀ (σ : L2.St) (sl : Sl) (F H : Hp) (L : Lbl) (Rr : It → Hp → Prop), G X.K F H L σ sl →
  RsQ X.K σ Xq F H L sl (fun w sl' F' H' L' => (∀ a, L' a ≠ 1) → ∀ va vb x y, RQ X.K F' σ va w.2.1 → RQ X.K F' σ vb w.2.2 → w.2.1.viewR sl' = some x → w.2.2.viewR sl' = some y → ∀ J, ItOk X.K F' J w.1 va x vb y → Rr J H')
    (itr k (ev p.P p.np cb a) (ev p.P p.np cb b) (ev p.P p.np cb c) sl) → WI X tg it σ H Rr
theorem si_seq {t : Expr} (ha : SE X p cb Xq a x) : SI X p cb Xq .seq a .non .non t x := by
  intro σ sl F H L Rr g h
  have h : RsQ X.K σ Xq F H L sl _ ((ev p.P p.np cb a sl).bind fun ra sl1 => match ra.settle.viewR sl1, some PyData.none, some PyData.none with
    | some x, some y, some z => match items .seq x y z with
      | some ws => .ok (ws, ra.settle, R.t (T.fz .none)) sl1
      | none => .no
    | _, _, _ => .no) := h
  have key : ∀ (r : R) (sl1 : Sl) (v : V) (F1 H1 : Hp) (L1 : Lbl) (d : Da) (ws : List Da) (J : It), G X.K F1 H1 L1 σ sl1 → RQ X.K F1 σ v r.settle → r.settle.viewR sl1 = some d → items .seq d .none .none = some ws → ItOk X.K F1 J ws v d .non .none →
      RsQ X.K σ Xq F1 H1 L1 sl1 (fun w sl' F' H' L' => (∀ a, L' a ≠ 1) → ∀ va vb x y, RQ X.K F' σ va w.2.1 → RQ X.K F' σ vb w.2.2 → w.2.1.viewR sl' = some x → w.2.2.viewR sl' = some y → ∀ J, ItOk X.K F' J w.1 va x vb y → Rr J H')
      (match r.settle.viewR sl1, some PyData.none, some PyData.none with
        | some x, some y, some z => match items .seq x y z with
          | some ws => .ok (ws, r.settle, R.t (T.fz .none)) sl1
          | none => .no
        | _, _, _ => .no) → Rr J H1 := fun r sl1 v F1 H1 L1 d ws J g1 q e1 e2 io h1 => by
    simp only [e1, e2] at h1
    exact h1 F1 H1 L1 g1.aft g1.tmp v .non d .none q .non e1 rfl J io
  cases e : ev p.P p.np cb a sl with
  | no => rw [e] at h; exact h.elim
  | ex cc w sl' => exact wi_of (pi_list we_pe) (ha σ sl F H L _ g (by rw [e] at h ⊢; exact h))
  | ok r sl1 =>
    cases e1 : r.settle.viewR sl1 with
    | none =>
      rw [e] at h
      simp only [Res.bind, e1] at h
      exact h.elim
    | some d =>
      have no : items .seq d .none .none = none → False := fun e2 => by
        rw [e] at h
        simp only [Res.bind, e1, e2] at h
        exact h
      cases d with
      | list ws =>
        refine wi_of (pi_list we_pe) ?_
        refine ha.stepE g h fun r' sl1' v F1 H1 L1 e' g1 s q h1 => ?_
        rw [e] at e'; cases e'
        obtain ⟨b, vs, eb, qb, rb⟩ := q.viewR g1 e1
        subst eb
        exact ⟨b, rfl, ⟨vs, qb⟩, key r sl1 _ F1 H1 L1 _ ws _ g1 q e1 rfl it_list h1⟩
      | tuple ws =>
        refine wi_of (pi_tup we_pe) ?_
        refine ha.stepE g h fun r' sl1' v F1 H1 L1 e' g1 s q h1 => ?_
        rw [e] at e'; cases e'
        obtain ⟨b, vs, eb, qb, rb⟩ := VwR.tup g1.ok.sub (q.viewR g1 e1)
        subst eb
        exact ⟨b, rfl, ⟨vs, qb⟩, key r sl1 _ F1 H1 L1 _ ws _ g1 q e1 rfl it_tup h1⟩
      | str s =>
        refine wi_of (pi_str we_pe) ?_
        refine ha.stepE g h fun r' sl1' v F1 H1 L1 e' g1 s' q h1 => ?_
        rw [e] at e'; cases e'
        have rv : Rp X.K F1 v (.str s) := q.viewR g1 e1
        cases rv with
        | str _ ok => exact ⟨s, rfl, key r sl1 _ F1 H1 L1 _ _ _ g1 q e1 rfl (it_str ok) h1⟩
      | dict kvs =>
        cases kvs with
        | nil => exact (no rfl).elim
        | cons p kvs =>
          obtain ⟨k, w⟩ := p
          by_cases kb : ∃ b, k = .bool b
          · obtain ⟨b, rfl⟩ := kb
            refine wi_of (pi_keys we_pe) ?_
            refine ha.stepE g h fun r' sl1' v F1 H1 L1 e' g1 s q h1 => ?_
            rw [e] at e'; cases e'
            rcases q.viewR g1 e1 with ⟨_, _, _, _, rk⟩ | rk | ⟨d, o, ks, r2, ek, ev, hf, rk⟩
            · exact rk.nob.elim
            · rcases rk.dicR with ⟨_, ks, _, rk⟩ | e
              · exact rk.nob.elim
              · cases e
            · cases ek
              subst ev
              exact ⟨d, o, rfl, .inl ⟨ks, g1.ok.sub _ _ hf, key r sl1 _ F1 H1 L1 _ _ _ g1 q e1 rfl (it_keys hf rk) h1⟩⟩
          · exact (no (by cases k <;> first | rfl | exact absurd ⟨_, rfl⟩ kb)).elim
      | none => exact (no rfl).elim
      | bool _ => exact (no rfl).elim
      | int _ => exact (no rfl).elim
end
end Md

/-! Md, enumerate(tuple). -/
namespace PySem
open Sem (wp)
set_option maxHeartbeats 900000 in
theorem md_meets_enum1 {v : Value} {o : Obj} {H : Heap → Prop} (B : Begins v o H) :
    Meets (Builtin.«enumerate.__new__» ⟨[.type "enumerate", v], []⟩) (fun _ R s => H s.heap ∧
      R (.ok (.ret (.ref (s.heap.push o).objs.size))) { s with heap := (s.heap.push o).push { cls := .type "enumerate", data := .fields #[.none, .bool false, .ref s.heap.objs.size, rawInt 0, .none, .none] } }) :=
  .of_wp fun prog w A R s h => by
    obtain ⟨hpp, g, d, tk, os⟩ := s; obtain ⟨h1, h⟩ := h
    have hsub := sub_enumerate
    have qit : ∀ {A' : Around} {E : Value → Shared → Prop} {Q : Value → Shared → Prop}, Q (.ref hpp.objs.size) ⟨hpp.push o, g, d, tk, os⟩ → wpAny (model prog w) A' (pyIter v) Q E ⟨hpp, g, d, tk, os⟩ :=
      fun q => B.iter prog w _ _ ⟨hpp, g, d, tk, os⟩ _ h1 q
    wp_walk using qit
    refine wpAny_stack_any fun sta => wpAny_pure ?_
    split
    · rename_i c _ _ _ _ _
      cases (c == Value.type "enumerate")
      · wp_walk using qit
        exact ⟨_, rfl, h⟩
      · wp_walk using qit
        exact ⟨_, rfl, h⟩
    · wp_walk using qit
      exact ⟨_, rfl, h⟩
section
variable {prog : Program} {w : World} {E : Value → Shared → Prop} {A : Around} {s : Shared}
theorem md_enum1 {v : Value} {o : Obj} {H : Heap → Prop} {Q : Value → Shared → Prop} (B : Begins v o H) (h1 : H s.heap)
    (h : ∀ h', IsEnum h' (s.heap.objs.size + 1) s.heap.objs.size 0 .none → h'.get? s.heap.objs.size = some o → h'.objs.size = s.heap.objs.size + 2 →
      (∀ b o, s.heap.get? b = some o → h'.get? b = some o) → Q (.ref (s.heap.objs.size + 1)) { s with heap := h' }) :
    wpAny (model prog w) A (call (.type "enumerate") [v]) Q E s := by
  refine callType_new F.called_enumerate (by decide) (F.typeCall_enumerate_1 _) (F.newCall_enumerate_1 _) (fun obj => F.args_object_init_2 obj _) F.entry_enumerate_new
    (md_meets_enum1 B) ⟨h1, ?_⟩
  have hsx : (s.heap.push o).objs.size = s.heap.objs.size + 1 := Heap.size_push ..
  show _ ∧ _
  rw [hsx]
  have hen : IsEnum ((s.heap.push o).push { cls := .type "enumerate", data := .fields #[.none, .bool false, .ref s.heap.objs.size, rawInt 0, .none, .none] }) (s.heap.objs.size + 1) s.heap.objs.size 0 .none := by
    have := Heap.get?_push_size (s.heap.push o) (o := { cls := .type "enumerate", data := .fields #[.none, .bool false, .ref s.heap.objs.size, rawInt 0, .none, .none] }) rfl
    rw [hsx] at this; exact this
  refine ⟨⟨_, hen, rfl⟩, h _ hen (Heap.get?_push_of_some _ (Heap.get?_push_size _ B.free)) (by rw [Heap.size_push, hsx]) fun b o x => Heap.get?_push_of_some _ (Heap.get?_push_of_some _ x)⟩
theorem md_enum_end {e it l : Addr} {i : Nat} {items : Array Value} {old : Value} {Q : Option Value → Shared → Prop} (hh : A.handled = none)
    (hen : IsEnum s.heap e it i old) (hti : s.heap.IsTupleIter it l i) (hln : s.heap.IsTuple l items) (hix : items[i]? = none)
    (kQ : ∀ h', Heap.ExtBut it s.heap h' → Q none { s with heap := h' }) : wpAny (model prog w) A (pyNext (.ref e)) Q E s := by
  have hTy : s.TypeIs (.ref e) "enumerate" := ⟨_, hen, rfl⟩
  unfold pyNext
  refine wpAny_bind (wpAny_attempt (wpAny_callSpecial?_slot (name := Str.ofString "__next__") hTy F.slot_enumerate_next
    (wpAny_call_entry F.slot_enumerate_next hTy F.entry_enumerate_next ?_ (F.args_enumerate_next_1 _))))
  show wpAny _ _ (field (.ref e) 2 >>= _) _ _ _
  refine wpAny_bind (wpAny_field hen rfl (x := .ref it) rfl ?_)
  refine wpAny_bind (wpAny_nextOf_tuple_end hh hti hln hix fun h' x he' hx' => ?_)
  obtain ⟨o, hob, hcl⟩ := hx'
  refine wpAny_bind (wpAny_isInstance (T := "StopIteration") (b := true) ⟨o, hob, hcl⟩ isSubtype_stop ?_)
  exact wpAny_pure (kQ _ he')
end
end PySem
namespace Md
open PySem PySem.Spec
open PyProof.Rows L2
variable [Wd]
def IteT (K : PySem.W.Frag) (a : Addr) : It :=
  ⟨fun i H => ∃ (xs : List V) (x : V), SqT K H a xs ∧ xs[i]? = some x, fun i H v H' => ∃ T x, v = .ref T ∧ H T = none ∧ H' = upd H T (.tup [.int (i : Nat), x]) ∧ ∀ xs, SqT K H a xs → xs[i]? = some x, fun i H => ∃ xs : List V, SqT K H a xs ∧ xs.length ≤ i⟩
theorem turn_enumT {P : Program} {w : World} {K : PySem.W.Frag} {elts : List Expr} {kk : Nat} {tpos : Pos} (a e it : Addr) :
    Turn P w K (.Tuple elts kk tpos) (IteT K a) [e, it] e (fun i h => (∃ old, IsEnum h e it ((i : Nat) : Int) old) ∧ h.IsTupleIter it a i ∧ e ≠ it ∧ a ≠ it ∧ a ≠ e) where
  mem := by simp
  obj := fun i h sta b hbm => by
    obtain ⟨⟨old, hen⟩, ⟨o, hob, hcl, hd⟩, _⟩ := sta
    have e' : b = e ∨ b = it := by simpa using hbm
    rcases e' with z | z
    · rw [z]; exact ⟨_, hen, fun v q => nomatch q⟩
    · rw [z]; exact ⟨o, hob, fun v q => by rw [hd] at q; cases q⟩
  keep := fun i h h' sta k => let ⟨⟨old, hen⟩, hi, hnq⟩ := sta; ⟨⟨old, k e (by simp) _ hen⟩, hi.at fun o q => k it (by simp) o q, hnq⟩
  item := by
    intro X hP hw hK hcl i pns s σ H E I hfr sta hg
    subst hP hw hK
    obtain ⟨⟨old, hen⟩, hti, hnq, hai, hae⟩ := sta
    obtain ⟨xs, x, hsq, hix⟩ := hg
    obtain ⟨cel, rvl, p, hsx⟩ := I.tuple hsq
    obtain ⟨u, hux, rux⟩ := rvl.get hix
    have hlo : e < s.heap.objs.size := Heap.lt_size hen
    have hli : it < s.heap.objs.size := by obtain ⟨_, q, _⟩ := hti; exact Heap.lt_size q
    have hlt : i < cel.toArray.size := by
      have := (List.getElem?_eq_some_iff.mp hux).1
      simpa using this
    have D := Draws.tuple (prog := X.prog) (w := X.w) (A := X.A.in1) (I.ok.hd hcl) it a hai cel.toArray
    refine wpAny_pyNext_enum_itemD (fp := [it, a]) D hen ⟨hti, p⟩ hlt hnq (by simp [hnq, Ne.symm hae]) fun x' h' tk hP' hob st' hTy hzz kep => ?_
    have ex : x' = u := by
      have h1 : cel.toArray[i]? = some x' := hP'
      have h2 : cel.toArray[i]? = some u := by simpa using hux
      rw [h1] at h2; exact Option.some.inj h2
    subst ex
    obtain ⟨hit', _⟩ := st'
    refine ⟨_, rfl, wpAny_letOwnedTupleGo_enum (s := { s with heap := h', toks := tk + 1 }) hob fun h'' he' sbt => ?_⟩
    have hT2 : h''.get? s.heap.objs.size = some { cls := .type "tuple", data := .seq #[.int i tk, x'] } := (sbt.2 _ (Nat.ne_of_gt hlo)).trans hTy
    have nw : ObjOk X.prog X.w (upd H s.heap.objs.size (.tup [.int (i : Nat), x])) h'' s.heap.objs.size (.tup [.int (i : Nat), x]) :=
      ⟨by show 2 ≤ sizeLine; decide, [.int i tk, x'], .cons ⟨_, rfl⟩ (.cons rux .nil), ⟨_, hT2, rfl, _, rfl⟩⟩
    have J1 : Inv X pns σ (upd H s.heap.objs.size (.tup [.int (i : Nat), x])) { s with heap := h'', toks := tk + 1 } :=
      I.turnedNew (ch := [e, it]) (fun b ob1 hbm q => (sbt.2 b (fun z => hbm (by simp [z]))).trans (kep b ob1 (fun z => hbm (by simp [z])) (fun z => hbm (by simp [z])) q)) hfr (Nat.le_refl _) nw
    refine ⟨.ref s.heap.objs.size, _, J1, rfl, ⟨_, x, rfl, I.hok.fresh (Nat.le_refl _), rfl, fun ys hy => by rw [I.tuple_inj hy hsq]; exact hix⟩, ⟨⟨x', ?_⟩, hit'.at fun o q => (sbt.2 it (Ne.symm hnq)).trans q, hnq, hai, hae⟩, fun b hbm => ?_⟩
    · have e1 : ((i + 1 : Nat) : Int) = (i : Int) + 1 := by omega
      rw [e1]; exact he'
    · have hb' : b < s.heap.objs.size := by
        have e' : b = e ∨ b = it := by simpa using hbm
        rcases e' with z | z
        · rw [z]; exact hlo
        · rw [z]; exact hli
      rw [upd_ne (Nat.ne_of_lt hb')]
      exact (hfr b hbm).1
  done := by
    intro X hP hw hK hcl i pns s σ H E I hfr sta hg
    subst hP hw hK
    obtain ⟨⟨old, hen⟩, hti, hnq, hai, hae⟩ := sta
    obtain ⟨xs, hsq, hix⟩ := hg
    obtain ⟨cel, rvl, p, hsx⟩ := I.tuple hsq
    obtain ⟨f0, f1, f2, f3, f4, f5⟩ := hfr it (by simp)
    have hln := rvl.length
    exact md_enum_end (I.ok.hd hcl) hen hti p (by simp; omega) fun h' eb => ⟨rfl, I.turned (t' := s.toks) (fun b o hbm q => eb b o hbm q) f0 f1 f3 f4 f5⟩
  self := fun A i s Q E sta h => let ⟨⟨_, hen⟩, _⟩ := sta; wpAny_pyIter_enum hen h
def iEnumA (K : PySem.W.Frag) (ta : TA) : TI := fun σ H R => ta σ H fun vs H1 => ∃ a xs, vs = [.ref a] ∧ ((SqL K H1 a xs ∧ R (Ite K a) H1) ∨ (SqT K H1 a xs ∧ R (IteT K a) H1))
theorem pi_enumT {X : Cx} {e : Expr} {ta : TA} {p pos tpos : Pos} {elts : List Expr} {kk : Nat} (hg : Gl X "enumerate") (hm : X.mg "enumerate" = none) (ha : PA X [e] ta) (hs : starEach [e] X.env = [(false, eval e X.env)] := by rfl) :
    PI X (.Tuple elts kk tpos) (.Call (.Name "enumerate" p) [e] [] pos) (iEnumA X.K ta) := by
  refine ⟨fun pns s σ H R I h => ?_⟩
  refine Call_ (ld_blt I hg hm PyProof.Rows.boot_enumerate (PyProof.Rows.callWith_type1 (thn (ha.run pos pns s σ H _ I h) fun us t1 ⟨vs, H1, J1, r1, qit⟩ => ?_) hs rfl))
  obtain ⟨a, xs, ex, q⟩ := qit
  subst ex
  cases r1 with
  | cons r rr =>
    cases rr
    cases r
    have fpk : ∀ b ∈ [t1.heap.objs.size + 1, t1.heap.objs.size], FpOk X pns H1 b := fun b hbm => by
      have e' : b = t1.heap.objs.size + 1 ∨ b = t1.heap.objs.size := by simpa using hbm
      have hge : t1.heap.objs.size ≤ b := by
        rcases e' with z | z
        · rw [z]; exact Nat.le_add_right _ _
        · rw [z]; exact Nat.le_refl _
      exact J1.fpOk hge (J1.hok.fresh hge)
    rcases q with ⟨hsq, q⟩ | ⟨hsq, q⟩
    · obtain ⟨cel, rvl, p', hsx⟩ := J1.list hsq
      refine call_enumerate_list p'.isList fun h' hen hti hzz kep => wpAny_pyIter_enum hen ?_
      have J2 : Inv X pns σ H1 { t1 with heap := h' } := J1.kept (t' := t1.toks) kep
      exact ⟨t1.heap.objs.size + 1, [t1.heap.objs.size + 1, t1.heap.objs.size], _, _, H1, rfl, J2, turn_enum a (t1.heap.objs.size + 1) t1.heap.objs.size, ⟨⟨.none, hen⟩, hti, Nat.succ_ne_self _⟩, fpk, q⟩
    · obtain ⟨cel, rvl, p', hsx⟩ := J1.tuple hsq
      have al : a < t1.heap.objs.size := by obtain ⟨_, x, _⟩ := p'; exact Heap.lt_size x
      refine md_enum1 (begins_tuple a cel.toArray) p' fun h' hen hti hzz kep => wpAny_pyIter_enum hen ?_
      have J2 : Inv X pns σ H1 { t1 with heap := h' } := J1.kept (t' := t1.toks) kep
      exact ⟨t1.heap.objs.size + 1, [t1.heap.objs.size + 1, t1.heap.objs.size], _, _, H1, rfl, J2, turn_enumT a (t1.heap.objs.size + 1) t1.heap.objs.size, ⟨⟨.none, hen⟩, ⟨_, hti, rfl, rfl⟩, Nat.succ_ne_self _, Nat.ne_of_lt al, Nat.ne_of_lt (Nat.lt_succ_of_lt al)⟩, fpk, q⟩
end Md

/-! Md, part K: ranges walked; list comprehensions. -/
namespace Md
open PySem PySem.Spec
open PyProof.Rows L2
variable [Wd]

section
variable {X : Cx} {p : Cp} {cb : Nat → List T → FRes} {Xq : XQ} {σ : L2.St} {F F1 H H1 : Hp} {L L1 : Lbl} {sl sl1 : Sl} {a b c : E} {x y z : Expr} {pos : Pos} {α : Type} {P : α → Sl → Hp → Hp → Lbl → Prop}
theorem gl_X (C : Cd X p) {n : Str} (h : glB p.sc n = true) : Gl X n := by
  have e := gl_of h
  show X.env.kindOf n = _
  unfold Env.kindOf
  rw [C.sc]
  exact e
theorem si_rng1 {t : Expr} {n : Str} {q : Pos} (C : Cd X p) (hb : bltB p n "range" = true) (hd : Hd x) (ha : SE X p cb Xq a x) : SI X p cb Xq .rng1 a .non .non t (.Call (.Name n q) [x] [] pos) := by
  intro σ sl F H L Rr g h
  obtain ⟨rfl, h1, h2, h3⟩ := blt_of hb
  have hs : starEach [x] X.env = [(false, eval x X.env)] := hd.star [] X.env
  refine wi_of (pi_range1 (gl_X C h1) (C.free _ h2) (pa_cons we_pe pa_nil (hd.star _ _)) hs) ?_
  show WE X x σ H _
  have h : RsQ X.K σ Xq F H L sl _ ((ev p.P p.np cb a sl).bind fun ra sl1 => match ra.settle.viewR sl1, some PyData.none, some PyData.none with
    | some x, some y, some z => match items .rng1 x y z with
      | some ws => .ok (ws, ra.settle, R.t (T.fz .none)) sl1
      | none => .no
    | _, _, _ => .no) := h
  refine ha.step g h fun r sl1 v F1 H1 L1 g1 s q h1 => ?_
  cases e1 : r.settle.viewR sl1 with
  | none => simp only [e1] at h1; exact h1.elim
  | some d =>
    simp only [e1] at h1
    cases d with
    | int n =>
      have rv : Rp X.K F1 v (.int n) := q.viewR g1 e1
      cases rv
      have e2 : items .rng1 (.int n) .none .none = if rngOk n then some (rangeUp 0 n.toNat) else none := rfl
      rw [e2] at h1
      by_cases cc : rngOk n = true
      · rw [if_pos cc] at h1
        rw [rngOk_eq] at cc
        rw [Bool.and_eq_true] at cc
        exact ⟨n, rfl, of_decide_eq_true cc.1, of_decide_eq_true cc.2, h1 F1 H1 L1 g1.aft g1.tmp _ .non _ .none q .non e1 rfl _ it_rng⟩
      · rw [if_neg cc] at h1; exact h1.elim
    | _ => exact h1.elim
theorem RQ.viewR' (g : G X.K F H L σ sl) {v : V} {r : R} (h : RQ X.K F σ v r) {i : Int} (e : r.viewR sl = some (.int i)) : v = .int i := by
  have rv : Rp X.K F v (.int i) := h.viewR g e
  cases rv
  rfl
theorem si_rng2 {t : Expr} {n : Str} {q : Pos} (C : Cd X p) (hb : bltB p n "range" = true) (hd : Hd x) (hd2 : Hd y) (ha : SE X p cb Xq a x) (hb' : SE X p cb Xq b y) : SI X p cb Xq .rng2 a b .non t (.Call (.Name n q) [x, y] [] pos) := by
  intro σ sl F H L Rr g h
  obtain ⟨rfl, h1, h2, h3⟩ := blt_of hb
  have hs2 : starEach [y] X.env = [(false, eval y X.env)] := hd2.star [] X.env
  have hs : starEach [x, y] X.env = [(false, eval x X.env), (false, eval y X.env)] := by rw [hd.star [y] X.env, hs2]
  refine wi_of (pi_range2 (gl_X C h1) (C.free _ h2) (pa_cons we_pe (pa_cons we_pe pa_nil (hd2.star _ _)) (hd.star _ _)) hs hs2) ?_
  show WE X x σ H fun v1 H1 => WE X y σ H1 fun v2 H2 => _
  have h : RsQ X.K σ Xq F H L sl _ ((ev p.P p.np cb a sl).bind fun ra sl1 => (ev p.P p.np cb b sl1).bind fun rb sl2 => match ra.settle.viewR sl2, rb.settle.viewR sl2, some PyData.none with
    | some x, some y, some z => match items .rng2 x y z with
      | some ws => .ok (ws, ra.settle, rb.settle) sl2
      | none => .no
    | _, _, _ => .no) := h
  refine ha.step g h fun ra sl1 v1 F1 H1 L1 g1 s q1 h1 => ?_
  refine hb'.step g1 h1 fun rb sl2 v2 F2 H2 L2 g2 s2 q2 h2 => ?_
  have q1 := q1.mono s2
  cases e1 : ra.settle.viewR sl2 with
  | none => simp only [e1] at h2; exact h2.elim
  | some d =>
    cases e2 : rb.settle.viewR sl2 with
    | none => simp only [e1, e2] at h2; exact h2.elim
    | some e =>
      simp only [e1, e2] at h2
      cases d with
      | int i =>
        cases e with
        | int j =>
          have z1 := q1.viewR' g2 e1
          have z2 := q2.viewR' g2 e2
          subst z1 z2
          have e3 : items .rng2 (.int i) (.int j) .none = if rngOk i && rngOk j then some (rangeUp i (j - i).toNat) else none := rfl
          rw [e3] at h2
          by_cases cc : (rngOk i && rngOk j) = true
          · rw [if_pos cc] at h2
            rw [rngOk_eq, rngOk_eq] at cc
            rw [Bool.and_eq_true, Bool.and_eq_true, Bool.and_eq_true] at cc
            exact ⟨i, j, rfl, ⟨of_decide_eq_true cc.1.1, of_decide_eq_true cc.1.2, of_decide_eq_true cc.2.1, of_decide_eq_true cc.2.2⟩, h2 F2 H2 L2 g2.aft g2.tmp _ _ _ _ q1 q2 e1 e2 _ it_rng⟩
          · rw [if_neg cc] at h2; exact h2.elim
        | _ => exact h2.elim
      | _ => exact h2.elim
theorem itz_go {F0 : Hp} {K : PySem.W.Frag} {a b : Addr} {xs ys : List Da} : ItOk K F0 (Itz K a b) (zipW xs ys) (.ref a) (.list xs) (.ref b) (.list ys) where
  go := fun F H _ i s h1 h2 hi => by
    obtain ⟨_, us, e1, q1, r1⟩ := h1; cases e1
    obtain ⟨_, ws, e2, q2, r2⟩ := h2; cases e2
    have hi' : i < xs.length ∧ i < ys.length := by simp only [zipW, List.length_zipWith] at hi; omega
    have a1 : i < us.length := by rw [r1.length]; exact hi'.1
    have a2 : i < ws.length := by rw [r2.length]; exact hi'.2
    exact ⟨us, ws, us[i], ws[i], q1, q2, by simp [a1], by simp [a2]⟩
  stop := fun F H _ i s h1 h2 hi => by
    obtain ⟨_, us, e1, q1, r1⟩ := h1; cases e1
    obtain ⟨_, ws, e2, q2, r2⟩ := h2; cases e2
    refine ⟨us, ws, q1, q2, ?_⟩
    simp only [zipW, List.length_zipWith] at hi
    rw [r1.length, r2.length]
    omega
  yld := fun F H _ L σ sl i v H' g h1 h2 hi yl => by
    obtain ⟨_, us, e1, q1, r1⟩ := h1; cases e1
    obtain ⟨_, ws, e2, q2, r2⟩ := h2; cases e2
    obtain ⟨p, x, y, e3, np, e4, k1, k2⟩ := yl
    subst e3 e4
    obtain ⟨d1, f1, f2⟩ := r1.get (k1 us q1)
    obtain ⟨d2, f3, f4⟩ := r2.get (k2 ws q2)
    obtain ⟨F', g', st, rp⟩ := new_tup g (.cons f2 (.cons f4 .nil)) np
    exact ⟨F', g', st, _, by simp [zipW, List.getElem?_zipWith, f1, f3], rp⟩
theorem itzT_go {F0 : Hp} {K : PySem.W.Frag} {a b : Addr} {xs ys : List Da} : ItOk K F0 (RZ.ItzT K a b) (zipW xs ys) (.ref a) (.tuple xs) (.ref b) (.tuple ys) where
  go := fun F H _ i s h1 h2 hi => by
    obtain ⟨_, us, e1, q1, r1⟩ := VwR.tup s h1; cases e1
    obtain ⟨_, ws, e2, q2, r2⟩ := VwR.tup s h2; cases e2
    have hi' : i < xs.length ∧ i < ys.length := by simp only [zipW, List.length_zipWith] at hi; omega
    have a1 : i < us.length := by rw [r1.length]; exact hi'.1
    have a2 : i < ws.length := by rw [r2.length]; exact hi'.2
    exact ⟨us, ws, us[i], ws[i], q1, q2, by simp [a1], by simp [a2]⟩
  stop := fun F H _ i s h1 h2 hi => by
    obtain ⟨_, us, e1, q1, r1⟩ := VwR.tup s h1; cases e1
    obtain ⟨_, ws, e2, q2, r2⟩ := VwR.tup s h2; cases e2
    refine ⟨us, ws, q1, q2, ?_⟩
    simp only [zipW, List.length_zipWith] at hi
    rw [r1.length, r2.length]
    omega
  yld := fun F H _ L σ sl i v H' g h1 h2 hi yl => by
    obtain ⟨_, us, e1, q1, r1⟩ := VwR.tup g.ok.sub h1; cases e1
    obtain ⟨_, ws, e2, q2, r2⟩ := VwR.tup g.ok.sub h2; cases e2
    obtain ⟨p, x, y, e3, np, e4, k1, k2⟩ := yl
    subst e3 e4
    obtain ⟨d1, f1, f2⟩ := r1.get (k1 us q1)
    obtain ⟨d2, f3, f4⟩ := r2.get (k2 ws q2)
    obtain ⟨F', g', st, rp⟩ := new_tup g (.cons f2 (.cons f4 .nil)) np
    exact ⟨F', g', st, _, by simp [zipW, List.getElem?_zipWith, f1, f3], rp⟩
theorem enumW_get {xs : List Da} {i : Nat} {d : Da} (h : xs[i]? = some d) : (enumW xs)[i]? = some (.tuple [.int (i : Int), d]) := by
  obtain ⟨hi, rfl⟩ := List.getElem?_eq_some_iff.mp h
  simp [enumW, List.getElem?_zipWith, hi]
theorem ite_go {F0 : Hp} {K : PySem.W.Frag} {a : Addr} {xs : List Da} {vb : V} {y : Da} : ItOk K F0 (Ite K a) (enumW xs) (.ref a) (.list xs) vb y where
  go := fun F H _ i s h1 h2 hi => by
    obtain ⟨_, us, e1, q1, r1⟩ := h1; cases e1
    have a1 : i < us.length := by rw [r1.length]; simpa [enumW] using hi
    exact ⟨us, us[i], q1, by simp [a1]⟩
  stop := fun F H _ i s h1 h2 hi => by
    obtain ⟨_, us, e1, q1, r1⟩ := h1; cases e1
    exact ⟨us, q1, by rw [r1.length]; simpa [enumW] using hi⟩
  yld := fun F H _ L σ sl i v H' g h1 h2 hi yl => by
    obtain ⟨_, us, e1, q1, r1⟩ := h1; cases e1
    obtain ⟨p, x, e3, np, e4, k1⟩ := yl
    subst e3 e4
    obtain ⟨d1, f1, f2⟩ := r1.get (k1 us q1)
    obtain ⟨F', g', st, rp⟩ := new_tup g (.cons (.int (i : Nat)) (.cons f2 .nil)) np
    exact ⟨F', g', st, _, enumW_get f1, rp⟩
theorem iteT_go {F0 : Hp} {K : PySem.W.Frag} {a : Addr} {xs : List Da} {vb : V} {y : Da} : ItOk K F0 (IteT K a) (enumW xs) (.ref a) (.tuple xs) vb y where
  go := fun F H _ i s h1 h2 hi => by
    obtain ⟨_, us, e1, q1, r1⟩ := VwR.tup s h1; cases e1
    have a1 : i < us.length := by rw [r1.length]; simpa [enumW] using hi
    exact ⟨us, us[i], q1, by simp [a1]⟩
  stop := fun F H _ i s h1 h2 hi => by
    obtain ⟨_, us, e1, q1, r1⟩ := VwR.tup s h1; cases e1
    exact ⟨us, q1, by rw [r1.length]; simpa [enumW] using hi⟩
  yld := fun F H _ L σ sl i v H' g h1 h2 hi yl => by
    obtain ⟨_, us, e1, q1, r1⟩ := VwR.tup g.ok.sub h1; cases e1
    obtain ⟨p, x, e3, np, e4, k1⟩ := yl
    subst e3 e4
    obtain ⟨d1, f1, f2⟩ := r1.get (k1 us q1)
    obtain ⟨F', g', st, rp⟩ := new_tup g (.cons (.int (i : Nat)) (.cons f2 .nil)) np
    exact ⟨F', g', st, _, enumW_get f1, rp⟩
theorem rev_get {xs : List Da} {i : Nat} (hi : i < xs.length) : xs.reverse[i]? = xs[xs.length - 1 - i]? := List.getElem?_reverse hi
theorem itv_go {F0 : Hp} {K : PySem.W.Frag} {a : Addr} {xs : List Da} {vb : V} {y : Da} : ItOk K F0 (Itv K a xs.length) xs.reverse (.ref a) (.list xs) vb y where
  go := fun F H _ i s h1 h2 hi => by
    obtain ⟨_, us, e1, q1, r1⟩ := h1; cases e1
    have hi : i < xs.length := by simpa using hi
    have a1 : xs.length - 1 - i < us.length := by rw [r1.length]; omega
    exact ⟨hi, us, us[xs.length - 1 - i], q1, by simp [a1]⟩
  stop := fun F H _ i s h1 h2 hi => by
    show xs.length ≤ i
    simpa using hi
  yld := fun F H _ L σ sl i v H' g h1 h2 hi yl => by
    obtain ⟨_, us, e1, q1, r1⟩ := h1; cases e1
    have hi : i < xs.length := by simpa using hi
    obtain ⟨e3, k1⟩ := yl
    subst e3
    obtain ⟨d1, f1, f2⟩ := r1.get (k1 us q1)
    exact ⟨F, g, .refl _ _ _, d1, by rw [rev_get hi]; exact f1, f2⟩
theorem itvT_go {F0 : Hp} {K : PySem.W.Frag} {a : Addr} {xs : List Da} {vb : V} {y : Da} : ItOk K F0 (RT.ItvT K a xs.length) xs.reverse (.ref a) (.tuple xs) vb y where
  go := fun F H _ i s h1 h2 hi => by
    obtain ⟨_, us, e1, q1, r1⟩ := VwR.tup s h1; cases e1
    have hi : i < xs.length := by simpa using hi
    have a1 : xs.length - 1 - i < us.length := by rw [r1.length]; omega
    exact ⟨hi, us, us[xs.length - 1 - i], q1, by simp [a1]⟩
  stop := fun F H _ i s h1 h2 hi => by
    show xs.length ≤ i
    simpa using hi
  yld := fun F H _ L σ sl i v H' g h1 h2 hi yl => by
    obtain ⟨_, us, e1, q1, r1⟩ := VwR.tup g.ok.sub h1; cases e1
    have hi : i < xs.length := by simpa using hi
    obtain ⟨e3, k1⟩ := yl
    subst e3
    obtain ⟨d1, f1, f2⟩ := r1.get (k1 us q1)
    exact ⟨F, g, .refl _ _ _, d1, by rw [rev_get hi]; exact f1, f2⟩
/-- one thing walked -/
theorem si_one {k : IK} {t it : Expr} {wi : TE → TI} (hpi : ∀ te, PE X x te → PI X t it (wi te)) (hw : ∀ (te : TE) (σ : L2.St) (H : Hp) (R : It → Hp → Prop), (te σ H fun v H1 => wi (fun _ H Q => Q v H) σ H1 R) → wi te σ H R)
    (hz : ∀ d b c, items k d b c = items k d .none .none)
    (hone : ∀ (d : Da) (ws : List Da), items k d .none .none = some ws → ∀ (F H : Hp) (L : Lbl) (σ : L2.St) (sl : Sl) (v : V) (R : It → Hp → Prop), G X.K F H L σ sl → VwR X.K F H v d → (∀ J, ItOk X.K F J ws v d .non .none → R J H) → wi (fun _ H Q => Q v H) σ H R)
    (ha : SE X p cb Xq a x) : SI X p cb Xq k a .non .non t it := by
  intro σ sl F H L Rr g h
  refine wi_of (hpi _ we_pe) (hw _ _ _ _ ?_)
  have h : RsQ X.K σ Xq F H L sl _ ((ev p.P p.np cb a sl).bind fun ra sl1 => match ra.settle.viewR sl1, some PyData.none, some PyData.none with
    | some x, some y, some z => match items k x y z with
      | some ws => .ok (ws, ra.settle, R.t (T.fz .none)) sl1
      | none => .no
    | _, _, _ => .no) := h
  refine ha.step g h fun r sl1 v F1 H1 L1 g1 s q h1 => ?_
  cases e1 : r.settle.viewR sl1 with
  | none => simp only [e1] at h1; exact h1.elim
  | some d =>
    simp only [e1] at h1
    cases e2 : items k d .none .none with
    | none => rw [e2] at h1; exact h1.elim
    | some ws =>
      rw [e2] at h1
      exact hone d ws e2 F1 H1 L1 σ sl1 v Rr g1 (q.viewR g1 e1) fun J io => h1 F1 H1 L1 g1.aft g1.tmp v .non d .none q .non e1 rfl J io
theorem si_rev {t : Expr} {n : Str} {q : Pos} (C : Cd X p) (hb : bltB p n "reversed" = true) (hd : Hd x) (ha : SE X p cb Xq a x) : SI X p cb Xq .rev a .non .non t (.Call (.Name n q) [x] [] pos) := by
  obtain ⟨rfl, h1, h2, h3⟩ := blt_of hb
  refine si_one (wi := fun te => RT.iRevA X.K te) (fun te he => RT.pi_revA (gl_X C h1) (C.free _ h2) he (hd.star [] X.env)) (fun te σ H R h => h) (fun d b c => by cases d <;> rfl) (fun d ws e F H L σ sl v R g hv k => ?_) ha
  cases d with
  | list xs =>
    cases (Option.some.inj e)
    obtain ⟨aa, us, rfl, q1, r1⟩ := hv
    have hv : VwR X.K F H (.ref aa) (.list xs) := ⟨aa, us, rfl, q1, r1⟩
    exact ⟨aa, us, rfl, .inl ⟨q1, by rw [r1.length]; exact k _ itv_go⟩⟩
  | tuple xs =>
    cases (Option.some.inj e)
    obtain ⟨aa, us, rfl, q1, r1⟩ := VwR.tup g.ok.sub hv
    exact ⟨aa, us, rfl, .inr ⟨q1, by rw [r1.length]; exact k _ itvT_go⟩⟩
  | _ => cases e
theorem si_enum {elts : List Expr} {kk : Nat} {tpos : Pos} {n : Str} {q : Pos} (C : Cd X p) (hb : bltB p n "enumerate" = true) (hd : Hd x) (ha : SE X p cb Xq a x) : SI X p cb Xq .enum a .non .non (.Tuple elts kk tpos) (.Call (.Name n q) [x] [] pos) := by
  obtain ⟨rfl, h1, h2, h3⟩ := blt_of hb
  refine si_one (wi := fun te => iEnumA X.K (tCons te tNil)) (fun te he => pi_enumT (gl_X C h1) (C.free _ h2) (pa_cons he pa_nil (hd.star _ _)) (hd.star [] X.env)) (fun te σ H R h => h) (fun d b c => by cases d <;> rfl) (fun d ws e F H L σ sl v R g hv k => ?_) ha
  cases d with
  | list xs =>
    cases (Option.some.inj e)
    obtain ⟨aa, us, rfl, q1, r1⟩ := hv
    exact ⟨aa, us, rfl, .inl ⟨q1, k _ ite_go⟩⟩
  | tuple xs =>
    cases (Option.some.inj e)
    obtain ⟨aa, us, rfl, q1, r1⟩ := VwR.tup g.ok.sub hv
    exact ⟨aa, us, rfl, .inr ⟨q1, k _ iteT_go⟩⟩
  | _ => cases e
theorem si_zip {elts : List Expr} {kk : Nat} {tpos : Pos} {n : Str} {q : Pos} (C : Cd X p) (hb : bltB p n "zip" = true) (hd : Hd x) (hd2 : Hd y) (ha : SE X p cb Xq a x) (hb' : SE X p cb Xq b y) : SI X p cb Xq .zip a b .non (.Tuple elts kk tpos) (.Call (.Name n q) [x, y] [] pos) := by
  intro σ sl F H L Rr g h
  obtain ⟨rfl, h1, h2, h3⟩ := blt_of hb
  have hs : starEach [x, y] X.env = (false, eval x X.env) :: starEach [y] X.env := hd.star [y] X.env
  have any : ∀ ps, (PySem.backTo ps (starEach [y] X.env)).any (·.1) = false := fun ps => by rw [hd2.star [] X.env]; rfl
  refine wi_of (RZ.pi_zipA (gl_X C h1) (C.free _ h2) (pa_cons we_pe (pa_cons we_pe pa_nil (hd2.star _ _)) (hd.star _ _)) hs (any _)) ?_
  show WE X x σ H fun v1 H1 => WE X y σ H1 fun v2 H2 => _
  have h : RsQ X.K σ Xq F H L sl _ ((ev p.P p.np cb a sl).bind fun ra sl1 => (ev p.P p.np cb b sl1).bind fun rb sl2 => match ra.settle.viewR sl2, rb.settle.viewR sl2, some PyData.none with
    | some x, some y, some z => match items .zip x y z with
      | some ws => .ok (ws, ra.settle, rb.settle) sl2
      | none => .no
    | _, _, _ => .no) := h
  refine ha.step g h fun ra sl1 v1 F1 H1 L1 g1 s q1 h1 => ?_
  refine hb'.step g1 h1 fun rb sl2 v2 F2 H2 L2 g2 s2 q2 h2 => ?_
  have q1 := q1.mono s2
  cases e1 : ra.settle.viewR sl2 with
  | none => simp only [e1] at h2; exact h2.elim
  | some d =>
    cases e2 : rb.settle.viewR sl2 with
    | none => simp only [e1, e2] at h2; exact h2.elim
    | some e =>
      simp only [e1, e2] at h2
      have w1 := q1.viewR g2 e1
      have w2 := q2.viewR g2 e2
      cases d with
      | list xs =>
        cases e with
        | list ys =>
          obtain ⟨a1, us, rfl, z1, r1⟩ := w1
          obtain ⟨a2, ws, rfl, z2, r2⟩ := w2
          exact ⟨a1, a2, us, ws, rfl, .inl ⟨z1, z2, h2 F2 H2 L2 g2.aft g2.tmp _ _ _ _ q1 q2 e1 e2 _ itz_go⟩⟩
        | _ => exact h2.elim
      | tuple xs =>
        cases e with
        | tuple ys =>
          obtain ⟨a1, us, rfl, z1, r1⟩ := VwR.tup g2.ok.sub w1
          obtain ⟨a2, ws, rfl, z2, r2⟩ := VwR.tup g2.ok.sub w2
          exact ⟨a1, a2, us, ws, rfl, .inr ⟨z1, z2, h2 F2 H2 L2 g2.aft g2.tmp _ _ _ _ q1 q2 e1 e2 _ itzT_go⟩⟩
        | _ => exact h2.elim
      | _ => exact h2.elim
end

/-! ### locks -/
section
variable {K : PySem.W.Frag} {σ : L2.St} {F H : Hp} {L : Lbl} {sl sl' : Sl}
theorem lock1 (g : G K F H L σ sl) {v : V} {r : R} {x : Da} (q : RQ K F σ v r) (e : r.viewR sl = some x) (l : lockR sl r = some sl') :
    ∃ L', G K F H L' σ sl' ∧ Stp F H L F H L' ∧ (∀ F' H' L'', Stp F H L' F' H' L'' → Same F' H' → VwR K F' H' v x) ∧
      (∀ (j : Nat) ds, sl'[j]? = some (some (.lk ds)) → sl[j]? = some (some (.lk ds)) ∨ j ∈ lockOf sl r) ∧ (∀ j ∈ lockOf sl r, ∃ a, σ[j]? = some (some (.ref a)) ∧ L a = j + 2) ∧ (∀ a, L' a ≠ 0 → L' a = L a) ∧ (∀ (j : Nat) t, sl'[j]? = some (some t) → ∃ t', sl[j]? = some (some t')) ∧
      (∀ j : Nat, sl[j]? = some none → sl'[j]? = some none) ∧ (∀ (j : Nat) d, sl[j]? = some (some (.fz d)) → sl'[j]? = some (some (.fz d))) ∧ (∀ (j : Nat) o, sl'[j]? = some o → (∀ ds, o ≠ some (.lk ds)) → sl[j]? = some o) := by
  cases r with
  | t t =>
    have l' : some sl = some sl' := l
    cases l'
    cases t with
    | fz d =>
      cases (show some d = some x from e)
      refine ⟨L, g, .refl _ _ _, fun F' H' L'' st s => (Rp.vw (L := fun _ => 0) ⟨s, fun a h => absurd rfl h, fun a h => absurd rfl h⟩ (Rp.mono st.fro q)).r, fun j ds h => .inl h, fun j hj => (nomatch hj), fun a _ => rfl, fun j t h => ⟨t, h⟩, fun j h => h, fun j d h => h, fun j o h _ => h⟩
    | _ => exact q.elim
  | p i =>
    have l' : (match sl[i]? with
      | some (some (.lst ds)) => some (sl.set i (some (.lk ds)))
      | some (some (.lk _)) => some sl
      | some (some (.ro _)) => some sl
      | some (some (.lkd _)) => some sl
      | _ => none) = some sl' := l
    split at l'
    · rename_i ds hs
      cases l'
      have hi : i < sl.length := (List.getElem?_eq_some_iff.mp hs).1
      obtain ⟨v', h1, h2⟩ := g.rel.at_ i _ hs
      have z : some (some v') = some (some v) := h1.symm.trans q
      cases z
      have hx : x = .list ds := by
        have e' : R.viewR sl (.p i) = some x := e
        unfold R.viewR at e'
        simp only [hs, R.view] at e'
        exact (Option.some.inj e').symm
      subst hx
      have lo : lockOf sl (.p i) = [i] := by unfold lockOf; simp only [hs]
      cases h2 with
      | big A b _ _ => cases b
      | lst ea la ra =>
        rename_i a vs
        have fa : F a = none := g.ok.dis a (by rw [la]; omega)
        have st : Stp F H L F H (clr L (i + 2)) := ⟨Same.refl _, fun _ _ h _ => h, fun b h => by
          unfold clr at h
          by_cases w : L b = i + 2
          · rw [if_pos w] at h; exact absurd rfl h
          · rw [if_neg w] at h; exact .inl h, fun b h => .inl h⟩
        have la' : clr L (i + 2) a = 0 := by unfold clr; rw [if_pos la]
        refine ⟨clr L (i + 2), ⟨clr_ok g.ok, ⟨by rw [List.length_set]; exact g.rel.len, fun j t ht => ?_⟩, fun b hb => ?_⟩, st, fun F' H' L'' st' s => ⟨a, vs, rfl, .inl (.inl (st'.zero ea la').1), ra.mono st'.fro⟩, fun j ds' h => ?_, fun j hj => ?_, fun b hb => ?_, fun j t h => ?_, fun j h => ?_, fun j d h => ?_, fun j o h hn => ?_⟩
        · by_cases w : i = j
          · subst w
            rw [List.getElem?_set_self hi] at ht
            cases ht
            exact ⟨_, h1, .lk ea la' fa ra⟩
          · rw [List.getElem?_set_ne w] at ht
            obtain ⟨u, h3, h4⟩ := g.rel.at_ j t ht
            exact ⟨u, h3, h4.mono st fun b o eb lb => ⟨eb, by unfold clr; rw [if_neg (by omega)]; exact lb⟩⟩
        · unfold clr at hb
          by_cases w : L b = i + 2
          · rw [if_pos w] at hb; cases hb
          · rw [if_neg w] at hb; exact g.tmp b hb
        · by_cases w : i = j
          · subst w; exact .inr (by rw [lo]; exact List.mem_singleton.mpr rfl)
          · rw [List.getElem?_set_ne w] at h; exact .inl h
        · rw [lo] at hj
          have : j = i := List.mem_singleton.mp hj
          subst this
          exact ⟨a, h1, la⟩
        · unfold clr at hb ⊢
          by_cases w : L b = i + 2
          · rw [if_pos w] at hb; exact absurd rfl hb
          · rw [if_neg w]
        · by_cases w : i = j
          · subst w; exact ⟨_, hs⟩
          · rw [List.getElem?_set_ne w] at h; exact ⟨t, h⟩
        · by_cases w : i = j
          · subst w; rw [hs] at h; cases h
          · rw [List.getElem?_set_ne w]; exact h
        · by_cases w : i = j
          · subst w; rw [hs] at h; cases h
          · rw [List.getElem?_set_ne w]; exact h
        · by_cases w : i = j
          · subst w
            rw [List.getElem?_set_self hi] at h
            cases h
            exact absurd rfl (hn ds)
          · rw [List.getElem?_set_ne w] at h; exact h
    · rename_i ds hs
      cases l'
      obtain ⟨v', h1, h2⟩ := g.rel.at_ i _ hs
      have z : some (some v') = some (some v) := h1.symm.trans q
      cases z
      have hx : x = .list ds := by
        have e' : R.viewR sl (.p i) = some x := e
        unfold R.viewR at e'
        simp only [hs, R.view] at e'
        exact (Option.some.inj e').symm
      subst hx
      have lo : lockOf sl (.p i) = [] := by unfold lockOf; simp only [hs]
      cases h2 with
      | big A b _ _ => cases b
      | lk ea la fa ra =>
        exact ⟨L, g, .refl _ _ _, fun F' H' L'' st' s => ⟨_, _, rfl, .inl (.inl (st'.zero ea la).1), ra.mono st'.fro⟩, fun j ds' h => .inl h, fun j hj => (by rw [lo] at hj; cases hj), fun a _ => rfl, fun j t h => ⟨t, h⟩, fun j h => h, fun j d h => h, fun j o h _ => h⟩
    · rename_i ds hs
      cases l'
      obtain ⟨v', h1, h2⟩ := g.rel.at_ i _ hs
      have z : some (some v') = some (some v) := h1.symm.trans q
      cases z
      have hx : x = .list ds := by
        have e' : R.viewR sl (.p i) = some x := e
        unfold R.viewR at e'
        simp only [hs] at e'
        exact (Option.some.inj e').symm
      subst hx
      have lo : lockOf sl (.p i) = [] := by unfold lockOf; simp only [hs]
      cases h2 with
      | big A b _ _ => cases b
      | ro qa ra =>
        exact ⟨L, g, .refl _ _ _, fun F' H' L'' st' s => ⟨_, _, rfl, sqL_mono s (sqL_mono st'.fro qa), ra.mono st'.fro⟩, fun j ds' h => .inl h, fun j hj => (by rw [lo] at hj; cases hj), fun a _ => rfl, fun j t h => ⟨t, h⟩, fun j h => h, fun j d h => h, fun j o h _ => h⟩
    · rename_i kvs hs
      cases l'
      obtain ⟨v', h1, h2⟩ := g.rel.at_ i _ hs
      have z : some (some v') = some (some v) := h1.symm.trans q
      cases z
      have hx : x = .dict ((.bool true, .none) :: kvs) := by
        have e' : R.viewR sl (.p i) = some x := e
        unfold R.viewR at e'
        simp only [hs] at e'
        exact (Option.some.inj e').symm
      subst hx
      have lo : lockOf sl (.p i) = [] := by unfold lockOf; simp only [hs]
      cases h2 with
      | big A b _ _ => cases b
      | lkd qa ra =>
        exact ⟨L, g, .refl _ _ _, fun F' H' L'' st' s => .inr (.inr ⟨_, _, _, _, rfl, rfl, st'.fro _ _ qa, ra.mono st'.fro⟩), fun j ds' h => .inl h, fun j hj => (by rw [lo] at hj; cases hj), fun a _ => rfl, fun j t h => ⟨t, h⟩, fun j h => h, fun j d h => h, fun j o h _ => h⟩
    · cases l'
  | q _ _ => exact q.elim
/-- the locks opened -/
theorem unlock_ok {F0 H0 : Hp} {L0 : Lbl} : ∀ (is : List Nat) {sl sl' : Sl} {L : Lbl}, G K F H L σ sl → Stp F0 H0 L0 F H L → (∀ i ∈ is, ∃ a, σ[i]? = some (some (.ref a)) ∧ L0 a = i + 2) → (∀ (j : Nat) ds, sl[j]? = some (some (.lk ds)) → j ∈ is ∨ ∃ b, σ[j]? = some (some (.ref b)) ∧ L0 b = 0) → unlock sl is = some sl' →
    ∃ L', G K F H L' σ sl' ∧ Stp F0 H0 L0 F H L' ∧ (∀ (j : Nat) ds, sl'[j]? = some (some (.lk ds)) → sl[j]? = some (some (.lk ds)) ∧ j ∉ is) ∧ ∀ a, L' a = L a ∨ (∃ i ∈ is, σ[i]? = some (some (.ref a)))
  | [], sl, sl', L, g, st, _, _, h => by
    cases (Option.some.inj h)
    exact ⟨L, g, st, fun j ds e => ⟨e, by simp⟩, fun a => .inl rfl⟩
  | i :: is, sl, sl', L, g, st, k, kb, h => by
    unfold unlock at h
    split at h
    · rename_i ds hs
      have hi : i < sl.length := (List.getElem?_eq_some_iff.mp hs).1
      obtain ⟨v, h1, h2⟩ := g.rel.at_ i _ hs
      obtain ⟨a, h3, h4⟩ := k i List.mem_cons_self
      rw [h1] at h3; cases h3
      cases h2 with
      | big A b _ _ => cases b
      | lk ea la fa ra =>
        have st' : Stp F0 H0 L0 F H (fun b => if b = a then i + 2 else L b) := ⟨st.fro, st.out, fun b hb => by
          by_cases w : b = a
          · exact .inl (by rw [w, h4]; omega)
          · rw [if_neg w] at hb; exact st.own b hb, st.new⟩
        have g' : G K F H (fun b => if b = a then i + 2 else L b) σ (sl.set i (some (.lst ds))) := by
          refine ⟨⟨g.ok.sub, fun b hb => ?_, fun b hb => ?_⟩, ⟨by rw [List.length_set]; exact g.rel.len, fun j t ht => ?_⟩, fun b hb => ?_⟩
          · by_cases w : b = a
            · rw [w]; exact fa
            · rw [if_neg w] at hb; exact g.ok.dis b hb
          · by_cases w : b = a
            · rw [w, ea]; simp
            · rw [if_neg w] at hb; exact g.ok.dom b hb
          · by_cases w : i = j
            · subst w
              rw [List.getElem?_set_self hi] at ht
              cases ht
              exact ⟨_, h1, .lst ea (if_pos rfl) ra⟩
            · rw [List.getElem?_set_ne w] at ht
              obtain ⟨u, h5, h6⟩ := g.rel.at_ j t ht
              refine ⟨u, h5, ?_⟩
              cases h6 with
              | fz r => exact .fz r
              | ro q r => exact .ro q r
              | lkd q r => exact .lkd q r
              | dct e l r =>
                refine .dct e ?_ r
                rw [if_neg]
                · exact l
                · intro z; rw [z, la] at l; omega
              | big A b c d => exact .big A b (fun x hx => ⟨by rw [if_neg (fun z => by rw [z] at hx; have := (c a hx).1; rw [la] at this; omega)]; exact (c x hx).1, (c x hx).2⟩) d
              | lst e l r =>
                refine .lst e ?_ r
                rw [if_neg]
                · exact l
                · intro z; rw [z, la] at l; omega
              | lk e l f r =>
                rename_i b us ds'
                by_cases z : b = a
                · subst z
                  exfalso
                  rcases kb j _ ht with y | ⟨b', y1, y2⟩
                  · rcases List.mem_cons.mp y with y | y
                    · exact w y.symm
                    · obtain ⟨a', y1, y2⟩ := k j (List.mem_cons_of_mem _ y)
                      rw [h5] at y1; cases y1
                      omega
                  · rw [h5] at y1; cases y1
                    omega
                · exact .lk e (by rw [if_neg z]; exact l) f r
          · by_cases w : b = a
            · rw [if_pos w] at hb; omega
            · rw [if_neg w] at hb; exact g.tmp b hb
        obtain ⟨L2, g2, s2, h5, h6⟩ := unlock_ok is g' st' (fun j hj => k j (List.mem_cons_of_mem _ hj)) (fun j ds' hj => by
          by_cases w : i = j
          · subst w
            rw [List.getElem?_set_self hi] at hj; cases hj
          · rw [List.getElem?_set_ne w] at hj
            rcases kb j ds' hj with y | y
            · rcases List.mem_cons.mp y with y | y
              · exact absurd y.symm w
              · exact .inl y
            · exact .inr y) h
        refine ⟨L2, g2, s2, fun j ds' e => ?_, fun b => ?_⟩
        · obtain ⟨e1, e2⟩ := h5 j ds' e
          by_cases w : i = j
          · subst w
            rw [List.getElem?_set_self hi] at e1; cases e1
          · rw [List.getElem?_set_ne w] at e1
            exact ⟨e1, by simp only [List.mem_cons, not_or]; exact ⟨fun z => w z.symm, e2⟩⟩
        · by_cases w : b = a
          · exact .inr ⟨i, List.mem_cons_self, by rw [w]; exact h1⟩
          · rcases h6 b with z | ⟨j, hj, z⟩
            · exact .inl (by rw [z, if_neg w])
            · exact .inr ⟨j, List.mem_cons_of_mem _ hj, z⟩
    · cases h
end
end Md

/-! Md, part L: list comprehensions. -/
namespace Md
open PySem PySem.Spec
open PyProof.Rows L2
variable [Wd]

section
variable {K : PySem.W.Frag} {σ : L2.St} {F H : Hp} {L : Lbl} {sl sl' : Sl}
omit [Wd] in
theorem wipeS_len : ∀ (sl : Sl) (vs : List Nat), (Md.wipe sl vs).length = sl.length
  | sl, [] => rfl
  | sl, v :: vs => by unfold Md.wipe; rw [List.length_set, wipeS_len sl vs]
theorem wipeS_get : ∀ {sl : Sl} {vs : List Nat} {i : Nat} {t : T}, (Md.wipe sl vs)[i]? = some (some t) → sl[i]? = some (some t) ∧ i ∉ vs
  | sl, [], i, t, h => ⟨h, by simp⟩
  | sl, v :: vs, i, t, h => by
    unfold Md.wipe at h
    by_cases q : v = i
    · subst q
      by_cases z : v < (Md.wipe sl vs).length
      · rw [List.getElem?_set_self z] at h; cases h
      · rw [List.getElem?_eq_none (by simpa using z)] at h; cases h
    · rw [List.getElem?_set_ne q] at h
      obtain ⟨h1, h2⟩ := wipeS_get h
      exact ⟨h1, by simp only [List.mem_cons, not_or]; exact ⟨fun z => q z.symm, h2⟩⟩
theorem wipe_get' {σ : L2.St} {i : Nat} : ∀ {vs : List Nat}, i ∉ vs → (L2.wipe σ vs)[i]? = σ[i]?
  | [], _ => rfl
  | v :: vs, h => by
    unfold L2.wipe
    rw [List.getElem?_set_ne (fun z => h (by rw [z]; exact List.mem_cons_self))]
    exact wipe_get' fun z => h (List.mem_cons_of_mem _ z)
theorem wipe_in {σ : L2.St} {i : Nat} : ∀ {vs : List Nat}, i ∈ vs → i < σ.length → (L2.wipe σ vs)[i]? = some none
  | [], h, _ => by cases h
  | v :: vs, h, hl => by
    unfold L2.wipe
    by_cases q : v = i
    · subst q
      rw [List.getElem?_set_self (by rw [L2.wipe_length]; exact hl)]
    · rw [List.getElem?_set_ne q]
      exact wipe_in ((List.mem_cons.mp h).resolve_left fun z => q z.symm) hl
theorem wipe_eq {σ σ2 : L2.St} {vs : List Nat} (hl : σ2.length = σ.length) (h : ∀ j, j ∉ vs → σ2[j]? = (L2.wipe σ vs)[j]?) : L2.wipe σ2 vs = L2.wipe σ vs := by
  apply List.ext_getElem?
  intro i
  by_cases hi : i ∈ vs
  · by_cases hl2 : i < σ.length
    · rw [wipe_in hi hl2, wipe_in hi (by omega)]
    · rw [List.getElem?_eq_none (by rw [L2.wipe_length]; omega), List.getElem?_eq_none (by rw [L2.wipe_length]; omega)]
  · rw [wipe_get' hi, h i hi]
theorem Rel.wipe (h : Rel K F H L σ sl) (vs : List Nat) : Rel K F H L (L2.wipe σ vs) (Md.wipe sl vs) := ⟨by rw [wipeS_len, L2.wipe_length]; exact h.len, fun i t e => by
  obtain ⟨e1, e2⟩ := wipeS_get e
  obtain ⟨v, h1, h2⟩ := h.at_ i t e1
  exact ⟨v, by rw [wipe_get' e2]; exact h1, h2⟩⟩
theorem Lkb.wipe (sl : Sl) (vs : List Nat) : Lkb sl (Md.wipe sl vs) := fun i ds h => (wipeS_get h).1
theorem plainAt_of : ∀ {sl : Sl} {vs : List Nat}, plainAt sl vs = true → ∀ v ∈ vs, sl[v]? = some none ∨ ∃ d, sl[v]? = some (some (.fz d))
  | sl, [], _, v, hv => by cases hv
  | sl, u :: us, h, v, hv => by
    rw [plainAt, Bool.and_eq_true] at h
    rcases List.mem_cons.mp hv with rfl | hv
    · have h1 := h.1
      split at h1
      · exact .inl (by assumption)
      · exact .inr ⟨_, by assumption⟩
      · cases h1
    · exact plainAt_of h.2 v hv
omit [Wd] in
theorem restore_len : ∀ (old sl : Sl) (vs : List Nat), (restore old sl vs).length = sl.length
  | old, sl, [] => rfl
  | old, sl, v :: vs => by
    unfold restore
    split
    · rw [List.length_set, restore_len old sl vs]
    · exact restore_len old sl vs
theorem restore_get : ∀ {old sl : Sl} {vs : List Nat} {i : Nat} {t : T}, (restore old sl vs)[i]? = some (some t) → (i ∈ vs ∧ old[i]? = some (some t)) ∨ (i ∉ vs ∧ sl[i]? = some (some t)) ∨ (i ∈ vs ∧ old[i]? = none)
  | old, sl, [], i, t, h => .inr (.inl ⟨by simp, h⟩)
  | old, sl, v :: vs, i, t, h => by
    unfold restore at h
    by_cases q : v = i
    · subst q
      split at h
      · rename_i o ho
        by_cases z : v < (restore old sl vs).length
        · rw [List.getElem?_set_self z] at h
          exact .inl ⟨List.mem_cons_self, by rw [ho, ← h]⟩
        · rw [List.getElem?_eq_none (by simpa using z)] at h; cases h
      · rename_i ho
        exact .inr (.inr ⟨List.mem_cons_self, ho⟩)
    · have h' : (restore old sl vs)[i]? = some (some t) := by
        split at h
        · rw [List.getElem?_set_ne q] at h; exact h
        · exact h
      rcases restore_get h' with ⟨a, b⟩ | ⟨a, b⟩ | ⟨a, b⟩
      · exact .inl ⟨List.mem_cons_of_mem _ a, b⟩
      · exact .inr (.inl ⟨by simp only [List.mem_cons, not_or]; exact ⟨fun z => q z.symm, a⟩, b⟩)
      · exact .inr (.inr ⟨List.mem_cons_of_mem _ a, b⟩)
theorem view_lock {r r' : R} {x : Da} (l : lockR sl r = some sl') (e : r'.viewR sl = some x) : r'.viewR sl' = some x := by
  cases r with
  | t t => cases (show some sl = some sl' from l); exact e
  | q _ _ => cases l
  | p i =>
    have l' : (match sl[i]? with
      | some (some (.lst ds)) => some (sl.set i (some (.lk ds)))
      | some (some (.lk _)) => some sl
      | some (some (.ro _)) => some sl
      | some (some (.lkd _)) => some sl
      | _ => none) = some sl' := l
    split at l'
    · rename_i ds hs
      cases l'
      have hi : i < sl.length := (List.getElem?_eq_some_iff.mp hs).1
      cases r' with
      | t t => exact e
      | p j =>
        by_cases w : i = j
        · subst w
          have e' : R.viewR sl (.p i) = some x := e
          show R.viewR _ (.p i) = some x
          unfold R.viewR at e' ⊢
          simp only [hs, R.view, List.getElem?_set_self hi] at e' ⊢
          exact e'
        · have e' : R.viewR sl (.p j) = some x := e
          show R.viewR _ (.p j) = some x
          unfold R.viewR at e' ⊢
          simp only [R.view, List.getElem?_set_ne w] at e' ⊢
          exact e'
      | q j k =>
        by_cases w : i = j
        · subst w
          have e' : R.view sl (.q i k) = some x := e
          unfold R.view at e'
          simp only [hs] at e'
          cases e'
        · have e' : R.view sl (.q j k) = some x := e
          show R.view _ (.q j k) = some x
          unfold R.view at e' ⊢
          simp only [List.getElem?_set_ne w] at e' ⊢
          exact e'
    · cases l'; exact e
    · cases l'; exact e
    · cases l'; exact e
    · cases l'
/-- a foreign object changes -/
theorem updD_G {D : Addr} {o : HO} (g : G K F H L σ sl) (lD : L D = 0) (fD : F D = none) (nl : ∀ (j : Nat) ds a, sl[j]? = some (some (.lk ds)) → σ[j]? = some (some (.ref a)) → a ≠ D) : G K F (upd H D o) L σ sl := by
  refine ⟨⟨fun a u e => ?_, g.ok.dis, fun a h => ?_⟩, ⟨g.rel.len, fun i t e => ?_⟩, g.tmp⟩
  · have : a ≠ D := fun z => by rw [z, fD] at e; cases e
    rw [upd_ne this]; exact g.ok.sub a u e
  · have : a ≠ D := fun z => h (by rw [z]; exact lD)
    rw [upd_ne this]; exact g.ok.dom a h
  · obtain ⟨v, h1, h2⟩ := g.rel.at_ i t e
    refine ⟨v, h1, ?_⟩
    cases h2 with
    | fz r => exact .fz r
    | ro q r => exact .ro q r
    | lst a b c => exact .lst (by rw [upd_ne (fun z => by rw [z, lD] at b; omega)]; exact a) b c
    | lk a b f c => exact .lk (by rw [upd_ne (nl i _ _ e h1)]; exact a) b f c
    | lkd a b => exact .lkd a b
    | dct a b c => exact .dct (by rw [upd_ne (fun z => by rw [z, lD] at b; omega)]; exact a) b c
    | big A b c d =>
      have nD : ∀ a ∈ A, a ≠ D := fun a ha z => by
        have := (c a ha).1
        rw [z, lD] at this
        omega
      exact .big A b (fun a ha => ⟨(c a ha).1, by rw [upd_ne (nD a ha)]; exact (c a ha).2⟩) (d.mono (Same.refl _) fun a ha => upd_ne (nD a ha))
theorem Stp.updD {F0 H0 : Hp} {L0 : Lbl} {D : Addr} {o : HO} (st : Stp F0 H0 L0 F H L) (hD : H0 D = none) : Stp F0 H0 L0 F (upd H D o) L := ⟨st.fro, fun a u e l => by rw [upd_ne (ne_of_none e hD)]; exact st.out a u e l, st.own, st.new⟩
end

section
variable {X : Cx} {p : Cp} {cb : Nat → List T → FRes} {Xq : XQ}
/-- a comprehension's block -/
abbrev blkX (X : Cx) (sc : Scope) (s : Shared) (H : Hp) (Cc : Addr) (cl : List (Str × Addr)) (fp : List Addr) : Cx := X.blk s H sc (compEnvC sc cl Cc X.env) fp
abbrev Cp.blk (p : Cp) (sc : Scope) : Cp := { p with sc := relS sc p.sc, fl := false }
theorem Cd.blk (C : Cd X p) (sc : Scope) (s : Shared) (H : Hp) (Cc : Addr) (cl : List (Str × Addr)) (fp : List Addr) : Cd (blkX X sc s H Cc cl fp) (p.blk sc) :=
  ⟨C.N, by show relabel sc X.env = relS sc p.sc; rw [← C.sc]; rfl, C.nd, C.calm, fun h => Bool.noConfusion h, C.free, C.con, C.units, C.wd⟩
abbrev XF : XQ := fun _ _ _ _ _ _ => False
/-- what a turn does -/
def lcBody (p : Cp) (cb : Nat → List T → FRes) (elt cond : E) (has : Bool) : Sl → Res (Option Da) := fun s => (if has then testOf (ev p.P p.np cb cond s) else .ok true s).bind fun k s1 => if k then (ev p.P p.np cb elt s1).bind fun re s2 => (match re.take s2 with
                | some (w, s3) => .ok (some w) s3
                | none => .no) else .ok none s1
theorem own_slots (p : Cp) (is : List Nat) : (is.map (own1 p)).map (·.2) = is := by
  rw [List.map_map]
  simp [own1, Function.comp_def]

/-- the readings of the target, of the element: over every block -/
def gRd (X : Cx) (sc : Scope) (te : Expr) : TG := fun v σ H Q => ∀ s H0 Cc cl fp, WG (blkX X sc s H0 Cc cl fp) te v σ H Q
def eRd (X : Cx) (sc : Scope) (ee : Expr) : TE := fun σ H Q => ∀ s H0 Cc cl fp, WE (blkX X sc s H0 Cc cl fp) ee σ H Q
theorem gRd_ok {sc : Scope} {te : Expr} : ∀ s H Cc cl fp, PG (blkX X sc s H Cc cl fp) te (gRd X sc te) := fun s H Cc cl fp => ⟨fun pins s' σ H' v u Q I r h => h s H Cc cl fp pins s' u I r⟩
theorem eRd_ok {sc : Scope} {ee : Expr} : ∀ s H Cc cl fp, PE (blkX X sc s H Cc cl fp) ee (eRd X sc ee) := fun s H Cc cl fp => ⟨fun pins s' σ H' Q I h => h s H Cc cl fp pins s' I⟩
theorem lc_rd (C : Cd X p) {elt a b c cond : E} {tg : Tg} {k : IK} {has : Bool} {ee te ie : Expr} {ifs : List Expr} {sc : Scope} (hb : blkC p.N p.sc sc (tg.slots.map (own1 p)) = true) (hi : SI X p cb Xq k a b c te ie)
    (ht : ckTg (p.blk sc) tg te = true) (he : ∀ s H Cc cl fp, SE (blkX X sc s H Cc cl fp) (p.blk sc) cb XF elt ee)
    (hc : (ifs = [] ∧ has = false) ∨ ∃ ce, ifs = [ce] ∧ has = true ∧ ∀ s H Cc cl fp, ST (blkX X sc s H Cc cl fp) (p.blk sc) cb XF cond ce) : ∃ tt : TT, (∀ s H Cc cl fp, PTs (blkX X sc s H Cc cl fp) ifs tt) ∧ ∀ (σ : L2.St) (sl : Sl) (F H : Hp) (L : Lbl) (Q : VK), G X.K F H L σ sl →
      RsQ X.K σ Xq F H L sl (PQ X.K σ Q) (ev p.P p.np cb (.lc elt tg k a b c cond has) sl) → tLc (WI X te ie) (gRd X sc te) tt (eRd X sc ee) ((tg.slots.map (own1 p)).map (·.2)) σ H Q := by
  have hPT : ∃ tt : TT, (∀ s H Cc cl fp, PTs (blkX X sc s H Cc cl fp) ifs tt) ∧ ∀ (σ : L2.St) (sl : Sl) (F H : Hp) (L : Lbl) (Q1 : Bool → Hp → Prop) (P : Option Da → Sl → Hp → Hp → Lbl → Prop), G X.K F H L σ sl → RsQ X.K σ XF F H L sl P (lcBody p cb elt cond has sl) →
      (∀ k sl1 F1 H1 L1, G X.K F1 H1 L1 σ sl1 → RsQ X.K σ XF F1 H1 L1 sl1 P (if k then (ev p.P p.np cb elt sl1).bind fun re s2 => (match re.take s2 with
                | some (w, s3) => .ok (some w) s3
                | none => .no) else .ok none sl1) → Q1 k H1) → tt σ H Q1 := by
    rcases hc with ⟨e1, e2⟩ | ⟨ce, e1, e2, hce⟩
    · subst e1 e2
      exact ⟨tYes, fun s H Cc cl fp => pts_nil, fun σ sl F H L Q1 P g h k => k true sl F H L g h⟩
    · subst e1 e2
      refine ⟨fun σ H Q => ∀ s H0 Cc cl fp, WT (blkX X sc s H0 Cc cl fp) ce σ H Q, fun s H Cc cl fp => pts_one ⟨fun pins s' σ H' Q I h => h s H Cc cl fp pins s' I⟩, fun σ sl F H L Q1 P g h k s H0' Cc cl fp => ?_⟩
      exact (hce s H0' Cc cl fp).step g h k
  obtain ⟨tt, hPTs, htt⟩ := hPT
  refine ⟨tt, hPTs, fun σ sl0 F0 H0 L0 Q g0 h0 => ?_⟩
  rw [own_slots]
  show WI X te ie σ H0 _
  have h0' : RsQ X.K σ Xq F0 H0 L0 sl0 (PQ X.K σ Q) ((itr k (ev p.P p.np cb a) (ev p.P p.np cb b) (ev p.P p.np cb c) sl0).bind fun w sl3 => match lockR sl3 w.2.1 with
    | some sl4 => match lockR sl4 w.2.2 with
      | some sl5 => if plainAt sl5 tg.slots then
          (match lcGo p.np tg (lcBody p cb elt cond has) w.1 [] (Md.wipe sl5 tg.slots) with
          | .ok out s => (match unlock (restore sl5 s tg.slots) (lockOf sl4 w.2.2 ++ lockOf sl3 w.2.1) with
            | some s' => .ok (.t (.lst out)) s'
            | none => .no)
          | _ => .no)
        else .no
      | none => .no
    | none => .no) := h0
  refine hi σ sl0 F0 H0 L0 _ g0 (h0'.bind.imp fun w sl3 F3 H3 L3 A3 h3 n3 va vb x y qa qb ea eb J io => ?_)
  have g3 : G X.K F3 H3 L3 σ sl3 := ⟨A3.ok, A3.rel, n3⟩
  intro D hD
  -- the locks
  cases l1 : lockR sl3 w.2.1 with
  | none => simp only [l1] at h3; exact h3.elim
  | some sl4 =>
  obtain ⟨L4, g4, st4, src4, back4, own4, lab4, dom4, none4, fz4, eq4⟩ := lock1 g3 qa ea l1
  cases l2 : lockR sl4 w.2.2 with
  | none => simp only [l1, l2] at h3; exact h3.elim
  | some sl5 =>
  have eb4 : w.2.2.viewR sl4 = some y := view_lock l1 eb
  obtain ⟨L5, g5, st5, src5, back5, own5, lab5, dom5, none5, fz5, eq5⟩ := lock1 g4 qb eb4 l2
  by_cases pl : plainAt sl5 tg.slots = true
  case neg => simp only [l1, l2, pl] at h3; exact h3.elim
  simp only [l1, l2, pl, if_true] at h3
  have stl : Stp F3 H3 L3 F3 H3 L5 := st4.trans st5
  -- what is wanted at the end
  let lks := lockOf sl4 w.2.2 ++ lockOf sl3 w.2.1
  let Fin : Res (List Da) → Prop := fun r => match r with
    | .ok out s => (match unlock (restore sl5 s tg.slots) lks with
      | some s' => RsQ X.K σ Xq F3 H3 L3 sl3 (PQ X.K σ Q) (.ok (.t (.lst out)) s')
      | none => False)
    | _ => False
  have fin0 : Fin (lcGo p.np tg (lcBody p cb elt cond has) w.1 [] (Md.wipe sl5 tg.slots)) := by
    cases e : lcGo p.np tg (lcBody p cb elt cond has) w.1 [] (Md.wipe sl5 tg.slots) with
    | ok out s =>
      simp only [e] at h3
      show (match unlock (restore sl5 s tg.slots) lks with
      | some s' => RsQ X.K σ Xq F3 H3 L3 sl3 (PQ X.K σ Q) (.ok (.t (.lst out)) s')
      | none => False)
      cases e2 : unlock (restore sl5 s tg.slots) lks with
      | none => simp only [lks] at e2; simp only [e2] at h3; exact h3
      | some s' => simp only [lks] at e2; simp only [e2] at h3; exact h3
    | ex _ _ _ => simp only [e] at h3; exact h3
    | no => simp only [e] at h3; exact h3
  let Lp : Nat → Hp → Prop := fun i H => ∃ (F : Hp) (L : Lbl) (sl : Sl) (accV : List V) (accD : List Da), H D = some (.lst accV) ∧ L D = 0 ∧ F D = none ∧ G X.K F H L (L2.wipe σ tg.slots) sl ∧ Stp F3 H3 L5 F H L ∧ Lkb (Md.wipe sl5 tg.slots) sl ∧ RpA X.K F accV accD ∧
    Fin (lcGo p.np tg (lcBody p cb elt cond has) (w.1.drop i) accD sl)
  have nlk : ∀ {sl : Sl}, Lkb (Md.wipe sl5 tg.slots) sl → ∀ (j : Nat) ds a, sl[j]? = some (some (.lk ds)) → (L2.wipe σ tg.slots)[j]? = some (some (.ref a)) → a ≠ D := fun {sl} hl j ds a e1 e2 z => by
    obtain ⟨e3, e4⟩ := wipeS_get (hl j ds e1)
    obtain ⟨v', e5, e6⟩ := g5.rel.at_ j _ e3
    rw [wipe_get' e4, e5] at e2
    cases e2
    cases e6 with
    | big A b _ _ => cases b
    | lk h _ _ _ => rw [z, hD] at h; cases h
  have updN : ∀ {F H : Hp} {L : Lbl} {sl : Sl} {o : HO}, G X.K F H L (L2.wipe σ tg.slots) sl → L D = 0 → F D = none → Lkb (Md.wipe sl5 tg.slots) sl → G X.K F (upd H D o) L (L2.wipe σ tg.slots) sl := fun g lD fD hl => updD_G g lD fD (nlk hl)
  refine ⟨fun i m H => m = w.1.length - i ∧ i ≤ w.1.length ∧ Lp i H, ⟨w.1.length, by simp, Nat.zero_le _, ?_⟩, ?_⟩
  · refine ⟨F3, L5, Md.wipe sl5 tg.slots, [], [], upd_same, g5.ok.zero hD, g5.ok.fn hD, updN ⟨g5.ok, g5.rel.wipe _, g5.tmp⟩ (g5.ok.zero hD) (g5.ok.fn hD) (.refl _), (Stp.refl _ _ _).updD hD, .refl _, .nil, ?_⟩
    rw [List.drop_zero]
    exact fin0
  · rintro i m H ⟨rfl, hi, F, L, sl, accV, accD, hDv, lD, fD, g, st, hl, ra, fin⟩
    have vx : VwR X.K F H va x := src4 F H L (st5.trans st) g.ok.sub
    have vy : VwR X.K F H vb y := src5 F H L st g.ok.sub
    by_cases hlt : i < w.1.length
    · -- a turn
      refine .inr ⟨io.go F H st.fro i g.ok.sub vx vy hlt, Lp (i + 1), fun H' hp => ⟨w.1.length - (i + 1), by omega, rfl, hlt, hp⟩, fun v H' yl => ?_⟩
      obtain ⟨F1, g1, s1, d, hd, rv⟩ := io.yld F H st.fro L _ sl i v H' g vx vy hlt yl
      have hdrop : w.1.drop i = d :: w.1.drop (i + 1) := by
        rw [List.drop_eq_getElem_cons hlt]
        congr 1
        have := List.getElem?_eq_getElem hlt
        rw [this] at hd
        exact Option.some.inj hd
      rw [hdrop] at fin
      have fin' : Fin (match tg.put p.np d sl with
        | none => .no
        | some sl1 => match lcBody p cb elt cond has sl1 with
          | .ok none sl2 => lcGo p.np tg (lcBody p cb elt cond has) (w.1.drop (i + 1)) accD (Md.wipe sl2 tg.slots)
          | .ok (some w') sl2 => if decide (accD.length < sizeLine) then lcGo p.np tg (lcBody p cb elt cond has) (w.1.drop (i + 1)) (accD ++ [w']) (Md.wipe sl2 tg.slots) else .no
          | _ => .no) := fin
      cases ep : tg.put p.np d sl with
      | none => simp only [ep] at fin'; exact fin'.elim
      | some sl1 =>
      simp only [ep] at fin'
      intro s' H0' Cc cl fp
      refine tg_ok (C.blk sc s' H0' Cc cl fp) ht g1 rv ep fun σ2 g2 lk2 ne2 => ?_
      have hlen : σ2.length = σ.length := by
        rw [← g2.rel.len, ← L2.wipe_length σ tg.slots, ← g1.rel.len]
        cases tg with
        | one j =>
          have ep' : putF p.np sl j d = some sl1 := ep
          rw [(putF_eq ep').1, List.length_set]
        | tup is =>
          cases d with
          | tuple ds =>
            have ep' : putAll p.np sl is ds = some sl1 := ep
            exact putAll_slen ep'
          | _ => cases ep
      have we : L2.wipe σ2 tg.slots = L2.wipe σ tg.slots := wipe_eq hlen ne2
      have hD1 : H' D = some (.lst accV) := (s1.zero hDv lD).1
      have fD1 : F1 D = none := s1.nof hDv lD fD
      refine ⟨we, ?_⟩
      -- behind a turn
      have behind : ∀ (o : Option Da) (sl2 : Sl) (F2 H2 : Hp) (L2' : Lbl), lcBody p cb elt cond has sl1 = .ok o sl2 → Aft X.K σ2 F1 H' L sl1 sl2 F2 H2 L2' → (∀ a, L2' a ≠ 1) →
          H2 D = some (.lst accV) ∧ L2' D = 0 ∧ F2 D = none ∧ G X.K F2 H2 L2' (L2.wipe σ tg.slots) (Md.wipe sl2 tg.slots) ∧ Stp F3 H3 L5 F2 H2 L2' ∧ Lkb (Md.wipe sl5 tg.slots) (Md.wipe sl2 tg.slots) ∧ RpA X.K F2 accV accD := fun o sl2 F2 H2 L2' eo A n => by
        obtain ⟨z1, z2⟩ := A.st.zero hD1 lD
        refine ⟨z1, z2, A.st.nof hD1 lD fD1, ⟨A.ok, ?_, n⟩, (st.trans s1).trans A.st, ?_, ra.mono (s1.fro.trans A.st.fro)⟩
        · rw [← we]; exact A.rel.wipe _
        · refine (hl.trans ?_).trans (A.lk.trans (Lkb.wipe _ _))
          exact fun j ds e => (lk2 j ds e).1
      refine htt σ2 sl1 F1 H' L _ (fun o sl2 F2 H2 L2' => (∀ a, L2' a ≠ 1) → match o with
        | none => Lp (i + 1) H2
        | some w' => ∀ yv, Rp X.K F2 yv w' → ∃ acc, H2 D = some (.lst acc) ∧ acc.length < sizeLine ∧ Lp (i + 1) (upd H2 D (.lst (acc ++ [yv])))) g2 ?_ ?_
      · cases eo : lcBody p cb elt cond has sl1 with
        | no => simp only [eo] at fin'; exact fin'.elim
        | ex _ _ _ => simp only [eo] at fin'; exact fin'.elim
        | ok o sl2 =>
          intro F2 H2 L2' A n
          obtain ⟨b1, b2, b3, b4, b5, b6, b7⟩ := behind o sl2 F2 H2 L2' eo A n
          simp only [eo] at fin'
          cases o with
          | none => exact ⟨F2, L2', _, accV, accD, b1, b2, b3, b4, b5, b6, b7, fin'⟩
          | some w' =>
            intro yv ry
            by_cases cz : decide (accD.length < sizeLine) = true
            · simp only [cz, if_true] at fin'
              refine ⟨accV, b1, by rw [b7.length]; exact of_decide_eq_true cz, F2, L2', _, accV ++ [yv], accD ++ [w'], upd_same, b2, b3, updN b4 b2 b3 b6, b5.updD hD, b6, b7.append (.cons ry .nil), fin'⟩
            · rw [Bool.not_eq_true] at cz
              simp only [cz] at fin'
              exact fin'.elim
      · intro kb sl1' F2 H2 L2' g2' hk
        cases kb with
        | false => exact hk F2 H2 L2' g2'.aft g2'.tmp
        | true =>
          intro s2 H02 Cc2 cl2 fp2
          refine SE.stepT (he s2 H02 Cc2 cl2 fp2) g2' hk (fun r sl2 yv w' sl3' F4 H4 L4' et g4' st4' lk4 ry h4 => ?_) fun r sl2 e => by simp only [e]
          simp only [et] at h4
          exact h4 F4 H4 L4' g4'.aft g4'.tmp yv ry
    · -- the end
      have ei : i = w.1.length := by omega
      subst ei
      refine .inl ⟨io.stop F H st.fro _ g.ok.sub vx vy (Nat.le_refl _), ?_⟩
      rw [List.drop_length] at fin
      have fin' : (match unlock (restore sl5 sl tg.slots) lks with
        | some s' => RsQ X.K σ Xq F3 H3 L3 sl3 (PQ X.K σ Q) (.ok (.t (.lst accD)) s')
        | none => False) := fin
      cases eu : unlock (restore sl5 sl tg.slots) lks with
      | none => simp only [eu] at fin'
      | some s' =>
      simp only [eu] at fin'
      have gr : G X.K F H L σ (restore sl5 sl tg.slots) := ⟨g.ok, ⟨by rw [restore_len, g.rel.len, L2.wipe_length], fun j t ht => by
        rcases restore_get ht with ⟨h1, h2⟩ | ⟨h1, h2⟩ | ⟨h1, h2⟩
        · rcases plainAt_of pl j h1 with z | ⟨d, z⟩
          · rw [z] at h2; cases h2
          · rw [z] at h2; cases h2
            obtain ⟨v', h3', h4⟩ := g5.rel.at_ j _ z
            refine ⟨v', h3', ?_⟩
            cases h4 with
            | big A b _ _ => cases b
            | fz r => exact .fz (r.mono st.fro)
        · obtain ⟨v', h3', h4⟩ := g.rel.at_ j _ h2
          exact ⟨v', by rw [← wipe_get' h1]; exact h3', h4⟩
        · rcases plainAt_of pl j h1 with z | ⟨d, z⟩
          · rw [z] at h2; cases h2
          · rw [z] at h2; cases h2⟩, g.tmp⟩
      have lkr : ∀ (j : Nat) ds, (restore sl5 sl tg.slots)[j]? = some (some (.lk ds)) → sl5[j]? = some (some (.lk ds)) := fun j ds e => by
        rcases restore_get e with ⟨h1, h2⟩ | ⟨h1, h2⟩ | ⟨h1, h2⟩
        · exact h2
        · exact (wipeS_get (hl j ds h2)).1
        · rcases plainAt_of pl j h1 with z | ⟨d, z⟩
          · rw [z] at h2; cases h2
          · rw [z] at h2; cases h2
      have own : ∀ j ∈ lks, ∃ a, σ[j]? = some (some (.ref a)) ∧ L3 a = j + 2 := fun j hj => by
        rcases List.mem_append.mp hj with z | z
        · obtain ⟨a, h1, h2⟩ := own5 j z
          exact ⟨a, h1, by rw [← lab4 a (by rw [h2]; omega)]; exact h2⟩
        · exact own4 j z
      have kb : ∀ (j : Nat) ds, (restore sl5 sl tg.slots)[j]? = some (some (.lk ds)) → j ∈ lks ∨ ∃ b, σ[j]? = some (some (.ref b)) ∧ L3 b = 0 := fun j ds e => by
        rcases back5 j ds (lkr j ds e) with z | z
        · rcases back4 j ds z with y' | y'
          · obtain ⟨v', h1, h2⟩ := g3.rel.at_ j _ y'
            cases h2 with
            | big A b _ _ => cases b
            | lk _ lz _ _ => exact .inr ⟨_, h1, lz⟩
          · exact .inl (List.mem_append_right _ y')
        · exact .inl (List.mem_append_left _ z)
      obtain ⟨L6, g6, st6, lk6, lab6⟩ := unlock_ok lks gr (stl.trans st) own kb eu
      have lD6 : L6 D = 0 := by
        rcases lab6 D with z | ⟨j, hj, z⟩
        · rw [z]; exact lD
        · obtain ⟨a, h1, h2⟩ := own j hj
          rw [h1] at z; cases z
          exact absurd h2 (by rw [g3.ok.zero hD]; omega)
      -- the new list is the expression's own
      have st7 : Stp F3 H3 L3 F H (fun b => if b = D then 1 else L6 b) := ⟨st6.fro, st6.out, fun b hb => by
        by_cases z : b = D
        · exact .inr (by rw [z]; exact hD)
        · rw [if_neg z] at hb; exact st6.own b hb, st6.new⟩
      refine fin' F H (fun b => if b = D then 1 else L6 b) ⟨⟨g6.ok.sub, fun b hb => ?_, fun b hb => ?_⟩, ⟨g6.rel.len, fun j t ht => ?_⟩, st7, fun j ds e => ?_⟩ (.ref D) ⟨.lst hDv (if_pos rfl) ra, rfl⟩
      · by_cases z : b = D
        · rw [z]; exact fD
        · rw [if_neg z] at hb; exact g6.ok.dis b hb
      · by_cases z : b = D
        · rw [z, hDv]; simp
        · rw [if_neg z] at hb; exact g6.ok.dom b hb
      · obtain ⟨v', h1, h2⟩ := g6.rel.at_ j t ht
        refine ⟨v', h1, ?_⟩
        cases h2 with
        | fz r => exact .fz r
        | ro q r => exact .ro q r
        | lkd q r => exact .lkd q r
        | dct e l r => exact .dct e (by rw [if_neg (fun z => by rw [z, lD6] at l; omega)]; exact l) r
        | big A b c d => exact .big A b (fun a ha => ⟨by rw [if_neg (fun z => by have := (c a ha).1; rw [z, lD6] at this; omega)]; exact (c a ha).1, (c a ha).2⟩) d
        | lst e l r => exact .lst e (by rw [if_neg (fun z => by rw [z, lD6] at l; omega)]; exact l) r
        | lk e l f r =>
          rename_i b us ds
          refine .lk e ?_ f r
          by_cases z : b = D
          · exfalso
            obtain ⟨e1, e2⟩ := lk6 j _ ht
            have e3 := lkr j _ e1
            obtain ⟨v2, h3', h4⟩ := g5.rel.at_ j _ e3
            rw [h1] at h3'; cases h3'
            cases h4 with
            | big A b _ _ => cases b
            | lk h _ _ _ => rw [z, hD] at h; cases h
          · rw [if_neg z]; exact l
      · obtain ⟨e1, e2⟩ := lk6 j ds e
        rcases back5 j ds (lkr j ds e1) with z | z
        · rcases back4 j ds z with y' | y'
          · exact y'
          · exact absurd (List.mem_append_right _ y') e2
        · exact absurd (List.mem_append_left _ z) e2
theorem se_lc {pos : Pos} {elt a b c cond : E} {tg : Tg} {k : IK} {has : Bool} {ee te ie : Expr} {ifs : List Expr} {sc : Scope} (hfd : ∀ x, foldedSetIterable ie X.env x = pure x) (C : Cd X p) (hb : blkC p.N p.sc sc (tg.slots.map (own1 p)) = true) (hi : SI X p cb Xq k a b c te ie)
    (ht : ckTg (p.blk sc) tg te = true) (he : ∀ s H Cc cl fp, SE (blkX X sc s H Cc cl fp) (p.blk sc) cb XF elt ee)
    (hc : (ifs = [] ∧ has = false) ∨ ∃ ce, ifs = [ce] ∧ has = true ∧ ∀ s H Cc cl fp, ST (blkX X sc s H Cc cl fp) (p.blk sc) cb XF cond ce) : SE X p cb Xq (.lc elt tg k a b c cond has) (.ListComp ee [⟨te, ie, ifs, 0⟩] sc pos) := by
  have hN : X.N.Nodup := by rw [C.N]; exact C.nd
  have hbk : BlkOk X.N X.env.scope sc (tg.slots.map (own1 p)) := by rw [C.N, C.sc]; exact blkOk_by hb
  obtain ⟨tt, hPTs, rd⟩ := lc_rd C hb hi ht he hc
  exact fun σ sl F H L Q g h => we_of (pe_lc C.calm hN wi_pi hbk gRd_ok hPTs eRd_ok hfd) (rd σ sl F H L Q g h)
end
end Md

/-! Md, part M: every expression of the small language. -/
namespace Md
open PySem PySem.Spec
open PyProof.Rows L2
variable [Wd]

/-- the defs that may be called -/
structure Cl (X : Cx) (p : Cp) (cb : Nat → List T → FRes) : Prop where
  run : ∀ (f : Nat) (x : Str), p.fn f = some x → ∃ (np k : Nat) (ad : Addr) (fd : FuncData) (ps : List Str), FnOk X.prog X.w X.K X.mg X.base (L2.CX X.prog X.w) k ad fd ps (spF X.K cb f np) ∧ Room k X.A ∧ X.mg x = some (.ref ad) ∧
    PySem.W.keepIn X.K (.ref ad) = true ∧ Binds X.K fd ps [] ∧ ∀ ts, ts.length ≠ np → cb f ts = .no
section
variable {X : Cx} {p : Cp} {cb : Nat → List T → FRes} {Xq : XQ} {σ : L2.St} {F F1 H H1 : Hp} {L L1 : Lbl} {sl sl1 : Sl} {a b c d : E} {x y z : Expr} {pos : Pos}
theorem Cl.blk (c : Cl X p cb) (sc : Scope) (s : Shared) (H : Hp) (Cc : Addr) (cl : List (Str × Addr)) (fp : List Addr) : Cl (blkX X sc s H Cc cl fp) (p.blk sc) cb := ⟨c.run⟩
theorem star_any (pos : Pos) (env : Env) : ∀ es : List Expr, (∀ e ∈ es, Hd e) → (PySem.backTo pos (starEach es env)).any (·.1) = false
  | [], _ => rfl
  | e :: es, h => by
    rw [(h e List.mem_cons_self).star es env]
    show ((false : Bool) || (PySem.backTo pos (starEach es env)).any (·.1)) = false
    rw [star_any pos env es fun e he => h e (List.mem_cons_of_mem _ he)]; rfl
theorem hd_list {c : E} : ∀ {l : List Expr}, ckL p c l = true → ∀ e ∈ l, Hd e := by
  intro l h e he
  induction l generalizing c with
  | nil => cases he
  | cons y l ih =>
    cases c with
    | cons c1 c2 =>
      have h' : (ckE p c1 y && ckL p c2 l) = true := h
      rw [Bool.and_eq_true] at h'
      rcases List.mem_cons.mp he with rfl | he
      · exact hd_of h'.1
      · exact ih h'.2 he
    | _ => simp [ckL] at h
theorem se_nm {i : Nat} {n : Str} (C : Cd X p) (h : (decide (p.N[i]? = some n) && visB p.sc n && !dbg n) = true) : SE X p cb Xq (.nm i) (.Name n pos) := by
  simp only [Bool.and_eq_true, decide_eq_true_eq, Bool.not_eq_true'] at h
  obtain ⟨⟨h1, h2⟩, h3⟩ := h
  obtain ⟨d1, d2, d3⟩ := dbg_of h3
  intro σ sl F H L Q g hq
  refine we_of (pe_var (by rw [C.N]; exact h1) (by rw [C.sc]; exact vis_of h2) d1 d2) ?_
  have hq : RsQ X.K σ Xq F H L sl (PQ X.K σ Q) (match sl[i]? with
    | some (some (.fz w)) => .ok (.t (.fz w)) sl
    | some (some _) => .ok (.p i) sl
    | _ => .no) := hq
  split at hq
  · rename_i w e
    obtain ⟨v, e1, e2⟩ := g.rel.at_ i _ e
    exact ⟨v, e1, hq F H L g.aft v ⟨(by
      cases e2 with
      | fz r => exact .fz r
      | big A b _ _ => cases b), rfl⟩⟩
  · rename_i t n e
    obtain ⟨v, e1, e2⟩ := g.rel.at_ i _ e
    exact ⟨v, e1, hq F H L g.aft v ⟨e1, ⟨_, e⟩, g.tmp⟩⟩
  · exact hq.elim
theorem se_gl {n m : Str} (C : Cd X p) (h : (decide (n = m) && glB p.sc m && !dbg m && p.gs.contains m) = true) : SE X p cb Xq (.gl n) (.Name m pos) := by
  simp only [Bool.and_eq_true, decide_eq_true_eq, Bool.not_eq_true', List.contains_iff_mem] at h
  obtain ⟨⟨⟨rfl, h2⟩, h3⟩, h4⟩ := h
  obtain ⟨d1, d2, d3⟩ := dbg_of h3
  intro σ sl F H L Q g hq
  have hq : RsQ X.K σ Xq F H L sl (PQ X.K σ Q) (match p.P.const n with
    | some w => .ok (.t (.fz w)) sl
    | none => .no) := hq
  cases e : p.P.const n with
  | none => rw [e] at hq; exact hq.elim
  | some w =>
    rw [e] at hq
    obtain ⟨u, v, e1, e2, e3⟩ := C.con n w h4 e
    exact we_of (pe_glob (gl_X C h2) e1 e2 d1) (res_fz g hq (e3 F))
theorem se_bin {o : BOp} (ha : SE X p cb Xq a x) (hb : SE X p cb Xq b y) : SE X p cb Xq (.bin o a b) (.BinOp x o.op y pos) := by
  intro σ sl F H L Q g h
  refine we_of (pe_op wk2_ok we_pe we_pe) ?_
  show WE X x σ H fun v H1 => WE X y σ H1 fun u H2 => wk2 X _ v u H2 Q
  have h : RsQ X.K σ Xq F H L sl (PQ X.K σ Q) ((ev p.P p.np cb a sl).bind fun ra sl1 => (ev p.P p.np cb b sl1).bind fun rb sl2 => match ra.settle.view sl2, rb.settle.view sl2 with
    | some x, some y => two ((binop o x y).map own) sl2
    | _, _ => .no) := h
  refine ha.step g h fun ra sl1 v F1 H1 L1 g1 s1 q1 h1 => hb.step g1 h1 fun rb sl2 u F2 H2 L2 g2 s2 q2 h2 => ?_
  have q1 := q1.mono s2
  cases e1 : ra.settle.view sl2 with
  | none => simp only [e1] at h2; exact h2.elim
  | some d =>
    cases e2 : rb.settle.view sl2 with
    | none => simp only [e1, e2] at h2; exact h2.elim
    | some e =>
      simp only [e1, e2] at h2
      exact binop_ok g2 o d e (q1.view g2 e1) (q2.view g2 e2) h2
/-- an outcome as a test's -/
theorem test_of {r : Res R} {Q : Bool → Hp → Prop} {sl0 : Sl} (h : RsQ X.K σ Xq F H L sl0 (PT' Q) (testOf r)) : RsQ X.K σ Xq F H L sl0 (PQ X.K σ (fun x H' => ∃ k, x = .bl k ∧ Q k H')) r := by
  cases r with
  | no => exact h
  | ex c w s => exact h
  | ok r sl' =>
    intro F' H' L' A v hv
    obtain ⟨F2, L2, st, g2, q⟩ := settle1 A hv
    have h : RsQ X.K σ Xq F H L sl0 (PT' Q) (match r.settle.view sl' with
      | some (.bool k) => .ok k sl'
      | _ => .no) := h
    split at h
    · rename_i k e
      have w : Rp X.K F2 v (.bool k) := q.view g2 e
      cases w
      exact ⟨k, rfl, h F2 H' L2 ⟨g2.ok, g2.rel, A.st.trans st, A.lk⟩ g2.tmp⟩
    · exact h.elim
theorem cmp_core {o : COp} (C : Cd X p) (ha : SE X p cb Xq a x) (hb : SE X p cb Xq b y) {Q : VK} (g : G X.K F H L σ sl) (h : RsQ X.K σ Xq F H L sl (PQ X.K σ Q) (ev p.P p.np cb (.cmp o a b) sl)) : tOp (wk2 X (compareOp o.op)) (WE X x) (WE X y) σ H Q := by
  show WE X x σ H fun v H1 => WE X y σ H1 fun u H2 => wk2 X _ v u H2 Q
  have h : RsQ X.K σ Xq F H L sl (PQ X.K σ Q) ((ev p.P p.np cb a sl).bind fun ra sl1 => (ev p.P p.np cb b sl1).bind fun rb sl2 => match ra.settle.view sl2, rb.settle.view sl2 with
    | some x, some y => two ((compare o x y).map fun k => .fz (.bool k)) sl2
    | _, _ => .no) := h
  refine ha.step g h fun ra sl1 v F1 H1 L1 g1 s1 q1 h1 => hb.step g1 h1 fun rb sl2 u F2 H2 L2 g2 s2 q2 h2 => ?_
  have q1 := q1.mono s2
  cases e1 : ra.settle.view sl2 with
  | none => simp only [e1] at h2; exact h2.elim
  | some d =>
    cases e2 : rb.settle.view sl2 with
    | none => simp only [e1, e2] at h2; exact h2.elim
    | some e =>
      simp only [e1, e2] at h2
      exact compare_ok g2 C.units o d e (q1.view g2 e1) (q2.view g2 e2) h2
theorem se_cmp {o : COp} (C : Cd X p) (hd : Hd y) (ha : SE X p cb Xq a x) (hb : SE X p cb Xq b y) : SE X p cb Xq (.cmp o a b) (.Compare x [o.op] [y] pos) ∧ ST X p cb Xq (.cmp o a b) (.Compare x [o.op] [y] pos) :=
  ⟨fun σ sl F H L Q g h => we_of (pe_cmpR wk2_ok we_pe we_pe (hd.marks _)) (cmp_core C ha hb g h), fun σ sl F H L Q g h => wt_of (pt_cmpR wk2_ok we_pe we_pe (hd.marks _)) (cmp_core C ha hb g (test_of h))⟩
theorem chn_core {o o' : COp} (C : Cd X p) (ha : SE X p cb Xq a x) (hb : SE X p cb Xq b y) (hc : SE X p cb Xq c z) {Q : VK} (g : G X.K F H L σ sl) (h : RsQ X.K σ Xq F H L sl (PQ X.K σ Q) (ev p.P p.np cb (.chn o o' a b c) sl)) :
    tChain (wk2 X (compareOp o.op)) (wk2 X (compareOp o'.op)) (WE X x) (WE X y) (WE X z) σ H Q := by
  show WE X x σ H fun v H1 => WE X y σ H1 fun u H2 => wk2 X _ v u H2 _
  have h : RsQ X.K σ Xq F H L sl (PQ X.K σ Q) ((ev p.P p.np cb a sl).bind fun ra sl1 => (ev p.P p.np cb b sl1).bind fun rb sl2 => match ra.settle.view sl2, rb.settle.view sl2 with
    | some x, some y => match compare o x y with
      | some true => (ev p.P p.np cb c sl2).bind fun rc sl3 => match rb.settle.view sl3, rc.settle.view sl3 with
        | some y', some z => two ((compare o' y' z).map fun k => .fz (.bool k)) sl3
        | _, _ => .no
      | some false => .ok (.t (.fz (.bool false))) sl2
      | none => .no
    | _, _ => .no) := h
  refine ha.step g h fun ra sl1 v F1 H1 L1 g1 s1 q1 h1 => hb.step g1 h1 fun rb sl2 u F2 H2 L2 g2 s2 q2 h2 => ?_
  have q1 := q1.mono s2
  cases e1 : ra.settle.view sl2 with
  | none => simp only [e1] at h2; exact h2.elim
  | some d =>
    cases e2 : rb.settle.view sl2 with
    | none => simp only [e1, e2] at h2; exact h2.elim
    | some e =>
      simp only [e1, e2] at h2
      cases e3 : compare o d e with
      | none => rw [e3] at h2; exact h2.elim
      | some k =>
        rw [e3] at h2
        -- the first comparison leaves the state as it is
        refine compare_ok (Xq := Xq) (sl := sl2) g2 C.units o d e (q1.view g2 e1) (q2.view g2 e2) ?_
        rw [e3]
        intro F3 H3 L3 A v3 hv
        obtain ⟨F4, L4, st4, g4, q4⟩ := settle1 A hv
        have w : Rp X.K F4 v3 (.bool k) := q4
        cases w
        refine ⟨k, rfl, ?_⟩
        have st := A.st.trans st4
        cases k with
        | false =>
          rw [if_neg Bool.false_ne_true]
          exact res_fz g4 (h2.from st (.refl _)) (.bl _)
        | true =>
          rw [if_pos rfl]
          refine hc.step g4 (h2.from st (.refl _)) fun rc sl3 t F5 H5 L5 g5 s5 q5 h5 => ?_
          have q2' := q2.mono (st.fro.trans s5)
          cases e4 : rb.settle.view sl3 with
          | none => simp only [e4] at h5; exact h5.elim
          | some e' =>
            cases e5 : rc.settle.view sl3 with
            | none => simp only [e4, e5] at h5; exact h5.elim
            | some f =>
              simp only [e4, e5] at h5
              exact compare_ok g5 C.units o' e' f (q2'.view g5 e4) (q5.view g5 e5) h5
theorem se_chn {o o' : COp} (C : Cd X p) (hd : Hd y) (hd2 : Hd z) (ha : SE X p cb Xq a x) (hb : SE X p cb Xq b y) (hc : SE X p cb Xq c z) : SE X p cb Xq (.chn o o' a b c) (.Compare x [o.op, o'.op] [y, z] pos) ∧ ST X p cb Xq (.chn o o' a b c) (.Compare x [o.op, o'.op] [y, z] pos) :=
  ⟨fun σ sl F H L Q g h => we_of (pe_chain wk2_ok wk2_ok we_pe we_pe we_pe (hm := by show behindInMarks _ z = false; exact hd2.marks _)) (chn_core C ha hb hc g h), fun σ sl F H L Q g h => wt_of (pt_chain wk2_ok wk2_ok we_pe we_pe we_pe (hm := by show behindInMarks _ z = false; exact hd2.marks _)) (chn_core C ha hb hc g (test_of h))⟩
end
end Md

/-! Md, part N: tests, displays, calls. -/
namespace Md
open PySem PySem.Spec
open PyProof.Rows L2
variable [Wd]
section
variable {X : Cx} {p : Cp} {cb : Nat → List T → FRes} {Xq : XQ} {σ : L2.St} {F F1 H H1 : Hp} {L L1 : Lbl} {sl sl1 : Sl} {a b c d : E} {x y z : Expr} {pos : Pos}
theorem se_neg (ha : SE X p cb Xq a x) : SE X p cb Xq (.neg a) (.UnaryOp .USub x pos) := by
  intro σ sl F H L Q g h
  refine we_of (pe_un un_neg we_pe) ?_
  show WE X x σ H _
  have h : RsQ X.K σ Xq F H L sl (PQ X.K σ Q) ((ev p.P p.np cb a sl).bind fun ra sl1 => match ra.settle.view sl1 with
    | some (.int i) => .ok (.t (.fz (.int (-i)))) sl1
    | _ => .no) := h
  refine ha.step g h fun r sl1 v F1 H1 L1 g1 s q h1 => ?_
  split at h1
  · rename_i i e
    have w : Rp X.K F1 v (.int i) := q.view g1 e
    cases w
    exact ⟨i, rfl, res_fz g1 h1 (.int _)⟩
  · exact h1.elim
theorem se_not (ha : ST X p cb Xq a x) (ha' : SE X p cb Xq a x) : SE X p cb Xq (.not a) (.UnaryOp .Not x pos) ∧ ST X p cb Xq (.not a) (.UnaryOp .Not x pos) := by
  refine ⟨fun σ sl F H L Q g h => ?_, fun σ sl F H L Q g h => ?_⟩
  · refine we_of (pe_not we_pe) ?_
    have h : RsQ X.K σ Xq F H L sl (PQ X.K σ Q) (((ev p.P p.np cb a sl).bind fun rt s1 => match rt.settle.view s1 with
      | some (.bool k) => .ok k s1
      | _ => .no).bind fun k sl1 => .ok (.t (.fz (.bool (!k)))) sl1) := h
    show WE X x σ H _
    have h : RsQ X.K σ Xq F H L sl (PQ X.K σ Q) ((ev p.P p.np cb a sl).bind fun rt s1 => ((match rt.settle.view s1 with
      | some (.bool k) => .ok k s1
      | _ => .no : Res Bool)).bind fun k sl1 => .ok (.t (.fz (.bool (!k)))) sl1) := by
      cases e : ev p.P p.np cb a sl <;> rw [e] at h <;> exact h
    refine ha'.step g h fun r sl1 v F1 H1 L1 g1 s q h1 => ?_
    split at h1
    · rename_i k e
      have w : Rp X.K F1 v (.bool k) := q.view g1 e
      cases w
      exact ⟨k, rfl, res_fz g1 h1 (.bl _)⟩
    · exact h1.elim
  · refine wt_of (pt_not wt_pt) ?_
    show WT X x σ H _
    have h : RsQ X.K σ Xq F H L sl (PT' Q) ((testOf (ev p.P p.np cb a sl)).bind fun k sl1 => (.ok (!k) sl1 : Res Bool)) := by
      have h : RsQ X.K σ Xq F H L sl (PT' Q) (testOf ((testOf (ev p.P p.np cb a sl)).bind fun k sl1 => .ok (.t (.fz (.bool (!k)))) sl1)) := h
      cases e : testOf (ev p.P p.np cb a sl) <;> rw [e] at h <;> exact h
    exact ha.step g h fun k sl1 F1 H1 L1 g1 h1 => h1 F1 H1 L1 g1.aft g1.tmp
/-- a bool's outcome, as a step -/
theorem SE.stepB {α : Type} {P : α → Sl → Hp → Hp → Lbl → Prop} (ha : SE X p cb Xq a x) (g : G X.K F H L σ sl) {f : Bool → Sl → Res α} (h : RsQ X.K σ Xq F H L sl P ((testOf (ev p.P p.np cb a sl)).bind f)) {Q : VK}
    (k : ∀ k sl1 F1 H1 L1, G X.K F1 H1 L1 σ sl1 → RsQ X.K σ Xq F1 H1 L1 sl1 P (f k sl1) → Q (.bl k) H1) : WE X x σ H Q := by
  have h : RsQ X.K σ Xq F H L sl P ((ev p.P p.np cb a sl).bind fun rt s1 => ((match rt.settle.view s1 with
      | some (.bool k) => .ok k s1
      | _ => .no : Res Bool)).bind f) := by
    cases e : ev p.P p.np cb a sl <;> rw [e] at h <;> exact h
  refine ha.step g h fun r sl1 v F1 H1 L1 g1 s q h1 => ?_
  split at h1
  · rename_i kk e
    have w : Rp X.K F1 v (.bool kk) := q.view g1 e
    cases w
    exact k kk sl1 F1 H1 L1 g1 h1
  · exact h1.elim
theorem SW.st (h : SW X p cb Xq a x) : ST X p cb Xq a x := fun σ sl F H L Q g h1 pins s I => h σ sl F H L Q g h1 _ pins s I
theorem testOf_one (r : Res R) : testOf ((testOf r).bind fun k sl1 => .ok (.t (.fz (.bool k))) sl1) = testOf r := by
  cases r with
  | ok r sl =>
    show testOf (Res.bind (match r.settle.view sl with
      | some (.bool k) => .ok k sl
      | _ => .no) _) = (match r.settle.view sl with
      | some (.bool k) => .ok k sl
      | _ => .no)
    split <;> rfl
  | ex _ _ _ => rfl
  | no => rfl
theorem se_one (ha : ST X p cb Xq a x) (ha' : SE X p cb Xq a x) {o : BoolOp} : SE X p cb Xq (.one a) (.BoolOp o [x] pos) ∧ SW X p cb Xq (.one a) (.BoolOp o [x] pos) := by
  refine ⟨fun σ sl F H L Q g h => ?_, fun σ sl F H L Q g h => ?_⟩
  · refine we_of (pe_one we_pe) ?_
    have h : RsQ X.K σ Xq F H L sl (PQ X.K σ Q) ((testOf (ev p.P p.np cb a sl)).bind fun k sl1 => .ok (.t (.fz (.bool k))) sl1) := h
    exact ha'.stepB g h fun k sl1 F1 H1 L1 g1 h1 => res_fz g1 h1 (.bl _)
  · have h : RsQ X.K σ Xq F H L sl (PT' Q) (testOf (ev p.P p.np cb a sl)) := by
      have h : RsQ X.K σ Xq F H L sl (PT' Q) (testOf ((testOf (ev p.P p.np cb a sl)).bind fun k sl1 => .ok (.t (.fz (.bool k))) sl1)) := h
      rw [testOf_one] at h
      exact h
    cases o with
    | And => exact ww_of (pw_and1 wt_pt) (ha σ sl F H L Q g h)
    | Or => exact ww_of (pw_or1 wt_pt) (ha σ sl F H L Q g h)
theorem testOf_bind (r : Res Bool) (f : Bool → Sl → Res R) : testOf (r.bind f) = r.bind fun k s => testOf (f k s) := by cases r <;> rfl
theorem se_and {l : List Expr} (ha : ST X p cb Xq a x) (ha' : SE X p cb Xq a x) (hb : SE X p cb Xq b (.BoolOp .And (y :: l) pos)) (hb' : SW X p cb Xq b (.BoolOp .And (y :: l) pos)) :
    SE X p cb Xq (.and a b) (.BoolOp .And (x :: y :: l) pos) ∧ SW X p cb Xq (.and a b) (.BoolOp .And (x :: y :: l) pos) := by
  refine ⟨fun σ sl F H L Q g h => ?_, fun σ sl F H L Q g h => ?_⟩
  · refine we_of (pe_and we_pe we_pe) ?_
    have h : RsQ X.K σ Xq F H L sl (PQ X.K σ Q) ((testOf (ev p.P p.np cb a sl)).bind fun k sl1 => if k then ev p.P p.np cb b sl1 else .ok (.t (.fz (.bool false))) sl1) := h
    show WE X x σ H _
    refine ha'.stepB g h fun k sl1 F1 H1 L1 g1 h1 => ⟨k, rfl, ?_⟩
    cases k with
    | true => exact hb σ sl1 F1 H1 L1 Q g1 h1
    | false => exact res_fz g1 h1 (.bl _)
  · refine ww_of (pw_and wt_pt ww_pw) ?_
    have h : RsQ X.K σ Xq F H L sl (PT' Q) (testOf ((testOf (ev p.P p.np cb a sl)).bind fun k sl1 => if k then ev p.P p.np cb b sl1 else .ok (.t (.fz (.bool false))) sl1)) := h
    rw [testOf_bind] at h
    show WT X x σ H _
    refine ha.step g h fun k sl1 F1 H1 L1 g1 h1 => ?_
    cases k with
    | true => exact hb' σ sl1 F1 H1 L1 Q g1 h1
    | false => exact h1 F1 H1 L1 g1.aft g1.tmp
theorem se_or {l : List Expr} (ha : ST X p cb Xq a x) (ha' : SE X p cb Xq a x) (hb : SE X p cb Xq b (.BoolOp .Or (y :: l) pos)) (hb' : SW X p cb Xq b (.BoolOp .Or (y :: l) pos)) :
    SE X p cb Xq (.or a b) (.BoolOp .Or (x :: y :: l) pos) ∧ SW X p cb Xq (.or a b) (.BoolOp .Or (x :: y :: l) pos) := by
  refine ⟨fun σ sl F H L Q g h => ?_, fun σ sl F H L Q g h => ?_⟩
  · refine we_of (pe_or we_pe we_pe) ?_
    have h : RsQ X.K σ Xq F H L sl (PQ X.K σ Q) ((testOf (ev p.P p.np cb a sl)).bind fun k sl1 => if k then .ok (.t (.fz (.bool true))) sl1 else ev p.P p.np cb b sl1) := h
    show WE X x σ H _
    refine ha'.stepB g h fun k sl1 F1 H1 L1 g1 h1 => ⟨k, rfl, ?_⟩
    cases k with
    | false => exact hb σ sl1 F1 H1 L1 Q g1 h1
    | true => exact res_fz g1 h1 (.bl _)
  · refine ww_of (pw_or wt_pt ww_pw) ?_
    have h : RsQ X.K σ Xq F H L sl (PT' Q) (testOf ((testOf (ev p.P p.np cb a sl)).bind fun k sl1 => if k then .ok (.t (.fz (.bool true))) sl1 else ev p.P p.np cb b sl1)) := h
    rw [testOf_bind] at h
    show WT X x σ H _
    refine ha.step g h fun k sl1 F1 H1 L1 g1 h1 => ?_
    cases k with
    | false => exact hb' σ sl1 F1 H1 L1 Q g1 h1
    | true => exact h1 F1 H1 L1 g1.aft g1.tmp
theorem se_ife (hc : ST X p cb Xq c z) (ha : SE X p cb Xq a x) (hb : SE X p cb Xq b y) (ha' : ST X p cb Xq a x) (hb' : ST X p cb Xq b y) :
    SE X p cb Xq (.ife c a b) (.IfExp z x y pos) ∧ ST X p cb Xq (.ife c a b) (.IfExp z x y pos) := by
  refine ⟨fun σ sl F H L Q g h => ?_, fun σ sl F H L Q g h => ?_⟩
  · refine we_of (pe_ifExp wt_pt we_pe we_pe) ?_
    have h : RsQ X.K σ Xq F H L sl (PQ X.K σ Q) ((testOf (ev p.P p.np cb c sl)).bind fun k sl1 => if k then ev p.P p.np cb a sl1 else ev p.P p.np cb b sl1) := h
    show WT X z σ H _
    refine hc.step g h fun k sl1 F1 H1 L1 g1 h1 => ?_
    cases k with
    | true => exact ha σ sl1 F1 H1 L1 Q g1 h1
    | false => exact hb σ sl1 F1 H1 L1 Q g1 h1
  · have h : RsQ X.K σ Xq F H L sl (PT' Q) (testOf ((testOf (ev p.P p.np cb c sl)).bind fun k sl1 => if k then ev p.P p.np cb a sl1 else ev p.P p.np cb b sl1)) := h
    rw [testOf_bind] at h
    have hw : WT X z σ H fun k H1 => if k = true then WT X x σ H1 Q else WT X y σ H1 Q := by
      refine hc.step g h fun k sl1 F1 H1 L1 g1 h1 => ?_
      cases k with
      | true => exact ha' σ sl1 F1 H1 L1 Q g1 h1
      | false => exact hb' σ sl1 F1 H1 L1 Q g1 h1
    intro pins s I
    refine isTrue_IfExp (thn (hw pins s I) fun k s1 ⟨H1, I1, q1⟩ => ?_)
    cases k with
    | true => exact q1 pins s1 I1
    | false => exact q1 pins s1 I1
theorem se_idx (C : Cd X p) (hx : PlainIx y) (ha : SE X p cb Xq a x) (hb : SE X p cb Xq b y) : SE X p cb Xq (.idx a b) (.Subscript x y pos) := by
  intro σ sl F H L Q g h
  refine we_of (pe_ix wkI_ok we_pe we_pe hx) ?_
  show WE X x σ H fun v H1 => WE X y σ H1 fun u H2 => wkI X v u H2 Q
  have h : RsQ X.K σ Xq F H L sl (PQ X.K σ Q) ((ev p.P p.np cb a sl).bind fun ra sl1 => (ev p.P p.np cb b sl1).bind fun rb sl2 => match ra.settle.viewR sl2, rb.settle.view sl2 with
    | some x, some y => two ((index x y).map .fz) sl2
    | _, _ => .no) := h
  refine ha.step g h fun ra sl1 v F1 H1 L1 g1 s1 q1 h1 => hb.step g1 h1 fun rb sl2 u F2 H2 L2 g2 s2 q2 h2 => ?_
  have q1 := q1.mono s2
  cases e1 : ra.settle.viewR sl2 with
  | none => simp only [e1] at h2; exact h2.elim
  | some d =>
    cases e2 : rb.settle.view sl2 with
    | none => simp only [e1, e2] at h2; exact h2.elim
    | some e =>
      simp only [e1, e2] at h2
      exact index_ok g2 C.units d e (q1.viewR g2 e1) (q2.view g2 e2).r h2
/-- a part of a slice -/
def WO (X : Cx) (e : Option Expr) : TO := fun σ H Q => ∀ (pins : List (Addr × Obj)) (s : Shared), Inv X pins σ H s →
    wpAny (model X.prog X.w) X.A (evalPart e X.env) (fun u s' => ∃ o H', Inv X pins σ H' s' ∧ IsPart u o ∧ Q o H') X.xe s
theorem wo_po {e : Option Expr} : PO X e (WO X e) := ⟨fun pins s σ H Q I h => h pins s I⟩
theorem wo_of {e : Option Expr} {t : TO} {Q : Option Int → Hp → Prop} (h : PO X e t) (q : t σ H Q) : WO X e σ H Q := fun pins s I => h.run pins s σ H Q I q
def SO (X : Cx) (p : Cp) (cb : Nat → List T → FRes) (Xq : XQ) (c : E) (has : Bool) (e : Option Expr) : Prop := ∀ (α : Type) (σ : L2.St) (sl : Sl) (F H : Hp) (L : Lbl) (P : α → Sl → Hp → Hp → Lbl → Prop) (f : Option Int → Sl → Res α) (Q : Option Int → Hp → Prop), G X.K F H L σ sl →
  RsQ X.K σ Xq F H L sl P ((prt has (ev p.P p.np cb c sl) sl).bind f) → (∀ o sl1 F1 H1 L1, G X.K F1 H1 L1 σ sl1 → Same F F1 → RsQ X.K σ Xq F1 H1 L1 sl1 P (f o sl1) → Q o H1) → WO X e σ H Q
theorem so_none : SO X p cb Xq c false none := fun α σ sl F H L P f Q g h k => wo_of po_none (k none sl F H L g (.refl _) h)
theorem so_some (ha : SE X p cb Xq c x) : SO X p cb Xq c true (some x) := by
  intro α σ sl F H L P f Q g h k
  refine wo_of (po_some we_pe) ?_
  show WE X x σ H _
  have h : RsQ X.K σ Xq F H L sl P ((ev p.P p.np cb c sl).bind fun rt s1 => ((match rt.settle.view s1 with
      | some (.int i) => .ok (some i) s1
      | _ => .no : Res (Option Int))).bind f) := by
    unfold prt at h
    rw [if_pos rfl] at h
    cases e : ev p.P p.np cb c sl <;> rw [e] at h <;> exact h
  refine ha.step g h fun r sl1 v F1 H1 L1 g1 s q h1 => ?_
  split at h1
  · rename_i i e
    have w : Rp X.K F1 v (.int i) := q.view g1 e
    cases w
    exact ⟨i, rfl, k (some i) sl1 F1 H1 L1 g1 s h1⟩
  · exact h1.elim
theorem se_sl {lo hi : E} {hl hh : Bool} {l h : Option Expr} {p2 : Pos} (ha : SE X p cb Xq a x) (hlo : SO X p cb Xq lo hl l) (hhi : SO X p cb Xq hi hh h) : SE X p cb Xq (.sl a lo hi hl hh) (.Subscript x (.Slice l h none p2) pos) := by
  intro σ sl F H L Q g h
  refine we_of (pe_slice wkS_ok we_pe wo_po wo_po) ?_
  have h : RsQ X.K σ Xq F H L sl (PQ X.K σ Q) ((ev p.P p.np cb a sl).bind fun ra sl1 => (prt hl (ev p.P p.np cb lo sl1) sl1).bind fun l sl2 => (prt hh (ev p.P p.np cb hi sl2) sl2).bind fun h sl3 =>
      match ra.settle.viewR sl3 with
      | some x => two ((cut x l h).map own) sl3
      | none => .no) := h
  show WE X x σ H _
  refine ha.step g h fun ra sl1 v F1 H1 L1 g1 s1 q1 h1 => ?_
  refine hlo _ σ sl1 F1 H1 L1 _ _ _ g1 h1 fun l' sl2 F2 H2 L2 g2 s2 h2 => ?_
  refine hhi _ σ sl2 F2 H2 L2 _ _ _ g2 h2 fun h' sl3 F3 H3 L3 g3 s3 h3 => ?_
  have q1 := (q1.mono s2).mono s3
  cases e1 : ra.settle.viewR sl3 with
  | none => simp only [e1] at h3; exact h3.elim
  | some d =>
    simp only [e1] at h3
    exact cut_ok g3 d l' h' (q1.viewR g3 e1) h3
/-- a call of a def -/
theorem se_call {f : Nat} {n : Str} {q : Pos} {l : List Expr} (C : Cd X p) (c : Cl X p cb) (hn : p.fn f = some n) (hg : glB p.sc n = true) (hdb : dbg n = false) (hy : Hd y) (hl : ∀ e ∈ l, Hd e) (hr : SR X p cb XF a (y :: l)) : SE X p cb XF (.call f a) (.Call (.Name n q) (y :: l) [] pos) := by
  intro σ sl F H L Q g h
  obtain ⟨np, k, ad, fd, ps, ok, rm, mg, kp, bd, hlen⟩ := c.run f n hn
  refine we_of (pe_call ok rm (gl_X C hg) mg kp bd (.nil : Vals [] []) passL wa_pa (dbg_of hdb).1 (hy.star l X.env) (star_any pos X.env l hl)) ?_
  show WA X (y :: l) σ H fun vs H1 => spF X.K cb f np (vs ++ []) H1 Q E0
  have h : RsQ X.K σ XF F H L sl (PQ X.K σ Q) ((evr p.P p.np cb a sl).bind fun rs sl1 => match argsOf sl1 rs with
    | some ts => if (placesOf rs).Nodup then (match cb f ts with
      | .ok t ts' => .ok (.t t) (putBack sl1 rs ts')
      | .ex c w ts' => .ex c w (putBack sl1 rs ts')
      | .no => .no) else .no
    | none => .no) := h
  refine hr σ sl F H L _ g (h.bind.imp fun rs sl1 F1 H1 L1 A h1 n1 vs qs => ?_)
  have g1 : G X.K F1 H1 L1 σ sl1 := ⟨A.ok, A.rel, n1⟩
  rw [List.append_nil]
  cases e1 : argsOf sl1 rs with
  | none => simp only [e1] at h1; exact h1.elim
  | some ts =>
    simp only [e1] at h1
    by_cases nd : (placesOf rs).Nodup
    · rw [if_pos nd] at h1
      obtain ⟨o1, o2, o3⟩ := ags_in g1 qs e1 nd
      refine ⟨F1, _, ts, o1, o2, ?_, o3, ?_⟩
      · refine Decidable.by_contra fun z => ?_
        rw [hlen ts z] at h1
        exact h1
      · cases e2 : cb f ts with
        | no => rw [e2] at h1; exact h1.elim
        | ok t ts' =>
          rw [e2] at h1
          intro v F' H' L' ok' st' ow nw ag lks
          have A' := ags_out g1 qs e1 nd ok' st' ag lks
          refine h1 F' H' _ A' v ⟨?_, nw⟩
          cases ow with
          | fz r => exact .fz r
          | ro a b => cases nw
          | lst a b c => exact .lst a (by unfold lblOut; rw [if_pos b]) c
          | dct a b c => exact .dct a (by unfold lblOut; rw [if_pos b]) c
          | lk a b c d => cases nw
          | lkd a b => cases nw
          | big A b _ _ => cases t <;> first | (cases b; done) | (cases nw; done)
        | ex cc w ts' =>
          rw [e2] at h1
          intro F' H' L' ok' st' nt ag lks
          exact h1 F' H' _ (ags_out g1 qs e1 nd ok' st' ag lks) fun a ha => by
            unfold lblOut at ha
            rw [if_neg (nt a)] at ha
            split at ha
            · split at ha
              · exact n1 a ha
              · cases ha
            · unfold unl at ha
              split at ha
              · omega
              · cases ha
    · rw [if_neg nd] at h1; exact h1.elim
end
end Md

/-! Md: dicts made, walked, written in an expression. -/
namespace Md
open PySem PySem.Spec
open PyProof.Rows L2
variable [Wd]
section
variable {K : PySem.W.Frag} {σ : L2.St} {F F1 H H1 : Hp} {L L1 : Lbl} {sl sl1 : Sl}
/-- slot i's own object is written -/
theorem aft_wrE {i : Nat} {a : Addr} {t t' : T} {u o : HO} (g : G K F H L σ sl) (hs : sl[i]? = some (some t)) (hv : σ[i]? = some (some (.ref a))) (e : H a = some u) (l : L a = i + 2) (ow : Ow K F (upd H a o) L (i + 2) (.ref a) t') (nl : t'.isLk = false) :
    Aft K σ F H L sl (sl.set i (some t')) F (upd H a o) L := by
  have hi : i < sl.length := (List.getElem?_eq_some_iff.mp hs).1
  have fa : F a = none := g.ok.dis a (by omega)
  have st : Stp F H L F (upd H a o) L := ⟨Same.refl _, fun b u h z => by rw [upd_ne (fun q => by rw [q, l] at z; omega)]; exact h, fun b h => .inl h, fun b h => .inl h⟩
  refine ⟨⟨fun b u h => ?_, g.ok.dis, fun b h => ?_⟩, ⟨by rw [List.length_set]; exact g.rel.len, fun j t ht => ?_⟩, st, Lkb.set _ _ fun ds z => by cases z; cases nl⟩
  · have : b ≠ a := fun z => by rw [z, fa] at h; cases h
    rw [upd_ne this]; exact g.ok.sub b u h
  · by_cases z : b = a
    · rw [z, upd_same]; simp
    · rw [upd_ne z]; exact g.ok.dom b h
  · by_cases q : i = j
    · subst q
      rw [List.getElem?_set_self hi] at ht
      cases ht
      exact ⟨_, hv, ow⟩
    · rw [List.getElem?_set_ne q] at ht
      obtain ⟨v, h1, h2⟩ := g.rel.at_ j t ht
      have na : ∀ b, L b = j + 2 → b ≠ a := fun b hb w => by rw [w, l] at hb; omega
      refine ⟨v, h1, ?_⟩
      cases h2 with
      | fz r => exact .fz r
      | ro x y => exact .ro x y
      | lst x y z => exact .lst (by rw [upd_ne (na _ y)]; exact x) y z
      | lk x y f z => exact .lk (by rw [upd_ne (fun w => by rw [w, l] at y; omega)]; exact x) y f z
      | dct x y z => exact .dct (by rw [upd_ne (na _ y)]; exact x) y z
      | lkd x y => exact .lkd x y
      | big A b c d => exact .big A b (fun x hx => ⟨(c x hx).1, by rw [upd_ne (na _ (c x hx).1)]; exact (c x hx).2⟩) (d.mono (Same.refl _) fun x hx => upd_ne (na _ (c x hx).1))
theorem dct_at (g : G K F H L σ sl) {i : Nat} {kvs : List (Da × Da)} (e : sl[i]? = some (some (.dct kvs))) : ∃ a ks, σ[i]? = some (some (.ref a)) ∧ H a = some (.dK ks) ∧ L a = i + 2 ∧ RpK K F ks kvs := by
  obtain ⟨v, e1, e2⟩ := g.rel.at_ i _ e
  cases e2 with
  | dct x y z => exact ⟨_, _, e1, x, y, z⟩
  | big A b _ _ => cases b
end
section
variable {X : Cx} {p : Cp} {cb : Nat → List T → FRes} {Xq : XQ} {σ : L2.St} {F F1 H H1 : Hp} {L L1 : Lbl} {sl sl1 : Sl} {a b c d : E} {x y z : Expr} {pos : Pos}
theorem se_dnew : SE X p cb Xq .dnew (.Dict [] [] pos) := fun σ sl F H L Q g h => we_of pe_dnewK (res_dct g h .nil)
/-- a dict's name, for a walk: it is locked -/
theorem se_nml {i : Nat} {n : Str} (C : Cd X p) (h : (decide (p.N[i]? = some n) && visB p.sc n && !dbg n) = true) : SE X p cb Xq (.nml i) (.Name n pos) := by
  simp only [Bool.and_eq_true, decide_eq_true_eq, Bool.not_eq_true'] at h
  obtain ⟨⟨h1, h2⟩, h3⟩ := h
  obtain ⟨d1, d2, d3⟩ := dbg_of h3
  intro σ sl F H L Q g hq
  have pv : PE X (.Name n pos) (tVar i) := pe_var (by rw [C.N]; exact h1) (by rw [C.sc]; exact vis_of h2) d1 d2
  have hq : RsQ X.K σ Xq F H L sl (PQ X.K σ Q) (match sl[i]? with
    | some (some (.dct kvs)) => .ok (.p i) (sl.set i (some (.lkd kvs)))
    | some (some (.lkd _)) => .ok (.p i) sl
    | _ => .no) := hq
  split at hq
  · rename_i kvs e
    obtain ⟨ad, ks, e1, e2, e3, rk⟩ := dct_at g e
    have hi : i < sl.length := (List.getElem?_eq_some_iff.mp e).1
    intro pins s I
    obtain ⟨od, I2⟩ := I.lock e2 trivial
    refine we_of pv ⟨_, e1, ?_⟩ pins s I2
    have fa : F ad = none := g.ok.dis ad (by omega)
    let F' : Hp := fun b => if b = ad then some (.frz od (.dK ks)) else F b
    let L' : Lbl := fun b => if b = ad then 0 else L b
    have fad : F' ad = some (.frz od (.dK ks)) := if_pos rfl
    have sF : Same F F' := fun b u hb => by
      have : b ≠ ad := fun z => by rw [z, fa] at hb; cases hb
      show (if b = ad then _ else F b) = _
      rw [if_neg this]; exact hb
    have st : Stp F H L F' (upd H ad (.frz od (.dK ks))) L' := ⟨sF, fun b u hb lb => by
        have : b ≠ ad := fun z => by rw [z, e3] at lb; omega
        rw [upd_ne this]; exact hb, fun b hb => by
        by_cases z : b = ad
        · exact .inl (by rw [z, e3]; omega)
        · exact .inl (by show L b ≠ 0; have : (if b = ad then 0 else L b) ≠ 0 := hb; rwa [if_neg z] at this), fun b hb => by
        by_cases z : b = ad
        · exact .inr (.inl (by rw [z, e3]; omega))
        · exact .inl (by have : (if b = ad then some (HO.frz od (.dK ks)) else F b) ≠ none := hb; rwa [if_neg z] at this)⟩
    have okk : Ok F' (upd H ad (.frz od (.dK ks))) L' := ⟨fun b u hb => by
        by_cases z : b = ad
        · subst z; rw [upd_same]; exact fad.symm.trans hb
        · rw [upd_ne z]
          have : (if b = ad then some (HO.frz od (.dK ks)) else F b) = some u := hb
          rw [if_neg z] at this
          exact g.ok.sub b u this, fun b hb => by
        have hb' : (if b = ad then 0 else L b) ≠ 0 := hb
        by_cases z : b = ad
        · rw [if_pos z] at hb'; exact absurd rfl hb'
        · rw [if_neg z] at hb'
          show (if b = ad then _ else F b) = none
          rw [if_neg z]
          exact g.ok.dis b hb', fun b hb => by
        have hb' : (if b = ad then 0 else L b) ≠ 0 := hb
        by_cases z : b = ad
        · rw [if_pos z] at hb'; exact absurd rfl hb'
        · rw [if_neg z] at hb'
          rw [upd_ne z]; exact g.ok.dom b hb'⟩
    have tm : ∀ b, L' b ≠ 1 := fun b hb => by
      have hb' : (if b = ad then 0 else L b) = 1 := hb
      by_cases z : b = ad
      · rw [if_pos z] at hb'; cases hb'
      · rw [if_neg z] at hb'; exact g.tmp b hb'
    refine hq F' _ L' ⟨okk, ⟨by rw [List.length_set]; exact g.rel.len, fun j t ht => ?_⟩, st, Lkb.set _ _ fun ds z => by cases z⟩ _ ⟨e1, ⟨_, List.getElem?_set_self hi⟩, tm⟩
    by_cases q : i = j
    · subst q
      rw [List.getElem?_set_self hi] at ht
      cases ht
      exact ⟨_, e1, .lkd fad (rk.mono sF)⟩
    · rw [List.getElem?_set_ne q] at ht
      obtain ⟨v, h4, h5⟩ := g.rel.at_ j t ht
      exact ⟨v, h4, h5.mono st fun b u eb lb => by
        have : b ≠ ad := fun z => by rw [z, e3] at lb; omega
        exact ⟨by rw [upd_ne this]; exact eb, by show (if b = ad then 0 else L b) = _; rw [if_neg this]; exact lb⟩⟩
  · rename_i kvs e
    obtain ⟨v, e1, e2⟩ := g.rel.at_ i _ e
    exact we_of pv ⟨v, e1, hq F H L g.aft v ⟨e1, ⟨_, e⟩, g.tmp⟩⟩
  · exact hq.elim
theorem m2_of {n m : Str} {px apos cpos : Pos} (hl : (apos.endLine == cpos.line) = true) (hx : Hd x) (hy : Hd y) : M2 X (.Name n px) m apos x y cpos := by
  have t : backTo cpos (starEach [x, y] X.env) = [(false, eval x X.env), (false, eval y X.env)] := by
    rw [hx.star [y] X.env, hy.star [] X.env]; rfl
  exact ⟨rfl, by rw [t]; rfl, hl, t⟩
theorem se_sdf {i : Nat} {n : Str} {px apos cpos : Pos} (C : Cd X p) (h1 : p.N[i]? = some n) (h2 : visB p.sc n = true) (h3 : dbg n = false) (hl : (apos.endLine == cpos.line) = true) (hx : Hd x) (hy : Hd y) (ha : SE X p cb Xq a x) (hb : SE X p cb Xq b y) :
    SE X p cb Xq (.sdf i a b) (.Call (.Attribute (.Name n px) "setdefault" apos) [x, y] [] cpos) := by
  intro σ sl F H L Q g h
  obtain ⟨d1, d2, d3⟩ := dbg_of h3
  have pv : PE X (.Name n px) (tVar i) := pe_var (by rw [C.N]; exact h1) (by rw [C.sc]; exact vis_of h2) d1 d2
  have h : RsQ X.K σ Xq F H L sl (PQ X.K σ Q) (match sl[i]? with
    | some (some (.dct _)) => (ev p.P p.np cb a sl).bind fun rk sl1 => match rk.settle.view sl1 with
      | some kd => (ev p.P p.np cb b sl1).bind fun re sl2 => match re.take sl2 with
        | some (w, sl3) => match sl3[i]? with
          | some (some (.dct kvs)) => if kOk kd && decide (kvs.length < sizeLine) then (match lookD kd kvs with
            | some w' => .ok (.t (.fz w')) sl3
            | none => .ok (.t (.fz w)) (sl3.set i (some (.dct (putD kvs kd w))))) else .no
          | _ => .no
        | none => .no
      | none => .no
    | _ => .no) := h
  split at h
  · rename_i kv0 e0
    obtain ⟨ad, ks0, e1, e2, _, _⟩ := dct_at g e0
    refine we_of (pe_dsetd pv we_pe we_pe (m2_of hl hx hy)) ⟨_, e1, ad, rfl, .inl ⟨_, .inl e2⟩, ?_⟩
    show WE X x σ H fun v H1 => WE X y σ H1 fun u H2 => _
    refine ha.step g h fun rk sl1 v F1 H1 L1 g1 s1 q1 h1 => ?_
    cases ek : rk.settle.view sl1 with
    | none => simp only [ek] at h1; exact h1.elim
    | some kd =>
      simp only [ek] at h1
      have vk := q1.view g1 ek
      refine hb.stepT g1 h1 (fun re sl2 u w sl3 F2 H2 L2 et g2 st lk rw_ h2 => ?_) fun re sl2 e => by simp only [e]
      simp only [et] at h2
      split at h2
      · rename_i kvs e3
        obtain ⟨ad', ks, z1, z2, z3, z4⟩ := dct_at g2 e3
        rw [e1] at z1; cases z1
        by_cases c : (kOk kd && decide (kvs.length < sizeLine)) = true
        · rw [if_pos c] at h2
          rw [Bool.and_eq_true] at c
          obtain ⟨k, rfl, rfl, ok⟩ := kOk_of (K := X.K) (F := F1) (d := kd) (by
            have : ∀ b, kd ≠ .dict b := fun b e => by rw [e] at c; cases c.1
            cases kd <;> first | exact vk | exact absurd rfl (this _) | (cases c.1; done)) c.1
          refine ⟨ks, k, z2, rfl, by rw [z4.length]; exact of_decide_eq_true c.2, fun v' hv => ?_, fun hn => ?_⟩
          · rcases z4.look k with ⟨y1, _⟩ | ⟨v2, d2, y1, y2, y3⟩
            · rw [y1] at hv; cases hv
            · rw [y1] at hv; cases hv
              simp only [y2] at h2
              exact res_fz g2 h2 y3
          · rcases z4.look k with ⟨_, y2⟩ | ⟨v2, d2, y1, _, _⟩
            · simp only [y2] at h2
              have A := aft_wrE (o := .dK (putK ks k u)) (t' := .dct (putD kvs (keyD k) w)) g2 e3 e1 z2 z3 (.dct upd_same z3 (z4.put ok rw_)) rfl
              exact h2 F2 _ L2 A u ⟨.fz rw_, rfl⟩
            · rw [y1] at hn; cases hn
        · rw [if_neg c] at h2; exact h2.elim
      · exact h2.elim
  · exact h.elim
end
end Md

/-! Md, dicts with tuples as keys. -/
namespace Md
open PySem PySem.Spec
open PyProof.Rows L2
variable [Wd]
/-! ### keys -/
mutual
theorem keyN_depth : ∀ {k : Nat} {d : Da}, nkOk k d = true → (keyN d).depth ≤ k
  | _, .int i, _ => Nat.zero_le _
  | _, .str x, _ => Nat.zero_le _
  | k + 1, .tuple xs, h => by
    have h' : nksOk k xs = true := h
    show NestedKey.depthAll (keyNs xs) + 1 ≤ k + 1
    have := keyNs_depth h'
    omega
  | 0, .tuple xs, h => by cases h
  | _, .none, _ => Nat.zero_le _
  | _, .bool _, _ => Nat.zero_le _
  | _, .list _, _ => Nat.zero_le _
  | _, .dict _, _ => Nat.zero_le _
theorem keyNs_depth : ∀ {k : Nat} {ds : List Da}, nksOk k ds = true → NestedKey.depthAll (keyNs ds) ≤ k
  | _, [], _ => Nat.zero_le _
  | k, d :: ds, h => by
    rw [nksOk, Bool.and_eq_true] at h
    have h1 := keyN_depth h.1
    have h2 := keyNs_depth h.2
    show max (keyN d).depth (NestedKey.depthAll (keyNs ds)) ≤ k
    omega
end
mutual
theorem keq_N : ∀ {k j : Nat} {d e : Da}, nkOk k d = true → nkOk j e = true → keq d e = NestedKey.beq (keyN d) (keyN e)
  | _, _, .int i, .int j, _, _ => by simp [keq, keyN, NestedKey.beq]
  | _, _, .str i, .str j, _, _ => by simp [keq, keyN, NestedKey.beq]
  | k + 1, j + 1, .tuple xs, .tuple ys, h, h' => by
    rw [keq, keyN, keyN, NestedKey.beq]
    exact keqs_N (show nksOk k xs = true from h) (show nksOk j ys = true from h')
  | 0, _, .tuple _, _, h, _ => by cases h
  | _, 0, _, .tuple _, _, h => by cases h
  | _, _, .int i, .str j, _, _ => by simp [keq, keyN, NestedKey.beq]
  | _, _, .str i, .int j, _, _ => by simp [keq, keyN, NestedKey.beq]
  | _, _, .int i, .tuple j, _, _ => by simp [keq, keyN, NestedKey.beq]
  | _, _, .str i, .tuple j, _, _ => by simp [keq, keyN, NestedKey.beq]
  | _, _, .tuple i, .int j, _, _ => by simp [keq, keyN, NestedKey.beq]
  | _, _, .tuple i, .str j, _, _ => by simp [keq, keyN, NestedKey.beq]
  | _, _, .none, _, h, _ => by simp [nkOk] at h
  | _, _, .bool _, _, h, _ => by simp [nkOk] at h
  | _, _, .list _, _, h, _ => by simp [nkOk] at h
  | _, _, .dict _, _, h, _ => by simp [nkOk] at h
  | _, _, _, .none, _, h => by simp [nkOk] at h
  | _, _, _, .bool _, _, h => by simp [nkOk] at h
  | _, _, _, .list _, _, h => by simp [nkOk] at h
  | _, _, _, .dict _, _, h => by simp [nkOk] at h
theorem keqs_N : ∀ {k j : Nat} {ds es : List Da}, nksOk k ds = true → nksOk j es = true → keqs ds es = NestedKey.beqAll (keyNs ds) (keyNs es)
  | _, _, [], [], _, _ => rfl
  | _, _, d :: ds, e :: es, h, h' => by
    rw [nksOk, Bool.and_eq_true] at h h'
    rw [keqs, keyNs, keyNs, NestedKey.beqAll, keq_N h.1 h'.1, keqs_N h.2 h'.2]
  | _, _, [], _ :: _, _, _ => rfl
  | _, _, _ :: _, [], _, _ => rfl
end
theorem tOk_nk {d : Da} (h : tOk d = true) : nkOk 8 d = true := by
  cases d <;> first | exact h | cases h
theorem keq_T {d e : Da} (h : tOk d = true) (h' : tOk e = true) : keq d e = decide (keyN d = keyN e) := by
  rw [keq_N (tOk_nk h) (tOk_nk h'), NestedKey.decide_eq]
section
variable {X : Cx} {σ : L2.St} {F H : Hp} {L : Lbl} {sl : Sl}
mutual
theorem rp_nested {pins : List (Addr × Obj)} {s : Shared} (g : Same F H) (I : Inv X pins σ H s) : ∀ {k : Nat} {v : V} {d : Da} {u : Value}, Rp X.K F v d → nkOk k d = true → RelV v u → NestedIs s.heap (keyN d) u
  | _, _, _, _, .int i, _, r => by obtain ⟨t, rfl⟩ := r; exact .int _ _
  | _, _, _, _, .str x _, _, r => by obtain ⟨t, rfl⟩ := r; exact .text _ _
  | k + 1, _, _, _, .tup q ra, h, r => by
    cases r
    obtain ⟨its, rv, ⟨o, ho, hc, n, hd⟩, hz⟩ := I.tuple (sqT_mono g q)
    exact .tup ho hc hd (by simpa using rps_nested g I ra (show nksOk k _ = true from h) rv)
  | 0, _, _, _, .tup q ra, h, r => by cases h
  | _, _, _, _, .non, h, _ => by simp [nkOk] at h
  | _, _, _, _, .bl _, h, _ => by simp [nkOk] at h
  | _, _, _, _, .lst _ _, h, _ => by simp [nkOk] at h
  | _, _, _, _, .dic _ _, h, _ => by simp [nkOk] at h
  | _, _, _, _, .ins _ _ _ _, h, _ => by simp [nkOk, insD] at h
theorem rps_nested {pins : List (Addr × Obj)} {s : Shared} (g : Same F H) (I : Inv X pins σ H s) : ∀ {k : Nat} {vs : List V} {ds : List Da} {us : List Value}, RpA X.K F vs ds → nksOk k ds = true → Vals vs us → NestedAll s.heap (keyNs ds) us
  | _, _, _, _, .nil, _, .nil => .nil
  | k, _, _, _, .cons a b, h, .cons r rs => by
    rw [nksOk, Bool.and_eq_true] at h
    exact .cons (rp_nested g I a h.1 r) (rps_nested g I b h.2 rs)
end
theorem key_is {pins : List (Addr × Obj)} {s : Shared} (g : Same F H) (I : Inv X pins σ H s) {b : Addr} {d : Da} (r : Rp X.K F (.ref b) d) (h : tOk d = true) : (nestedKind X.prog X.w).is s.heap (keyN d) b :=
  ⟨rp_nested g I r (tOk_nk h) rfl, keyN_depth (tOk_nk h)⟩
/-! ### what stands at the dict's place -/
theorem dtO_ok {P : Program} {w w' : World} {H : Hp} {h : Heap} {a : Addr} {ks : List TK} (x : DtR w' h a ks) : ObjOk P w H h a (DtO w' a ks) := by
  refine ⟨x, ?_, ?_⟩
  · obtain ⟨_, _, _, _, o, _, _, e, _⟩ := x
    exact ⟨o, e⟩
  · rintro h1 h2 ⟨a1, a2, vals, a3, o, es, ep, e, r⟩ k
    exact ⟨a1, a2, vals, a3, o, es, ep, k _ e, r⟩
theorem dtR_of {pins : List (Addr × Obj)} {s : Shared} {w' : World} {a : Addr} {ks : List TK} (I : Inv X pins σ H s) (e : H a = some (DtO w' a ks)) : DtR w' s.heap a ks := (I.hok a _ e).1
theorem rpT_mem {K : PySem.W.Frag} : ∀ {ks : List TK} {kvs : List (Da × Da)}, RpT K F ks kvs → ∀ p ∈ ks, ∃ d, tOk d = true ∧ p.1 = keyN d ∧ Rp K F (.ref p.2.1) d
  | _, _, .cons a b c r, p, hp => by
    rcases List.mem_cons.mp hp with rfl | hp
    · exact ⟨_, a, rfl, b⟩
    · exact rpT_mem r p hp
theorem paired_mem {α β : Type} {R : α → β → Prop} : ∀ {as : List α} {bs : List β}, Paired R as bs → ∀ b ∈ bs, ∃ a ∈ as, R a b
  | _, _, .cons r h, b, hb => by
    rcases List.mem_cons.mp hb with rfl | hb
    · exact ⟨_, List.mem_cons_self, r⟩
    · obtain ⟨a, ha, q⟩ := paired_mem h b hb
      exact ⟨a, List.mem_cons_of_mem _ ha, q⟩
/-- keys of a dict that are known to be keys -/
def KsOk (K : PySem.W.Frag) (F : Hp) (ks : List TK) : Prop := ∀ p ∈ ks, ∃ d, tOk d = true ∧ p.1 = keyN d ∧ Rp K F (.ref p.2.1) d
theorem dt_heap {pins : List (Addr × Obj)} {s : Shared} {a : Addr} {ks : List TK} (g : Same F H) (cw : X.w = Wd.w) (I : Inv X pins σ H s) (e : H a = some (DtO Wd.w a ks)) (hk : KsOk X.K F ks) :
    ks.length ≤ sizeLine ∧ (a == sysModules) = false ∧ ∃ vals, Paired DtRel ks vals ∧ s.heap.DictOfH (nestedKind X.prog X.w) a vals := by
  obtain ⟨z, hs, vals, rel, o, es, ep, ho, hx, hd, he, hn⟩ := dtR_of I e
  refine ⟨z, hs, vals, rel, o, es, ep, ho, hx, hd, ?_, fun x hx' => ?_, hn⟩
  · rw [he, ← cw]; rfl
  · obtain ⟨p, hp, h1, h2, _⟩ := paired_mem rel x hx'
    obtain ⟨d, t, e1, r⟩ := hk p hp
    rw [← h1, ← h2, e1]
    exact key_is g I r t
theorem dtR_heap {P : Program} {w : World} {h : Heap} {a : Addr} {ks : List TK} {vals : List (NestedKey × Addr × Value)} (z : ks.length ≤ sizeLine) (hs : (a == sysModules) = false) (rel : Paired DtRel ks vals) (d : h.DictOfH (nestedKind P w) a vals) : DtR w h a ks := by
  obtain ⟨o, es, ep, ho, hx, hd, he, _, hn⟩ := d
  exact ⟨z, hs, vals, rel, o, es, ep, ho, hx, hd, he, hn⟩
/-! ### look-ups -/
def valT (ks : List TK) (k : NestedKey) : Option V := (ks.find? fun p => decide (p.1 = k)).map (·.2.2)
theorem valT_rel : ∀ {ks : List TK} {vals : List (NestedKey × Addr × Value)} (k : NestedKey), Paired DtRel ks vals → RelO (valT ks k) ((atKey vals k).map (·.2))
  | _, _, k, .nil => trivial
  | _, _, k, .cons (a := p) (b := q) r h => by
    have ih := valT_rel k h
    unfold valT atKey at ih ⊢
    by_cases e : p.1 = k
    · have e' : q.1 = k := by rw [← r.1]; exact e
      simp only [List.find?_cons, decide_eq_true e, decide_eq_true e']
      exact r.2.2
    · have e' : ¬ q.1 = k := by rw [← r.1]; exact e
      simp only [List.find?_cons, decide_eq_false e, decide_eq_false e']
      exact ih
theorem RpT.look {K : PySem.W.Frag} {kd : Da} (t : tOk kd = true) : ∀ {ks : List TK} {kvs : List (Da × Da)}, RpT K F ks kvs → (valT ks (keyN kd) = none ∧ lookD kd kvs = none) ∨ ∃ v d, valT ks (keyN kd) = some v ∧ lookD kd kvs = some d ∧ Rp K F v d
  | _, _, .nil => .inl ⟨rfl, rfl⟩
  | _, _, .cons (k := k) (v := v) (d := d) a b c r => by
    have ih := r.look t
    rw [lookD, keq_T a t]
    unfold valT at ih ⊢
    by_cases e : keyN k = keyN kd
    · simp only [List.find?_cons, decide_eq_true e]
      exact .inr ⟨v, d, rfl, rfl, c⟩
    · simp only [List.find?_cons, decide_eq_false e]
      simpa using ih
theorem RpT.ks {K : PySem.W.Frag} {ks : List TK} {kvs : List (Da × Da)} (r : RpT K F ks kvs) : KsOk K F ks := rpT_mem r
theorem room8 (hu : X.A.units + 200 < cLine) : (nestedKind X.prog X.w).room X.A.in1 := by
  show X.A.units + 1 + 8 < cLine
  omega
/-- stored -/
def putT (ks : List TK) (k : NestedKey) (b : Addr) (v : V) : List TK := if (valT ks k).isSome then ks.map fun p => if p.1 = k then (p.1, p.2.1, v) else p else ks ++ [(k, b, v)]
theorem putT_rel {ks : List TK} {vals : List (NestedKey × Addr × Value)} {k : NestedKey} {b : Addr} {v : V} {u : Value} (rel : Paired DtRel ks vals) (ru : RelV v u) : Paired DtRel (putT ks k b v) (storedH vals k b u) := by
  have hs : (valT ks k).isSome = (atKey vals k).isSome := by
    have := (valT_rel k rel).isSome_eq
    rw [this, Option.isSome_map]
  unfold putT storedH
  rw [hs]
  by_cases c : (atKey vals k).isSome = true
  · rw [if_pos c, if_pos c]
    clear hs c
    induction rel with
    | nil => exact .nil
    | cons r h ih =>
      rename_i p q _ _
      refine .cons ?_ ih
      unfold putAt
      by_cases e : p.1 = k
      · have e' : q.1 = k := by rw [← r.1]; exact e
        simp only [if_pos e, if_pos e']
        exact ⟨r.1, r.2.1, ru⟩
      · have e' : ¬ q.1 = k := by rw [← r.1]; exact e
        simp only [if_neg e, if_neg e']
        exact r
  · rw [if_neg c, if_neg c]
    clear hs c
    induction rel with
    | nil => exact .cons ⟨rfl, rfl, ru⟩ .nil
    | cons r h ih => exact .cons r ih
theorem putT_len (ks : List TK) (k : NestedKey) (b : Addr) (v : V) : (putT ks k b v).length ≤ ks.length + 1 := by
  unfold putT
  split <;> simp
theorem RpT.put {K : PySem.W.Frag} {kd d : Da} {b : Addr} {v : V} (t : tOk kd = true) (rb : Rp K F (.ref b) kd) (rv : Rp K F v d) {ks : List TK} {kvs : List (Da × Da)} (r : RpT K F ks kvs) : RpT K F (putT ks (keyN kd) b v) (putD kvs kd d) := by
  have hs : (valT ks (keyN kd)).isSome = (lookD kd kvs).isSome := by
    rcases r.look t with ⟨a, b⟩ | ⟨v, d, a, b, _⟩ <;> rw [a, b] <;> rfl
  unfold putT putD
  rw [hs]
  by_cases c : (lookD kd kvs).isSome = true
  · rw [if_pos c, if_pos c]
    clear hs c
    induction r with
    | nil => exact .nil
    | cons a b c r ih =>
      rename_i k _ _ _
      rw [List.map_cons, List.map_cons]
      have e := keq_T a t
      by_cases q : keyN k = keyN kd
      · rw [decide_eq_true q] at e
        simp only [e, if_pos q, if_true]
        exact .cons a b rv ih
      · rw [decide_eq_false q] at e
        simp only [e, if_neg q]
        exact .cons a b c ih
  · rw [if_neg c, if_neg c]
    clear hs c
    induction r with
    | nil => exact .cons t rb rv .nil
    | cons a b c r ih => exact .cons a b c ih
end
section
variable {X : Cx} {p : Cp} {cb : Nat → List T → FRes} {Xq : XQ} {σ : L2.St} {F F1 H H1 : Hp} {L L1 : Lbl} {sl sl1 : Sl} {a b c d : E} {x y z : Expr} {pos : Pos}
theorem dtt_at (g : G X.K F H L σ sl) {i : Nat} {kvs : List (Da × Da)} (e : sl[i]? = some (some (.dtt kvs))) : ∃ a ks, σ[i]? = some (some (.ref a)) ∧ H a = some (DtO Wd.w a ks) ∧ L a = i + 2 ∧ RpT X.K F ks kvs := by
  obtain ⟨v, e1, e2⟩ := g.rel.at_ i _ e
  cases e2 with
  | big A b c d =>
    obtain ⟨a, ks, rfl, rfl, h1, h2⟩ := d
    exact ⟨a, ks, e1, h1, (c a List.mem_cons_self).1, h2⟩
theorem pv_of (C : Cd X p) {i : Nat} {n : Str} {px : Pos} (h1 : p.N[i]? = some n) (h2 : visB p.sc n = true) (h3 : dbg n = false) : PE X (.Name n px) (tVar i) := by
  obtain ⟨d1, d2, d3⟩ := dbg_of h3
  exact pe_var (by rw [C.N]; exact h1) (by rw [C.sc]; exact vis_of h2) d1 d2
/-- what a look-up asks -/
def TGet (X : Cx) (H : Hp) (a : Addr) (y : V) (o : Option V) : Prop := ∃ b, y = .ref b ∧ ∀ (pins : List (Addr × Obj)) (σ : L2.St) (s : Shared), Inv X pins σ H s → ∃ vals k, s.heap.DictOfH (nestedKind X.prog X.w) a vals ∧ (nestedKind X.prog X.w).is s.heap k b ∧ (a == sysModules) = false ∧ RelO o ((atKey vals k).map (·.2))
theorem tget_of (g : G X.K F H L σ sl) (C : Cd X p) {ad : Addr} {ks : List TK} {kvs : List (Da × Da)} {kd : Da} {v : V} (e : H ad = some (DtO Wd.w ad ks)) (rk : RpT X.K F ks kvs) (rv : Rp X.K F v kd) (t : tOk kd = true) : TGet X H ad v (valT ks (keyN kd)) := by
  cases rv with
  | tup q ra =>
    rename_i b vs ds
    have rv : Rp X.K F (.ref b) (.tuple ds) := .tup q ra
    refine ⟨b, rfl, fun pins σ' s I => ?_⟩
    obtain ⟨z, hs, vals, rel, hd⟩ := dt_heap g.ok.sub C.wd I e rk.ks
    exact ⟨vals, _, hd, key_is g.ok.sub I rv t, hs, valT_rel _ rel⟩
  | _ => cases t
theorem se_getT {i : Nat} {n : Str} {px : Pos} (C : Cd X p) (hs : NoSl y) (h1 : p.N[i]? = some n) (h2 : visB p.sc n = true) (h3 : dbg n = false) (ha : SE X p cb Xq a y) : SE X p cb Xq (.getT i a) (.Subscript (.Name n px) y pos) := by
  intro σ sl F H L Q g h
  have pv := pv_of (px := px) C h1 h2 h3
  have h : RsQ X.K σ Xq F H L sl (PQ X.K σ Q) (match sl[i]? with
    | some (some (.dtt _)) => (ev p.P p.np cb a sl).bind fun rk sl1 => match rk.settle.view sl1, sl1[i]? with
      | some kd, some (some (.dtt kvs)) => if tOk kd then two ((lookD kd kvs).map .fz) sl1 else .no
      | _, _ => .no
    | _ => .no) := h
  have rule : PE X (.Subscript (.Name n px) y pos) (fun σ H Q => ∃ v, σ[i]? = some (some v) ∧ WE X y σ H fun u H2 => ∃ ad w, v = .ref ad ∧ TGet X H2 ad u (some w) ∧ Q w H2) := by
    refine ⟨fun pins s σ H Q I ⟨v, hv, h⟩ => ?_⟩
    refine subD_of PySem.F.slot_dict_getitem.lookup hs (thn (pv.run pins s σ H (fun v' H' => v' = v ∧ H' = H) I ⟨v, hv, rfl, rfl⟩) fun u s1 ⟨v', H1, I1, rx, e1, e2⟩ => ?_)
    subst e1 e2
    refine thn (h pins s1 I1) fun iv s2 ⟨u', H2, I2, ry, ad, w, ev, ⟨b, eb, tg⟩, q2⟩ => ?_
    subst ev eb
    obtain rfl : u = Value.ref ad := rx
    obtain rfl : iv = Value.ref b := ry
    obtain ⟨vals, k, hd, hk, hsys, rel⟩ := tg pins σ s2 I2
    obtain ⟨w', hw, rw'⟩ := RelO.some_of rel
    obtain ⟨pp, hp, hp2⟩ := Option.map_eq_some_iff.mp hw
    refine ⟨hd.typeIs, wpAny_getItem_heap (room8 C.units) hk hd hp ?_⟩
    rw [hp2]
    exact ⟨w, H2, I2.tok _, rw', q2⟩
  split at h
  · rename_i kv0 e0
    obtain ⟨a0, ks0, e1, e2, _, _⟩ := dtt_at g e0
    refine we_of rule ⟨_, e1, ?_⟩
    refine ha.step g h fun rk sl1 u F1 H1 L1 g1 s1 q1 h1 => ?_
    split at h1
    · rename_i kd kvs ek es
      by_cases c : tOk kd = true
      · rw [if_pos c] at h1
        obtain ⟨ad, ks, z1, z2, z3, z4⟩ := dtt_at g1 es
        rw [e1] at z1; cases z1
        have vk := q1.view g1 ek
        have rv : Rp X.K F1 u kd := by cases kd <;> first | exact vk | cases c
        have tg := tget_of g1 C z2 z4 rv c
        rcases z4.look c with ⟨_, y⟩ | ⟨w, d, y1, y2, y3⟩
        · rw [y] at h1; exact h1.elim
        · rw [y2] at h1
          rw [y1] at tg
          exact ⟨_, w, rfl, tg, res_fz g1 h1 y3⟩
      · rw [if_neg c] at h1; exact h1.elim
    · exact h1.elim
  · exact h.elim
theorem op_tin (hu : X.A.units + 200 < cLine) (neg : Bool) : OpR X (compareOp (if neg then .NotIn else .In)) (fun y x H Q => ∃ a o, x = .ref a ∧ TGet X H a y o ∧ Q (.bl (neg ^^ o.isSome)) H) := by
  intro pins s σ H x y v u Q I rx ry h
  obtain ⟨a, o, rfl, ⟨b, rfl, tg⟩, q⟩ := h
  cases rx
  cases ry
  obtain ⟨vals, k, hd, hk, hs, rel⟩ := tg pins σ s I
  have e : o.isSome = (atKey vals k).isSome := by rw [rel.isSome_eq, Option.isSome_map]
  rw [e] at q
  cases neg with
  | false =>
    refine wpAny_in_heap (room8 hu) hk hs hd ⟨.bl _, H, I.tok _, rfl, ?_⟩
    rw [Bool.false_xor] at q
    exact q
  | true =>
    refine wpAny_notIn_heap (room8 hu) hk hs hd ⟨.bl _, H, I.tok _, rfl, ?_⟩
    rw [Bool.true_xor] at q
    exact q
theorem inT_core {neg : Bool} {i : Nat} {n : Str} {px : Pos} (C : Cd X p) (h1 : p.N[i]? = some n) (h2 : visB p.sc n = true) (h3 : dbg n = false) (ha : SE X p cb Xq a y) {Q : VK} (g : G X.K F H L σ sl) (h : RsQ X.K σ Xq F H L sl (PQ X.K σ Q) (ev p.P p.np cb (.inT neg i a) sl)) :
    tOp (wk2 X (compareOp (if neg then .NotIn else .In))) (WE X y) (tVar i) σ H Q := by
  have h : RsQ X.K σ Xq F H L sl (PQ X.K σ Q) ((ev p.P p.np cb a sl).bind fun rk sl1 => match rk.settle.view sl1, sl1[i]? with
    | some kd, some (some (.dtt kvs)) => if tOk kd then .ok (.t (.fz (.bool (neg ^^ (lookD kd kvs).isSome)))) sl1 else .no
    | _, _ => .no) := h
  show WE X y σ H fun u H1 => _
  refine ha.step g h fun rk sl1 u F1 H1 L1 g1 s1 q1 h1 => ?_
  split at h1
  · rename_i kd kvs ek es
    by_cases c : tOk kd = true
    · rw [if_pos c] at h1
      obtain ⟨ad, ks, z1, z2, z3, z4⟩ := dtt_at g1 es
      have vk := q1.view g1 ek
      have rv : Rp X.K F1 u kd := by cases kd <;> first | exact vk | cases c
      have tg := tget_of g1 C z2 z4 rv c
      refine ⟨_, z1, wk2_of (op_tin C.units neg) ⟨ad, _, rfl, tg, ?_⟩⟩
      have e : (valT ks (keyN kd)).isSome = (lookD kd kvs).isSome := by
        rcases z4.look c with ⟨y1, y2⟩ | ⟨w, d, y1, y2, y3⟩ <;> rw [y1, y2] <;> rfl
      rw [e]
      exact res_fz g1 h1 (.bl _)
    · rw [if_neg c] at h1; exact h1.elim
  · exact h1.elim
theorem se_inT {neg : Bool} {i : Nat} {n : Str} {px : Pos} (C : Cd X p) (h1 : p.N[i]? = some n) (h2 : visB p.sc n = true) (h3 : dbg n = false) (ha : SE X p cb Xq a y) :
    SE X p cb Xq (.inT neg i a) (.Compare y [if neg then .NotIn else .In] [.Name n px] pos) ∧ ST X p cb Xq (.inT neg i a) (.Compare y [if neg then .NotIn else .In] [.Name n px] pos) :=
  ⟨fun σ sl F H L Q g h => we_of (pe_cmpR wk2_ok we_pe (pv_of (px := px) C h1 h2 h3) (Hd.nm.marks _)) (inT_core (px := px) C h1 h2 h3 ha g h), fun σ sl F H L Q g h => wt_of (pt_cmpR wk2_ok we_pe (pv_of (px := px) C h1 h2 h3) (Hd.nm.marks _)) (inT_core (px := px) C h1 h2 h3 ha g (test_of h))⟩
end
end Md

/-! Md, dicts with tuples as keys: list(d), list(d.values()), sorted(d). -/
namespace Md
open PySem PySem.Spec
open PyProof.Rows L2
open PySem.W (alike AllAlike Sortable dataLe sorted_data list_sort_data KdlSrc)
variable [Wd]
/-- the entries as they stand -/
theorem dt_raw {w : World} {h : Heap} {a : Addr} {ks : List TK} (x : DtR w h a ks) : ks.length ≤ sizeLine ∧ (a == sysModules) = false ∧ ∃ es ep, h.DictRaw a es ep ∧ es.size = ks.length ∧
    ∀ (i : Nat) (hi : i < es.size), ∃ p u, ks[i]? = some p ∧ es[i].key = .ref p.2.1 ∧ es[i].val = u ∧ RelV p.2.2 u := by
  obtain ⟨z, hs, vals, rel, o, es, ep, ho, hx, hd, he, hn⟩ := x
  have l1 : ks.length = vals.length := Paired.length rel
  have l2 : es.size = vals.length := by rw [← Array.length_toList, he, List.length_map]
  refine ⟨z, hs, es, ep, ⟨o, ho, hx, hd⟩, by omega, fun i hi => ?_⟩
  obtain ⟨p, hp⟩ : ∃ p, ks[i]? = some p := ⟨ks[i]'(by omega), List.getElem?_eq_getElem (by omega)⟩
  obtain ⟨q, hq, r1, r2, r3⟩ := paired_get rel hp
  have e : es[i]? = some (entN w q) := by rw [← Array.getElem?_toList, he, List.getElem?_map, hq]; rfl
  have e' : es[i] = entN w q := by
    rw [Array.getElem?_eq_getElem hi] at e
    exact Option.some.inj e
  refine ⟨p, q.2.2, hp, ?_, ?_, r3⟩
  · rw [e']; show Value.ref q.2.1 = _; rw [r2]
  · rw [e']; rfl
theorem keys_vals {ks : List TK} {us : List Value} (hl : us.length = ks.length) (h : ∀ (j : Nat) (v : Value), us[j]? = some v → ∃ p, ks[j]? = some p ∧ v = .ref p.2.1) : Vals (ks.map fun p => .ref p.2.1) us := by
  induction ks generalizing us with
  | nil =>
    cases us with
    | nil => exact .nil
    | cons _ _ => simp at hl
  | cons k ks ih =>
    cases us with
    | nil => simp at hl
    | cons u us =>
      obtain ⟨p, e1, e2⟩ := h 0 u rfl
      cases (show k = p by simpa using e1)
      exact .cons e2 (ih (by simpa using hl) fun j v e => by simpa using h (j + 1) v (by simpa using e))
theorem vals_vals {ks : List TK} {us : List Value} (hl : us.length = ks.length) (h : ∀ (j : Nat) (v : Value), us[j]? = some v → ∃ p, ks[j]? = some p ∧ RelV p.2.2 v) : Vals (ks.map fun p => p.2.2) us := by
  induction ks generalizing us with
  | nil =>
    cases us with
    | nil => exact .nil
    | cons _ _ => simp at hl
  | cons k ks ih =>
    cases us with
    | nil => simp at hl
    | cons u us =>
      obtain ⟨p, e1, e2⟩ := h 0 u rfl
      cases (show k = p by simpa using e1)
      exact .cons e2 (ih (by simpa using hl) fun j v e => by simpa using h (j + 1) v (by simpa using e))
def valsO (p d : Addr) : HO := .ext fun h => h.IsValuesView p d
theorem valsO_ok {P : Program} {w : World} {H : Hp} {h : Heap} {p d : Addr} (e : h.get? p = some { cls := .type "dict_values", data := .fields #[.ref d] }) : ObjOk P w H h p (valsO p d) :=
  ⟨⟨_, e, rfl, rfl⟩, ⟨_, e⟩, fun h1 h2 ⟨o, ho, r⟩ k => ⟨o, k o ho, r⟩⟩
mutual
theorem reads_lt {h : Heap} : ∀ {v : Value} {d : Da} {as : List Addr}, Reads h v d as → ∀ a ∈ as, a < h.objs.size
  | _, _, _, .none, a, ha => by cases ha
  | _, _, _, .bool _, a, ha => by cases ha
  | _, _, _, .int _ _, a, ha => by cases ha
  | _, _, _, .str _ _, a, ha => by cases ha
  | _, _, _, .list h1 _ _ h4, a, ha => by
    rcases List.mem_cons.mp ha with rfl | ha
    · exact Heap.lt_size h1
    · exact readsAll_lt h4 a ha
  | _, _, _, .tuple _ _ _ h4, a, ha => readsAll_lt h4 a ha
  | _, _, _, .dict h1 _ _ h4 h5, a, ha => by
    rcases List.mem_append.mp ha with ha | ha
    · rcases List.mem_cons.mp ha with rfl | ha
      · exact Heap.lt_size h1
      · exact readsAll_lt h4 a ha
    · exact readsAll_lt h5 a ha
theorem readsAll_lt {h : Heap} : ∀ {vs : List Value} {ds : List Da} {as : List Addr}, ReadsAll h vs ds as → ∀ a ∈ as, a < h.objs.size
  | _, _, _, .nil, a, ha => by cases ha
  | _, _, _, .cons h1 h2, a, ha => by
    rcases List.mem_append.mp ha with ha | ha
    · exact reads_lt h1 a ha
    · exact readsAll_lt h2 a ha
end
section
variable {X : Cx}
theorem pe_valsT {o : Expr} {to : TE} {apos cpos : Pos} (ho : PE X o to) (hbase : attributeBase o "values" X.env (eval o X.env) = eval o X.env) (hline : (apos.endLine == cpos.line) = true) :
    PE X (.Call (.Attribute o "values" apos) [] [] cpos) (fun σ H Q => to σ H fun x H1 => ∃ a ks, x = .ref a ∧ H1 a = some (DtO Wd.w a ks) ∧ ∀ p, H1 p = none → Q (.ref p) (upd H1 p (valsO p a))) := by
  refine ⟨fun pins s σ H Q I h => ?_⟩
  refine wpAny_Call_method0_late hbase hline (thn (ho.run pins s σ H _ I h) fun v s1 ⟨x, H1, I1, rx, a, ks, ex, e, q⟩ => ?_)
  subst ex
  obtain rfl : v = Value.ref a := rx
  obtain ⟨z, hs, es, ep, hr, _, _⟩ := dt_raw (dtR_of I1 e)
  obtain ⟨ob, hob, hx, hdat⟩ := hr
  have hr : s1.heap.DictRaw a es ep := ⟨ob, hob, hx, hdat⟩
  refine ⟨"dict", "dict.values", PySem.F.plainAttrs_dict, PySem.F.slot_dict_values, PySem.F.type_dict_values, hr.typeIs, fun b q => by cases q; exact ⟨ob, hob, hx.2.1⟩, ?_⟩
  refine Calls.callWith_builtin rfl (PySem.evalArgs_none (call_meetsIn PySem.F.slot_dict_values hr.typeIs PySem.F.entry_dict_values (PySem.F.args_dict_values_1 _) (meets_dict_values_raw a hs) ⟨⟨es, ep, hr⟩, ?_⟩))
  exact ⟨.ref s1.heap.objs.size, upd H1 s1.heap.objs.size (valsO s1.heap.objs.size a), I1.laid (t' := s1.toks) (fun b u e => Heap.get?_push_of_some _ e) (Nat.le_refl _) (valsO_ok (Heap.get?_push_size _ rfl)), rfl, q _ (I1.hok.fresh (Nat.le_refl _))⟩
theorem list_src {pins : List (Addr × Obj)} {s : Shared} {σ : L2.St} {H : Hp} {Q : VK} {T : String} {r d : Addr} {n : Nat} {P : Nat → Value → Prop} {OK : Heap → Prop} (hc : X.calm = true) (K : KdlSrc X.prog X.w T r d n P OK) (I : Inv X pins σ H s) (ok : OK s.heap) (hn : n ≤ sizeLine) (vs : List V)
    (hv : ∀ us : List Value, us.length = n → (∀ (j : Nat) (v : Value), us[j]? = some v → P j v) → Vals vs us) (hl : vs.length = n) (h : ∀ p, H p = none → Q (.ref p) (upd H p (.lst vs))) : wpAny (model X.prog X.w) X.A (call (.type "list") [.ref r]) (EP X pins σ Q) X.xe s := by
  refine PySem.W.kdl_call K (I.ok.hd hc) ok hn fun h' tk acc c' hk hD hacc => ?_
  have hv' := hv acc.toList (by rw [Array.length_toList]; exact hacc.1) fun j v e => hacc.2 j v (by rw [← Array.getElem?_toList]; exact e)
  exact ⟨.ref s.heap.objs.size, upd H s.heap.objs.size (.lst vs), I.laid (t' := tk) hk (Nat.le_refl _)
    (show ObjOk X.prog X.w _ _ _ (.lst vs) from ⟨by rw [hl]; exact hn, acc.toList, c', hv', by rw [Array.toArray_toList]; exact hD⟩), rfl, h _ (I.hok.fresh (Nat.le_refl _))⟩
theorem cr_listT (hc : X.calm = true) : CallR X (.type "list") (fun xs H Q => ∃ a ks, xs = [.ref a] ∧ H a = some (DtO Wd.w a ks) ∧ ∀ p, H p = none → Q (.ref p) (upd H p (.lst (ks.map fun p => .ref p.2.1)))) := by
  intro pins s σ H xs us Q I r h
  obtain ⟨a, ks, rfl, e, q⟩ := h
  rw [Vals.ref1 r]
  obtain ⟨z, hs, es, ep, hr, hsz, hent⟩ := dt_raw (dtR_of I e)
  refine list_src hc (KdlSrc.rawDict hs) I hr (by rw [hsz]; exact z) _ (fun us hl hp => keys_vals (by rw [hl, hsz]) fun j v ej => ?_) (by simp [hsz]) q
  obtain ⟨hi, rfl⟩ := hp j v ej
  obtain ⟨p, u, e1, e2, _, _⟩ := hent j hi
  exact ⟨p, e1, e2⟩
theorem cr_valsT (hc : X.calm = true) : CallR X (.type "list") (fun xs H Q => ∃ r a ks, xs = [.ref r] ∧ H r = some (valsO r a) ∧ H a = some (DtO Wd.w a ks) ∧ ∀ p, H p = none → Q (.ref p) (upd H p (.lst (ks.map fun p => p.2.2)))) := by
  intro pins s σ H xs us Q I r h
  obtain ⟨b, a, ks, rfl, ev, e, q⟩ := h
  rw [Vals.ref1 r]
  have hv : s.heap.IsValuesView b a := (I.hok b _ ev).1
  obtain ⟨z, hs, es, ep, hr, hsz, hent⟩ := dt_raw (dtR_of I e)
  refine list_src hc KdlSrc.rawValues I ⟨hv, hr⟩ (by rw [hsz]; exact z) _ (fun us hl hp => vals_vals (by rw [hl, hsz]) fun j v ej => ?_) (by simp [hsz]) q
  obtain ⟨hi, rfl⟩ := hp j v ej
  obtain ⟨p, u, e1, _, e2, e3⟩ := hent j hi
  exact ⟨p, e1, by rw [e2]; exact e3⟩
/-- sorted(..) of what is collected -/
theorem sort_src {pins : List (Addr × Obj)} {s : Shared} {σ : L2.St} {H : Hp} {Q : VK} {T : String} {r d : Addr} {n : Nat} {P : Nat → Value → Prop} {OK : Heap → Prop} (hu : X.A.units + 200 < cLine) (hc : X.calm = true) (K : KdlSrc X.prog X.w T r d n P OK) (I : Inv X pins σ H s) (ok : OK s.heap) (hn : n ≤ sizeLine) (vs : List V)
    (hv : ∀ us : List Value, us.length = n → (∀ (j : Nat) (v : Value), us[j]? = some v → P j v) → Vals vs us) {ds : List Da} {R : V → Da → Prop} (hR : PySem.W.EachIs R vs ds) (hl : vs.length = n) (hd : ∀ w d, R w d → Dp X.K H w d ∧ SeqAt.shaped d = true) (al : alikeB ds = true) (so : sortB ds = true)
    (h : ∀ out, PySem.W.EachIs R out (srt ds) → ∀ q, H q = none → Q (.ref q) (upd H q (.lst out))) : wpAny (model X.prog X.w) X.A (call (.builtin "sorted") [.ref r]) (EP X pins σ Q) X.xe s := by
  refine Calls.call_function_entry PyProof.Rows.kind_sorted PyProof.Rows.plain_sorted PyProof.Rows.entry_sorted (PyProof.Rows.args_sorted1 _) ?_
  unfold Builtin.«sorted»
  refine wpAny_bind (m := checkCount "sorted" 1 1 _) (wpAny_pure ?_)
  refine wpAny_bind (PySem.W.kdu_collect (A := X.A.in1) K (I.ok.hd hc) ok hn fun h' tk acc hk hacc => ?_)
  have hal : acc.toList.length = n := by rw [Array.length_toList]; exact hacc.1
  have hv' := hv acc.toList hal fun j v e => hacc.2 j v (by rw [← Array.getElem?_toList]; exact e)
  have I1 : Inv X pins σ H { s with heap := h', toks := tk } := I.kept hk
  refine wpAny_bind (wpAny_newList ?_ (by rw [hal]; exact hn))
  have hoL : (h'.push (seqObj "list" acc.toList.toArray 0)).get? h'.objs.size = some (seqObj "list" acc.toList.toArray 0) := Heap.get?_push_size _ rfl
  show wpAny _ _ _ _ _ { s with heap := h'.push (seqObj "list" acc.toList.toArray 0), toks := tk }
  have I2 : Inv X pins σ H { s with heap := h'.push (seqObj "list" acc.toList.toArray 0), toks := tk } := I1.kept fun b u e => Heap.get?_push_of_some _ e
  have e := each_join hv' hR
  have hold : ∀ b o, h'.get? b = some o → b ≠ h'.objs.size := fun b o e => Nat.ne_of_lt (Heap.lt_size e)
  have er : PySem.W.EachIs (fun v b => ∃ as, Reads (h'.push (seqObj "list" acc.toList.toArray 0)) v (id b) as ∧ h'.objs.size ∉ as) acc.toList ds := e.mono fun u d ⟨v, r1, r2⟩ => by
    obtain ⟨as, h1⟩ := Dp.reads I1 d v u (hd v d r2).1 r1
    exact ⟨as, PyProof.Rows.Reads.keeps (fun b o e => Heap.get?_push_of_some _ e) h1, fun z => Nat.lt_irrefl _ (reads_lt h1 _ z)⟩
  have hL : ds.length ≤ sizeLine := by rw [← hR.length, hl]; exact hn
  have hb : ∀ b, b ∈ ds → X.A.in1.units + 1 + (id b).depth < cLine := fun b hb => by
    obtain ⟨v, hv⟩ := each_mem hR b hb
    have h64 := SeqAt.depth_of_shaped (hd v b hv).2
    show X.A.units + 1 + 1 + b.depth < cLine
    omega
  have al' := alikeB_ok al; have so' := sortB_ok so
  rw [List.map_id] at al' so'
  refine wpAny_bind (wpAny_holding (list_sort_dataO hoL e er al' so' hL hb fun out h1 h2 => ?_))
  obtain ⟨ws, h3, h4⟩ := each_split h2
  obtain ⟨ep, he'⟩ := PyProof.Rows.sortedHeap_at (vs := acc.toList) (out := List.toArray out) hoL
  have hlen2 : ws.length ≤ sizeLine := by rw [h3.length, h1]; exact hL
  refine wpAny_pure ⟨_, rfl, .ref h'.objs.size, upd H h'.objs.size (.lst ws), I1.laid (t' := tk) (fun b u e => ?_) (Nat.le_refl _) ⟨hlen2, out, ep, h3, he'⟩, rfl, h ws h4 _ (I1.hok.fresh (Nat.le_refl _))⟩
  have hb : b < h'.objs.size := Heap.lt_size e
  rw [PyProof.Rows.sortedHeap_old (Nat.ne_of_lt hb) (by rw [size_push']; exact Nat.lt_succ_of_lt hb)]
  exact Heap.get?_push_of_some _ e
end
section
variable {X : Cx} {p : Cp} {cb : Nat → List T → FRes} {Xq : XQ} {σ : L2.St} {F F1 H H1 : Hp} {L L1 : Lbl} {sl sl1 : Sl} {a b c d : E} {x y z : Expr} {pos : Pos}
theorem rpT_keys {K : PySem.W.Frag} : ∀ {ks : List TK} {kvs : List (Da × Da)}, RpT K F ks kvs → RpA K F (ks.map fun p => .ref p.2.1) (kvs.map (·.1))
  | _, _, .nil => .nil
  | _, _, .cons _ b _ r => .cons b (rpT_keys r)
theorem rpT_vals {K : PySem.W.Frag} : ∀ {ks : List TK} {kvs : List (Da × Da)}, RpT K F ks kvs → RpA K F (ks.map fun p => p.2.2) (kvs.map (·.2))
  | _, _, .nil => .nil
  | _, _, .cons _ _ c r => .cons c (rpT_vals r)
theorem se_listT {i : Nat} {f n : Str} {px q : Pos} (C : Cd X p) (hb : bltB p f "list" = true) (h1 : p.N[i]? = some n) (h2 : visB p.sc n = true) (h3 : dbg n = false) : SE X p cb Xq (.listT i) (.Call (.Name f q) [.Name n px] [] pos) := by
  obtain ⟨rfl, k1, k2, k3⟩ := blt_of hb
  have dk := dbg_of k3
  intro σ sl F H L Q g h
  have h : RsQ X.K σ Xq F H L sl (PQ X.K σ Q) (match sl[i]? with
    | some (some (.dtt kvs)) => .ok (.t (.lst (kvs.map (·.1)))) sl
    | _ => .no) := h
  split at h
  · rename_i kvs e0
    obtain ⟨ad, ks, e1, e2, e3, e4⟩ := dtt_at g e0
    refine we_of (pe_callTy (cr_listT C.calm) (gl_X C k1) (C.free _ k2) (by decide +kernel) (pa_cons (pv_of C h1 h2 h3) pa_nil (Hd.nm.star _ _)) dk.2.2 dk.1 (Hd.nm.star [] X.env) rfl) ⟨_, e1, ad, ks, rfl, e2, res_lst g h (rpT_keys e4)⟩
  · exact h.elim
theorem se_valsT {i : Nat} {f n : Str} {px q apos cpos : Pos} (C : Cd X p) (hb : bltB p f "list" = true) (h1 : p.N[i]? = some n) (h2 : visB p.sc n = true) (h3 : dbg n = false) (hl : (apos.endLine == cpos.line) = true) :
    SE X p cb Xq (.valsT i) (.Call (.Name f q) [.Call (.Attribute (.Name n px) "values" apos) [] [] cpos] [] pos) := by
  obtain ⟨rfl, k1, k2, k3⟩ := blt_of hb
  have dk := dbg_of k3
  intro σ sl F H L Q g h
  have h : RsQ X.K σ Xq F H L sl (PQ X.K σ Q) (match sl[i]? with
    | some (some (.dtt kvs)) => .ok (.t (.lst (kvs.map (·.2)))) sl
    | _ => .no) := h
  split at h
  · rename_i kvs e0
    obtain ⟨ad, ks, e1, e2, e3, e4⟩ := dtt_at g e0
    have fa : F ad = none := g.ok.dis ad (by omega)
    refine we_of (pe_callTy (cr_valsT C.calm) (gl_X C k1) (C.free _ k2) (by decide +kernel) (pa_cons (pe_valsT (pv_of C h1 h2 h3) rfl hl) pa_nil (Hd.ca.star _ _)) dk.2.2 dk.1 (Hd.ca.star [] X.env) rfl) ⟨_, e1, ad, ks, rfl, e2, fun b nb => ?_⟩
    refine ⟨b, ad, ks, rfl, upd_same, by rw [upd_ne (ne_of_none e2 nb)]; exact e2, ?_⟩
    -- the view is nobody's
    have st : Stp F H L F (upd H b (valsO b ad)) L := ⟨Same.refl _, fun a o e _ => by rw [upd_ne (ne_of_none e nb)]; exact e, fun a h => .inl h, fun a h => .inl h⟩
    have g' : G X.K F (upd H b (valsO b ad)) L σ sl := ⟨⟨fun a o e => by rw [upd_ne (ne_of_none (g.ok.sub a o e) nb)]; exact g.ok.sub a o e, g.ok.dis, fun a h => by
        by_cases z : a = b
        · exact absurd nb (z ▸ g.ok.dom a h)
        · rw [upd_ne z]; exact g.ok.dom a h⟩, g.rel.mono st fun a o e l => ⟨by rw [upd_ne (ne_of_none e nb)]; exact e, rfl⟩, g.tmp⟩
    exact res_lst g' (h.from st (.refl _)) (rpT_vals e4)
  · exact h.elim
theorem cr_sortT (hu : X.A.units + 200 < cLine) (hc : X.calm = true) : CallR X (.builtin "sorted") (fun xs H Q => ∃ (a : Addr) (ks : List TK) (ds : List Da) (R : V → Da → Prop), xs = [.ref a] ∧ H a = some (DtO Wd.w a ks) ∧ PySem.W.EachIs R (ks.map fun p => .ref p.2.1) ds ∧ (∀ w d, R w d → Dp X.K H w d ∧ SeqAt.shaped d = true) ∧ alikeB ds = true ∧ sortB ds = true ∧
    ∀ out, PySem.W.EachIs R out (srt ds) → ∀ q, H q = none → Q (.ref q) (upd H q (.lst out))) := by
  intro pins s σ H xs us Q I r h
  obtain ⟨a, ks, ds, R, rfl, e, hR, hd, al, so, q⟩ := h
  rw [Vals.ref1 r]
  obtain ⟨z, hs, es, ep, hr, hsz, hent⟩ := dt_raw (dtR_of I e)
  refine sort_src hu hc (KdlSrc.rawDict hs) I hr (by rw [hsz]; exact z) _ (fun us hl hp => keys_vals (by rw [hl, hsz]) fun j v ej => ?_) hR (by simp [hsz]) hd al so q
  obtain ⟨hi, rfl⟩ := hp j v ej
  obtain ⟨p, u, e1, e2, _, _⟩ := hent j hi
  exact ⟨p, e1, e2⟩
/-- sorted(d) of a dict of numbers or texts -/
theorem cr_sortK (hu : X.A.units + 200 < cLine) (hc : X.calm = true) : CallR X (.builtin "sorted") (fun xs H Q => ∃ (a : Addr) (ks : List (L2.Key × V)) (ds : List Da) (R : V → Da → Prop), xs = [.ref a] ∧ H a = some (.dK ks) ∧ PySem.W.EachIs R (ks.map fun p => kV p.1) ds ∧ (∀ w d, R w d → Dp X.K H w d ∧ SeqAt.shaped d = true) ∧ alikeB ds = true ∧ sortB ds = true ∧
    ∀ out, PySem.W.EachIs R out (srt ds) → ∀ q, H q = none → Q (.ref q) (upd H q (.lst out))) := by
  intro pins s σ H xs us Q I r h
  obtain ⟨a, ks, ds, R, rfl, e, hR, hd, al, so, q⟩ := h
  rw [Vals.ref1 r]
  obtain ⟨z, lo, vs, rel, dd⟩ := dk_rd I.hok (.inl e)
  obtain ⟨ep, hat⟩ := dd.dictAt
  have ek : (ks.map fun kv => kV kv.1) = vs.map fun p => kV p.1 := by
    have e := congrArg (List.map kV) rel.keys
    simp only [List.map_map] at e
    exact e
  refine sort_src hu hc (PySem.W.kdl_dict (knd := mixKind X.prog X.w) (kvs := vs) (ep := ep) lo) I hat (by rw [← rel.length]; exact z) _ (fun us hl hp => ?_) hR (by rw [ek]; simp) hd al so q
  rw [ek]
  exact keys_at hl hp
theorem se_sortT {i : Nat} {f n : Str} {px q : Pos} (C : Cd X p) (hb : bltB p f "sorted" = true) (h1 : p.N[i]? = some n) (h2 : visB p.sc n = true) (h3 : dbg n = false) : SE X p cb Xq (.sortT i) (.Call (.Name f q) [.Name n px] [] pos) := by
  obtain ⟨rfl, k1, k2, k3⟩ := blt_of hb
  have dk := dbg_of k3
  intro σ sl F H L Q g h
  have h : RsQ X.K σ Xq F H L sl (PQ X.K σ Q) (match sl[i]? with
    | some (some (.dtt kvs)) => two (call1 .sorted (.list (kvs.map (·.1)))) sl
    | some (some (.dct kvs)) => two (call1 .sorted (.list (kvs.map (·.1)))) sl
    | _ => .no) := h
  split at h
  · rename_i kvs e0
    obtain ⟨ad, ks, e1, e2, e3, e4⟩ := dtt_at g e0
    have r1 := rpT_keys e4
    have e : call1 .sorted (.list (kvs.map (·.1))) = if alikeB (kvs.map (·.1)) && sortB (kvs.map (·.1)) && fitsAll 64 (kvs.map (·.1)) then some (.lst (srt (kvs.map (·.1)))) else none := rfl
    rw [e] at h
    by_cases c : (alikeB (kvs.map (·.1)) && sortB (kvs.map (·.1)) && fitsAll 64 (kvs.map (·.1))) = true
    · rw [if_pos c] at h
      rw [Bool.and_eq_true, Bool.and_eq_true] at c
      refine we_of (pe_callB (cr_sortT C.units C.calm) (gl_X C k1) (C.free _ k2) (by decide +kernel) (pa_cons (pv_of C h1 h2 h3) pa_nil (Hd.nm.star _ _)) dk.2.2 dk.1 (Hd.nm.star [] X.env) rfl)
        ⟨_, e1, ad, ks, _, _, rfl, e2, each_rp r1, fun w d ⟨r, hm⟩ => ?_, c.1.1, c.1.2, fun out ho => res_lst g h (rp_each ho)⟩
      have hf : fits 64 d = true := fitsAll_mem c.2 hm
      exact dp_of g (Rp.vw g.ok r) hf
    · rw [if_neg c] at h; exact h.elim
  · rename_i kvs e0
    obtain ⟨ad, ks, e1, e2, e3, e4⟩ := dct_at g e0
    have r1 := e4.keys
    have e : call1 .sorted (.list (kvs.map (·.1))) = if alikeB (kvs.map (·.1)) && sortB (kvs.map (·.1)) && fitsAll 64 (kvs.map (·.1)) then some (.lst (srt (kvs.map (·.1)))) else none := rfl
    rw [e] at h
    by_cases c : (alikeB (kvs.map (·.1)) && sortB (kvs.map (·.1)) && fitsAll 64 (kvs.map (·.1))) = true
    · rw [if_pos c] at h
      rw [Bool.and_eq_true, Bool.and_eq_true] at c
      refine we_of (pe_callB (cr_sortK C.units C.calm) (gl_X C k1) (C.free _ k2) (by decide +kernel) (pa_cons (pv_of C h1 h2 h3) pa_nil (Hd.nm.star _ _)) dk.2.2 dk.1 (Hd.nm.star [] X.env) rfl)
        ⟨_, e1, ad, ks, _, _, rfl, e2, each_rp r1, fun w d ⟨r, hm⟩ => ?_, c.1.1, c.1.2, fun out ho => res_lst g h (rp_each ho)⟩
      have hf : fits 64 d = true := fitsAll_mem c.2 hm
      exact dp_of g (Rp.vw g.ok r) hf
    · rw [if_neg c] at h; exact h.elim
  · exact h.elim
end
end Md

/-! Md, part NG: more of lists. -/
namespace Md
open PySem PySem.Spec
open PyProof.Rows L2
variable [Wd]
section
variable {X : Cx}
/-- l.count(x) of data -/
def rCountD (K : PySem.W.Frag) : V → List V → Hp → VK → Prop := fun x xs H Q => ∃ (a : Addr) (y : V) (d : Da) (ds : List Da), x = V.ref a ∧ xs = [y] ∧ Dp K H (V.ref a) (.list ds) ∧ Dp K H y d ∧
  SeqAt.shaped (.list ds) = true ∧ SeqAt.shaped d = true ∧ Q (.int ((ds.countP fun z => PyData.eqv z d : Nat) : Int)) H
theorem mt_lcountD (hu : X.A.units + 65 < cLine) : MtR X "list.count" (rCountD X.K) := by
  intro pins s σ H x xs v us Q I rx rxs h
  obtain ⟨a, y, d, ds, rfl, rfl, hl, hy, sl, sd, q⟩ := h
  cases rx
  cases rxs with
  | cons ry rt =>
    rename_i uy ut
    cases rt
    obtain ⟨bs, r1⟩ := Dp.reads I d y uy hy ry
    have hxs : PyData.canLayAll0 ds = true := SeqAt.canLay_of_shaped sl
    have hroom : X.A.units + 1 + min (PyData.depthAll ds) d.depth < cLine := room_in_shaped sd hu
    cases hl with
    | lst hs ha =>
      obtain ⟨its, rv, ⟨⟨cls, dd, data, sls⟩, n, ho, hc, hdn, hdt⟩, hlen⟩ := I.list hs
      simp only at hc hdt
      subst hc hdt
      obtain ⟨as, h4⟩ := Dp.readsAll I ds _ its ha rv
      have hmap : its.map (SeqAt.readOf s.heap) = ds := SeqAt.readsAll_map ds its as hxs h4
      refine call_meets PySem.F.slot_list_count ⟨_, ho, rfl⟩ PySem.F.entry_list_count (PySem.F.args_list_count_2 _ _)
        (SeqAt.list_countAt a its.toArray n dd sls uy (fun u => PyData.eqv (SeqAt.readOf s.heap u) d)) ⟨ho, SeqAt.items_eqAt (vs := its.toArray) (show ReadsAll s.heap its.toArray.toList ds as from h4) r1 hxs (SeqAt.canLay_of_shaped sd) hroom, ?_⟩
      have ec : its.toArray.toList.countP (fun u => PyData.eqv (SeqAt.readOf s.heap u) d) = ds.countP fun z => PyData.eqv z d := by
        rw [← hmap, List.countP_map]; rfl
      rw [ec]
      exact ⟨.int _, H, I.tok _, ⟨_, rfl⟩, q⟩
end
section
variable {X : Cx} {p : Cp} {cb : Nat → List T → FRes} {Xq : XQ} {σ : L2.St} {F F1 H H1 : Hp} {L L1 : Lbl} {sl sl1 : Sl} {a b c d : E} {x y z : Expr} {pos : Pos}
theorem RpA.erase {K : PySem.W.Frag} {F : Hp} : ∀ (n : Nat) {vs : List V} {ds : List Da}, RpA K F vs ds → RpA K F (vs.eraseIdx n) (ds.eraseIdx n)
  | _, _, _, .nil => .nil
  | 0, _, _, .cons _ r => r
  | n + 1, _, _, .cons h r => .cons h (r.erase n)
theorem placeD_ok {ds : List Da} {d : Da} {j : Nat} (h : placeD ds d = some j) : ∃ z, ds[j]? = some z ∧ PyData.eqv z d = true ∧ ∀ (m : Nat) (z' : Da), m < j → ds[m]? = some z' → PyData.eqv z' d = false := by
  unfold placeD at h
  obtain ⟨h1, h2, h3⟩ := List.findIdx?_eq_some_iff_getElem.mp h
  refine ⟨_, List.getElem?_eq_getElem h1, h2, fun m z' hm hz => ?_⟩
  obtain ⟨k1, k2⟩ := List.getElem?_eq_some_iff.mp hz
  have := h3 m hm
  rw [k2] at this
  simpa using this
theorem baseO (hd : Hd x) (h : notCall x = true) (m : Str) (env : Env) (whole : Sem Value) : attributeBase x m env whole = whole := by
  cases hd <;> first | rfl | cases h
theorem fewO (e : Expr) (env : Env) (cpos : Pos) (h : Hd e) : ((PySem.backTo cpos (starEach [e] env)).all (fun x => !x.1) && (backToKw cpos (keywordEach [] env)).all (fun x => x.1.isSome)
      && decide ([e].length + ([] : List Keyword).length + (if ([] : List Keyword).isEmpty then 0 else 1) < 30)) = true := by
  rw [h.star [] env]; rfl
theorem se_lm {m : M1} {n : Str} {apos cpos : Pos} (C : Cd X p) (hm : m = .index ∨ m = .count) (hn : n = m.nm) (hl : (apos.endLine == cpos.line) = true) (hnc : notCall x = true) (hd : Hd x) (hd2 : Hd y) (ha : SE X p cb Xq a x) (hb : SE X p cb Xq b y) : SE X p cb Xq (.lm m a b) (.Call (.Attribute x n apos) [y] [] cpos) := by
  subst hn
  intro σ sl F H L Q g h
  have hu1 : X.A.units + 65 < cLine := by have := C.units; omega
  have h : RsQ X.K σ Xq F H L sl (PQ X.K σ Q) ((ev p.P p.np cb a sl).bind fun ra sl1 => match ra.settle.view sl1 with
    | some (.list _) => (ev p.P p.np cb b sl1).bind fun rb sl2 => match ra.settle.view sl2, rb.settle.view sl2 with
      | some (.list ds), some y => two (callL m ds y) sl2
      | _, _ => .no
    | _ => .no) := h
  have key : ∀ (r : V → List V → Hp → VK → Prop), (∀ σ sl F H L ds d v u, G X.K F H L σ sl → Vw X.K F H v (.list ds) → Vw X.K F H u d → RsQ X.K σ Xq F H L sl (PQ X.K σ Q) (two (callL m ds d) sl) → r v [u] H Q) → tBM X.K "list" r (WE X x) (tCons (WE X y) tNil) σ H Q := fun r k => by
    show WE X x σ H fun v H1 => tyV X.K "list" v H1 ∧ WE X y σ H1 fun u H2 => r v [u] H2 Q
    refine ha.step g h fun ra sl1 v F1 H1 L1 g1 s1 q1 h1 => ?_
    split at h1
    · rename_i ds0 e0
      obtain ⟨ad, us, rfl, e1, _⟩ := q1.view g1 e0
      refine ⟨.inl ⟨rfl, _, .inl (.inl e1)⟩, ?_⟩
      refine hb.step g1 h1 fun rb sl2 u F2 H2 L2 g2 s2 q2 h2 => ?_
      have q1 := q1.mono s2
      split at h2
      · rename_i ds d ed1 ed2
        exact k _ _ _ _ _ ds d _ u g2 (q1.view g2 ed1) (q2.view g2 ed2) h2
      · exact h2.elim
    · exact h1.elim
  rcases hm with rfl | rfl
  · refine we_of (pe_bm PySem.F.plainAttrs_list PySem.F.slot_list_index PySem.F.type_list_index (mt_indexD hu1) we_pe (pa_cons we_pe pa_nil (hd2.star _ _)) (baseO hd hnc _ _ _) (fewO y X.env cpos hd2) hl (hd2.star [] X.env) rfl) ?_
    refine key _ fun σ sl F H L ds d v u g hv hu h => ?_
    have h : RsQ X.K σ Xq F H L sl (PQ X.K σ Q) (two (if (fits 64 d && fitsAll 63 ds) = true then (placeD ds d).map fun j => .fz (.int (j : Nat)) else none) sl) := h
    by_cases c : (fits 64 d && fitsAll 63 ds) = true
    · rw [if_pos c] at h
      rw [Bool.and_eq_true] at c
      cases ej : placeD ds d with
      | none => rw [ej] at h; exact h.elim
      | some j =>
        rw [ej] at h
        obtain ⟨z, z1, z2, z3⟩ := placeD_ok ej
        obtain ⟨a1, a2⟩ := dp_of g hv (show fits 64 (.list ds) = true from c.2)
        obtain ⟨b1, b2⟩ := dp_of g hu c.1
        obtain ⟨ad, us, rfl, _, _⟩ := hv
        exact ⟨ad, u, d, ds, j, z, rfl, rfl, a1, b1, a2, b2, z1, z2, z3, res_fz g h (.int _)⟩
    · rw [if_neg c] at h; exact h.elim
  · refine we_of (pe_bm PySem.F.plainAttrs_list PySem.F.slot_list_count PySem.F.type_list_count (mt_lcountD hu1) we_pe (pa_cons we_pe pa_nil (hd2.star _ _)) (baseO hd hnc _ _ _) (fewO y X.env cpos hd2) hl (hd2.star [] X.env) rfl) ?_
    refine key _ fun σ sl F H L ds d v u g hv hu h => ?_
    have h : RsQ X.K σ Xq F H L sl (PQ X.K σ Q) (two (if (fits 64 d && fitsAll 63 ds) = true then some (.fz (.int ((ds.countP fun z => PyData.eqv z d : Nat) : Int))) else none) sl) := h
    by_cases c : (fits 64 d && fitsAll 63 ds) = true
    · rw [if_pos c] at h
      rw [Bool.and_eq_true] at c
      obtain ⟨a1, a2⟩ := dp_of g hv (show fits 64 (.list ds) = true from c.2)
      obtain ⟨b1, b2⟩ := dp_of g hu c.1
      obtain ⟨ad, us, rfl, _, _⟩ := hv
      exact ⟨ad, u, d, ds, rfl, rfl, a1, b1, a2, b2, res_fz g h (.int _)⟩
    · rw [if_neg c] at h; exact h.elim
theorem se_rev {k : Nat} {p1 p2 p3 : Pos} (ha : SE X p cb Xq a x) : SE X p cb Xq (.rev a) (.Subscript x (.Slice none none (some (.UnaryOp .USub (.Constant (.int 1) k p1) p2)) p3) pos) := by
  intro σ sl F H L Q g h
  have h : RsQ X.K σ Xq F H L sl (PQ X.K σ Q) ((ev p.P p.np cb a sl).bind fun ra sl1 => match ra.settle.viewR sl1 with
    | some (.list ds) => .ok (.t (.lst ds.reverse)) sl1
    | _ => .no) := h
  refine we_of (pe_revL we_pe) ?_
  show WE X x σ H _
  refine ha.step g h fun ra sl1 v F1 H1 L1 g1 s1 q1 h1 => ?_
  split at h1
  · rename_i ds e
    obtain ⟨a, vs, rfl, e1, r1⟩ := q1.viewR g1 e
    exact ⟨a, vs, rfl, e1, res_lst g1 h1 r1.reverse⟩
  · exact h1.elim
theorem lst_at (g : G X.K F H L σ sl) {i : Nat} {ds : List Da} (e : sl[i]? = some (some (.lst ds))) : ∃ a us, σ[i]? = some (some (.ref a)) ∧ H a = some (.lst us) ∧ L a = i + 2 ∧ RpA X.K F us ds := by
  obtain ⟨v, e1, e2⟩ := g.rel.at_ i _ e
  cases e2 with
  | lst x y z => exact ⟨_, _, e1, x, y, z⟩
  | big A b _ _ => cases b
theorem se_rvl {i : Nat} {n : Str} {px apos cpos : Pos} (C : Cd X p) (h1 : p.N[i]? = some n) (h2 : visB p.sc n = true) (h3 : dbg n = false) (hl : (apos.endLine == cpos.line) = true) : SE X p cb Xq (.rvl i) (.Call (.Attribute (.Name n px) "reverse" apos) [] [] cpos) := by
  intro σ sl F H L Q g h
  obtain ⟨d1, d2, d3⟩ := dbg_of h3
  have pv : PE X (.Name n px) (tVar i) := pe_var (by rw [C.N]; exact h1) (by rw [C.sc]; exact vis_of h2) d1 d2
  have h : RsQ X.K σ Xq F H L sl (PQ X.K σ Q) (match sl[i]? with
    | some (some (.lst ds)) => .ok (.t (.fz .none)) (sl.set i (some (.lst ds.reverse)))
    | _ => .no) := h
  split at h
  · rename_i ds e
    obtain ⟨ad, us, e1, e2, e3, e4⟩ := lst_at g e
    refine we_of (pe_bm0 PySem.F.plainAttrs_list PySem.F.slot_list_reverse PySem.F.type_list_reverse mt_reverse pv rfl hl) ?_
    refine ⟨_, e1, .inl ⟨rfl, _, .inl (.inl e2)⟩, ad, us, rfl, rfl, e2, ?_⟩
    exact h F _ L (aft_wrE (o := .lst us.reverse) (t' := .lst ds.reverse) g e e1 e2 e3 (.lst upd_same e3 e4.reverse) rfl) .non ⟨.fz .non, rfl⟩
  · exact h.elim
theorem se_clr {i : Nat} {n : Str} {px apos cpos : Pos} (C : Cd X p) (h1 : p.N[i]? = some n) (h2 : visB p.sc n = true) (h3 : dbg n = false) (hl : (apos.endLine == cpos.line) = true) : SE X p cb Xq (.clr i) (.Call (.Attribute (.Name n px) "clear" apos) [] [] cpos) := by
  intro σ sl F H L Q g h
  obtain ⟨d1, d2, d3⟩ := dbg_of h3
  have pv : PE X (.Name n px) (tVar i) := pe_var (by rw [C.N]; exact h1) (by rw [C.sc]; exact vis_of h2) d1 d2
  have h : RsQ X.K σ Xq F H L sl (PQ X.K σ Q) (match sl[i]? with
    | some (some (.lst _)) => .ok (.t (.fz .none)) (sl.set i (some (.lst [])))
    | _ => .no) := h
  split at h
  · rename_i ds e
    obtain ⟨ad, us, e1, e2, e3, e4⟩ := lst_at g e
    refine we_of (pe_bm0 PySem.F.plainAttrs_list PySem.F.slot_list_clear PySem.F.type_list_clear mt_clear pv rfl hl) ?_
    refine ⟨_, e1, .inl ⟨rfl, _, .inl (.inl e2)⟩, ad, us, rfl, rfl, e2, ?_⟩
    exact h F _ L (aft_wrE (o := .lst []) (t' := .lst []) g e e1 e2 e3 (.lst upd_same e3 .nil) rfl) .non ⟨.fz .non, rfl⟩
  · exact h.elim
theorem se_pop {i : Nat} {n : Str} {px apos cpos : Pos} (C : Cd X p) (h1 : p.N[i]? = some n) (h2 : visB p.sc n = true) (h3 : dbg n = false) (hl : (apos.endLine == cpos.line) = true) (hd : Hd x) (ha : SE X p cb Xq a x) : SE X p cb Xq (.pop i a) (.Call (.Attribute (.Name n px) "pop" apos) [x] [] cpos) := by
  intro σ sl F H L Q g h
  obtain ⟨d1, d2, d3⟩ := dbg_of h3
  have pv : PE X (.Name n px) (tVar i) := pe_var (by rw [C.N]; exact h1) (by rw [C.sc]; exact vis_of h2) d1 d2
  have h : RsQ X.K σ Xq F H L sl (PQ X.K σ Q) (match sl[i]? with
    | some (some (.lst _)) => (ev p.P p.np cb a sl).bind fun re sl1 => match re.settle.view sl1, sl1[i]? with
      | some (.int j), some (some (.lst ds)) => if decide (-(2 ^ 63) ≤ j) && decide (j < 2 ^ 63) then (match seqIndex? j ds.length with
        | some k => match ds[k]? with
          | some w => .ok (.t (.fz w)) (sl1.set i (some (.lst (ds.eraseIdx k))))
          | none => .no
        | none => .no) else .no
      | _, _ => .no
    | _ => .no) := h
  split at h
  · rename_i ds0 e0
    obtain ⟨ad, us0, e1, e2, _, _⟩ := lst_at g e0
    refine we_of (pe_bm PySem.F.plainAttrs_list PySem.F.slot_list_pop PySem.F.type_list_pop mt_popAt pv (pa_cons we_pe pa_nil (hd.star _ _)) rfl (fewO x X.env cpos hd) hl (hd.star [] X.env) rfl) ?_
    refine ⟨_, e1, .inl ⟨rfl, _, .inl (.inl e2)⟩, ?_⟩
    show WE X x σ H fun u H1 => _
    refine ha.step g h fun re sl1 u F1 H1 L1 g1 s1 q1 h1 => ?_
    split at h1
    · rename_i j ds ej e3
      obtain ⟨ad', us, z1, z2, z3, z4⟩ := lst_at g1 e3
      rw [e1] at z1; cases z1
      have w : Rp X.K F1 u (.int j) := q1.view g1 ej
      cases w
      by_cases c : (decide (-(2 ^ 63) ≤ j) && decide (j < 2 ^ 63)) = true
      · rw [if_pos c] at h1
        rw [Bool.and_eq_true] at c
        split at h1
        · rename_i k ek
          split at h1
          · rename_i w ew
            obtain ⟨v, hv, rv⟩ := z4.get' ew
            refine ⟨ad, us, j, k, v, rfl, rfl, z2, of_decide_eq_true c.1, of_decide_eq_true c.2, by rw [z4.length]; exact ek, hv, ?_⟩
            exact h1 F1 _ L1 (aft_wrE (o := .lst (us.eraseIdx k)) (t' := .lst (ds.eraseIdx k)) g1 e3 e1 z2 z3 (.lst upd_same z3 (z4.erase k)) rfl) v ⟨.fz rv, rfl⟩
          · exact h1.elim
        · exact h1.elim
      · rw [if_neg c] at h1; exact h1.elim
    · exact h1.elim
  · exact h.elim
theorem fewT (e f : Expr) (env : Env) (cpos : Pos) (h : Hd e) (h2 : Hd f) : ((PySem.backTo cpos (starEach [e, f] env)).all (fun x => !x.1) && (backToKw cpos (keywordEach [] env)).all (fun x => x.1.isSome)
      && decide ([e, f].length + ([] : List Keyword).length + (if ([] : List Keyword).isEmpty then 0 else 1) < 30)) = true := by
  rw [h.star [f] env, h2.star [] env]; rfl
theorem se_insl {i : Nat} {n : Str} {px apos cpos : Pos} (C : Cd X p) (h1 : p.N[i]? = some n) (h2 : visB p.sc n = true) (h3 : dbg n = false) (hl : (apos.endLine == cpos.line) = true) (hx : Hd x) (hy : Hd y) (ha : SE X p cb Xq a x) (hb : SE X p cb Xq b y) :
    SE X p cb Xq (.insl i a b) (.Call (.Attribute (.Name n px) "insert" apos) [x, y] [] cpos) := by
  intro σ sl F H L Q g h
  obtain ⟨d1, d2, d3⟩ := dbg_of h3
  have pv : PE X (.Name n px) (tVar i) := pe_var (by rw [C.N]; exact h1) (by rw [C.sc]; exact vis_of h2) d1 d2
  have h : RsQ X.K σ Xq F H L sl (PQ X.K σ Q) (match sl[i]? with
    | some (some (.lst _)) => (ev p.P p.np cb a sl).bind fun rk sl1 => match rk.settle.view sl1 with
      | some (.int j) => (ev p.P p.np cb b sl1).bind fun re sl2 => match re.take sl2 with
        | some (w, sl3) => match sl3[i]? with
          | some (some (.lst ds)) => if decide (0 ≤ j) && decide (j < 2 ^ 63) && decide (ds.length < sizeLine) then .ok (.t (.fz .none)) (sl3.set i (some (.lst (ds.take j.toNat ++ [w] ++ ds.drop j.toNat)))) else .no
          | _ => .no
        | none => .no
      | _ => .no
    | _ => .no) := h
  split at h
  · rename_i ds0 e0
    obtain ⟨ad, us0, e1, e2, _, _⟩ := lst_at g e0
    refine we_of (pe_bm PySem.F.plainAttrs_list PySem.F.slot_list_insert PySem.F.type_list_insert mt_insert pv (pa_cons we_pe (pa_cons we_pe pa_nil (hy.star _ _)) (hx.star _ _)) rfl (fewT x y X.env cpos hx hy) hl (hx.star [y] X.env) (star_any _ X.env [y] fun e he => by rw [List.mem_singleton.mp he]; exact hy)) ?_
    refine ⟨_, e1, .inl ⟨rfl, _, .inl (.inl e2)⟩, ?_⟩
    show WE X x σ H fun v H1 => WE X y σ H1 fun u H2 => _
    refine ha.step g h fun rk sl1 v F1 H1 L1 g1 s1 q1 h1 => ?_
    split at h1
    · rename_i j ej
      have w : Rp X.K F1 v (.int j) := q1.view g1 ej
      cases w
      refine hb.stepT g1 h1 (fun re sl2 u w sl3 F2 H2 L2 et g2 st lk rw_ h2 => ?_) fun re sl2 e => by simp only [e]
      simp only [et] at h2
      split at h2
      · rename_i ds e3
        obtain ⟨ad', us, z1, z2, z3, z4⟩ := lst_at g2 e3
        rw [e1] at z1; cases z1
        by_cases c : (decide (0 ≤ j) && decide (j < 2 ^ 63) && decide (ds.length < sizeLine)) = true
        · rw [if_pos c] at h2
          simp only [Bool.and_eq_true, decide_eq_true_eq] at c
          refine ⟨ad, us, j, u, rfl, rfl, z2, by rw [z4.length]; exact c.2, c.1.1, c.1.2, ?_⟩
          exact h2 F2 _ L2 (aft_wrE (o := .lst (us.take j.toNat ++ [u] ++ us.drop j.toNat)) (t' := .lst (ds.take j.toNat ++ [w] ++ ds.drop j.toNat)) g2 e3 e1 z2 z3 (.lst upd_same z3 (((z4.take _).append (.cons rw_ .nil)).append (z4.drop _))) rfl) .non ⟨.fz .non, rfl⟩
        · rw [if_neg c] at h2; exact h2.elim
      · exact h2.elim
    · exact h1.elim
  · exact h.elim
end
end Md

/-! Md, part NH: sets of numbers and texts: made of a list, put in order, counted. -/
namespace Md
open PySem PySem.Spec
open PyProof.Rows L2
/-- the key that an element carries -/
def elK (x : Int × Value) : L2.Key := match x.2 with
  | .str y _ => .inr y
  | .int i _ => .inl i
  | _ => .inl 0
def ElOk (w : World) (x : Int × Value) : Prop := keyIs (elK x) x.2 = true ∧ x.1 = keyH w (elK x)
theorem elK_of {g : Int} {v : Value} {k : L2.Key} (q : keyIs k v = true) : elK (g, v) = k ∧ v.scannable = true := by
  rcases keyIs_shape q with ⟨i, t, rfl, rfl⟩ | ⟨x, t, rfl, rfl⟩ <;> exact ⟨rfl, rfl⟩
theorem elK_is {x : Int × Value} {k : L2.Key} (q : keyIs k x.2 = true) : elK x = k := (elK_of (g := x.1) q).1
open Classical in
noncomputable def insK (ks : List L2.Key) (k : L2.Key) : List L2.Key := if k ∈ ks then ks else ks ++ [k]
/-- the set at a: the keys ks, each once -/
def SetM (w : World) (h : Heap) (a : Addr) (ks : List L2.Key) : Prop := ∃ ob xs ep tb, h.get? a = some ob ∧ ob.ExactSet ∧ ob.data = .set xs ep tb ∧ (∀ x ∈ xs.toList, ElOk w x) ∧ (xs.toList.map elK).Perm ks ∧ ks.Nodup ∧
  xs.size < scanBound ∧ tb.fits xs.size = true ∧ Ris tb.place.toList ∧ (w.params.followText "set-order" = true ∨ tb.led = true)
theorem SetM.keep {w : World} {h h' : Heap} {a : Addr} {ks : List L2.Key} (m : SetM w h a ks) (k : ∀ ob, h.get? a = some ob → h'.get? a = some ob) : SetM w h' a ks := by
  obtain ⟨ob, xs, ep, tb, ho, rest⟩ := m
  exact ⟨ob, xs, ep, tb, k ob ho, rest⟩
section
variable {P : Program} {w : World} {A : Around} {E : Value → Shared → Prop} {s : Shared} {a : Addr} {ks : List L2.Key}
theorem elems_ok {l : List (Int × Value)} (g : ∀ x ∈ l, ElOk w x) : ElemsOf (mixKind P w) l := fun x hx =>
  ⟨⟨elK x, (g x hx).1, (g x hx).2⟩, (elK_of (g := x.1) (g x hx).1).2⟩
/-- what is stored last -/
theorem tailM {g : Bool → Sem Unit} (hg : ∀ (b : Bool) (s1 : Shared) (Q1 : Unit → Shared → Prop), Q1 () s1 → wpAny (model P w) A (g b) Q1 E s1) {ob : Obj} {xs : Array (Int × Value)} {ep : Nat} {tb : SetTable}
    (ho : s.heap.get? a = some ob) (hx : ob.ExactSet) (hd : ob.data = .set xs ep tb) {ys : Array (Int × Value)} {tb2 : SetTable} (gy : ∀ x ∈ ys.toList, ElOk w x) (py : (ys.toList.map elK).Perm ks) (nd : ks.Nodup) (sy : ys.size < scanBound)
    (fy : tb2.fits ys.size = true) (ry : Ris tb2.place.toList) (ly : w.params.followText "set-order" = true ∨ tb2.led = true) {wd : Bool} {Rr : Option Bool → Shared → Prop}
    (hR : ∀ h', Heap.SameBut a s.heap h' → SetM w h' a ks → Rr (some true) { s with heap := h' }) :
    wpAny (model P w) A (do
        storeSet a ys tb2
        if (!wd && tb2.tooFull) = true then do
            g (relayAll tb2 ys (SetTable.grown ys.size)).2.2
            storeSet a (relayAll tb2 ys (SetTable.grown ys.size)).1 (relayAll tb2 ys (SetTable.grown ys.size)).2.1
            pure (some true)
          else pure (some true)) Rr E s := by
  refine wpAny_bind (wpAny_storeSet_of ho hd ?_ (fits_of_scanBound sy))
  have ho1 := store_at (es' := ys) (t' := tb2) ho hd
  have sb1 : Heap.SameBut a s.heap (s.heap.update a (Obj.putSet ys tb2)) := Heap.SameBut.update _ a _
  split
  · have p := relayAll_perm tb2 ys (SetTable.grown ys.size)
    have f := relayAll_fits tb2 ys (SetTable.grown ys.size)
    have r := relayAll_ris tb2 ys (SetTable.grown ys.size)
    have l := relayAll_led tb2 ys (SetTable.grown ys.size)
    generalize relayAll tb2 ys (SetTable.grown ys.size) = Z at p f r l ⊢
    obtain ⟨zs, tb3, gv⟩ := Z
    dsimp only at p f r l ⊢
    have sz : zs.size = ys.size := by rw [← Array.length_toList, p.length_eq, Array.length_toList]
    have sb : zs.size < scanBound := by omega
    refine wpAny_bind (hg _ _ _ (wpAny_bind (wpAny_storeSet_of ho1 rfl ?_ (fits_of_scanBound sb))))
    refine wpAny_pure (hR _ (sb1.trans (Heap.SameBut.update _ a _)) ?_)
    exact ⟨_, zs, _, tb3, store_at (es' := zs) (t' := tb3) ho1 rfl, hx, rfl, fun x h => gy x (p.mem_iff.mp h), (p.map elK).trans py, nd, sb, f, r, ly.imp id fun z => by rw [l]; exact z⟩
  · exact wpAny_pure (hR _ sb1 ⟨_, ys, _, tb2, ho1, hx, rfl, gy, py, nd, sy, fy, ry, ly⟩)
theorem setM_add {v : Value} {k : L2.Key} {Q : Bool → Shared → Prop} (hk : keyIs k v = true) (m : SetM w s.heap a ks) (room : ks.length + 1 < scanBound)
    (hQ : ∀ h', Heap.SameBut a s.heap h' → SetM w h' a (insK ks k) → ∀ b, Q b { s with heap := h' }) : wpAny (model P w) A (setAddHashed a v (keyH w k)) Q E s := by
  obtain ⟨ob, xs, ep, tb, ho, hx, hd, g, p, nd, sb, f, r, l⟩ := m
  have hkey : (mixKind P w).is k v = true := hk
  have hsc : v.scannable = true := (elK_of (g := 0) hk).2
  have hel : ElemsOf (mixKind P w) xs.toList := elems_ok g
  unfold setAddHashed setAddHashedIn
  refine wpAny_holding (wpAny_bind (wpAny_setState_of ho hd f ?_))
  dsimp only
  rw [byScan_of hsc sb hel]
  simp only [↓reduceIte]
  unfold setAddByScan
  refine wpAny_bind (wpAny_bind (wpAny_rule (wpAny_bind ?_)))
  show wpAny (model P w) A (setScan a v ((mixKind P w).hash k) true xs) _ E s
  refine wpAny_setScan_of hkey ho hd f hel ?_
  cases hfi : List.findIdx? (fun x => (mixKind P w).is k x.2) xs.toList with
  | some j =>
    dsimp only
    obtain ⟨hj, pj, _⟩ := List.findIdx?_eq_some_iff_getElem.mp hfi
    have hin : k ∈ ks := p.mem_iff.mp (List.mem_map.mpr ⟨xs.toList[j], List.getElem_mem hj, elK_is pj⟩)
    refine wpAny_pure (wpAny_pure (hQ s.heap (Heap.SameBut.refl a s.heap) ?_ _))
    unfold insK
    rw [if_pos hin]
    exact ⟨ob, xs, ep, tb, ho, hx, hd, g, p, nd, sb, f, r, l⟩
  | none =>
    dsimp only
    have hnin : k ∉ ks := fun z => by
      obtain ⟨x, hm, e⟩ := List.mem_map.mp (p.mem_iff.mpr z)
      have c := List.findIdx?_eq_none_iff.mp hfi x hm
      have d : (mixKind P w).is k x.2 = true := by rw [← e]; exact (g x hm).1
      rw [d] at c; cases c
    have gw : ∀ (b : Bool) {s1 : Shared} {Q1 : Unit → Shared → Prop}, Q1 () s1 → wpAny (model P w) A (match b with
      | true => rule "set.scan.the-table-gave-way"
      | false => pure ()) Q1 E s1 := fun b s1 Q1 q => by cases b <;> first | exact wpAny_pure q | exact wpAny_rule q
    show wpAny (model P w) A _ _ E s
    have pm := layNew_perm tb xs (keyH w k) v
    have f1 := layNew_fits tb xs (keyH w k) v
    have r1 := layNew_ris tb xs (keyH w k) v r
    have l1 := layNew_led tb xs (keyH w k) v
    generalize layNew tb xs (keyH w k) v = Z at pm f1 r1 l1 ⊢
    obtain ⟨ys, tb1, wasD, gv⟩ := Z
    dsimp only at pm f1 r1 l1 ⊢
    rw [Array.toList_push] at pm
    have pc : ys.toList.Perm (xs.toList ++ [(keyH w k, v)]) := pm
    have gy : ∀ x ∈ ys.toList, ElOk w x := fun x hx => by
      rcases List.mem_append.mp (pc.mem_iff.mp hx) with z | z
      · exact g x z
      · rw [List.mem_singleton.mp z]
        have e := (elK_of (g := keyH w k) hk).1
        exact ⟨by rw [e]; exact hk, by rw [e]⟩
    have py : (ys.toList.map elK).Perm (insK ks k) := by
      unfold insK
      rw [if_neg hnin]
      refine (pc.map elK).trans ?_
      rw [List.map_append]
      exact p.append (by rw [List.map_singleton, (elK_of (g := keyH w k) hk).1])
    have ndy : (insK ks k).Nodup := by
      unfold insK
      rw [if_neg hnin, List.nodup_append]
      exact ⟨nd, by simp, fun x hx y hy => by rw [List.mem_singleton.mp hy]; intro z; exact hnin (z ▸ hx)⟩
    have sy : ys.size < scanBound := by
      have e1 : ys.size = xs.size + 1 := by rw [← Array.length_toList, pc.length_eq, List.length_append, Array.length_toList]; rfl
      have e2 : xs.size = ks.length := by rw [← p.length_eq, List.length_map, Array.length_toList]
      omega
    have ly : w.params.followText "set-order" = true ∨ tb1.led = true := l.imp id fun z => by rw [l1]; exact z
    have fin : ∀ h', Heap.SameBut a s.heap h' → SetM w h' a (insK ks k) → Q true { s with heap := h' } := fun h' sb q => hQ h' sb q true
    refine wpAny_bind (gw _ ?_)
    split
    · refine wpAny_bind ?_
      rw [hashByValue_scannable 8 hsc]
      refine wpAny_pure ?_
      refine tailM (ks := insK ks k) ?_ ho hx hd gy py ndy sy ?_ ?_ ?_ ?_
      · intro b s1 Q1 q; cases b <;> first | exact wpAny_pure q | exact wpAny_rule q
      · first | (split <;> first | exact f1 | exact SetTable.fits_plain_off f1) | exact f1
      · first | (split <;> exact r1) | exact r1
      · first | (split <;> exact ly) | exact ly
      · intro h' sb q; dsimp only; exact wpAny_pure (fin h' sb q)
    · refine wpAny_bind (wpAny_pure ?_)
      simp only [↓reduceIte]
      refine tailM (ks := insK ks k) ?_ ho hx hd gy py ndy sy f1 r1 ly ?_
      · intro b s1 Q1 q; cases b <;> first | exact wpAny_pure q | exact wpAny_rule q
      · intro h' sb q; dsimp only; exact wpAny_pure (fin h' sb q)
/-- the keys, each once, as they come -/
noncomputable def onceK (l : List L2.Key) : List L2.Key := l.foldl insK []
theorem insK_len (ks : List L2.Key) (k : L2.Key) : (insK ks k).length ≤ ks.length + 1 := by
  unfold insK
  split <;> simp
theorem foldK_len : ∀ (l ks : List L2.Key), (l.foldl insK ks).length ≤ ks.length + l.length
  | [], ks => by simp
  | k :: l, ks => by
    have h1 := foldK_len l (insK ks k)
    have h2 := insK_len ks k
    simp only [List.foldl_cons, List.length_cons]
    omega
theorem onceK_len (l : List L2.Key) : (onceK l).length ≤ l.length := by
  have := foldK_len l []
  unfold onceK
  simpa using this
theorem onceK_snoc (l : List L2.Key) (k : L2.Key) : onceK (l ++ [k]) = insK (onceK l) k := by
  unfold onceK
  rw [List.foldl_append]; rfl
theorem updM {R : Result → Shared → Prop} {I : Addr} {fp wr : List Addr} {G : Array GenState → Array GenState → Prop} {n : Nat} {Pv : Nat → Value → Prop} {St : Nat → Shared → Prop} (Wk : WalksS P w A.in1 I fp wr G n Pv St) (D : Addr) (hD : D ∉ fp) (kk : List L2.Key)
    (hn : n = kk.length) (hz : kk.length + 1 < scanBound) (hval : ∀ i v, Pv i v → ∃ k, kk[i]? = some k ∧ keyIs k v = true) : ∀ (m i : Nat) (s : Shared), n - i = m → i ≤ n → St i s → SetM w s.heap D (onceK (kk.take i)) →
      (∀ s', Moved (D :: wr) G s s' → SetM w s'.heap D (onceK kk) → R (.ok (.ret .none)) s') → codeAny (model P w) A (.builtin "set.update.loop" ⟨[.ref D, .ref I], []⟩) R s := by
  have hDw : D ∉ wr := fun z => hD (Wk.sub _ z)
  have up : ∀ b ∈ wr, b ∈ D :: wr := fun b z => List.mem_cons_of_mem _ z
  intro m
  induction m with
  | zero =>
    intro i s hm hi hst hS hR
    have e : i = n := by omega
    subst e
    refine codeAny_builtin PyProof.Rows.F.entry_set_update_loop (by
      rw [Around.under_plainId PyProof.Rows.F.plain_set_update_loop _]
      show wpAny _ A.in1 (pyNext (.ref I) >>= _) _ _ s
      refine wpAny_bind (Wk.done s _ _ hst fun s' mv => ?_)
      show wpAny _ A.in1 (ret Value.none) _ _ s'
      rw [List.take_of_length_le (by omega)] at hS
      exact wpAny_pure (hR s' (mv.mono up) (hS.keep fun o q => mv.heap D o hDw q)))
  | succ m ih =>
    intro i s hm hi hst hS hR
    have hlt : i < n := by omega
    refine codeAny_builtin PyProof.Rows.F.entry_set_update_loop (by
      rw [Around.under_plainId PyProof.Rows.F.plain_set_update_loop _]
      show wpAny _ A.in1 (pyNext (.ref I) >>= _) _ _ s
      refine wpAny_bind (Wk.item i s _ _ hlt hst fun v s' hP hst' mv => ?_)
      obtain ⟨k, hk, hkey⟩ := hval i v hP
      have hS' : SetM w s'.heap D (onceK (kk.take i)) := hS.keep fun o q => mv.heap D o hDw q
      show wpAny _ A.in1 (holding [v] (setAdd D v) >>= _) _ _ s'
      refine wpAny_bind (wpAny_holding ?_)
      unfold setAdd
      have lz := onceK_len (kk.take i)
      have lt : (kk.take i).length ≤ kk.length := by rw [List.length_take]; exact Nat.min_le_right _ _
      refine wpAny_holding (wpAny_bind ((mixKind P w).pyHash (k := k) hkey ?_))
      refine setM_add (s := { s' with toks := s'.toks + 1 }) hkey hS' (by omega) fun h' sb hS2 b => ?_
      have hS3 : SetM w h' D (onceK (kk.take (i + 1))) := by
        rw [List.take_add_one, hk]
        show SetM w h' D (onceK (kk.take i ++ [k]))
        rw [onceK_snoc]; exact hS2
      refine wpAny_pure ⟨plainId_quiet PyProof.Rows.F.plain_set_update_loop _, ih (i + 1) _ (by omega) hlt (Wk.frame _ s' _ _ hst' (Nat.le_succ _) fun b hb o q => (sb.2 b fun z => hD (z ▸ hb)).trans q) hS3 fun s'' mv2 hS4 => ?_⟩
      refine hR s'' (Moved.trans Wk.gtrans ((mv.mono up).then_heap (Nat.le_succ _) fun b o hb q => (sb.2 b fun z => hb (by rw [z]; exact List.mem_cons_self)).trans q) mv2) hS4)
abbrev newSet (w : World) : Obj := { cls := .type "set", dict := none, data := .set #[] 0 (.fresh 0 0 (!w.params.followText "set-order")) }
theorem newM {h : Heap} {D : Addr} (ho : h.get? D = some (newSet w)) : SetM w h D [] :=
  ⟨_, #[], 0, _, ho, ⟨rfl, rfl, rfl⟩, rfl, (fun x hx => by simp at hx), by simp, List.nodup_nil, by decide, by rfl, List.Pairwise.nil, by
    show _ ∨ (!w.params.followText "set-order") = true
    cases w.params.followText "set-order" <;> simp⟩
set_option maxHeartbeats 3200000 in
/-- set(l) of numbers and texts -/
theorem call_setM {l : Addr} {its : Array Value} (kk : List L2.Key) {Q : Value → Shared → Prop} (hh : A.handled = none) (hl : s.heap.IsList l its) (hz : kk.length + 1 < scanBound) (hn : its.size = kk.length) (hval : ∀ (i : Nat) (v : Value), its[i]? = some v → ∃ k, kk[i]? = some k ∧ keyIs k v = true)
    (hQ : ∀ (h' : Heap) (tk : Nat), SetM w h' s.heap.objs.size (onceK kk) → (∀ b o, s.heap.get? b = some o → h'.get? b = some o) → Q (.ref s.heap.objs.size) { s with heap := h', toks := tk }) :
    wpAny (model P w) A (call (.type "set") [.ref l]) Q E s := by
  obtain ⟨c, tl, hmro⟩ := PySem.F.called_set.mro; have hmade := PySem.F.called_set.made; have hsub := PySem.F.called_set.sub
  refine wpAny_call (codeAny_of_tree (by
    show wpAny _ _ (callAny (.type "set") _) _ _ _
    refine wpAny_pure ⟨Code.quiet_builtin _ (by decide +kernel), codeAny_builtin PySem.F.entry_type_call (by
      rw [Around.under_plain (weight_type_call_type "set" [.ref l] []) rfl]
      have h1 := PySem.F.called_set.notType; have h2 := PySem.F.called_set.canCreate; have hct := PySem.F.typeCall_set_1 (.ref l)
      repeat (any_goals (first | assumption | wp_step))
      refine codeAny_mono (code_set_led1 (.ref l) (E := E) (Q₁ := fun ob s1 => ob = .ref s.heap.objs.size ∧ s1 = { s with heap := s.heap.push (newSet w) }) ⟨rfl, rfl⟩) fun r s1 hr => ?_
      cases r with
      | error e => exact hr
      | ok fl => cases fl with
        | ret ob =>
          obtain ⟨rfl, rfl⟩ := hr
          have hS : (s.heap.push (newSet w)).get? s.heap.objs.size = some (newSet w) := Heap.get?_push_size _ rfl
          have hT : Shared.TypeIs { s with heap := s.heap.push (newSet w) } (.ref s.heap.objs.size) "set" := ⟨_, hS, rfl⟩
          have hli := PySem.F.called_set.init.lookup; have hbi := PySem.F.called_set.init.bind (.ref s.heap.objs.size)
          repeat (any_goals (first | assumption | wp_step))
          refine codeAny_mono (codeAny_call_builtin (R := wants (fun r s2 => r = .none ∧ ∃ h' tk, s2 = { s with heap := h', toks := tk } ∧ SetM w h' s.heap.objs.size (onceK kk) ∧ (∀ b o, s.heap.get? b = some o → h'.get? b = some o)) E) PySem.F.called_set.init.plain PySem.F.entry_set_init (check_set_init_1 hT ?_)) fun r2 s2 hr2 => ?_
          · obtain ⟨⟨oc, od, oda, osl⟩, hol, hcl, nl, hdl⟩ := hl
            simp only at hcl hdl
            subst hcl; subst hdl
            have hol' : (s.heap.push (newSet w)).get? l = some { cls := .type "list", dict := od, data := .seq its nl, slots := osl } := Heap.get?_push_of_some _ hol
            have hsls := PySem.F.sub_list_set; have hslf := PySem.F.sub_list_frozenset
            have hne : (Value.type "list" == Value.type "dict") = false := by decide
            have hl1 : (s.heap.push (newSet w)).IsList l its := ⟨_, hol', rfl, nl, rfl⟩
            unfold Builtin.«set.__init__» noKeywords Builtin.Frozenset.updateFrom
            generalize hPI : pyIter = PI
            wp_walk
            subst hPI
            refine wpAny_pyIter_list hl1 (wpAny_bind (wpAny_runValue ?_))
            have hlS : l < s.heap.objs.size := Heap.lt_size hol
            have hh3 : A.in1.in1.in1.handled = none := by simp [hh]
            have hsz : (s.heap.push (newSet w)).objs.size = s.heap.objs.size + 1 := Heap.size_push ..
            have hneI : l ≠ (s.heap.push (newSet w)).objs.size := by rw [hsz]; exact Nat.ne_of_lt (Nat.lt_succ_of_lt hlS)
            have hSf : s.heap.objs.size ∉ [(s.heap.push (newSet w)).objs.size, l] := by
              rw [hsz]; simp only [List.mem_cons, List.not_mem_nil, or_false, not_or]; exact ⟨Nat.ne_of_lt (Nat.lt_succ_self _), Nat.ne_of_gt hlS⟩
            refine updM ((Walks.list hh3 _ l hneI its).toS) s.heap.objs.size hSf kk hn hz hval (its.size - 0) 0 _ (by omega) (Nat.zero_le _) ⟨⟨_, Heap.get?_push_size _ rfl, rfl, rfl⟩, (hl1.push _)⟩ (newM (Heap.get?_push_of_some _ hS)) fun s' mv hS' => ?_
            obtain ⟨h', g2, d2, tk2, os2⟩ := s'
            have eg : g2 = s.gens := mv.gens
            have ed : d2 = s.drawn := mv.drawn
            have eo : os2 = s.os := mv.os
            subst eg; subst ed; subst eo
            show wpAny _ _ _ _ _ _
            refine wpAny_pure (by
              show wpAny _ _ (ret Value.none) _ _ _
              refine wpAny_pure ⟨rfl, h', tk2, rfl, hS', fun b o q => ?_⟩
              have hb : b < s.heap.objs.size := Heap.lt_size q
              refine mv.heap b o ?_ (Heap.get?_push_of_some _ (Heap.get?_push_of_some _ q))
              rw [hsz]; simp only [List.mem_cons, List.not_mem_nil, or_false, not_or]; exact ⟨Nat.ne_of_lt hb, Nat.ne_of_lt (Nat.lt_succ_of_lt hb)⟩)
          · cases r2 with
            | error e => exact hr2
            | ok f2 => cases f2 with
              | ret r =>
                obtain ⟨rfl, h', tk, rfl, hS', hk'⟩ := hr2
                repeat (any_goals (first | assumption | wp_step))
                exact hQ _ _ hS' hk'
              | _ => exact hr2.elim
        | _ => exact hr.elim)⟩))
end
end Md

/-! Md, part NI: sets, as what a call gives. -/
namespace Md
open PySem PySem.Spec
open PyProof.Rows L2
open PySem.W (alike AllAlike dataLe)
/-- the set at a -/
def SetMO (w : World) (a : Addr) (ks : List L2.Key) : HO := .ext fun h => SetM w h a ks
theorem setMO_ok {P : Program} {w : World} {H : Hp} {h : Heap} {a : Addr} {ks : List L2.Key} (m : SetM w h a ks) : ObjOk P w H h a (SetMO w a ks) := by
  have ⟨o, _, _, _, ho, _⟩ := m
  exact ⟨m, ⟨o, ho⟩, fun h1 h2 p k => SetM.keep p k⟩
theorem keys_of_vals : ∀ {kk : List L2.Key} {us : List Value}, Vals (kk.map kV) us → ∀ (i : Nat) (v : Value), us[i]? = some v → ∃ k, kk[i]? = some k ∧ keyIs k v = true
  | [], _, .nil, i, v, h => by simp at h
  | k :: kk, _, .cons r rs, 0, v, h => by
    cases h
    refine ⟨k, rfl, ?_⟩
    cases k with
    | inl i => obtain ⟨t, e⟩ := (show ∃ t, _ = Value.int i t from r); subst e; exact keyIs_int i t
    | inr x => obtain ⟨t, e⟩ := (show ∃ t, _ = Value.str x t from r); subst e; exact keyIs_str x t
  | k :: kk, _, .cons r rs, i + 1, v, h => by
    obtain ⟨k', h1, h2⟩ := keys_of_vals rs i v (by simpa using h)
    exact ⟨k', by simpa using h1, h2⟩
section
variable [Wd] {X : Cx}
theorem cr_setM (hc : X.calm = true) : CallR X (.type "set") (fun xs H Q => ∃ (l : Addr) (kk : List L2.Key), xs = [.ref l] ∧ SqL X.K H l (kk.map kV) ∧ kk.length + 1 < scanBound ∧ ∀ p, H p = none → Q (.ref p) (upd H p (SetMO X.w p (onceK kk)))) := by
  intro pins s σ H xs us Q I r h
  obtain ⟨l, kk, rfl, hs, hz, q⟩ := h
  obtain ⟨its, rv, hl, _⟩ := I.list hs
  rw [Vals.ref1 r]
  have hlen := rv.length
  rw [List.length_map] at hlen
  refine call_setM kk (I.ok.hd hc) hl.isList hz (by rw [List.size_toArray]; omega) (fun i v hv => keys_of_vals rv i v (by rw [← List.getElem?_toArray]; exact hv)) fun h' tk m k => ?_
  exact ⟨.ref _, upd H s.heap.objs.size (SetMO X.w s.heap.objs.size (onceK kk)), I.laid (t' := tk) k (Nat.le_refl _) (setMO_ok m), rfl, q _ (I.hok.fresh (Nat.le_refl _))⟩
theorem setM_get {pins : List (Addr × Obj)} {σ : L2.St} {H : Hp} {s : Shared} {a : Addr} {ks : List L2.Key} (I : Inv X pins σ H s) (e : H a = some (SetMO X.w a ks)) : SetM X.w s.heap a ks := (I.hok a _ e).1
theorem cr_lenM : CallR X (.builtin "len") (fun xs H Q => ∃ (a : Addr) (ks : List L2.Key), xs = [.ref a] ∧ H a = some (SetMO X.w a ks) ∧ Q (.int (ks.length : Nat)) H) := by
  intro pins s σ H xs us Q I r h
  obtain ⟨a, ks, rfl, e, q⟩ := h
  rw [Vals.ref1 r]
  obtain ⟨ob, xs, ep, tb, ho, hx, hd, g, p, nd, sb, f, _, _⟩ := setM_get I e
  have hn : xs.size = ks.length := by rw [← p.length_eq, List.length_map, Array.length_toList]
  have hb : scanBound = 4096 := rfl
  refine call_len_set ho hx hd f (by rw [hb] at sb; omega) ?_
  exact ⟨.int (ks.length : Nat), H, I.tok _, ⟨s.toks + 1, by rw [hn]⟩, q⟩
theorem le_keys {k j : L2.Key} (al : alike (keyD k) (keyD j) = true) (h1 : dataLe false id (keyD k) (keyD j) = true) (h2 : dataLe false id (keyD j) (keyD k) = true) : keyD k = keyD j := by
  have e1 : PySem.W.dataLt (keyD j) (keyD k) = false := by simpa [PySem.W.dataLe_eq] using h1
  have e2 : PySem.W.dataLt (keyD k) (keyD j) = false := by simpa [PySem.W.dataLe_eq] using h2
  cases k with
  | inl a => cases j with
    | inl b =>
      simp only [keyD, PySem.W.dataLt_int, decide_eq_false_iff_not] at e1 e2
      have : a = b := by omega
      rw [this]
    | inr y => simp [keyD, alike] at al
  | inr x => cases j with
    | inl b => simp [keyD, alike] at al
    | inr y =>
      simp only [keyD, PySem.W.dataLt_str, decide_eq_false_iff_not] at e1 e2
      have := List.le_antisymm (List.not_lt.mp e1) (List.not_lt.mp e2)
      rw [PySem.W.str_of_cps this]
theorem srt_perm {ks js : List L2.Key} (p : js.Perm ks) (al : alikeB (ks.map keyD) = true) : srt (js.map keyD) = srt (ks.map keyD) := by
  have tot : PySem.W.TotalLe (dataLe false (id : Da → Da)) := PySem.W.sortLe_total _ _ _
  have q1 := List.mergeSort_perm (js.map keyD) (dataLe false id)
  have q2 := List.mergeSort_perm (ks.map keyD) (dataLe false id)
  refine List.Perm.eq_of_pairwise (le := fun a b => dataLe false id a b = true) (fun a b ha hb h1 h2 => ?_) (PySem.W.sort_pairwise tot _) (PySem.W.sort_pairwise tot _) (q1.trans ((p.map keyD).trans q2.symm))
  have ma : a ∈ ks.map keyD := (p.map keyD).mem_iff.mp (q1.mem_iff.mp ha)
  have mb : b ∈ ks.map keyD := q2.mem_iff.mp hb
  have al' : alike a b = true := List.all_eq_true.mp (List.all_eq_true.mp al a ma) b mb
  obtain ⟨k, _, rfl⟩ := List.mem_map.mp ma
  obtain ⟨j, _, rfl⟩ := List.mem_map.mp mb
  exact le_keys al' h1 h2
theorem keys_read {h : Heap} {ks : List L2.Key} : ∀ {vs : List Value}, (∀ v ∈ vs, ∃ k ∈ ks, keyIs k v = true) → ∃ js : List L2.Key, PySem.W.EachIs (fun v d => ∃ as, Reads h v d as ∧ as = []) vs (js.map keyD) ∧ PySem.W.EachIs (fun v d => ∃ k ∈ ks, keyIs k v = true ∧ d = keyD k) vs (js.map keyD) ∧ js = vs.map fun v => elK (0, v)
  | [], _ => ⟨[], .nil, .nil, rfl⟩
  | v :: vs, hv => by
    obtain ⟨js, h1, h2, h3⟩ := keys_read (h := h) (vs := vs) fun u hu => hv u (List.mem_cons_of_mem _ hu)
    obtain ⟨k, hk, hi⟩ := hv v List.mem_cons_self
    have e := (elK_of (g := 0) hi).1
    refine ⟨k :: js, .cons ?_ h1, .cons ⟨k, hk, hi, rfl⟩ h2, by rw [List.map_cons, e, h3]⟩
    rcases keyIs_shape hi with ⟨i, t, rfl, rfl⟩ | ⟨x, t, rfl, rfl⟩
    · exact ⟨[], .int i t, rfl⟩
    · exact ⟨[], .str x t, rfl⟩
theorem keys_back {ks : List L2.Key} : ∀ {us : List Value} {ds : List Da}, PySem.W.EachIs (fun v d => ∃ k ∈ ks, keyIs k v = true ∧ d = keyD k) us ds → ∃ vs : List V, Vals vs us ∧ PySem.W.EachIs (fun v d => ∃ k ∈ ks, v = kV k ∧ d = keyD k) vs ds
  | _, _, .nil => ⟨[], .nil, .nil⟩
  | _, _, .cons ⟨k, hk, hi, e⟩ r => by
    obtain ⟨vs, h1, h2⟩ := keys_back r
    refine ⟨kV k :: vs, .cons ?_ h1, .cons ⟨k, hk, rfl, e⟩ h2⟩
    rcases keyIs_shape hi with ⟨i, t, rfl, rfl⟩ | ⟨x, t, rfl, rfl⟩
    · exact ⟨t, rfl⟩
    · exact ⟨t, rfl⟩
theorem sortB_keys (js : List L2.Key) : sortB (js.map keyD) = true := by
  unfold sortB
  rw [Bool.or_eq_true, Bool.or_eq_true]
  refine .inl (.inr (List.all_eq_true.mpr fun d hd => ?_))
  obtain ⟨k, _, rfl⟩ := List.mem_map.mp hd
  cases k <;> rfl
/-- sorted(a set of numbers, of texts) -/
theorem cr_sortM (hu : X.A.units + 200 < cLine) (hc : X.calm = true) : CallR X (.builtin "sorted") (fun xs H Q => ∃ (a : Addr) (ks : List L2.Key), xs = [.ref a] ∧ H a = some (SetMO X.w a ks) ∧ alikeB (ks.map keyD) = true ∧
    ∀ out, PySem.W.EachIs (fun v d => ∃ k ∈ ks, v = kV k ∧ d = keyD k) out (srt (ks.map keyD)) → ∀ q, H q = none → Q (.ref q) (upd H q (.lst out))) := by
  intro pins s σ H xs us Q I r h
  obtain ⟨a, ks, rfl, e, al, q⟩ := h
  rw [Vals.ref1 r]
  obtain ⟨ob, xs, ep, tb, ho, hx, hd, g, p, nd, sb, f, rr, ll⟩ := setM_get I e
  refine Calls.call_function_entry PyProof.Rows.kind_sorted PyProof.Rows.plain_sorted PyProof.Rows.entry_sorted (PyProof.Rows.args_sorted1 _) (by
    unfold Builtin.«sorted»
    refine wpAny_bind (m := checkCount "sorted" 1 1 _) (wpAny_pure (wpAny_bind (collect_set (A := X.A.in1) (I.ok.hd hc) ⟨ob, ho, hx.1, hd⟩ f sb rr ll fun s1 vs k1 hz g1 o1 pm => ?_)))
    have hb : scanBound = 4096 := rfl
    have hvl : vs.length = xs.size := by rw [pm.length_eq, List.length_map, Array.length_toList]
    have hsz : sizeLine = 16777216 := sizeLine_eq
    have hvk : ∀ v ∈ vs, ∃ k ∈ ks, keyIs k v = true := fun v hv => by
      obtain ⟨x, hm, e⟩ := List.mem_map.mp (pm.mem_iff.mp hv)
      exact ⟨elK x, p.mem_iff.mp (List.mem_map.mpr ⟨x, hm, rfl⟩), by rw [← e]; exact (g x hm).1⟩
    refine wpAny_bind (wpAny_newList (by
      have hoL : (s1.heap.push (seqObj "list" vs.toArray 0)).get? s1.heap.objs.size = some (seqObj "list" vs.toArray 0) := Heap.get?_push_size _ rfl
      show wpAny _ _ _ _ _ { s1 with heap := s1.heap.push (seqObj "list" vs.toArray 0) }
      obtain ⟨js, r1, r2, ej⟩ := keys_read (h := s1.heap.push (seqObj "list" vs.toArray 0)) hvk
      have pj : js.Perm ks := by
        refine .trans ?_ p
        rw [ej]
        have q := pm.map fun v => elK (0, v)
        rw [List.map_map] at q
        exact q
      have alj : alikeB (js.map keyD) = true := List.all_eq_true.mpr fun d hd => List.all_eq_true.mpr fun d' hd' =>
        List.all_eq_true.mp (List.all_eq_true.mp al d ((pj.map keyD).mem_iff.mp hd)) d' ((pj.map keyD).mem_iff.mp hd')
      have al' := alikeB_ok alj
      have so' := sortB_ok (sortB_keys js)
      rw [List.map_id] at al' so'
      have lj : (js.map keyD).length = xs.size := by rw [← r1.length]; exact hvl
      refine wpAny_bind (wpAny_holding (list_sort_dataO hoL r2 (r1.mono fun v d ⟨as, h1, h2⟩ => ⟨as, h1, by rw [h2]; simp⟩) al' so' (by omega) (fun b hb => ?_) fun out h1 h2 => ?_))
      · obtain ⟨k, _, rfl⟩ := List.mem_map.mp hb
        have : (keyD k).depth = 0 := by cases k <;> rfl
        rw [this]
        show X.A.units + 1 + 1 + 0 < cLine
        omega
      · have h2' : PySem.W.EachIs (fun v d => ∃ k ∈ ks, keyIs k v = true ∧ d = keyD k) out (srt (ks.map keyD)) := by rw [← srt_perm pj al]; exact h2
        obtain ⟨ws, h3, h4⟩ := keys_back h2'
        obtain ⟨ep2, he2⟩ := PyProof.Rows.sortedHeap_at (vs := vs) (out := List.toArray out) hoL
        have hlen2 : ws.length ≤ sizeLine := by rw [h3.length, h1]; omega
        have hk : ∀ b u, s.heap.get? b = some u → (sortedHeap (s1.heap.push (seqObj "list" vs.toArray 0)) s1.heap.objs.size vs (List.toArray out)).get? b = some u := fun b u eb => by
          have q := k1 b u eb
          have hlt := Heap.lt_size q
          rw [PyProof.Rows.sortedHeap_old (Nat.ne_of_lt hlt) (by rw [size_push']; exact Nat.lt_succ_of_lt hlt)]
          exact Heap.get?_push_of_some _ q
        have hn : H s1.heap.objs.size = none := I.hok.fresh hz
        have J : Inv X pins σ (upd H s1.heap.objs.size (.lst ws)) { s with heap := sortedHeap (s1.heap.push (seqObj "list" vs.toArray 0)) s1.heap.objs.size vs (List.toArray out), gens := s1.gens, drawn := s1.drawn, toks := s1.toks } :=
          I.call (ch := []) (Un.laid hk hz hn) (I.hok.laid hk hz ⟨hlen2, out, ep2, h3, he2⟩) (by rw [g1]; exact I.bare) (fun _ z => nomatch z)
        have es : { s1 with heap := sortedHeap (s1.heap.push (seqObj "list" vs.toArray 0)) s1.heap.objs.size vs (List.toArray out) } = { s with heap := sortedHeap (s1.heap.push (seqObj "list" vs.toArray 0)) s1.heap.objs.size vs (List.toArray out), gens := s1.gens, drawn := s1.drawn, toks := s1.toks } := by
          cases s1; cases s; cases o1; rfl
        refine wpAny_pure ⟨_, rfl, ?_⟩
        rw [es]
        exact ⟨.ref _, _, J, rfl, q ws h4 _ hn⟩) (by omega)))
end
section
variable [Wd]
theorem insK_keyD (ks : List L2.Key) (k : L2.Key) : (insK ks k).map keyD = (fun (acc : List Da) d => if acc.any (fun x => keq x d) then acc else acc ++ [d]) (ks.map keyD) (keyD k) := by
  have e : ((ks.map keyD).any fun x => keq x (keyD k)) = true ↔ k ∈ ks := by
    rw [List.any_eq_true]
    constructor
    · rintro ⟨d, hd, q⟩
      obtain ⟨j, hj, rfl⟩ := List.mem_map.mp hd
      rw [keq_keyD] at q
      rw [← of_decide_eq_true q]; exact hj
    · exact fun h => ⟨keyD k, List.mem_map.mpr ⟨k, h, rfl⟩, by rw [keq_keyD]; exact decide_eq_true rfl⟩
  unfold insK
  by_cases h : k ∈ ks
  · rw [if_pos h]
    simp only [e.mpr h, if_true]
  · rw [if_neg h]
    simp only [Bool.eq_false_iff.mpr (fun z => h (e.mp z)), Bool.false_eq_true, if_false, List.map_append, List.map_cons, List.map_nil]
theorem foldK_keyD : ∀ (l ks : List L2.Key), (l.foldl insK ks).map keyD = (l.map keyD).foldl (fun acc d => if acc.any (fun x => keq x d) then acc else acc ++ [d]) (ks.map keyD)
  | [], _ => rfl
  | k :: l, ks => by
    rw [List.foldl_cons, foldK_keyD l, insK_keyD]; rfl
theorem onceK_keyD (kk : List L2.Key) : (onceK kk).map keyD = onceD (kk.map keyD) := foldK_keyD kk []
theorem foldK_mem : ∀ (l ks : List L2.Key) (k : L2.Key), k ∈ l.foldl insK ks → k ∈ ks ∨ k ∈ l
  | [], _, _, h => .inl h
  | j :: l, ks, k, h => by
    rcases foldK_mem l _ k h with z | z
    · unfold insK at z
      split at z
      · exact .inl z
      · rcases List.mem_append.mp z with z | z
        · exact .inl z
        · rw [List.mem_singleton.mp z]; exact .inr List.mem_cons_self
    · exact .inr (List.mem_cons_of_mem _ z)
theorem rpA_keys {K : PySem.W.Frag} {F : Hp} : ∀ {us : List V} {ds : List Da}, RpA K F us ds → ds.all kOk = true → ∃ kk : List L2.Key, us = kk.map kV ∧ ds = kk.map keyD ∧ ∀ k ∈ kk, keyOk k
  | _, _, .nil, _ => ⟨[], rfl, rfl, fun _ h => nomatch h⟩
  | _, _, .cons r rs, h => by
    rw [List.all_cons, Bool.and_eq_true] at h
    obtain ⟨k, e1, e2, ok⟩ := kOk_of r h.1
    obtain ⟨kk, e3, e4, oks⟩ := rpA_keys rs h.2
    exact ⟨k :: kk, by rw [e1, e3]; rfl, by rw [e2, e4]; rfl, fun j hj => by
      rcases List.mem_cons.mp hj with rfl | hj
      · exact ok
      · exact oks j hj⟩
end
section
variable [Wd] {X : Cx} {p : Cp} {cb : Nat → List T → FRes} {Xq : XQ} {σ : L2.St} {F F1 H H1 : Hp} {L L1 : Lbl} {sl sl1 : Sl} {a b c d : E} {x y z : Expr} {pos : Pos}
/-- what is nobody's is laid -/
theorem G.nob (g : G X.K F H L σ sl) {b : Addr} {u : HO} (nb : H b = none) : G X.K F (upd H b u) L σ sl ∧ Stp F H L F (upd H b u) L := by
  have st : Stp F H L F (upd H b u) L := ⟨Same.refl _, fun a o e _ => by rw [upd_ne (ne_of_none e nb)]; exact e, fun a h => .inl h, fun a h => .inl h⟩
  exact ⟨⟨⟨fun a o e => by rw [upd_ne (ne_of_none (g.ok.sub a o e) nb)]; exact g.ok.sub a o e, g.ok.dis, fun a h => by
    by_cases z : a = b
    · exact absurd nb (z ▸ g.ok.dom a h)
    · rw [upd_ne z]; exact g.ok.dom a h⟩, g.rel.mono st fun a o e l => ⟨by rw [upd_ne (ne_of_none e nb)]; exact e, rfl⟩, g.tmp⟩, st⟩
theorem se_sset {f n : Str} {q1 q2 pos2 : Pos} (C : Cd X p) (hb : bltB p f "sorted" = true) (hb2 : bltB p n "set" = true) (hd : Hd x) (ha : SE X p cb Xq a x) : SE X p cb Xq (.sset a) (.Call (.Name f q1) [.Call (.Name n q2) [x] [] pos2] [] pos) := by
  obtain ⟨rfl, k1, k2, k3⟩ := blt_of hb
  obtain ⟨rfl, j1, j2, j3⟩ := blt_of hb2
  have dk := dbg_of k3
  have dj := dbg_of j3
  intro σ sl F H L Q g h
  have h : RsQ X.K σ Xq F H L sl (PQ X.K σ Q) ((ev p.P p.np cb a sl).bind fun ra sl1 => match ra.settle.view sl1 with
    | some (.list ds) => if ds.all kOk && alikeB ds && decide (ds.length < 4000) then .ok (.t (.lst (srt (onceD ds)))) sl1 else .no
    | _ => .no) := h
  refine we_of (pe_callB (cr_sortM C.units C.calm) (gl_X C k1) (C.free _ k2) (by decide +kernel) (pa_cons (pe_callTy (cr_setM C.calm) (gl_X C j1) (C.free _ j2) (by decide +kernel) (pa_cons we_pe pa_nil (hd.star _ _)) dj.2.2 dj.1 (hd.star [] X.env) rfl) pa_nil (Hd.ca.star _ _)) dk.2.2 dk.1 (Hd.ca.star [] X.env) rfl) ?_
  show WE X x σ H _
  refine ha.step g h fun ra sl1 v F1 H1 L1 g1 s1 q1 h1 => ?_
  split at h1
  · rename_i ds e
    obtain ⟨ad, us, rfl, e1, r1⟩ := q1.view g1 e
    by_cases c : (ds.all kOk && alikeB ds && decide (ds.length < 4000)) = true
    · rw [if_pos c] at h1
      rw [Bool.and_eq_true, Bool.and_eq_true] at c
      obtain ⟨kk, rfl, rfl, oks⟩ := rpA_keys r1 c.1.1
      have lz := of_decide_eq_true c.2
      rw [List.length_map] at lz
      have hsb : scanBound = 4096 := rfl
      refine ⟨ad, kk, rfl, .inl (.inl e1), by omega, fun b nb => ⟨b, onceK kk, rfl, upd_same, ?_, fun out ho => ?_⟩⟩
      · exact List.all_eq_true.mpr fun d hd => List.all_eq_true.mpr fun d' hd' => by
          obtain ⟨k, hk, rfl⟩ := List.mem_map.mp hd
          obtain ⟨k', hk', rfl⟩ := List.mem_map.mp hd'
          rcases foldK_mem kk [] k hk with z | z
          · cases z
          · rcases foldK_mem kk [] k' hk' with z' | z'
            · cases z'
            · exact List.all_eq_true.mp (List.all_eq_true.mp c.1.2 _ (List.mem_map.mpr ⟨k, z, rfl⟩)) _ (List.mem_map.mpr ⟨k', z', rfl⟩)
      · obtain ⟨g2, st⟩ := g1.nob (u := SetMO X.w b (onceK kk)) nb
        rw [onceK_keyD] at ho
        refine res_lst g2 (h1.from st (.refl _)) (rp_each (P := fun _ => True) (ho.mono fun v d ⟨k, hk, e3, e4⟩ => ⟨?_, trivial⟩))
        rw [e3, e4]
        rcases foldK_mem kk [] k hk with z | z
        · cases z
        · exact key_rp k (oks k z)
    · rw [if_neg c] at h1; exact h1.elim
  · exact h1.elim
theorem se_slen {f n : Str} {q1 q2 pos2 : Pos} (C : Cd X p) (hb : bltB p f "len" = true) (hb2 : bltB p n "set" = true) (hd : Hd x) (ha : SE X p cb Xq a x) : SE X p cb Xq (.slen a) (.Call (.Name f q1) [.Call (.Name n q2) [x] [] pos2] [] pos) := by
  obtain ⟨rfl, k1, k2, k3⟩ := blt_of hb
  obtain ⟨rfl, j1, j2, j3⟩ := blt_of hb2
  have dk := dbg_of k3
  have dj := dbg_of j3
  intro σ sl F H L Q g h
  have h : RsQ X.K σ Xq F H L sl (PQ X.K σ Q) ((ev p.P p.np cb a sl).bind fun ra sl1 => match ra.settle.view sl1 with
    | some (.list ds) => if ds.all kOk && decide (ds.length < 4000) then .ok (.t (.fz (.int ((onceD ds).length : Nat)))) sl1 else .no
    | _ => .no) := h
  refine we_of (pe_callB cr_lenM (gl_X C k1) (C.free _ k2) (by decide +kernel) (pa_cons (pe_callTy (cr_setM C.calm) (gl_X C j1) (C.free _ j2) (by decide +kernel) (pa_cons we_pe pa_nil (hd.star _ _)) dj.2.2 dj.1 (hd.star [] X.env) rfl) pa_nil (Hd.ca.star _ _)) dk.2.2 dk.1 (Hd.ca.star [] X.env) rfl) ?_
  show WE X x σ H _
  refine ha.step g h fun ra sl1 v F1 H1 L1 g1 s1 q1 h1 => ?_
  split at h1
  · rename_i ds e
    obtain ⟨ad, us, rfl, e1, r1⟩ := q1.view g1 e
    by_cases c : (ds.all kOk && decide (ds.length < 4000)) = true
    · rw [if_pos c] at h1
      rw [Bool.and_eq_true] at c
      obtain ⟨kk, rfl, rfl, oks⟩ := rpA_keys r1 c.1
      have lz := of_decide_eq_true c.2
      rw [List.length_map] at lz
      have hsb : scanBound = 4096 := rfl
      refine ⟨ad, kk, rfl, .inl (.inl e1), by omega, fun b nb => ⟨b, onceK kk, rfl, upd_same, ?_⟩⟩
      obtain ⟨g2, st⟩ := g1.nob (u := SetMO X.w b (onceK kk)) nb
      rw [← onceK_keyD, List.length_map] at h1
      exact res_fz g2 (h1.from st (.refl _)) (.int _)
    · rw [if_neg c] at h1; exact h1.elim
  · exact h1.elim
end
end Md

/-! Md, part O: built-in calls, constants; every expression. -/
namespace Md
open PySem PySem.Spec
open PyProof.Rows L2
variable [Wd]
section
variable {X : Cx} {p : Cp} {cb : Nat → List T → FRes} {Xq : XQ} {σ : L2.St} {F F1 H H1 : Hp} {L L1 : Lbl} {sl sl1 : Sl} {a b c d : E} {x y z : Expr} {pos : Pos}
theorem se_b1 {f : B1} {n : Str} {q : Pos} (C : Cd X p) (hb : bltB p n f.nm = true) (hd : Hd x) (ha : SE X p cb Xq a x) : SE X p cb Xq (.b1 f a) (.Call (.Name n q) [x] [] pos) := by
  intro σ sl F H L Q g h
  obtain ⟨rfl, h1, h2, h3⟩ := blt_of hb
  have dn := dbg_of h3
  have h : RsQ X.K σ Xq F H L sl (PQ X.K σ Q) ((ev p.P p.np cb a sl).bind fun ra sl1 => match (if f = .len then ra.settle.viewR sl1 else ra.settle.view sl1) with
    | some x => two (call1 f x) sl1
    | none => .no) := h
  have key : WE X x σ H fun v H1 => wkC X f.val [v] H1 Q := by
    refine ha.step g h fun r sl1 v F1 H1 L1 g1 s q1 h4 => ?_
    by_cases fl : f = .len
    · rw [if_pos fl] at h4
      cases e : r.settle.viewR sl1 with
      | none => simp only [e] at h4; exact h4.elim
      | some d =>
        simp only [e] at h4
        subst fl
        exact len_ro g1 d (q1.viewR g1 e) C.calm C.units h4
    · rw [if_neg fl] at h4
      cases e : r.settle.view sl1 with
      | none => simp only [e] at h4; exact h4.elim
      | some d =>
        simp only [e] at h4
        exact call1_ok g1 C.calm C.units f d (q1.view g1 e) h4
  have star : starEach [x] X.env = (false, eval x X.env) :: starEach [] X.env := hd.star [] X.env
  have bt := boot_b1 f
  have fin : ∀ {id : String}, f.val = .builtin id → WE X (.Call (.Name f.nm q) [x] [] pos) σ H Q := fun {id} e => by
    rw [e] at bt key
    exact we_of (pe_callB (wkC_ok (X := X) (f := .builtin id)) (gl_X C h1) (C.free _ h2) bt (pa_cons we_pe pa_nil (hd.star _ _)) dn.2.2 dn.1 star rfl) key
  have finT : ∀ {id : String}, f.val = .type id → WE X (.Call (.Name f.nm q) [x] [] pos) σ H Q := fun {id} e => by
    rw [e] at bt key
    exact we_of (pe_callTy (wkC_ok (X := X) (f := .type id)) (gl_X C h1) (C.free _ h2) bt (pa_cons we_pe pa_nil (hd.star _ _)) dn.2.2 dn.1 star rfl) key
  cases f <;> first | exact fin rfl | exact finT rfl
theorem se_b2 {f : B2} {n : Str} {q : Pos} (C : Cd X p) (hb : bltB p n f.nm = true) (hd : Hd x) (hd2 : Hd y) (ha : SE X p cb Xq a x) (hb' : SE X p cb Xq b y) : SE X p cb Xq (.b2 f a b) (.Call (.Name n q) [x, y] [] pos) := by
  intro σ sl F H L Q g h
  obtain ⟨rfl, h1, h2, h3⟩ := blt_of hb
  have dn := dbg_of h3
  have h : RsQ X.K σ Xq F H L sl (PQ X.K σ Q) ((ev p.P p.np cb a sl).bind fun ra sl1 => (ev p.P p.np cb b sl1).bind fun rb sl2 => match ra.settle.view sl2, rb.settle.view sl2 with
    | some x, some y => two (call2 f x y) sl2
    | _, _ => .no) := h
  have star2 : starEach [y] X.env = (false, eval y X.env) :: starEach [] X.env := hd2.star [] X.env
  have star : starEach [x, y] X.env = (false, eval x X.env) :: starEach [y] X.env := hd.star [y] X.env
  have any : ∀ ps, (PySem.backTo ps (starEach [y] X.env)).any (·.1) = false := fun ps => star_any ps X.env [y] fun e he => by rw [List.mem_singleton.mp he]; exact hd2
  have key : ∀ (r : List V → Hp → VK → Prop), (∀ σ sl F H L d e v u, G X.K F H L σ sl → Vw X.K F H v d → Vw X.K F H u e → RsQ X.K σ Xq F H L sl (PQ X.K σ Q) (two (call2 f d e) sl) → r [v, u] H Q) → WE X x σ H fun v H1 => WE X y σ H1 fun u H2 => r [v, u] H2 Q := fun r k => by
    refine ha.step g h fun ra sl1 v F1 H1 L1 g1 s1 q1 h1 => hb'.step g1 h1 fun rb sl2 u F2 H2 L2 g2 s2 q2 h2 => ?_
    have q1 := q1.mono s2
    cases e1 : ra.settle.view sl2 with
    | none => simp only [e1] at h2; exact h2.elim
    | some d =>
      cases e2 : rb.settle.view sl2 with
      | none => simp only [e1, e2] at h2; exact h2.elim
      | some e =>
        simp only [e1, e2] at h2
        exact k σ sl2 F2 H2 L2 d e v u g2 (q1.view g2 e1) (q2.view g2 e2) h2
  cases f with
  | min =>
    refine we_of (pe_callB (call_min2 C.calm) (gl_X C h1) (C.free _ h2) (id := "min") (by decide +kernel) (pa_cons we_pe (pa_cons we_pe pa_nil (hd2.star _ _)) (hd.star _ _)) dn.2.2 dn.1 star (any _)) ?_
    refine key (fun xs H Q => ∃ i j, xs = [V.int i, V.int j] ∧ Q (V.int (if j < i then j else i)) H) fun σ sl F H L d e v u g hv hu h => ?_
    cases d <;> cases e <;> first | exact h.elim | skip
    cases (show Rp _ _ _ _ from hv); cases (show Rp _ _ _ _ from hu)
    exact ⟨_, _, rfl, res_fz g h (.int _)⟩
  | max =>
    refine we_of (pe_callB (call_max2 C.calm) (gl_X C h1) (C.free _ h2) (id := "max") (by decide +kernel) (pa_cons we_pe (pa_cons we_pe pa_nil (hd2.star _ _)) (hd.star _ _)) dn.2.2 dn.1 star (any _)) ?_
    refine key (fun xs H Q => ∃ i j, xs = [V.int i, V.int j] ∧ Q (V.int (if j > i then j else i)) H) fun σ sl F H L d e v u g hv hu h => ?_
    cases d <;> cases e <;> first | exact h.elim | skip
    cases (show Rp _ _ _ _ from hv); cases (show Rp _ _ _ _ from hu)
    exact ⟨_, _, rfl, res_fz g h (.int _)⟩
  | divmod =>
    refine we_of (pe_callB call_divmod (gl_X C h1) (C.free _ h2) (id := "divmod") (by decide +kernel) (pa_cons we_pe (pa_cons we_pe pa_nil (hd2.star _ _)) (hd.star _ _)) dn.2.2 dn.1 star (any _)) ?_
    refine key (fun xs H Q => ∃ i j, xs = [V.int i, V.int j] ∧ CDiv i j ∧ ∀ p, H p = none → Q (.ref p) (upd H p (.tup [.int (i / j), .int (i % j)]))) fun σ sl F H L d e v u g hv hu h => ?_
    cases d <;> cases e <;> first | exact h.elim | skip
    rename_i i j
    cases (show Rp _ _ _ _ from hv); cases (show Rp _ _ _ _ from hu)
    have h : RsQ X.K σ Xq F H L sl (PQ X.K σ Q) (two (if (decide (0 < j) && decide (j < 1073741824)) = true then some (.fz (.tuple [.int (i / j), .int (i % j)])) else none) sl) := h
    by_cases c : (decide (0 < j) && decide (j < 1073741824)) = true
    · rw [if_pos c] at h
      rw [Bool.and_eq_true] at c
      exact ⟨_, _, rfl, ⟨of_decide_eq_true c.1, of_decide_eq_true c.2⟩, res_tup g h (.cons (.int _) (.cons (.int _) .nil))⟩
    · rw [if_neg c] at h; exact h.elim
/-- the value of a type's name -/
theorem isKd_one {d : Da} {P : Pg} : ∀ {k : Kd} {ty : String}, (k = .int ∧ ty = "int" ∨ k = .bool ∧ ty = "bool" ∨ k = .str ∧ ty = "str" ∨ k = .list ∧ ty = "list" ∨ k = .tuple ∧ ty = "tuple") → ∃ n, tyOf d = .type n ∧ kitB n ty = some (isKd P k d) := by
  intro k ty h
  have e1 : ∀ n, ∀ r, kitB n ty = r → kitB n ty = r := fun _ _ h => h
  rcases h with ⟨rfl, rfl⟩ | ⟨rfl, rfl⟩ | ⟨rfl, rfl⟩ | ⟨rfl, rfl⟩ | ⟨rfl, rfl⟩ <;> cases d <;> refine ⟨_, rfl, ?_⟩ <;> simp only [isKd] <;> decide +kernel

def Kd.tyn : Kd → Option String
  | .int => some "int"
  | .bool => some "bool"
  | .str => some "str"
  | .list => some "list"
  | .tuple => some "tuple"
  | _ => none
theorem kd_of {k : Kd} {e : Expr} (h : kdB p k e = true) : ∃ n q ty, e = .Name n q ∧ k.tyn = some ty ∧ bltB p n ty = true ∧ bootBuiltins (ty : Str) = some (.type ty) ∧ ∀ d, ∃ m, tyOf d = .type m ∧ kitB m ty = some (isKd p.P k d) := by
  cases k <;> cases e <;> first
    | (cases h; done)
    | exact ⟨_, _, "int", rfl, rfl, h, by decide +kernel, fun d => isKd_one (.inl ⟨rfl, rfl⟩)⟩
    | exact ⟨_, _, "bool", rfl, rfl, h, by decide +kernel, fun d => isKd_one (.inr (.inl ⟨rfl, rfl⟩))⟩
    | exact ⟨_, _, "str", rfl, rfl, h, by decide +kernel, fun d => isKd_one (.inr (.inr (.inl ⟨rfl, rfl⟩)))⟩
    | exact ⟨_, _, "list", rfl, rfl, h, by decide +kernel, fun d => isKd_one (.inr (.inr (.inr (.inl ⟨rfl, rfl⟩))))⟩
    | exact ⟨_, _, "tuple", rfl, rfl, h, by decide +kernel, fun d => isKd_one (.inr (.inr (.inr (.inr ⟨rfl, rfl⟩))))⟩
theorem se_isi {k : Kd} {n : Str} {q : Pos} (C : Cd X p) (hb : bltB p n "isinstance" = true) (hk : kdB p k y = true) (hd : Hd x) (ha : SE X p cb Xq a x) : SE X p cb Xq (.isi a k) (.Call (.Name n q) [x, y] [] pos) := by
  intro σ sl F H L Q g h
  obtain ⟨rfl, h1, h2, h3⟩ := blt_of hb
  obtain ⟨m, q', ty, rfl, e1, hb2, bt, kt⟩ := kd_of hk
  obtain ⟨rfl, k1, k2, k3⟩ := blt_of hb2
  have dn := dbg_of h3
  have dk := dbg_of k3
  have h : RsQ X.K σ Xq F H L sl (PQ X.K σ Q) ((ev p.P p.np cb a sl).bind fun ra sl1 => match ra.settle.view sl1 with
    | some x => if notD x then .ok (.t (.fz (.bool (isKd p.P k x)))) sl1 else .no
    | none => .no) := h
  have star : starEach [x, .Name (ty : Str) q'] X.env = (false, eval x X.env) :: starEach [.Name (ty : Str) q'] X.env := hd.star _ X.env
  refine we_of (pe_callB call_isi (gl_X C h1) (C.free _ h2) (by decide +kernel) (pa_cons we_pe (pa_cons (pe_bltn (v := .ty ty) (gl_X C k1) (C.free _ k2) bt rfl dk.2.2 dk.1) pa_nil rfl) (hd.star _ _)) dn.2.2 dn.1 star rfl) ?_
  show WE X x σ H fun v H1 => rIsi X.K [v, .ty ty] H1 Q
  refine ha.step g h fun r sl1 v F1 H1 L1 g1 s q1 h4 => ?_
  cases e : r.settle.view sl1 with
  | none => simp only [e] at h4; exact h4.elim
  | some d =>
    have nd : ∀ b, d ≠ .dict b := fun b z => by rw [e, z] at h4; exact h4
    have h4 : RsQ X.K σ Xq F1 H1 L1 sl1 (PQ X.K σ Q) (.ok (.t (.fz (.bool (isKd p.P k d)))) sl1) := by
      rw [e] at h4
      have : notD d = true := by cases d <;> first | rfl | exact absurd rfl (nd _)
      simp only [this, if_true] at h4
      exact h4
    obtain ⟨mm, z1, z2⟩ := kt d
    have tx := ty_of g1 (q1.view g1 e) nd
    rw [z1] at tx
    exact ⟨v, .ty ty, .type mm, .type ty, _, rfl, .ty ty, tx, kit_ty z2, res_fz g1 h4 (.bl _)⟩
theorem se_non {e : Expr} (h : noneE e = true) : SE X p cb Xq .non e := by
  intro σ sl F H L Q g hq
  cases e with
  | Constant k j q =>
    cases k <;> first | exact we_of pe_non (res_fz g hq .non) | cases h
  | _ => cases h
theorem se_bl {b : Bool} {j q} : SE X p cb Xq (.bl b) (.Constant (.bool b) j q) := fun σ sl F H L Q g hq => we_of pe_bl (res_fz g hq (.bl _))
theorem se_int {i : Int} {j q} : SE X p cb Xq (.int i) (.Constant (.int i) j q) := fun σ sl F H L Q g hq => we_of pe_int (res_fz g hq (.int _))
theorem se_str {s : Str} {j q} (h : PyData.strOk s = true) : SE X p cb Xq (.str s) (.Constant (.str s) j q) := fun σ sl F H L Q g hq => we_of pe_str (res_fz g hq (.str _ h))
theorem base_of (hd : Hd x) (h : notCall x = true) (m : Str) (env : Env) (whole : Sem Value) : attributeBase x m env whole = whole := by
  cases hd <;> first | rfl | cases h
theorem few1 (e : Expr) (env : Env) (cpos : Pos) (h : Hd e) : ((PySem.backTo cpos (starEach [e] env)).all (fun x => !x.1) && (backToKw cpos (keywordEach [] env)).all (fun x => x.1.isSome)
      && decide ([e].length + ([] : List Keyword).length + (if ([] : List Keyword).isEmpty then 0 else 1) < 30)) = true := by
  rw [h.star [] env]; rfl
theorem se_m1 {m : M1} {n : Str} {apos cpos : Pos} (hm : m = .startswith ∨ m = .index) (hn : n = m.nm) (hl : (apos.endLine == cpos.line) = true) (hnc : notCall x = true) (hd : Hd x) (hd2 : Hd y) (ha : SE X p cb Xq a x) (hb : SE X p cb Xq b y) : SE X p cb Xq (.m1 m a b) (.Call (.Attribute x n apos) [y] [] cpos) := by
  subst hn
  intro σ sl F H L Q g h
  have h : RsQ X.K σ Xq F H L sl (PQ X.K σ Q) ((ev p.P p.np cb a sl).bind fun ra sl1 => match ra.settle with
    | .t (.fz (.str x)) => (ev p.P p.np cb b sl1).bind fun rb sl2 => match rb.settle.view sl2 with
      | some y => two (callM m x y) sl2
      | _ => .no
    | _ => .no) := h
  have key : ∀ (r : V → List V → Hp → VK → Prop), (∀ σ sl F H L s e u, G X.K F H L σ sl → Vw X.K F H u e → RsQ X.K σ Xq F H L sl (PQ X.K σ Q) (two (callM m s e) sl) → r (.str s) [u] H Q) → tBM X.K "str" r (WE X x) (tCons (WE X y) tNil) σ H Q := fun r k => by
    show WE X x σ H fun v H1 => tyV X.K "str" v H1 ∧ WE X y σ H1 fun u H2 => r v [u] H2 Q
    refine ha.step g h fun ra sl1 v F1 H1 L1 g1 s1 q1 h1 => ?_
    split at h1
    · rename_i s e
      rw [e] at q1
      have w : Rp X.K F1 v (.str s) := q1
      cases w with
      | str _ ok =>
      refine ⟨rfl, ?_⟩
      refine hb.step g1 h1 fun rb sl2 u F2 H2 L2 g2 s2 q2 h2 => ?_
      split at h2
      · rename_i d ed
        exact k _ _ _ _ _ s d u g2 (q2.view g2 ed) h2
      · exact h2.elim
    · exact h1.elim
  rcases hm with rfl | rfl
  · refine we_of (pe_bm PySem.F.plainAttrs_str PySem.F.slot_str_startswith PySem.F.type_str_startswith mt_startswith we_pe (pa_cons we_pe pa_nil (hd2.star _ _)) (base_of hd hnc _ _ _) (few1 y X.env cpos hd2) hl (hd2.star [] X.env) rfl) ?_
    refine key _ fun σ sl F H L s e u g hu h => ?_
    cases e <;> first | exact h.elim | skip
    cases (show Rp _ _ _ _ from hu)
    exact ⟨s, _, rfl, rfl, res_fz g h (.bl _)⟩
  · refine we_of (pe_bm PySem.F.plainAttrs_str PySem.F.slot_str_index PySem.F.type_str_index mt_sindex we_pe (pa_cons we_pe pa_nil (hd2.star _ _)) (base_of hd hnc _ _ _) (few1 y X.env cpos hd2) hl (hd2.star [] X.env) rfl) ?_
    refine key _ fun σ sl F H L s e u g hu h => ?_
    cases e with
    | str t =>
      cases (show Rp _ _ _ _ from hu)
      have h : RsQ X.K σ Xq F H L sl (PQ X.K σ Q) (two (match Builtin.Str.occurrences s t 0 s.length 1 with
        | i :: _ => some (.fz (.int (i : Nat)))
        | [] => none) sl) := h
      split at h
      · rename_i i r eo
        exact ⟨s, t, i, r, rfl, rfl, eo, res_fz g h (.int _)⟩
      · exact h.elim
    | _ => exact h.elim
end

/-- what is said of an expression -/
def SN (X : Cx) (p : Cp) (cb : Nat → List T → FRes) (c : E) (e : Expr) : Prop := SE X p cb XF c e ∧ ST X p cb XF c e ∧ ((∃ o l q, e = .BoolOp o l q) → SW X p cb XF c e)
section
variable {X : Cx} {p : Cp} {cb : Nat → List T → FRes} {c : E} {e : Expr}
theorem SN.val (h : SE X p cb XF c e) (he : ∀ whole, isTrue e X.env whole = (do let v ← whole; standAt e.pos; holding [v] (truthy v))) (hn : ∀ o l q, e ≠ .BoolOp o l q) : SN X p cb c e := ⟨h, ST.val h he, fun ⟨o, l, q, z⟩ => absurd z (hn o l q)⟩
theorem SN.two (h : SE X p cb XF c e ∧ ST X p cb XF c e) (hn : ∀ o l q, e ≠ .BoolOp o l q) : SN X p cb c e := ⟨h.1, h.2, fun ⟨o, l, q, z⟩ => absurd z (hn o l q)⟩
theorem SN.bo (h : SE X p cb XF c e ∧ SW X p cb XF c e) : SN X p cb c e := ⟨h.1, h.2.st, fun _ => h.2⟩
end
def SNd (cb : Nat → List T → FRes) (c : E) : Prop := (∀ (X : Cx) (p : Cp) (e : Expr), Cd X p → Cl X p cb → ckE p c e = true → SN X p cb c e) ∧
  ∀ (X : Cx) (p : Cp) (l : List Expr), Cd X p → Cl X p cb → ckL p c l = true → SA X p cb XF c l ∧ SR X p cb XF c l
theorem noL {cb : Nat → List T → FRes} {c : E} (h : ∀ p l, ckL p c l = false) : ∀ (X : Cx) (p : Cp) (l : List Expr), Cd X p → Cl X p cb → ckL p c l = true → SA X p cb XF c l ∧ SR X p cb XF c l := fun X p l _ _ k => by rw [h] at k; cases k
theorem hd_ckI {p : Cp} {k : IK} {a b c : E} {e : Expr} {tt : Bool} (h2 : ckI p k (ckE p a) (ckE p b) (ckE p c) (unitE b) (unitE c) tt e = true) : Hd e := by
  cases k with
  | seq => simp only [ckI, Bool.and_eq_true] at h2; exact hd_of h2.1.1
  | rng3 => simp [ckI] at h2
  | vals => simp [ckI] at h2
  | _ =>
    simp only [ckI] at h2
    split at h2 <;> first | exact .ca | cases h2
theorem si_ok {X : Cx} {p : Cp} {cb : Nat → List T → FRes} {k : IK} {a b c : E} {e t : Expr} (C : Cd X p) (ha : ∀ e, ckE p a e = true → SE X p cb XF a e) (hb : ∀ e, ckE p b e = true → SE X p cb XF b e) (h : ckI p k (ckE p a) (ckE p b) (ckE p c) (unitE b) (unitE c) (tupE t) e = true) : SI X p cb XF k a b c t e := by
  have un : ∀ {c : E}, unitE c = true → c = .non := fun {c} h => by cases c <;> first | rfl | cases h
  cases k with
  | seq =>
    simp only [ckI, Bool.and_eq_true] at h
    rw [un h.1.2, un h.2]
    exact si_seq (ha e h.1.1)
  | rng1 =>
    simp only [ckI] at h
    split at h
    · simp only [Bool.and_eq_true] at h
      rw [un h.1.2, un h.2]
      exact si_rng1 C h.1.1.1 (hd_of h.1.1.2) (ha _ h.1.1.2)
    · cases h
  | rng2 =>
    simp only [ckI] at h
    split at h
    · simp only [Bool.and_eq_true] at h
      rw [un h.2]
      exact si_rng2 C h.1.1.1 (hd_of h.1.1.2) (hd_of h.1.2) (ha _ h.1.1.2) (hb _ h.1.2)
    · cases h
  | rev =>
    simp only [ckI] at h
    split at h
    · simp only [Bool.and_eq_true] at h
      rw [un h.1.2, un h.2]
      exact si_rev C h.1.1.1 (hd_of h.1.1.2) (ha _ h.1.1.2)
    · cases h
  | enum =>
    simp only [ckI] at h
    split at h
    · simp only [Bool.and_eq_true] at h
      rw [un h.1.1.2, un h.1.2]
      cases t <;> first | exact si_enum C h.1.1.1.1 (hd_of h.1.1.1.2) (ha _ h.1.1.1.2) | (have := h.2; cases this)
    · cases h
  | zip =>
    simp only [ckI] at h
    split at h
    · simp only [Bool.and_eq_true] at h
      rw [un h.1.2]
      cases t <;> first | exact si_zip C h.1.1.1.1 (hd_of h.1.1.1.2) (hd_of h.1.1.2) (ha _ h.1.1.1.2) (hb _ h.1.1.2) | (have := h.2; cases this)
    · cases h
  | _ => simp [ckI] at h
theorem sound (cb : Nat → List T → FRes) (c : E) : SNd cb c := by
  induction c with
  | nm i =>
    refine ⟨fun X p e C cl h => ?_, noL fun _ _ => by simp [ckL]⟩
    simp only [ckE] at h
    split at h
    · exact .val (se_nm C h) (fun _ => rfl) (by intro _ _ _ z; cases z)
    · cases h
  | nml i =>
    refine ⟨fun X p e C cl h => ?_, noL fun _ _ => by simp [ckL]⟩
    simp only [ckE] at h
    split at h
    · exact .val (se_nml C h) (fun _ => rfl) (by intro _ _ _ z; cases z)
    · cases h
  | dnew =>
    refine ⟨fun X p e C cl h => ?_, noL fun _ _ => by simp [ckL]⟩
    simp only [ckE] at h
    split at h
    · exact .val se_dnew (fun _ => rfl) (by intro _ _ _ z; cases z)
    · cases h
  | sdf i a b iha ihb =>
    refine ⟨fun X p e C cl h => ?_, noL fun _ _ => by simp [ckL]⟩
    simp only [ckE] at h
    split at h
    · simp only [Bool.and_eq_true, decide_eq_true_eq, Bool.not_eq_true'] at h
      obtain ⟨⟨⟨⟨⟨⟨h1, h2⟩, h3⟩, rfl⟩, h4⟩, h5⟩, h6⟩ := h
      exact .val (se_sdf C h1 h2 h3 h4 (hd_of h5) (hd_of h6) (iha.1 X p _ C cl h5).1 (ihb.1 X p _ C cl h6).1) (fun _ => rfl) (by intro _ _ _ z; cases z)
    · cases h
  | getT i k ihk =>
    refine ⟨fun X p e C cl h => ?_, noL fun _ _ => by simp [ckL]⟩
    simp only [ckE] at h
    split at h
    · cases h
    · rename_i n px y q hn
      simp only [Bool.and_eq_true, decide_eq_true_eq, Bool.not_eq_true'] at h
      have hx : NoSl y := by
        cases y <;> first | exact fun _ _ => rfl | exact absurd rfl (hn _ _ _ _)
      exact .val (se_getT C hx h.1.1.1 h.1.1.2 h.1.2 (ihk.1 X p _ C cl h.2).1) (fun _ => rfl) (by intro _ _ _ z; cases z)
    · cases h
  | inT neg i k ihk =>
    refine ⟨fun X p e C cl h => ?_, noL fun _ _ => by simp [ckL]⟩
    simp only [ckE] at h
    split at h
    · simp only [Bool.and_eq_true, decide_eq_true_eq, Bool.not_eq_true'] at h
      cases (copB_eq h.1.1.1.1)
      exact .two (se_inT C h.1.1.1.2 h.1.1.2 h.1.2 (ihk.1 X p _ C cl h.2).1) (by intro _ _ _ z; cases z)
    · cases h
  | listT i =>
    refine ⟨fun X p e C cl h => ?_, noL fun _ _ => by simp [ckL]⟩
    simp only [ckE] at h
    split at h
    · simp only [Bool.and_eq_true, decide_eq_true_eq, Bool.not_eq_true'] at h
      exact .val (se_listT C h.1.1.1 h.1.1.2 h.1.2 h.2) (fun _ => rfl) (by intro _ _ _ z; cases z)
    · cases h
  | sortT i =>
    refine ⟨fun X p e C cl h => ?_, noL fun _ _ => by simp [ckL]⟩
    simp only [ckE] at h
    split at h
    · simp only [Bool.and_eq_true, decide_eq_true_eq, Bool.not_eq_true'] at h
      exact .val (se_sortT C h.1.1.1 h.1.1.2 h.1.2 h.2) (fun _ => rfl) (by intro _ _ _ z; cases z)
    · cases h
  | valsT i =>
    refine ⟨fun X p e C cl h => ?_, noL fun _ _ => by simp [ckL]⟩
    simp only [ckE] at h
    split at h
    · simp only [Bool.and_eq_true, decide_eq_true_eq, Bool.not_eq_true'] at h
      obtain ⟨⟨⟨⟨⟨h1, h2⟩, h3⟩, h4⟩, rfl⟩, h6⟩ := h
      exact .val (se_valsT C h1 h2 h3 h4 h6) (fun _ => rfl) (by intro _ _ _ z; cases z)
    · cases h
  | gl x =>
    refine ⟨fun X p e C cl h => ?_, noL fun _ _ => by simp [ckL]⟩
    simp only [ckE] at h
    split at h
    · exact .val (se_gl C h) (fun _ => rfl) (by intro _ _ _ z; cases z)
    · cases h
  | non =>
    refine ⟨fun X p e C cl h => ?_, noL fun _ _ => by simp [ckL]⟩
    simp only [ckE] at h
    have he : ∃ j q, e = .Constant .none j q := by
      cases e with
      | Constant k j q => cases k <;> first | exact ⟨_, _, rfl⟩ | cases h
      | _ => cases h
    obtain ⟨j, q, rfl⟩ := he
    exact .val (se_non h) (fun _ => rfl) (by intro _ _ _ z; cases z)
  | bl b =>
    refine ⟨fun X p e C cl h => ?_, noL fun _ _ => by simp [ckL]⟩
    simp only [ckE] at h
    split at h
    · cases (beq_iff_eq.mp h)
      exact .val se_bl (fun _ => rfl) (by intro _ _ _ z; cases z)
    · cases h
  | int i =>
    refine ⟨fun X p e C cl h => ?_, noL fun _ _ => by simp [ckL]⟩
    simp only [ckE] at h
    split at h
    · cases (of_decide_eq_true h)
      exact .val se_int (fun _ => rfl) (by intro _ _ _ z; cases z)
    · cases h
  | str x =>
    refine ⟨fun X p e C cl h => ?_, noL fun _ _ => by simp [ckL]⟩
    simp only [ckE] at h
    split at h
    · rw [Bool.and_eq_true] at h
      cases (of_decide_eq_true h.1)
      exact .val (se_str h.2) (fun _ => rfl) (by intro _ _ _ z; cases z)
    · cases h
  | bin o a b iha ihb =>
    refine ⟨fun X p e C cl h => ?_, noL fun _ _ => by simp [ckL]⟩
    simp only [ckE] at h
    split at h
    · simp only [Bool.and_eq_true] at h
      cases (opB_eq h.1.1)
      exact .val (se_bin (iha.1 X p _ C cl h.1.2).1 (ihb.1 X p _ C cl h.2).1) (fun _ => rfl) (by intro _ _ _ z; cases z)
    · cases h
  | neg a iha =>
    refine ⟨fun X p e C cl h => ?_, noL fun _ _ => by simp [ckL]⟩
    simp only [ckE] at h
    split at h
    · exact .val (se_neg (iha.1 X p _ C cl h).1) (fun _ => rfl) (by intro _ _ _ z; cases z)
    · cases h
  | not a iha =>
    refine ⟨fun X p e C cl h => ?_, noL fun _ _ => by simp [ckL]⟩
    simp only [ckE] at h
    split at h
    · exact .two (se_not (iha.1 X p _ C cl h).2.1 (iha.1 X p _ C cl h).1) (by intro _ _ _ z; cases z)
    · cases h
  | cmp o a b iha ihb =>
    refine ⟨fun X p e C cl h => ?_, noL fun _ _ => by simp [ckL]⟩
    simp only [ckE] at h
    split at h
    · simp only [Bool.and_eq_true] at h
      cases (copB_eq h.1.1)
      exact .two (se_cmp C (hd_of h.2) (iha.1 X p _ C cl h.1.2).1 (ihb.1 X p _ C cl h.2).1) (by intro _ _ _ z; cases z)
    · cases h
  | chn o o' a b c iha ihb ihc =>
    refine ⟨fun X p e C cl h => ?_, noL fun _ _ => by simp [ckL]⟩
    simp only [ckE] at h
    split at h
    · simp only [Bool.and_eq_true] at h
      cases (copB_eq h.1.1.1.1)
      cases (copB_eq h.1.1.1.2)
      exact .two (se_chn C (hd_of h.1.2) (hd_of h.2) (iha.1 X p _ C cl h.1.1.2).1 (ihb.1 X p _ C cl h.1.2).1 (ihc.1 X p _ C cl h.2).1) (by intro _ _ _ z; cases z)
    · cases h
  | one a iha =>
    refine ⟨fun X p e C cl h => ?_, noL fun _ _ => by simp [ckL]⟩
    simp only [ckE] at h
    split at h
    · exact .bo (se_one (iha.1 X p _ C cl h).2.1 (iha.1 X p _ C cl h).1)
    · cases h
  | and a b iha ihb =>
    refine ⟨fun X p e C cl h => ?_, noL fun _ _ => by simp [ckL]⟩
    simp only [ckE] at h
    split at h
    · simp only [Bool.and_eq_true] at h
      have k1 := iha.1 X p _ C cl h.1
      have k2 := ihb.1 X p _ C cl h.2
      exact .bo (se_and k1.2.1 k1.1 k2.1 (k2.2.2 ⟨_, _, _, rfl⟩))
    · cases h
  | or a b iha ihb =>
    refine ⟨fun X p e C cl h => ?_, noL fun _ _ => by simp [ckL]⟩
    simp only [ckE] at h
    split at h
    · simp only [Bool.and_eq_true] at h
      have k1 := iha.1 X p _ C cl h.1
      have k2 := ihb.1 X p _ C cl h.2
      exact .bo (se_or k1.2.1 k1.1 k2.1 (k2.2.2 ⟨_, _, _, rfl⟩))
    · cases h
  | ife c a b ihc iha ihb =>
    refine ⟨fun X p e C cl h => ?_, noL fun _ _ => by simp [ckL]⟩
    simp only [ckE] at h
    split at h
    · simp only [Bool.and_eq_true] at h
      have k0 := ihc.1 X p _ C cl h.1.1
      have k1 := iha.1 X p _ C cl h.1.2
      have k2 := ihb.1 X p _ C cl h.2
      exact .two (se_ife k0.2.1 k1.1 k2.1 k1.2.1 k2.2.1) (by intro _ _ _ z; cases z)
    · cases h
  | tup es ih =>
    refine ⟨fun X p e C cl h => ?_, noL fun _ _ => by simp [ckL]⟩
    simp only [ckE] at h
    split at h
    · exact .val (se_tup (ih.2 X p _ C cl h).1) (fun _ => rfl) (by intro _ _ _ z; cases z)
    · cases h
  | lst es ih =>
    refine ⟨fun X p e C cl h => ?_, noL fun _ _ => by simp [ckL]⟩
    simp only [ckE] at h
    split at h
    · exact .val (se_lst (ih.2 X p _ C cl h).1) (fun _ => rfl) (by intro _ _ _ z; cases z)
    · cases h
  | idx a i iha ihi =>
    refine ⟨fun X p e C cl h => ?_, noL fun _ _ => by simp [ckL]⟩
    simp only [ckE] at h
    split at h
    · cases h
    · rename_i x y q hn
      simp only [Bool.and_eq_true] at h
      have hx : PlainIx y := by
        cases y <;> first | exact fun _ _ => rfl | exact absurd rfl (hn _ _ _ _)
      exact .val (se_idx C hx (iha.1 X p _ C cl h.1).1 (ihi.1 X p _ C cl h.2).1) (fun _ => rfl) (by intro _ _ _ z; cases z)
    · cases h
  | sl a lo hi hl hh iha ihl ihh =>
    refine ⟨fun X p e C cl h => ?_, noL fun _ _ => by simp [ckL]⟩
    simp only [ckE] at h
    split at h
    · rename_i x l hx p2 q
      simp only [Bool.and_eq_true] at h
      refine .val (se_sl (iha.1 X p _ C cl h.1.1).1 ?_ ?_) (fun _ => rfl) (by intro _ _ _ z; cases z)
      · cases l with
        | none =>
          have : hl = false := by simpa using h.1.2
          rw [this]; exact so_none
        | some y =>
          have h1 : hl = true ∧ ckE p lo y = true := by simpa using h.1.2
          rw [h1.1]; exact so_some (ihl.1 X p _ C cl h1.2).1
      · cases hx with
        | none =>
          have : hh = false := by simpa using h.2
          rw [this]; exact so_none
        | some y =>
          have h1 : hh = true ∧ ckE p hi y = true := by simpa using h.2
          rw [h1.1]; exact so_some (ihh.1 X p _ C cl h1.2).1
    · cases h
  | call f es ih =>
    refine ⟨fun X p e C cl h => ?_, noL fun _ _ => by simp [ckL]⟩
    simp only [ckE] at h
    split at h
    · rename_i n q y l pos
      simp only [Bool.and_eq_true, decide_eq_true_eq, Bool.not_eq_true'] at h
      have hds := hd_list h.2
      exact .val (se_call C cl h.1.1.1 h.1.1.2 h.1.2 (hds _ List.mem_cons_self) (fun e he => hds e (List.mem_cons_of_mem _ he)) (ih.2 X p _ C cl h.2).2) (fun _ => rfl) (by intro _ _ _ z; cases z)
    · cases h
  | b1 f a iha =>
    refine ⟨fun X p e C cl h => ?_, noL fun _ _ => by simp [ckL]⟩
    simp only [ckE] at h
    split at h
    · simp only [Bool.and_eq_true] at h
      exact .val (se_b1 C h.1 (hd_of h.2) (iha.1 X p _ C cl h.2).1) (fun _ => rfl) (by intro _ _ _ z; cases z)
    · cases h
  | b2 f a b iha ihb =>
    refine ⟨fun X p e C cl h => ?_, noL fun _ _ => by simp [ckL]⟩
    simp only [ckE] at h
    split at h
    · simp only [Bool.and_eq_true] at h
      exact .val (se_b2 C h.1.1 (hd_of h.1.2) (hd_of h.2) (iha.1 X p _ C cl h.1.2).1 (ihb.1 X p _ C cl h.2).1) (fun _ => rfl) (by intro _ _ _ z; cases z)
    · cases h
  | isi a k iha =>
    refine ⟨fun X p e C cl h => ?_, noL fun _ _ => by simp [ckL]⟩
    simp only [ckE] at h
    split at h
    · simp only [Bool.and_eq_true] at h
      exact .val (se_isi C h.1.1 h.2 (hd_of h.1.2) (iha.1 X p _ C cl h.1.2).1) (fun _ => rfl) (by intro _ _ _ z; cases z)
    · cases h
  | m1 m a b iha ihb =>
    refine ⟨fun X p e C cl h => ?_, noL fun _ _ => by simp [ckL]⟩
    simp only [ckE] at h
    split at h
    · simp only [Bool.and_eq_true, decide_eq_true_eq] at h
      obtain ⟨⟨⟨⟨⟨h0, h1⟩, h2⟩, h3⟩, h4⟩, h5⟩ := h
      have hm : m = .startswith ∨ m = .index := by cases m <;> first | exact .inl rfl | exact .inr rfl | cases h0
      exact .val (se_m1 hm h1 h3 h2 (hd_of h4) (hd_of h5) (iha.1 X p _ C cl h4).1 (ihb.1 X p _ C cl h5).1) (fun _ => rfl) (by intro _ _ _ z; cases z)
    · cases h
  | lm m a b iha ihb =>
    refine ⟨fun X p e C cl h => ?_, noL fun _ _ => by simp [ckL]⟩
    simp only [ckE] at h
    split at h
    · simp only [Bool.and_eq_true, decide_eq_true_eq] at h
      obtain ⟨⟨⟨⟨⟨h0, h1⟩, h2⟩, h3⟩, h4⟩, h5⟩ := h
      have hm : m = .index ∨ m = .count := by cases m <;> first | exact .inl rfl | exact .inr rfl | cases h0
      exact .val (se_lm C hm h1 h3 h2 (hd_of h4) (hd_of h5) (iha.1 X p _ C cl h4).1 (ihb.1 X p _ C cl h5).1) (fun _ => rfl) (by intro _ _ _ z; cases z)
    · cases h
  | sset a iha =>
    refine ⟨fun X p e C cl h => ?_, noL fun _ _ => by simp [ckL]⟩
    simp only [ckE] at h
    split at h
    · simp only [Bool.and_eq_true] at h
      exact .val (se_sset C h.1.1 h.1.2 (hd_of h.2) (iha.1 X p _ C cl h.2).1) (fun _ => rfl) (by intro _ _ _ z; cases z)
    · cases h
  | slen a iha =>
    refine ⟨fun X p e C cl h => ?_, noL fun _ _ => by simp [ckL]⟩
    simp only [ckE] at h
    split at h
    · simp only [Bool.and_eq_true] at h
      exact .val (se_slen C h.1.1 h.1.2 (hd_of h.2) (iha.1 X p _ C cl h.2).1) (fun _ => rfl) (by intro _ _ _ z; cases z)
    · cases h
  | rev a iha =>
    refine ⟨fun X p e C cl h => ?_, noL fun _ _ => by simp [ckL]⟩
    simp only [ckE] at h
    split at h
    · exact .val (se_rev (iha.1 X p _ C cl h).1) (fun _ => rfl) (by intro _ _ _ z; cases z)
    · cases h
  | pop i a iha =>
    refine ⟨fun X p e C cl h => ?_, noL fun _ _ => by simp [ckL]⟩
    simp only [ckE] at h
    split at h
    · simp only [Bool.and_eq_true, decide_eq_true_eq, Bool.not_eq_true'] at h
      obtain ⟨⟨⟨⟨⟨h1, h2⟩, h3⟩, rfl⟩, h4⟩, h5⟩ := h
      exact .val (se_pop C h1 h2 h3 h4 (hd_of h5) (iha.1 X p _ C cl h5).1) (fun _ => rfl) (by intro _ _ _ z; cases z)
    · cases h
  | rvl i =>
    refine ⟨fun X p e C cl h => ?_, noL fun _ _ => by simp [ckL]⟩
    simp only [ckE] at h
    split at h
    · simp only [Bool.and_eq_true, decide_eq_true_eq, Bool.not_eq_true'] at h
      obtain ⟨⟨⟨⟨h1, h2⟩, h3⟩, rfl⟩, h4⟩ := h
      exact .val (se_rvl C h1 h2 h3 h4) (fun _ => rfl) (by intro _ _ _ z; cases z)
    · cases h
  | clr i =>
    refine ⟨fun X p e C cl h => ?_, noL fun _ _ => by simp [ckL]⟩
    simp only [ckE] at h
    split at h
    · simp only [Bool.and_eq_true, decide_eq_true_eq, Bool.not_eq_true'] at h
      obtain ⟨⟨⟨⟨h1, h2⟩, h3⟩, rfl⟩, h4⟩ := h
      exact .val (se_clr C h1 h2 h3 h4) (fun _ => rfl) (by intro _ _ _ z; cases z)
    · cases h
  | insl i a b iha ihb =>
    refine ⟨fun X p e C cl h => ?_, noL fun _ _ => by simp [ckL]⟩
    simp only [ckE] at h
    split at h
    · simp only [Bool.and_eq_true, decide_eq_true_eq, Bool.not_eq_true'] at h
      obtain ⟨⟨⟨⟨⟨⟨h1, h2⟩, h3⟩, rfl⟩, h4⟩, h5⟩, h6⟩ := h
      exact .val (se_insl C h1 h2 h3 h4 (hd_of h5) (hd_of h6) (iha.1 X p _ C cl h5).1 (ihb.1 X p _ C cl h6).1) (fun _ => rfl) (by intro _ _ _ z; cases z)
    · cases h
  | lc elt tg k a b c cond has ihe iha ihb ihc ihd =>
    refine ⟨fun X p e C cl h => ?_, noL fun _ _ => by simp [ckL]⟩
    simp only [ckE] at h
    split at h
    · rename_i y t it ifs sc q
      simp only [Bool.and_eq_true] at h
      obtain ⟨⟨⟨⟨h1, h2⟩, h3⟩, h4⟩, h5⟩ := h
      have hdi : Hd it := hd_ckI h2
      refine .val (se_lc (hdi.folded X.env) C h1 (si_ok C (fun e he => (iha.1 X p e C cl he).1) (fun e he => (ihb.1 X p e C cl he).1) h2) h3 (fun s H Cc cl' fp => (ihe.1 _ _ _ (C.blk sc s H Cc cl' fp) (cl.blk sc s H Cc cl' fp) h5).1) ?_) (fun _ => rfl) (by intro _ _ _ z; cases z)
      split at h4
      · exact .inl ⟨rfl, by simpa using h4⟩
      · rename_i z
        rw [Bool.and_eq_true] at h4
        exact .inr ⟨z, rfl, h4.1, fun s H Cc cl' fp => (ihd.1 _ _ _ (C.blk sc s H Cc cl' fp) (cl.blk sc s H Cc cl' fp) h4.2).2.1⟩
      · cases h4
    · cases h
  | nil =>
    refine ⟨fun X p e C cl h => by simp [ckE] at h, fun X p l C cl h => ?_⟩
    simp only [ckL] at h
    split at h
    · exact ⟨sa_nil, sr_nil⟩
    · cases h
  | cons a es iha ihs =>
    refine ⟨fun X p e C cl h => by simp [ckE] at h, fun X p l C cl h => ?_⟩
    simp only [ckL] at h
    split at h
    · rw [Bool.and_eq_true] at h
      have k1 := (iha.1 X p _ C cl h.1).1
      have k2 := ihs.2 X p _ C cl h.2
      exact ⟨sa_cons (hd_of h.1) k1 k2.1, sr_cons (hd_of h.1) k1 k2.2⟩
    · cases h
  | _ => exact ⟨fun X p e C cl h => by simp [ckE] at h, fun X p l C cl h => by simp [ckL] at h⟩
end Md

/-! Md, part P: statements. -/
namespace Md
open PySem PySem.Spec
open PyProof.Rows L2
variable [Wd]
/-- which text a statement stands for -/
def appB (e : Expr) (m : Str) (i : Nat) (N : List Str) (sc : Scope) : Option Expr := match e with
  | .Call (.Attribute (.Name x _) y apos) [a] [] cpos => if decide (N[i]? = some x) && visB sc x && !dbg x && decide (y = m) && (apos.endLine == cpos.line) then some a else none
  | _ => none
/-- a comprehension whose list is stored as the last thing of it -/
def swpB (p : Cp) (x : Str) (px : Pos) (e : Expr) : Bool := match e with
  | .ListComp _ _ s q => (match p.sc.kind with
    | .function => true
    | _ => false) && locB p.sc x && (px.line == q.line) && !(s.names.any fun (n, k) => n == x && (k == .local || k == .cell))
  | .SetComp _ _ _ _ => false
  | .DictComp _ _ _ _ _ => false
  | _ => true
mutual
def ckT (p : Cp) : S → Stmt → Bool
  | .nop, st => match st with
    | .Pass _ => true
    | .Expr (.Constant (.str _) _ _) _ => true
    | _ => false
  | .never, _ => true
  | .brk, st => match st with
    | .Break _ => true
    | _ => false
  | .cont, st => match st with
    | .Continue _ => true
    | _ => false
  | .ex e, st => match st with
    | .Expr (.Call f l k q) _ => ckE p e (.Call f l k q)
    | _ => false
  | .as i e, st => match st with
    | .Assign [.Name x px] v _ => tgB p i (.Name x px) && ckE p e v && swpB p x px v
    | _ => false
  | .ast is e, st => match st with
    | .Assign [.Tuple ts k px] v _ => tgsB p is ts && ckE p e v && (match v with
      | .Tuple _ _ _ => false
      | .ListComp _ _ _ _ => false
      | _ => true)
    | _ => false
  | .aug i o e, st => match st with
    | .AugAssign (.Name x px) op v _ => tgB p i (.Name x px) && opB o.op op && ckE p e v
    | _ => false
  | .ret e, st => match st with
    | .Return (some v) _ => ckE p e v
    | _ => false
  | .ifs c a b, st => match st with
    | .If v t f _ => ckE p c v && ckS p a t && ckS p b f
    | _ => false
  | .for tg k a b c body, st => match st with
    | .For t it l [] _ => ckI p k (ckE p a) (ckE p b) (ckE p c) (unitE b) (unitE c) (tupE t) it && ckTg p tg t && ckS p body l
    | _ => false
  | .whl m c body, st => match st with
    | .While v l [] _ => ckE p c v && ckS p body l
    | _ => false
  | .app i e, st => match st with
    | .Expr v _ => (match appB v "append" i p.N p.sc with
      | some a => ckE p e a
      | none => false)
    | _ => false
  | .ext i e, st => match st with
    | .Expr v _ => (match appB v "extend" i p.N p.sc with
      | some a => ckE p e a
      | none => false)
    | _ => false
  | .newT i, st => match st with
    | .Assign [.Name x px] (.Dict [] [] _) _ => tgB p i (.Name x px)
    | _ => false
  | .setT i k e, st => match st with
    | .Assign [.Subscript (.Name x px) kx _] v _ => decide (p.N[i]? = some x) && visB p.sc x && !dbg x && ckE p k kx && ckE p e v && (match v with
      | .ListComp _ _ _ _ => false
      | _ => true)
    | _ => false
  | .setL i k e, st => match st with
    | .Assign [.Subscript (.Name x px) kx _] v _ => decide (p.N[i]? = some x) && visB p.sc x && !dbg x && ckE p k kx && ckE p e v && (match v with
      | .ListComp _ _ _ _ => false
      | _ => true)
    | _ => false
  | _, _ => false
def ckS (p : Cp) : S → List Stmt → Bool
  | .nop, l => match l with
    | [] => true
    | _ => false
  | .seq a b, l => match l with
    | st :: r => ckT p a st && ckS p b r
    | [] => false
  | .kil _ b, l => ckS p b l
  | _, _ => false
end

def WS (X : Cx) (st : Stmt) : TS := fun D σ H => ∀ (pins : List (Addr × Obj)) (s : Shared), Inv X pins σ H s → wpAny (model X.prog X.w) X.A (PySem.exec st X.env) (SP X pins D) X.xe s
def WB (X : Cx) (sts : List Stmt) : TS := fun D σ H => ∀ (pins : List (Addr × Obj)) (s : Shared), Inv X pins σ H s → wpAny (model X.prog X.w) X.A (execs sts X.env) (SP X pins D) X.xe s
theorem ws_ps {X : Cx} {st : Stmt} : PS X st (WS X st) := ⟨fun pins s σ H D I h => h pins s I⟩
theorem wb_pss {X : Cx} {sts : List Stmt} : PSs X sts (WB X sts) := ⟨fun pins s σ H D I h => h pins s I⟩
theorem ws_of {X : Cx} {st : Stmt} {t : TS} {D : Ends} {σ : L2.St} {H : Hp} (h : PS X st t) (q : t D σ H) : WS X st D σ H := fun pins s I => h.run pins s σ H D I q
theorem wb_of {X : Cx} {sts : List Stmt} {t : TS} {D : Ends} {σ : L2.St} {H : Hp} (h : PSs X sts t) (q : t D σ H) : WB X sts D σ H := fun pins s I => h.run pins s σ H D I q

structure AftS (K : PySem.W.Frag) (np : Nat → Bool) (σ0 : L2.St) (F H : Hp) (L : Lbl) (sl0 : Sl) (σ : L2.St) (sl : Sl) (F' H' : Hp) (L' : Lbl) : Prop where
  ok : Ok F' H' L'
  rel : Rel K F' H' L' σ sl
  st : Stp F H L F' H' L'
  lk : Lks sl0 σ0 sl σ
  kp : ∀ j, np j = true → σ[j]? = σ0[j]?
def SQ (K : PySem.W.Frag) (np : Nat → Bool) (σ0 : L2.St) (F H : Hp) (L : Lbl) (sl0 : Sl) (D : Ends) (r : SRes) : Prop :=
  match r with
  | .nx sl => ∀ σ F' H' L', AftS K np σ0 F H L sl0 σ sl F' H' L' → (∀ a, L' a ≠ 1) → D.nx σ H'
  | .bk sl => ∀ σ F' H' L', AftS K np σ0 F H L sl0 σ sl F' H' L' → (∀ a, L' a ≠ 1) → D.bk σ H'
  | .ct sl => ∀ σ F' H' L', AftS K np σ0 F H L sl0 σ sl F' H' L' → (∀ a, L' a ≠ 1) → D.ct σ H'
  | .rt t sl => ∀ v σ F' H' L', AftS K np σ0 F H L sl0 σ sl F' H' L' → Ow K F' H' L' 1 v t → t.isNew = true → D.rt v H'
  | .ex _ _ sl => ∀ σ F' H' L', AftS K np σ0 F H L sl0 σ sl F' H' L' → (∀ a, L' a ≠ 1) → False
  | .no => False
section
variable {K : PySem.W.Frag} {np : Nat → Bool} {σ σ1 : L2.St} {F F1 F2 H H1 H2 : Hp} {L L1 L5 : Lbl} {sl sl1 sl2 : Sl} {D : Ends} {α β : Type}
theorem AftS.trans {σ2 : L2.St} (a : AftS K np σ F H L sl σ1 sl1 F1 H1 L1) (b : AftS K np σ1 F1 H1 L1 sl1 σ2 sl2 F2 H2 L5) : AftS K np σ F H L sl σ2 sl2 F2 H2 L5 := ⟨b.ok, b.rel, a.st.trans b.st, a.lk.trans b.lk, fun j h => (b.kp j h).trans (a.kp j h)⟩
theorem Aft.s (A : Aft K σ F H L sl sl1 F1 H1 L1) : AftS K np σ F H L sl σ sl1 F1 H1 L1 := ⟨A.ok, A.rel, A.st, A.lk.s σ, fun _ _ => rfl⟩
theorem G.aftS (g : G K F H L σ sl) : AftS K np σ F H L sl σ sl F H L := g.aft.s
theorem SQ.from (a : AftS K np σ F H L sl σ1 sl1 F1 H1 L1) {r : SRes} (h : SQ K np σ F H L sl D r) : SQ K np σ1 F1 H1 L1 sl1 D r := by
  cases r with
  | nx s => exact fun σ' F' H' L' A n => h σ' F' H' L' (a.trans A) n
  | bk s => exact fun σ' F' H' L' A n => h σ' F' H' L' (a.trans A) n
  | ct s => exact fun σ' F' H' L' A n => h σ' F' H' L' (a.trans A) n
  | rt t s => exact fun v σ' F' H' L' A => h v σ' F' H' L' (a.trans A)
  | ex _ _ s => exact fun σ' F' H' L' A n => h σ' F' H' L' (a.trans A) n
  | no => exact h
theorem SQ.bind {r : Res α} {f : α → Sl → SRes} (h : SQ K np σ F H L sl D (r.andS f)) : RsQ K σ XF F H L sl (fun a sl1 F1 H1 L1 => SQ K np σ F1 H1 L1 sl1 D (f a sl1)) r := by
  cases r with
  | ok a s => exact fun F' H' L' A => SQ.from A.s h
  | ex c w s => exact fun F' H' L' A n => h σ F' H' L' A.s n
  | no => exact h
/-- a slot takes data -/
theorem aft_fz {i : Nat} {v : V} {w : Da} (g : G K F H L σ sl) (r : Rp K F v w) (n : np i = false) : AftS K np σ F H L sl (σ.set i (some v)) (sl.set i (some (.fz w))) F H L :=
  ⟨g.ok, g.rel.store (.fz r), .refl _ _ _, Lks.put sl σ i _ (by intro ds; simp), fun j h => List.getElem?_set_ne fun z => by rw [z, h] at n; cases n⟩
theorem tgput_np {tg : Tg} {w : Da} (h : tg.put np w sl = some sl1) : ∀ j ∈ tg.slots, np j = false := by
  have all : ∀ (is : List Nat) (ws : List Da) (sl sl1 : Sl), putAll np sl is ws = some sl1 → ∀ j ∈ is, np j = false := by
    intro is
    induction is with
    | nil => intro ws sl sl1 h j hj; cases hj
    | cons i is ih =>
      intro ws sl sl1 h j hj
      cases ws with
      | nil => cases h
      | cons w ws =>
        rw [putAll] at h
        cases e : putF np sl i w with
        | none => rw [e] at h; cases h
        | some sl2 =>
          rw [e] at h
          rcases List.mem_cons.mp hj with rfl | hj
          · exact (put_eq e).2.1
          · exact ih ws sl2 sl1 h j hj
  cases tg with
  | one i =>
    intro j hj
    rw [List.mem_singleton.mp hj]
    exact (put_eq (show put np sl i (.fz w) = some sl1 from h)).2.1
  | tup is =>
    cases w with
    | tuple ws => exact all is ws sl sl1 h
    | _ => cases h
/-- a new list becomes slot i's -/
theorem aft_lst {i : Nat} {v : V} {t : T} {sl0 : Sl} (A : Aft K σ F H L sl0 sl F1 H1 L1) (o : Ow K F1 H1 L1 1 v t) (nw : t.isNew = true) (n : np i = false) :
    ∃ L2, AftS K np σ F1 H1 L1 sl (σ.set i (some v)) (sl.set i (some t)) F1 H1 L2 ∧ ∀ a, L2 a ≠ 1 := by
  have st : Stp F1 H1 L1 F1 H1 (fun a => if L1 a = 1 then i + 2 else L1 a) := ⟨Same.refl _, fun _ _ h _ => h, fun a h => by
    by_cases z : L1 a = 1
    · exact .inl (by omega)
    · rw [if_neg z] at h; exact .inl h, fun a h => .inl h⟩
  refine ⟨fun a => if L1 a = 1 then i + 2 else L1 a, ⟨⟨A.ok.sub, fun a h => ?_, fun a h => ?_⟩, ?_, st, ?_, fun j h => List.getElem?_set_ne fun z => by rw [z, h] at n; cases n⟩, fun a h => ?_⟩
  · by_cases z : L1 a = 1
    · exact A.ok.dis a (by omega)
    · rw [if_neg z] at h; exact A.ok.dis a h
  · by_cases z : L1 a = 1
    · exact A.ok.dom a (by omega)
    · rw [if_neg z] at h; exact A.ok.dom a h
  · have r2 : Rel K F1 H1 (fun a => if L1 a = 1 then i + 2 else L1 a) σ sl := A.rel.mono st fun a o e q => ⟨e, if_neg (by omega)⟩
    refine r2.store ?_
    cases o with
    | fz r => exact .fz r
    | ro _ _ => cases nw
    | lst e q r => exact .lst e (if_pos q) r
    | dct e q r => exact .dct e (if_pos q) r
    | lk _ _ _ _ => cases nw
    | lkd _ _ => cases nw
    | big A b _ _ => cases t <;> first | (cases b; done) | (cases nw; done)
  · refine Lks.put sl σ i _ fun ds z => ?_
    have z := Option.some.inj z
    rw [z] at nw; cases nw
  · by_cases z : L1 a = 1
    · simp only [z, if_true] at h; omega
    · simp only [z, if_false] at h
/-- slot i's own list, written -/
theorem aft_wr {i : Nat} {a : Addr} {ds ds' : List Da} {us vs : List V} (g : G K F H L σ sl) (hs : sl[i]? = some (some (.lst ds))) (hv : σ[i]? = some (some (.ref a))) (e : H a = some (.lst us)) (l : L a = i + 2) (r : RpA K F vs ds') :
    AftS K np σ F H L sl σ (sl.set i (some (.lst ds'))) F (upd H a (.lst vs)) L := by
  exact (aft_wrE (o := .lst vs) (t' := .lst ds') g hs hv e l (.lst upd_same l r) rfl).s
end
section
variable {X : Cx} {p : Cp} {cb : Nat → List T → FRes} {np : Nat → Bool} {σ : L2.St} {F F1 H H1 : Hp} {L L1 : Lbl} {sl sl1 : Sl} {D : Ends} {a b c : E} {x y z : Expr}
def SB (X : Cx) (p : Cp) (cb : Nat → List T → FRes) (c : S) (sts : List Stmt) : Prop := ∀ (σ : L2.St) (sl : Sl) (F H : Hp) (L : Lbl) (D : Ends), G X.K F H L σ sl → SQ X.K p.np σ F H L sl D (exec p.P p.np cb c sl) → WB X sts D σ H
def SS (X : Cx) (p : Cp) (cb : Nat → List T → FRes) (c : S) (st : Stmt) : Prop := ∀ (σ : L2.St) (sl : Sl) (F H : Hp) (L : Lbl) (D : Ends), G X.K F H L σ sl → SQ X.K p.np σ F H L sl D (exec p.P p.np cb c sl) → WS X st D σ H
theorem SE.stepS (ha : SE X p cb XF a x) (g : G X.K F H L σ sl) {f : R → Sl → SRes} (h : SQ X.K np σ F H L sl D ((ev p.P p.np cb a sl).andS f)) {Q : VK}
    (k : ∀ r sl1 v F1 H1 L1, Aft X.K σ F H L sl sl1 F1 H1 L1 → RP X.K F1 H1 L1 σ sl1 v r → SQ X.K np σ F1 H1 L1 sl1 D (f r sl1) → Q v H1) : WE X x σ H Q :=
  ha σ sl F H L Q g (h.bind.imp fun r sl1 F1 H1 L1 A h1 v hv => k r sl1 v F1 H1 L1 A hv h1)
/-- .. settled -/
theorem SE.stepV (ha : SE X p cb XF a x) (g : G X.K F H L σ sl) {f : R → Sl → SRes} (h : SQ X.K np σ F H L sl D ((ev p.P p.np cb a sl).andS f)) {Q : VK}
    (k : ∀ r sl1 v F1 H1 L1, G X.K F1 H1 L1 σ sl1 → RQ X.K F1 σ v r.settle → SQ X.K np σ F1 H1 L1 sl1 D (f r sl1) → Q v H1) : WE X x σ H Q :=
  ha.stepS g h fun r sl1 v F1 H1 L1 A hv h1 => by
    obtain ⟨F2, L2, st, g2, q⟩ := settle1 A hv
    exact k r sl1 v F2 H1 L2 g2 q (h1.from (Aft.s ⟨g2.ok, g2.rel, st, .refl _⟩))
/-- .. kept -/
theorem SE.stepK (ha : SE X p cb XF a x) (g : G X.K F H L σ sl) {f : R → Sl → SRes} (h : SQ X.K np σ F H L sl D ((ev p.P p.np cb a sl).andS f)) (hn : ∀ r sl1, r.take sl1 = none → f r sl1 = .no) {Q : VK}
    (k : ∀ r sl1 w sl2 v F1 H1 L1, r.take sl1 = some (w, sl2) → G X.K F1 H1 L1 σ sl2 → Rp X.K F1 v w → SQ X.K np σ F1 H1 L1 sl2 D (f r sl1) → Q v H1) : WE X x σ H Q :=
  ha.stepS g h fun r sl1 v F1 H1 L1 A hv h1 => by
    cases e : r.take sl1 with
    | none => rw [hn r sl1 e] at h1; exact h1.elim
    | some ws =>
      obtain ⟨w, sl2⟩ := ws
      obtain ⟨F2, L2, st, g2, q, lk⟩ := take1 A hv e
      exact k r sl1 w sl2 v F2 H1 L2 e g2 q (h1.from (Aft.s ⟨g2.ok, g2.rel, st, lk⟩))
theorem sb_nil : SB X p cb .nop [] := fun σ sl F H L D g h => wb_of pss_nil (h σ F H L g.aftS g.tmp)
theorem sb_cons {s t : S} {st : Stmt} {sts : List Stmt} (h1 : SS X p cb s st) (h2 : SB X p cb t sts) : SB X p cb (.seq s t) (st :: sts) := by
  intro σ sl F H L D g h
  refine wb_of (pss_cons ws_ps wb_pss) ?_
  refine h1 σ sl F H L _ g ?_
  have h : SQ X.K p.np σ F H L sl D ((exec p.P p.np cb s sl).andS (exec p.P p.np cb t)) := h
  cases e : exec p.P p.np cb s sl with
  | nx sl1 =>
    rw [e] at h
    exact fun σ' F' H' L' A n => h2 σ' sl1 F' H' L' D ⟨A.ok, A.rel, n⟩ (SQ.from A h)
  | bk sl1 => rw [e] at h; exact h
  | ct sl1 => rw [e] at h; exact h
  | rt t sl1 => rw [e] at h; exact h
  | ex _ _ sl1 => rw [e] at h; exact h
  | no => rw [e] at h; exact h
/-- what slot i holds is forgotten -/
theorem kil1 {K : PySem.W.Frag} {F H : Hp} {L : Lbl} {σ : L2.St} {sl : Sl} {np : Nat → Bool} (i : Nat) (g : G K F H L σ sl) : ∃ L', AftS K np σ F H L sl σ (sl.set i none) F H L' ∧ ∀ a, L' a ≠ 1 := by
  have tm : ∀ a, Md.clr L (i + 2) a ≠ 1 := fun a => by
    unfold Md.clr
    by_cases q : L a = i + 2
    · rw [if_pos q]; decide
    · rw [if_neg q]; exact g.tmp a
  have st : Stp F H L F H (Md.clr L (i + 2)) := ⟨Same.refl _, fun _ _ h _ => h, fun a h => by
    unfold Md.clr at h
    by_cases q : L a = i + 2
    · rw [if_pos q] at h; exact absurd rfl h
    · rw [if_neg q] at h; exact .inl h, fun a h => .inl h⟩
  refine ⟨Md.clr L (i + 2), ⟨clr_ok g.ok, ⟨by rw [List.length_set]; exact g.rel.len, fun j t ht => ?_⟩, st, (Lkb.set sl i (by intro ds z; cases z)).s σ, fun _ _ => rfl⟩, tm⟩
  by_cases q : i = j
  · subst q
    by_cases z : i < sl.length
    · rw [List.getElem?_set_self z] at ht; cases ht
    · rw [List.getElem?_eq_none (by simpa using z)] at ht; cases ht
  · rw [List.getElem?_set_ne q] at ht
    obtain ⟨v, h1, h2⟩ := g.rel.at_ j t ht
    exact ⟨v, h1, h2.mono st fun a o e l => ⟨e, by unfold Md.clr; rw [if_neg (by omega)]; exact l⟩⟩
theorem kilS_ok {K : PySem.W.Frag} {F H : Hp} {σ : L2.St} {np : Nat → Bool} : ∀ (ks : List Nat) {L : Lbl} {sl : Sl}, G K F H L σ sl → ∃ L', AftS K np σ F H L sl σ (kilS np ks sl) F H L' ∧ ∀ a, L' a ≠ 1
  | [], L, sl, g => ⟨L, g.aftS, g.tmp⟩
  | k :: ks, L, sl, g => by
    rw [kilS]
    by_cases c : np k = true
    · rw [if_pos c]; exact kilS_ok ks g
    · rw [if_neg c]
      obtain ⟨L1, A1, n1⟩ := kil1 (np := np) k g
      obtain ⟨L2, A2, n2⟩ := kilS_ok ks ⟨A1.ok, A1.rel, n1⟩
      exact ⟨L2, A1.trans A2, n2⟩
theorem sb_kil {ks : List Nat} {s : S} {sts : List Stmt} (h1 : SB X p cb s sts) : SB X p cb (.kil ks s) sts := by
  intro σ sl F H L D g h
  refine h1 σ sl F H L D g ?_
  have h : SQ X.K p.np σ F H L sl D ((exec p.P p.np cb s sl).kil p.np ks) := h
  have fin : ∀ {E : L2.St → Hp → Prop} {sl1 : Sl}, (∀ σ' F' H' L', AftS X.K p.np σ F H L sl σ' (kilS p.np ks sl1) F' H' L' → (∀ a, L' a ≠ 1) → E σ' H') → ∀ σ' F' H' L', AftS X.K p.np σ F H L sl σ' sl1 F' H' L' → (∀ a, L' a ≠ 1) → E σ' H' := fun h σ' F' H' L' A n => by
    obtain ⟨L2, A2, n2⟩ := kilS_ok (np := p.np) ks (⟨A.ok, A.rel, n⟩ : G X.K F' H' L' σ' _)
    exact h σ' F' H' L2 (A.trans A2) n2
  cases e : exec p.P p.np cb s sl with
  | nx sl1 => rw [e] at h; exact fin h
  | bk sl1 => rw [e] at h; exact fin h
  | ct sl1 => rw [e] at h; exact fin h
  | rt t sl1 => rw [e] at h; exact h
  | ex _ _ sl1 => rw [e] at h; exact h
  | no => rw [e] at h; exact h
theorem ss_nop {st : Stmt} (h : ckT p .nop st = true) : SS X p cb .nop st := by
  intro σ sl F H L D g hq
  have hq : D.nx σ H := hq σ F H L g.aftS g.tmp
  simp only [ckT] at h
  split at h
  · exact ws_of ps_pass hq
  · exact ws_of ps_doc hq
  · cases h
theorem ss_brk {q : Pos} : SS X p cb .brk (.Break q) := fun σ sl F H L D g h => ws_of ps_break (h σ F H L g.aftS g.tmp)
theorem ss_cont {q : Pos} : SS X p cb .cont (.Continue q) := fun σ sl F H L D g h => ws_of ps_continue (h σ F H L g.aftS g.tmp)
theorem ss_ex {q : Pos} (hs : swapsWith x none q.line X.env = pure false) (ha : SE X p cb XF a x) : SS X p cb (.ex a) (.Expr x q) := by
  intro σ sl F H L D g h
  refine ws_of (ps_expr we_pe hs) ?_
  exact ha.stepV g h fun r sl1 v F1 H1 L1 g1 q h1 => h1 σ F1 H1 L1 g1.aftS g1.tmp
theorem ss_ret {q : Pos} (ha : SE X p cb XF a x) : SS X p cb (.ret a) (.Return (some x) q) := by
  intro σ sl F H L D g h
  refine ws_of (ps_ret we_pe) ?_
  show WE X x σ H D.rt
  refine ha.stepS g h fun r sl1 v F1 H1 L1 A hv h1 => ?_
  cases r with
  | t t => exact h1 v σ F1 H1 L1 (Aft.s ⟨A.ok, A.rel, .refl _ _ _, .refl _⟩) hv.1 hv.2
  | p i =>
    have h1 : SQ X.K p.np σ F1 H1 L1 sl1 D (if p.np i then (match (R.p i).take sl1 with
      | some (w, sl1) => .rt (.fz w) sl1
      | none => .no) else (match sl1[i]? with
      | some (some (.lst ds)) => .rt (.lst ds) (sl1.set i none)
      | some (some (.dct kvs)) => .rt (.dct kvs) (sl1.set i none)
      | _ => .no)) := h1
    by_cases n : p.np i = true
    · rw [if_pos n] at h1
      cases e : (R.p i).take sl1 with
      | none => rw [e] at h1; exact h1.elim
      | some ws =>
        obtain ⟨w, sl2⟩ := ws
        rw [e] at h1
        obtain ⟨F2, L2, st, g2, q, lk⟩ := take1 A hv e
        exact h1 v σ F2 H1 L2 (Aft.s ⟨g2.ok, g2.rel, st, lk⟩) (.fz q) rfl
    · rw [if_neg n] at h1
      have fin : ∀ t, sl1[i]? = some (some t) → t.isNew = true → SQ X.K p.np σ F1 H1 L1 sl1 D (.rt t (sl1.set i none)) → D.rt v H1 := fun t e nw h1 => by
        obtain ⟨v', e1, e2⟩ := A.rel.at_ i _ e
        have z : some (some v') = some (some v) := e1.symm.trans hv.1
        cases z
        have st : Stp F1 H1 L1 F1 H1 (fun b => if L1 b = i + 2 then 1 else L1 b) := ⟨Same.refl _, fun _ _ h _ => h, fun b hb => by
          by_cases q : L1 b = i + 2
          · exact .inl (by omega)
          · rw [if_neg q] at hb; exact .inl hb, fun b hb => .inl hb⟩
        refine h1 _ σ F1 H1 (fun b => if L1 b = i + 2 then 1 else L1 b) ⟨⟨A.ok.sub, fun b hb => ?_, fun b hb => ?_⟩, ⟨by rw [List.length_set]; exact A.rel.len, fun j t ht => ?_⟩, st, (Lkb.set sl1 i (by intro ds z; cases z)).s σ, fun _ _ => rfl⟩ ?_ nw
        · by_cases q : L1 b = i + 2
          · exact A.ok.dis b (by omega)
          · rw [if_neg q] at hb; exact A.ok.dis b hb
        · by_cases q : L1 b = i + 2
          · exact A.ok.dom b (by omega)
          · rw [if_neg q] at hb; exact A.ok.dom b hb
        · by_cases q : i = j
          · subst q
            rw [List.getElem?_set_self (List.getElem?_eq_some_iff.mp e).1] at ht; cases ht
          · rw [List.getElem?_set_ne q] at ht
            obtain ⟨u, h3, h4⟩ := A.rel.at_ j t ht
            exact ⟨u, h3, h4.mono st fun b o eb lb => ⟨eb, by show (if L1 b = i + 2 then 1 else L1 b) = _; rw [if_neg (by omega)]; exact lb⟩⟩
        · cases e2 with
          | fz r => exact .fz r
          | ro _ _ => cases nw
          | lst ea q r => exact .lst ea (if_pos q) r
          | dct ea q r => exact .dct ea (if_pos q) r
          | lk _ _ _ _ => cases nw
          | lkd _ _ => cases nw
          | big A b _ _ => cases t <;> first | (cases b; done) | (cases nw; done)
      split at h1
      · rename_i ds e
        exact fin _ e rfl h1
      · rename_i ds e
        exact fin _ e rfl h1
      · exact h1.elim
  | q _ _ => exact hv.elim
end
end Md

/-! Md, part Q: statements that store, that loop. -/
namespace Md
open PySem PySem.Spec
open PyProof.Rows L2
variable [Wd]
section
variable {X : Cx} {p : Cp} {cb : Nat → List T → FRes} {np : Nat → Bool} {σ : L2.St} {F F1 H H1 : Hp} {L L1 : Lbl} {sl sl1 : Sl} {D : Ends} {a b c : E} {x y z : Expr} {q : Pos}
theorem loc_of_tg {i : Nat} {n : Str} {px : Pos} (h : tgB p i (.Name n px) = true) : p.N[i]? = some n ∧ (p.sc.names.lookup n = some .local ∨ (p.sc.names.lookup n = some .cell ∧ p.fl = true)) := by
  unfold tgB at h
  simp only [Bool.and_eq_true, Bool.or_eq_true, decide_eq_true_eq] at h
  refine ⟨h.1, ?_⟩
  rcases h.2 with z | ⟨z1, z2⟩
  · exact .inl (loc_of z)
  · exact .inr ⟨cel_of z2, z1⟩
/-- what a slot takes, from an outcome -/
def asOf (np : Nat → Bool) (i : Nat) (r : R) (sl : Sl) : SRes := match r with
    | .t t => nxt (put np sl i t)
    | r => match r.take sl with
      | some (w, sl2) => nxt (putF np sl2 i w)
      | none => .no
theorem as_core {i : Nat} {sl0 : Sl} {r : R} {v : V} (A : Aft X.K σ F H L sl0 sl F1 H1 L1) (hv : RP X.K F1 H1 L1 σ sl v r) (h : SQ X.K np σ F1 H1 L1 sl D (asOf np i r sl)) : D.nx (σ.set i (some v)) H1 := by
  have frz : ∀ {w : Da} {sl2 : Sl}, r.take sl = some (w, sl2) → SQ X.K np σ F1 H1 L1 sl D (nxt (putF np sl2 i w)) → D.nx (σ.set i (some v)) H1 := fun {w sl2} e h => by
    obtain ⟨F2, L2', st, g2, rq, lk⟩ := take1 A hv e
    cases ep : putF np sl2 i w with
    | none => rw [ep] at h; exact h.elim
    | some sl3 =>
      rw [ep] at h
      obtain ⟨rfl, n, _⟩ := put_eq (show put np sl2 i (.fz w) = some sl3 from ep)
      have A1 : AftS X.K np σ F1 H1 L1 sl σ sl2 F2 H1 L2' := Aft.s ⟨g2.ok, g2.rel, st, lk⟩
      have A2 : AftS X.K np σ F2 H1 L2' sl2 (σ.set i (some v)) (sl2.set i (some (.fz w))) F2 H1 L2' := aft_fz g2 rq n
      exact h _ _ _ _ (A1.trans A2) g2.tmp
  cases r with
  | t t =>
    have h : SQ X.K np σ F1 H1 L1 sl D (nxt (put np sl i t)) := h
    cases ep : put np sl i t with
    | none => rw [ep] at h; exact h.elim
    | some sl3 =>
      by_cases fz : ∃ d, t = .fz d
      · obtain ⟨d, rfl⟩ := fz
        exact frz (w := d) (sl2 := sl) rfl h
      · rw [ep] at h
        obtain ⟨rfl, n, _⟩ := put_eq ep
        obtain ⟨L5, A2, tm⟩ := aft_lst (np := np) (i := i) A hv.1 hv.2 n
        exact h _ _ _ _ A2 tm
  | p j =>
    have h : SQ X.K np σ F1 H1 L1 sl D (match (R.p j).take sl with
      | some (w, sl2) => nxt (putF np sl2 i w)
      | none => .no) := h
    cases e : (R.p j).take sl with
    | none => rw [e] at h; exact h.elim
    | some ws =>
      rw [e] at h
      exact frz e h
  | q _ _ => exact hv.elim
theorem as_W {i : Nat} (g : G X.K F H L σ sl) (ha : SE X p cb XF a x) (h : SQ X.K p.np σ F H L sl D (exec p.P p.np cb (.as i a) sl)) : WE X x σ H fun v H1 => D.nx (σ.set i (some v)) H1 := by
  have h : SQ X.K p.np σ F H L sl D ((ev p.P p.np cb a sl).andS fun r sl1 => asOf p.np i r sl1) := h
  exact ha.stepS g h fun r sl1 v F1 H1 L1 A hv h1 => as_core A hv h1
theorem ss_as {i : Nat} {n : Str} {px : Pos} (C : Cd X p) (ht : tgB p i (.Name n px) = true) (hs : swapsWith x (some (.Name n px)) q.line X.env = pure false) (hw : swappedStores [.Name n px] x X.env = pure none) (ha : SE X p cb XF a x) : SS X p cb (.as i a) (.Assign [.Name n px] x q) := by
  intro σ sl F H L D g h
  refine ws_of (ps_asg we_pe (tg_one C ht) hs hw) ?_
  exact as_W g ha h
theorem ss_ast {is : List Nat} {ts : List Expr} {k : Nat} {px : Pos} (C : Cd X p) (ht : tgsB p is ts = true) (hs : swapsWith x (some (.Tuple ts k px)) q.line X.env = pure false) (hw : swappedStores [.Tuple ts k px] x X.env = pure none) (ha : SE X p cb XF a x) : SS X p cb (.ast is a) (.Assign [.Tuple ts k px] x q) := by
  intro σ sl F H L D g h
  refine ws_of (ps_asg we_pe wg_pg hs hw) ?_
  have h : SQ X.K p.np σ F H L sl D ((ev p.P p.np cb a sl).andS fun r sl1 => match r.take sl1 with
    | some (.tuple ws, sl2) => nxt (putAll p.np sl2 is ws)
    | _ => .no) := h
  show WE X x σ H fun v H1 => WG X (.Tuple ts k px) v σ H1 D.nx
  refine ha.stepK g h (fun r sl1 e => by simp only [e]) fun r sl1 w sl2 v F1 H1 L1 e g1 rv h1 => ?_
  simp only [e] at h1
  cases w with
  | tuple ws =>
    have h1 : SQ X.K p.np σ F1 H1 L1 sl2 D (nxt (putAll p.np sl2 is ws)) := h1
    cases ep : putAll p.np sl2 is ws with
    | none => rw [ep] at h1; exact h1.elim
    | some sl3 =>
      rw [ep] at h1
      have ep' : (Tg.tup is).put p.np (.tuple ws) sl2 = some sl3 := ep
      refine tg_ok C (tg := .tup is) (show ckTg p (.tup is) (.Tuple ts k px) = true from ht) g1 rv ep' fun σ' g' lk ne => ?_
      exact h1 σ' F1 H1 L1 ⟨g'.ok, g'.rel, .refl _ _ _, lk, fun j hj => ne j fun z => by rw [tgput_np ep' j z] at hj; cases hj⟩ g'.tmp
  | _ => exact h1.elim
def ipMul : TIp := fun x y H Q => ∃ i j, x = .int i ∧ y = .int j ∧ mulOk i j = true ∧ Q (.int (i * j)) H
theorem ip_mul : PIp X .Mult ipMul := by
  intro pins s σ H x y v u Q I r1 r2 h
  obtain ⟨i, j, e1, e2, c, q⟩ := h
  subst e1; subst e2
  obtain ⟨t, rfl⟩ := r1
  obtain ⟨t', rfl⟩ := r2
  have ok : IntMulOk i j := by
    rw [mulOk_eq] at c
    rw [Bool.or_eq_true] at c
    rcases c with c | c
    · have c := of_decide_eq_true c; exact CMul.ok c
    · have c := of_decide_eq_true c; exact CMulW.ok c
  exact imul_int ⟨.int _, H, I.tok _, ⟨_, rfl⟩, q⟩ ok
theorem ss_aug {i : Nat} {n : Str} {px : Pos} {o : BOp} (C : Cd X p) (ht : tgB p i (.Name n px) = true) (ha : SE X p cb XF a x) : SS X p cb (.aug i o a) (.AugAssign (.Name n px) o.op x q) := by
  intro σ sl F H L D g h
  obtain ⟨h1, h2⟩ := loc_of_tg ht
  have hN : X.N.Nodup := by rw [C.N]; exact C.nd
  have hi : X.N[i]? = some n := by rw [C.N]; exact h1
  have hl : Loc X.env.scope n := by
    rw [C.sc]
    rcases h2 with z | ⟨z, _⟩
    · exact .inl z
    · exact .inr z
  have hf : X.fn n = true ∨ X.env.scope.names.lookup n = some .local := by
    rcases h2 with z | ⟨_, z⟩
    · exact .inr (by rw [C.sc]; exact z)
    · exact .inl (C.fl z n)
  have h : SQ X.K p.np σ F H L sl D (match sl[i]? with
    | some (some (.fz (.int x))) => (ev p.P p.np cb a sl).andS fun r sl1 => match r.settle.view sl1 with
      | some (.int y) => (match augI o x y with
        | some w => nxt (putF p.np sl1 i (.int w))
        | none => .no)
      | _ => .no
    | _ => .no) := h
  split at h
  · rename_i k e
    obtain ⟨v, e1, e2⟩ := g.rel.at_ i _ e
    have ev : v = .int k := by
      cases e2 with
      | big A b _ _ => cases b
      | fz r => cases r; rfl
    subst ev
    have fin : ∀ (f : Int → Int → Int) (r : R) (sl1 : Sl) (v : V) (F1 H1 : Hp) (L1 : Lbl), (∀ j, augI o k j = some (f k j)) → G X.K F1 H1 L1 σ sl1 → RQ X.K F1 σ v r.settle → SQ X.K p.np σ F1 H1 L1 sl1 D (match r.settle.view sl1 with
      | some (.int y) => (match augI o k y with
        | some w => nxt (putF p.np sl1 i (.int w))
        | none => .no)
      | _ => .no) → ipI f (.int k) v H1 fun z H2 => D.nx (σ.set i (some z)) H2 := fun f r sl1 v F1 H1 L1 hf g1 rq h1 => by
      split at h1
      · rename_i j e3
        have w : Rp X.K F1 v (.int j) := rq.view g1 e3
        cases w
        rw [hf j] at h1
        refine ⟨k, j, rfl, rfl, ?_⟩
        have h1 : SQ X.K p.np σ F1 H1 L1 sl1 D (nxt (putF p.np sl1 i (.int (f k j)))) := h1
        cases ep : putF p.np sl1 i (.int (f k j)) with
        | none => rw [ep] at h1; exact h1.elim
        | some sl3 =>
          rw [ep] at h1
          obtain ⟨rfl, n, _⟩ := put_eq (show put p.np sl1 i (.fz (.int (f k j))) = some sl3 from ep)
          exact h1 _ _ _ _ (aft_fz g1 (.int _) n) g1.tmp
      · exact h1.elim
    have no : (∀ j, augI o k j = none) → WE X x σ H fun _ _ => False := fun hn => ha.stepV g h fun r sl1 v F1 H1 L1 g1 rq h1 => by
      split at h1
      · rw [hn] at h1; exact h1
      · exact h1
    cases o with
    | add =>
      refine ws_of (ps_aug hN hi hl we_pe ip_add hf) ⟨_, e1, ?_⟩
      exact ha.stepV g h fun r sl1 v F1 H1 L1 g1 rq h1 => fin (fun i j => i + j) r sl1 v F1 H1 L1 (fun _ => rfl) g1 rq h1
    | sub =>
      refine ws_of (ps_aug hN hi hl we_pe ip_sub hf) ⟨_, e1, ?_⟩
      exact ha.stepV g h fun r sl1 v F1 H1 L1 g1 rq h1 => fin (fun i j => i - j) r sl1 v F1 H1 L1 (fun _ => rfl) g1 rq h1
    | mul =>
      refine ws_of (ps_aug hN hi hl we_pe ip_mul hf) ⟨_, e1, ?_⟩
      refine ha.stepV g h fun r sl1 v F1 H1 L1 g1 rq h1 => ?_
      split at h1
      · rename_i j e3
        have w : Rp X.K F1 v (.int j) := rq.view g1 e3
        cases w
        have h1 : SQ X.K p.np σ F1 H1 L1 sl1 D (match (if mulOk k j = true then some (k * j) else none) with
          | some w => nxt (putF p.np sl1 i (.int w))
          | none => .no) := h1
        by_cases c : mulOk k j = true
        · simp only [c, if_true] at h1
          refine ⟨k, j, rfl, rfl, c, ?_⟩
          cases ep : putF p.np sl1 i (.int (k * j)) with
          | none => rw [ep] at h1; exact h1.elim
          | some sl3 =>
            rw [ep] at h1
            obtain ⟨rfl, n, _⟩ := put_eq (show put p.np sl1 i (.fz (.int (k * j))) = some sl3 from ep)
            exact h1 _ _ _ _ (aft_fz g1 (.int _) n) g1.tmp
        · simp only [if_neg c] at h1; exact h1.elim
      · exact h1.elim
    | _ => exact ws_of (ps_aug (ti := fun _ _ _ _ => False) hN hi hl we_pe (fun _ _ _ _ _ _ _ _ _ _ _ _ z => z.elim) hf) ⟨_, e1, no fun _ => rfl⟩
  · exact h.elim
theorem ss_ifs {s t : S} {ls lt : List Stmt} (hc : ST X p cb XF c z) (h1 : SB X p cb s ls) (h2 : SB X p cb t lt) : SS X p cb (.ifs c s t) (.If z ls lt q) := by
  intro σ sl F H L D g h
  refine ws_of (ps_if wt_pt wb_pss wb_pss) ?_
  have h : SQ X.K p.np σ F H L sl D ((testOf (ev p.P p.np cb c sl)).andS fun k sl1 => if k then exec p.P p.np cb s sl1 else exec p.P p.np cb t sl1) := h
  refine hc σ sl F H L _ g (h.bind.imp fun k sl1 F1 H1 L1 A h3 n => ?_)
  cases k with
  | true => exact h1 σ sl1 F1 H1 L1 D ⟨A.ok, A.rel, n⟩ h3
  | false => exact h2 σ sl1 F1 H1 L1 D ⟨A.ok, A.rel, n⟩ h3
end
end Md

/-! Md, part R: methods of lists, loops. -/
namespace Md
open PySem PySem.Spec
open PyProof.Rows L2
variable [Wd]
section
variable {X : Cx} {p : Cp} {cb : Nat → List T → FRes} {np : Nat → Bool} {σ : L2.St} {F F1 H H1 : Hp} {L L1 : Lbl} {sl sl1 : Sl} {D : Ends} {a b c : E} {x y z : Expr} {q : Pos}
theorem own_at (g : G X.K F H L σ sl) {i : Nat} {ds : List Da} (e : sl[i]? = some (some (.lst ds))) : ∃ a us, σ[i]? = some (some (.ref a)) ∧ H a = some (.lst us) ∧ L a = i + 2 ∧ RpA X.K F us ds := by
  obtain ⟨v, e1, e2⟩ := g.rel.at_ i _ e
  cases e2 with
  | lst x y z => exact ⟨_, _, e1, x, y, z⟩
  | big A b _ _ => cases b
theorem few_one (e : Expr) (env : Env) (cpos : Pos) (h : Hd e) : ((PySem.backTo cpos (starEach [e] env)).all (fun x => !x.1) && (backToKw cpos (keywordEach [] env)).all (fun x => x.1.isSome)
      && decide ([e].length + ([] : List Keyword).length + (if ([] : List Keyword).isEmpty then 0 else 1) < 30)) = true := by
  rw [h.star [] env]; rfl
/-- a method of slot i's own list -/
theorem bm_core {i : Nat} {n : Str} {m id : String} {px apos cpos : Pos} {r : V → List V → Hp → VK → Prop} (C : Cd X p) (h1 : p.N[i]? = some n) (h2 : visB p.sc n = true) (h3 : dbg n = false) (hl : (apos.endLine == cpos.line) = true) (hd : Hd x)
    (pa : PySem.PlainAttrs "list") (slot : PySem.Slot "list" m id) (hty : typeOf (.builtin id) = pure (.type "method_descriptor")) (hm : MtR X id r)
    (hs : ∃ ds, sl[i]? = some (some (.lst ds))) (g : G X.K F H L σ sl) (hw : ∀ a us, σ[i]? = some (some (.ref a)) → H a = some (.lst us) → WE X x σ H fun u H1 => r (.ref a) [u] H1 fun _ H2 => D.nx σ H2) :
    WS X (.Expr (.Call (.Attribute (.Name n px) m apos) [x] [] cpos) q) D σ H := by
  obtain ⟨d1, d2, d3⟩ := dbg_of h3
  obtain ⟨ds, hs⟩ := hs
  obtain ⟨a, us, e1, e2, _⟩ := own_at g hs
  have pv : PE X (.Name n px) (tVar i) := pe_var (by rw [C.N]; exact h1) (by rw [C.sc]; exact vis_of h2) d1 d2
  refine ws_of (ps_expr (pe_bm pa slot hty hm pv (pa_cons we_pe pa_nil (hd.star _ _)) rfl (few_one x X.env cpos hd) hl (hd.star [] X.env) rfl) rfl) ?_
  exact ⟨_, e1, .inl ⟨rfl, _, .inl (.inl e2)⟩, hw a us e1 e2⟩
theorem ss_app {i : Nat} {n : Str} {px apos cpos : Pos} (C : Cd X p) (h1 : p.N[i]? = some n) (h2 : visB p.sc n = true) (h3 : dbg n = false) (hl : (apos.endLine == cpos.line) = true) (hd : Hd x) (ha : SE X p cb XF a x) :
    SS X p cb (.app i a) (.Expr (.Call (.Attribute (.Name n px) "append" apos) [x] [] cpos) q) := by
  intro σ sl F H L D g h
  have h : SQ X.K p.np σ F H L sl D (match sl[i]? with
    | some (some (.lst _)) => (ev p.P p.np cb a sl).andS fun r sl1 => match r.take sl1 with
      | some (w, sl2) => match sl2[i]? with
        | some (some (.lst ds)) => if decide (ds.length < sizeLine) then .nx (sl2.set i (some (.lst (ds ++ [w])))) else .no
        | _ => .no
      | none => .no
    | _ => .no) := h
  split at h
  · rename_i ds0 e0
    refine bm_core C h1 h2 h3 hl hd PySem.F.plainAttrs_list PySem.F.slot_list_append PySem.F.type_list_append mt_append ⟨_, e0⟩ g fun a0 us0 e1 e2 => ?_
    refine ha.stepK g h (fun r sl1 e => by simp only [e]) fun r sl1 w sl2 v F1 H1 L1 e g1 rv h1 => ?_
    simp only [e] at h1
    split at h1
    · rename_i ds e3
      obtain ⟨a1, us, z1, z2, z3, z4⟩ := own_at g1 e3
      have z : some (some (V.ref a0)) = some (some (V.ref a1)) := e1.symm.trans z1
      cases z
      by_cases cc : decide (ds.length < sizeLine) = true
      · rw [if_pos cc] at h1
        refine ⟨a0, us, v, rfl, rfl, z2, by rw [z4.length]; exact of_decide_eq_true cc, ?_⟩
        exact h1 _ _ _ _ (aft_wr g1 e3 z1 z2 z3 (z4.append (.cons rv .nil))) g1.tmp
      · rw [if_neg cc] at h1; exact h1.elim
    · exact h1.elim
  · exact h.elim
theorem ss_ext {i : Nat} {n : Str} {px apos cpos : Pos} (C : Cd X p) (h1 : p.N[i]? = some n) (h2 : visB p.sc n = true) (h3 : dbg n = false) (hl : (apos.endLine == cpos.line) = true) (hd : Hd x) (ha : SE X p cb XF a x) :
    SS X p cb (.ext i a) (.Expr (.Call (.Attribute (.Name n px) "extend" apos) [x] [] cpos) q) := by
  intro σ sl F H L D g h
  have h : SQ X.K p.np σ F H L sl D (match sl[i]? with
    | some (some (.lst _)) => (ev p.P p.np cb a sl).andS fun r sl1 => match r.settle.view sl1 with
      | some (.list ws) => match sl1[i]? with
        | some (some (.lst ds)) => if szOk (ds.length + ws.length) then .nx (sl1.set i (some (.lst (ds ++ ws)))) else .no
        | _ => .no
      | _ => .no
    | _ => .no) := h
  split at h
  · rename_i ds0 e0
    refine bm_core C h1 h2 h3 hl hd PySem.F.plainAttrs_list PySem.F.slot_list_extend PySem.F.type_list_extend mt_extend ⟨_, e0⟩ g fun a0 us0 e1 e2 => ?_
    refine ha.stepV g h fun r sl1 v F1 H1 L1 g1 rq h1 => ?_
    split at h1
    · rename_i ws ew
      split at h1
      · rename_i ds e3
        obtain ⟨a1, us, z1, z2, z3, z4⟩ := own_at g1 e3
        have z : some (some (V.ref a0)) = some (some (V.ref a1)) := e1.symm.trans z1
        cases z
        obtain ⟨b, vs, rfl, y1, y2⟩ := rq.view g1 ew
        by_cases cc : szOk (ds.length + ws.length) = true
        · rw [if_pos cc] at h1
          refine ⟨a0, b, us, vs, rfl, rfl, z2, y1, by rw [z4.length, y2.length]; exact szOk_le cc, ?_⟩
          exact h1 _ _ _ _ (aft_wr g1 e3 z1 z2 z3 (z4.append y2)) g1.tmp
        · rw [if_neg cc] at h1; exact h1.elim
      · exact h1.elim
    · exact h1.elim
  · exact h.elim
theorem ss_whl {m : Nat} {body : S} {sts : List Stmt} (hp : PassesOwn (model X.prog X.w) X.A X.env X.xe) (hc : ST X p cb XF c z) (hb : SB X p cb body sts) : SS X p cb (.whl m c body) (.While z sts [] q) := by
  intro σ sl F H L D g h
  refine ws_of (ps_while hp wt_pt wb_pss) ?_
  have h : SQ X.K p.np σ F H L sl D (whileGo (fun s => testOf (ev p.P p.np cb c s)) (exec p.P p.np cb body) m sl) := h
  refine ⟨fun k σ' H' => ∃ F' L' sl', G X.K F' H' L' σ' sl' ∧ AftS X.K p.np σ F H L sl σ' sl' F' H' L' ∧ SQ X.K p.np σ F H L sl D (whileGo (fun s => testOf (ev p.P p.np cb c s)) (exec p.P p.np cb body) k sl'), ⟨m, F, L, sl, g, g.aftS, h⟩, ?_⟩
  rintro k σ1 H1 ⟨F1, L1, sl1, g1, A1, h1⟩
  cases k with
  | zero => exact h1.elim
  | succ k =>
    have h1 : SQ X.K p.np σ F H L sl D ((testOf (ev p.P p.np cb c sl1)).andS fun kb sl2 => if kb then (match exec p.P p.np cb body sl2 with
      | .nx sl3 => whileGo (fun s => testOf (ev p.P p.np cb c s)) (exec p.P p.np cb body) k sl3
      | .ct sl3 => whileGo (fun s => testOf (ev p.P p.np cb c s)) (exec p.P p.np cb body) k sl3
      | .bk sl3 => .nx sl3
      | o => o) else .nx sl2) := h1
    have h2 := SQ.bind (SQ.from A1 h1)
    refine hc σ1 sl1 F1 H1 L1 _ g1 (?_ : RsQ X.K σ1 XF F1 H1 L1 sl1 _ (testOf (ev p.P p.np cb c sl1)))
    -- what stands ahead of the test is kept beside
    cases et : testOf (ev p.P p.np cb c sl1) with
    | no => rw [et] at h2; exact h2.elim
    | ex cc w s => rw [et] at h2; exact h2
    | ok kb sl2 =>
      rw [et] at h1
      intro F2 H2 L2 A2 n2
      have A12 := A1.trans A2.s
      have g2 : G X.K F2 H2 L2 σ1 sl2 := ⟨A2.ok, A2.rel, n2⟩
      cases kb with
      | false =>
        rw [if_neg Bool.false_ne_true]
        exact SQ.from A12 h1 _ _ _ _ g2.aftS n2
      | true =>
        rw [if_pos rfl]
        refine ⟨fun σ' H' => ∃ F' L' sl', G X.K F' H' L' σ' sl' ∧ AftS X.K p.np σ F H L sl σ' sl' F' H' L' ∧ SQ X.K p.np σ F H L sl D (whileGo (fun s => testOf (ev p.P p.np cb c s)) (exec p.P p.np cb body) k sl'), fun σ' H' w => ⟨k, Nat.lt_succ_self k, w⟩, ?_⟩
        refine hb σ1 sl2 F2 H2 L2 _ g2 ?_
        have h3 : SQ X.K p.np σ F H L sl D (match exec p.P p.np cb body sl2 with
          | .nx sl3 => whileGo (fun s => testOf (ev p.P p.np cb c s)) (exec p.P p.np cb body) k sl3
          | .ct sl3 => whileGo (fun s => testOf (ev p.P p.np cb c s)) (exec p.P p.np cb body) k sl3
          | .bk sl3 => .nx sl3
          | o => o) := h1
        cases eb : exec p.P p.np cb body sl2 with
        | nx sl3 =>
          rw [eb] at h3
          exact fun σ' F' H' L' A n => ⟨F', L', sl3, ⟨A.ok, A.rel, n⟩, A12.trans A, h3⟩
        | ct sl3 =>
          rw [eb] at h3
          exact fun σ' F' H' L' A n => ⟨F', L', sl3, ⟨A.ok, A.rel, n⟩, A12.trans A, h3⟩
        | bk sl3 =>
          rw [eb] at h3
          exact fun σ' F' H' L' A n => h3 σ' F' H' L' (A12.trans A) n
        | rt t sl3 =>
          rw [eb] at h3
          exact fun v σ' F' H' L' A => h3 v σ' F' H' L' (A12.trans A)
        | ex c w sl3 =>
          rw [eb] at h3
          exact fun σ' F' H' L' A n => h3 σ' F' H' L' (A12.trans A) n
        | no => rw [eb] at h3; exact h3.elim
end
end Md

/-! Md, part S: for; lists stored; every statement. -/
namespace Md
open PySem PySem.Spec
open PyProof.Rows L2
variable [Wd]
section
variable {K : PySem.W.Frag} {np : Nat → Bool} {σ σ0 : L2.St} {F H F0 H0 : Hp} {L L0 : Lbl} {sl sl0 sl' : Sl}
theorem unlock_lk : ∀ {is : List Nat} {sl sl' : Sl}, unlock sl is = some sl' → ∀ i ∈ is, ∃ ds, sl[i]? = some (some (.lk ds))
  | [], _, _, _, i, h => by cases h
  | j :: is, sl, sl', h, i, hi => by
    unfold unlock at h
    split at h
    · rename_i ds e
      rcases List.mem_cons.mp hi with rfl | hi
      · exact ⟨ds, e⟩
      · obtain ⟨ds', e'⟩ := unlock_lk h i hi
        by_cases q : j = i
        · subst q; exact ⟨ds, e⟩
        · rw [List.getElem?_set_ne q] at e'
          exact ⟨ds', e'⟩
    · cases h
/-- the locks opened, whatever is new meanwhile -/
theorem unlock_ok2 : ∀ (is : List Nat) {sl sl' : Sl} {L : Lbl}, Ok F H L → Rel K F H L σ sl → Stp F0 H0 L0 F H L → (∀ i ∈ is, ∃ a, σ[i]? = some (some (.ref a)) ∧ L0 a = i + 2) → (∀ (j : Nat) ds, sl[j]? = some (some (.lk ds)) → j ∈ is ∨ ∃ b, σ[j]? = some (some (.ref b)) ∧ L0 b = 0) → unlock sl is = some sl' →
    ∃ L', Ok F H L' ∧ Rel K F H L' σ sl' ∧ Stp F0 H0 L0 F H L' ∧ (∀ (j : Nat) ds, sl'[j]? = some (some (.lk ds)) → sl[j]? = some (some (.lk ds)) ∧ j ∉ is) ∧ ∀ a, L' a = L a ∨ (2 ≤ L' a ∧ L a = 0)
  | [], sl, sl', L, o, r, st, _, _, h => by
    cases (Option.some.inj h)
    exact ⟨L, o, r, st, fun j ds e => ⟨e, by simp⟩, fun a => .inl rfl⟩
  | i :: is, sl, sl', L, o, r, st, k, kb, h => by
    unfold unlock at h
    split at h
    · rename_i ds hs
      have hi : i < sl.length := (List.getElem?_eq_some_iff.mp hs).1
      obtain ⟨v, h1, h2⟩ := r.at_ i _ hs
      obtain ⟨a, h3, h4⟩ := k i List.mem_cons_self
      rw [h1] at h3; cases h3
      cases h2 with
      | big A b _ _ => cases b
      | lk ea la fa ra =>
        have st' : Stp F0 H0 L0 F H (fun b => if b = a then i + 2 else L b) := ⟨st.fro, st.out, fun b hb => by
          by_cases w : b = a
          · exact .inl (by rw [w, h4]; omega)
          · rw [if_neg w] at hb; exact st.own b hb, st.new⟩
        have o' : Ok F H (fun b => if b = a then i + 2 else L b) := by
          refine ⟨o.sub, fun b hb => ?_, fun b hb => ?_⟩
          · by_cases w : b = a
            · rw [w]; exact fa
            · rw [if_neg w] at hb; exact o.dis b hb
          · by_cases w : b = a
            · rw [w, ea]; simp
            · rw [if_neg w] at hb; exact o.dom b hb
        have r' : Rel K F H (fun b => if b = a then i + 2 else L b) σ (sl.set i (some (.lst ds))) := by
          refine ⟨by rw [List.length_set]; exact r.len, fun j t ht => ?_⟩
          by_cases w : i = j
          · subst w
            rw [List.getElem?_set_self hi] at ht
            cases ht
            exact ⟨_, h1, .lst ea (if_pos rfl) ra⟩
          · rw [List.getElem?_set_ne w] at ht
            obtain ⟨u, h5, h6⟩ := r.at_ j t ht
            refine ⟨u, h5, ?_⟩
            cases h6 with
            | fz r => exact .fz r
            | ro q r => exact .ro q r
            | lkd q r => exact .lkd q r
            | dct e l r =>
              refine .dct e ?_ r
              rw [if_neg]
              · exact l
              · intro z; rw [z, la] at l; omega
            | big A b c d => exact .big A b (fun x hx => ⟨by rw [if_neg (fun z => by rw [z] at hx; have := (c a hx).1; rw [la] at this; omega)]; exact (c x hx).1, (c x hx).2⟩) d
            | lst e l r =>
              refine .lst e ?_ r
              rw [if_neg]
              · exact l
              · intro z; rw [z, la] at l; omega
            | lk e l f r =>
              rename_i b us ds'
              by_cases z : b = a
              · subst z
                exfalso
                rcases kb j _ ht with y | ⟨b', y1, y2⟩
                · rcases List.mem_cons.mp y with y | y
                  · exact w y.symm
                  · obtain ⟨a', y1, y2⟩ := k j (List.mem_cons_of_mem _ y)
                    rw [h5] at y1; cases y1
                    omega
                · rw [h5] at y1; cases y1
                  omega
              · exact .lk e (by rw [if_neg z]; exact l) f r
        obtain ⟨L2', o2, r2, s2, h5, h6⟩ := unlock_ok2 is o' r' st' (fun j hj => k j (List.mem_cons_of_mem _ hj)) (fun j ds' hj => by
          by_cases w : i = j
          · subst w
            rw [List.getElem?_set_self hi] at hj; cases hj
          · rw [List.getElem?_set_ne w] at hj
            rcases kb j ds' hj with y | y
            · rcases List.mem_cons.mp y with y | y
              · exact absurd y.symm w
              · exact .inl y
            · exact .inr y) h
        refine ⟨L2', o2, r2, s2, fun j ds' e => ?_, fun b => ?_⟩
        · obtain ⟨e1, e2⟩ := h5 j ds' e
          by_cases w : i = j
          · subst w
            rw [List.getElem?_set_self hi] at e1; cases e1
          · rw [List.getElem?_set_ne w] at e1
            exact ⟨e1, by simp only [List.mem_cons, not_or]; exact ⟨fun z => w z.symm, e2⟩⟩
        · by_cases w : b = a
          · subst w
            rcases h6 b with z | ⟨z1, z2⟩
            · rw [if_pos rfl] at z
              exact .inr ⟨by omega, la⟩
            · exact .inr ⟨z1, la⟩
          · rcases h6 b with z | ⟨z1, z2⟩
            · rw [if_neg w] at z; exact .inl z
            · rw [if_neg w] at z2; exact .inr ⟨z1, z2⟩
    · cases h
end
section
variable {X : Cx} {p : Cp} {cb : Nat → List T → FRes} {np : Nat → Bool} {σ : L2.St} {F F1 H H1 : Hp} {L L1 : Lbl} {sl sl1 : Sl} {D : Ends} {a b c : E} {x y z : Expr} {q : Pos}
theorem ss_for {tg : Tg} {k : IK} {te ie : Expr} {body : S} {sts : List Stmt} (C : Cd X p) (hp : PassesOwn (model X.prog X.w) X.A X.env X.xe) (hfd : ∀ x, foldedSetIterable ie X.env x = pure x) (hi : SI X p cb XF k a b c te ie) (ht : ckTg p tg te = true) (hb : SB X p cb body sts) :
    SS X p cb (.for tg k a b c body) (.For te ie sts [] q) := by
  intro σ sl0 F0 H0 L0 D g0 h0
  refine ws_of (ps_for hp C.calm wi_pi wg_pg wb_pss hfd) ?_
  show WI X te ie σ H0 _
  have h0' : SQ X.K p.np σ F0 H0 L0 sl0 D ((itr k (ev p.P p.np cb a) (ev p.P p.np cb b) (ev p.P p.np cb c) sl0).andS fun w sl3 => match lockR sl3 w.2.1 with
    | some sl4 => match lockR sl4 w.2.2 with
      | some sl5 => SRes.mapO (fun s => unlock s (lockOf sl4 w.2.2 ++ lockOf sl3 w.2.1)) (forGo p.np tg (exec p.P p.np cb body) w.1 sl5)
      | none => .no
    | none => .no) := h0
  refine hi σ sl0 F0 H0 L0 _ g0 (h0'.bind.imp fun w sl3 F3 H3 L3 A3 h3 n3 va vb x y qa qb ea eb J io => ?_)
  have g3 : G X.K F3 H3 L3 σ sl3 := ⟨A3.ok, A3.rel, n3⟩
  cases l1 : lockR sl3 w.2.1 with
  | none => simp only [l1] at h3; exact h3.elim
  | some sl4 =>
  obtain ⟨L4, g4, st4, src4, back4, own4, lab4, dom4, none4, fz4, eq4⟩ := lock1 g3 qa ea l1
  cases l2 : lockR sl4 w.2.2 with
  | none => simp only [l1, l2] at h3; exact h3.elim
  | some sl5 =>
  have eb4 : w.2.2.viewR sl4 = some y := view_lock l1 eb
  obtain ⟨L5, g5, st5, src5, back5, own5, lab5, dom5, none5, fz5, eq5⟩ := lock1 g4 qb eb4 l2
  simp only [l1, l2] at h3
  have stl : Stp F3 H3 L3 F3 H3 L5 := st4.trans st5
  let lks := lockOf sl4 w.2.2 ++ lockOf sl3 w.2.1
  have h3 : SQ X.K p.np σ F3 H3 L3 sl3 D (SRes.mapO (fun s => unlock s lks) (forGo p.np tg (exec p.P p.np cb body) w.1 sl5)) := h3
  have own : ∀ j ∈ lks, ∃ a, σ[j]? = some (some (.ref a)) ∧ L3 a = j + 2 := fun j hj => by
    rcases List.mem_append.mp hj with z | z
    · obtain ⟨a, h1, h2⟩ := own5 j z
      exact ⟨a, h1, by rw [← lab4 a (by rw [h2]; omega)]; exact h2⟩
    · exact own4 j z
  -- the locks opened behind
  have open_ : ∀ {σ' : L2.St} {F H : Hp} {L : Lbl} {s s' : Sl}, AftS X.K p.np σ F3 H3 L5 sl5 σ' s F H L → unlock s lks = some s' → ∃ L', AftS X.K p.np σ F3 H3 L3 sl3 σ' s' F H L' ∧ ∀ a, L' a = L a ∨ (2 ≤ L' a ∧ L a = 0) := fun {σ' F H L s s'} A eu => by
    have ownσ : ∀ j ∈ lks, ∃ a, σ'[j]? = some (some (.ref a)) ∧ L3 a = j + 2 := fun j hj => by
      obtain ⟨a, h1, h2⟩ := own j hj
      obtain ⟨ds, e⟩ := unlock_lk eu j hj
      exact ⟨a, by rw [(A.lk j ds e).2]; exact h1, h2⟩
    obtain ⟨L', o, r, st', lk', lab⟩ := unlock_ok2 lks A.ok A.rel (stl.trans A.st) ownσ (fun j ds e => by
      obtain ⟨e1, e2⟩ := A.lk j ds e
      rcases back5 j ds e1 with z | z
      · rcases back4 j ds z with y' | y'
        · obtain ⟨v', h1, h2⟩ := g3.rel.at_ j _ y'
          cases h2 with
          | big A b _ _ => cases b
          | lk _ lz _ _ => exact .inr ⟨_, by rw [e2]; exact h1, lz⟩
        · exact .inl (List.mem_append_right _ y')
      · exact .inl (List.mem_append_left _ z)) eu
    refine ⟨L', ⟨o, r, st', fun j ds e => ?_, A.kp⟩, lab⟩
    obtain ⟨e1, e2⟩ := lk' j ds e
    obtain ⟨e3, e4⟩ := A.lk j ds e1
    refine ⟨?_, e4⟩
    rcases back5 j ds e3 with z | z
    · rcases back4 j ds z with y' | y'
      · exact y'
      · exact absurd (List.mem_append_right _ y') e2
    · exact absurd (List.mem_append_left _ z) e2
  have tmp_ : ∀ {L L' : Lbl}, (∀ a, L' a = L a ∨ (2 ≤ L' a ∧ L a = 0)) → (∀ a, L a ≠ 1) → ∀ a, L' a ≠ 1 := fun lab n a z => by
    rcases lab a with y | ⟨y1, y2⟩
    · exact n a (by rw [← y]; exact z)
    · omega
  -- what is wanted at the end
  let Fin : SRes → Prop := fun r => SQ X.K p.np σ F3 H3 L3 sl3 D (SRes.mapO (fun s => unlock s lks) r)
  have fin_nx : ∀ {s : Sl}, Fin (.nx s) → ∀ σ' F' H' L', AftS X.K p.np σ F3 H3 L5 sl5 σ' s F' H' L' → (∀ a, L' a ≠ 1) → D.nx σ' H' := fun {s} f σ' F' H' L' A n => by
    have f : SQ X.K p.np σ F3 H3 L3 sl3 D (match unlock s lks with
      | some s => .nx s
      | none => .no) := f
    cases eu : unlock s lks with
    | none => rw [eu] at f; exact f.elim
    | some s' =>
      rw [eu] at f
      obtain ⟨L6, A6, lab⟩ := open_ A eu
      exact f σ' F' H' L6 A6 (tmp_ lab n)
  refine ⟨fun i m σ' H' => m = w.1.length - i ∧ i ≤ w.1.length ∧ ∃ F' L' sl', G X.K F' H' L' σ' sl' ∧ AftS X.K p.np σ F3 H3 L5 sl5 σ' sl' F' H' L' ∧ Fin (forGo p.np tg (exec p.P p.np cb body) (w.1.drop i) sl'), ⟨w.1.length, by simp, Nat.zero_le _, F3, L5, sl5, g5, g5.aftS, by rw [List.drop_zero]; exact h3⟩, ?_⟩
  rintro i m σ' H' ⟨rfl, hi', F', L', sl', g', A', fin⟩
  have vx : VwR X.K F' H' va x := src4 F' H' L' (st5.trans A'.st) g'.ok.sub
  have vy : VwR X.K F' H' vb y := src5 F' H' L' A'.st g'.ok.sub
  by_cases hlt : i < w.1.length
  · refine .inr ⟨io.go F' H' A'.st.fro i g'.ok.sub vx vy hlt, fun σ'' H'' => i + 1 ≤ w.1.length ∧ ∃ F'' L'' sl'', G X.K F'' H'' L'' σ'' sl'' ∧ AftS X.K p.np σ F3 H3 L5 sl5 σ'' sl'' F'' H'' L'' ∧ Fin (forGo p.np tg (exec p.P p.np cb body) (w.1.drop (i + 1)) sl''), fun σ'' H'' ⟨w1, w2⟩ => ⟨w.1.length - (i + 1), by omega, rfl, w1, w2⟩, fun v H'' yl => ?_⟩
    obtain ⟨F1, g1, s1, d, hd, rv⟩ := io.yld F' H' A'.st.fro L' _ sl' i v H'' g' vx vy hlt yl
    have hdrop : w.1.drop i = d :: w.1.drop (i + 1) := by
      rw [List.drop_eq_getElem_cons hlt]
      congr 1
      have := List.getElem?_eq_getElem hlt
      rw [this] at hd
      exact Option.some.inj hd
    rw [hdrop] at fin
    have fin' : Fin (match tg.put p.np d sl' with
      | none => .no
      | some sl1 => match exec p.P p.np cb body sl1 with
        | .nx sl2 => forGo p.np tg (exec p.P p.np cb body) (w.1.drop (i + 1)) sl2
        | .ct sl2 => forGo p.np tg (exec p.P p.np cb body) (w.1.drop (i + 1)) sl2
        | .bk sl2 => .nx sl2
        | o => o) := fin
    cases ep : tg.put p.np d sl' with
    | none => simp only [ep] at fin'; exact fin'.elim
    | some sl1 =>
    simp only [ep] at fin'
    have Ay : AftS X.K p.np σ' F' H' L' sl' σ' sl' F1 H'' L' := ⟨g1.ok, g1.rel, s1, .refl _ _, fun _ _ => rfl⟩
    refine tg_ok C ht g1 rv ep fun σ2 g2 lk2 ne2 => ?_
    have A2 : AftS X.K p.np σ F3 H3 L5 sl5 σ2 sl1 F1 H'' L' := (A'.trans Ay).trans ⟨g2.ok, g2.rel, .refl _ _ _, lk2, fun j hj => ne2 j fun z => by rw [tgput_np ep j z] at hj; cases hj⟩
    refine hb σ2 sl1 F1 H'' L' _ g2 ?_
    cases eb : exec p.P p.np cb body sl1 with
    | nx sl2 =>
      simp only [eb] at fin'
      exact fun σ3 F4 H4 L6 A n => ⟨hlt, F4, L6, sl2, ⟨A.ok, A.rel, n⟩, A2.trans A, fin'⟩
    | ct sl2 =>
      simp only [eb] at fin'
      exact fun σ3 F4 H4 L6 A n => ⟨hlt, F4, L6, sl2, ⟨A.ok, A.rel, n⟩, A2.trans A, fin'⟩
    | bk sl2 =>
      simp only [eb] at fin'
      exact fun σ3 F4 H4 L6 A n => fin_nx fin' σ3 F4 H4 L6 (A2.trans A) n
    | rt t sl2 =>
      simp only [eb] at fin'
      intro v2 σ3 F4 H4 L6 A ow nw
      have f : SQ X.K p.np σ F3 H3 L3 sl3 D (match unlock sl2 lks with
        | some s => .rt t s
        | none => .no) := fin'
      cases eu : unlock sl2 lks with
      | none => rw [eu] at f; exact f.elim
      | some s' =>
        rw [eu] at f
        obtain ⟨L7, A7, lab⟩ := open_ (A2.trans A) eu
        refine f v2 σ3 F4 H4 L7 A7 ?_ nw
        cases ow with
        | fz r => exact .fz r
        | ro _ _ => cases nw
        | lst e l r =>
          refine .lst e ?_ r
          rcases lab _ with z | ⟨_, z⟩
          · rw [z]; exact l
          · rw [l] at z; cases z
        | dct e l r =>
          refine .dct e ?_ r
          rcases lab _ with z | ⟨_, z⟩
          · rw [z]; exact l
          · rw [l] at z; cases z
        | lk _ _ _ _ => cases nw
        | lkd _ _ => cases nw
        | big A b _ _ => cases t <;> first | (cases b; done) | (cases nw; done)
    | ex cc ww sl2 =>
      simp only [eb] at fin'
      intro σ3 F4 H4 L6 A n
      have f : SQ X.K p.np σ F3 H3 L3 sl3 D (match unlock sl2 lks with
        | some s => .ex cc ww s
        | none => .no) := fin'
      cases eu : unlock sl2 lks with
      | none => rw [eu] at f; exact f.elim
      | some s' =>
        rw [eu] at f
        obtain ⟨L7, A7, lab⟩ := open_ (A2.trans A) eu
        exact f σ3 F4 H4 L7 A7 (tmp_ lab n)
    | no => simp only [eb] at fin'; exact fin'.elim
  · have ei : i = w.1.length := by omega
    subst ei
    refine .inl ⟨io.stop F' H' A'.st.fro _ g'.ok.sub vx vy (Nat.le_refl _), ?_⟩
    rw [List.drop_length] at fin
    exact fin_nx (s := sl') fin σ' F' H' L' A' g'.tmp
/-- name = [..], stored as the last thing of the comprehension -/
theorem ss_lc {elt cond : E} {tg : Tg} {k : IK} {has : Bool} {ee te ie : Expr} {ifs : List Expr} {sc : Scope} {i : Nat} {n : Str} {px pos : Pos} (C : Cd X p) (hpn : p.N[i]? = some n) (hloc : p.sc.names.lookup n = some .local)
    (hsw : swapsWith (.ListComp ee [⟨te, ie, ifs, 0⟩] sc pos) (some (.Name n px)) q.line X.env = pure true)
    (hfd : ∀ x, foldedSetIterable ie X.env x = pure x) (hb : blkC p.N p.sc sc (tg.slots.map (own1 p)) = true) (hi : SI X p cb XF k a b c te ie)
    (ht : ckTg (p.blk sc) tg te = true) (he : ∀ s H Cc cl fp, SE (blkX X sc s H Cc cl fp) (p.blk sc) cb XF elt ee)
    (hc : (ifs = [] ∧ has = false) ∨ ∃ ce, ifs = [ce] ∧ has = true ∧ ∀ s H Cc cl fp, ST (blkX X sc s H Cc cl fp) (p.blk sc) cb XF cond ce) : SS X p cb (.as i (.lc elt tg k a b c cond has)) (.Assign [.Name n px] (.ListComp ee [⟨te, ie, ifs, 0⟩] sc pos) q) := by
  intro σ sl F H L D g h
  have hN : X.N.Nodup := by rw [C.N]; exact C.nd
  have hbk : BlkOk X.N X.env.scope sc (tg.slots.map (own1 p)) := by rw [C.N, C.sc]; exact blkOk_by hb
  obtain ⟨tt, hPTs, rd⟩ := lc_rd C hb hi ht he hc
  refine ws_of (ps_setLc C.calm hN (by rw [C.N]; exact hpn) (by rw [C.sc]; exact hloc) hsw wi_pi hbk gRd_ok hPTs eRd_ok hfd) ?_
  show tLc _ _ _ _ _ σ H fun v H1 => D.nx (σ.set i (some v)) H1
  have h : SQ X.K p.np σ F H L sl D ((ev p.P p.np cb (.lc elt tg k a b c cond has) sl).andS fun r sl1 => asOf p.np i r sl1) := h
  exact rd σ sl F H L _ g (h.bind.imp fun r sl1 F1 H1 L1 A h1 v hv => as_core A hv h1)
theorem setR_ok (hu : X.A.units + 1 < cLine) : PSet X (fun o i v H Q => (∃ a us j m, o = .ref a ∧ i = .int j ∧ H a = some (.lst us) ∧ ixN us.length j = some m ∧ Q (upd H a (.lst (us.set m v)))) ∨ ∃ a ks k, o = .ref a ∧ i = kV k ∧ H a = some (.dK ks) ∧ ks.length < sizeLine ∧ Q (upd H a (.dK (putK ks k v)))) := by
  intro pins s σ H ov iv v o i u Q I ro ri rv h
  rcases h with ⟨a, us, j, m, h1, h2, h3, h4, h5⟩ | ⟨a, ks, k, h1, h2, h3, h4, h5⟩
  · exact set_list pins s σ H ov iv v o i u Q I ro ri rv ⟨a, us, j, m, h1, h2, h3, h4, h5⟩
  · exact set_dict hu pins s σ H ov iv v o i u Q I ro ri rv ⟨a, _, h1, by rw [h2]; exact DPut.k h3 h4, h5⟩
theorem ss_setL {i : Nat} {n : Str} {px pk : Pos} (C : Cd X p) (h1 : p.N[i]? = some n) (h2 : visB p.sc n = true) (h3 : dbg n = false) (hs : swapsWith x (some (.Subscript (.Name n px) y pk)) q.line X.env = pure false)
    (hsub : ∀ v, assign (.Subscript (.Name n px) y pk) X.env v = (do
      let ov ← holding [v] (eval (.Name n px) X.env)
      let iv ← holding [v, ov] (eval y X.env)
      standAt pk
      holding [v, ov, iv] (setItem ov iv v)
      release [v, ov, iv] [])) (ha : SE X p cb XF a x) (hk : SE X p cb XF b y) : SS X p cb (.setL i b a) (.Assign [.Subscript (.Name n px) y pk] x q) := by
  intro σ sl F H L D g h
  obtain ⟨d1, d2, d3⟩ := dbg_of h3
  have pv : PE X (.Name n px) (tVar i) := pe_var (by rw [C.N]; exact h1) (by rw [C.sc]; exact vis_of h2) d1 d2
  refine ws_of (ps_asg we_pe (pg_sub pv we_pe (setR_ok (by have := C.units; omega)) hsub) hs rfl) ?_
  have h : SQ X.K p.np σ F H L sl D ((ev p.P p.np cb a sl).andS fun r sl1 => match r.take sl1 with
    | some (w, sl2) => match sl2[i]? with
      | some (some (.lst _)) => (ev p.P p.np cb b sl2).andS fun rk sl3 => match rk.settle.view sl3, sl3[i]? with
        | some (.int j), some (some (.lst ds)) => match L2.ixN ds.length j with
          | some n => .nx (sl3.set i (some (.lst (ds.set n w))))
          | none => .no
        | _, _ => .no
      | some (some (.dct _)) => (ev p.P p.np cb b sl2).andS fun rk sl3 => match rk.settle.view sl3, sl3[i]? with
        | some kd, some (some (.dct kvs)) => if kOk kd && decide (kvs.length < sizeLine) then .nx (sl3.set i (some (.dct (putD kvs kd w)))) else .no
        | _, _ => .no
      | _ => .no
    | none => .no) := h
  show WE X x σ H _
  refine ha.stepK g h (fun r sl1 e => by simp only [e]) fun r sl1 w sl2 v F1 H1 L1 e g1 rv h1 => ?_
  simp only [e] at h1
  split at h1
  · rename_i ds0 e0
    obtain ⟨a0, us0, z1, z2, z3, z4⟩ := own_at g1 e0
    refine ⟨_, z1, ?_⟩
    show WE X y σ H1 _
    have hm : ∀ (σ : L2.St) (F H : Hp) (L : Lbl) (sl : Sl), True := fun _ _ _ _ _ => trivial
    refine hk.stepS g1 h1 fun rk sl3 u F2 H2 L2' A hv h4 => ?_
    obtain ⟨F3, L3, st3, g3, rq⟩ := settle1 A hv
    have rv3 := (rv.mono A.st.fro).mono st3.fro
    have h4 := h4.from (Aft.s ⟨g3.ok, g3.rel, st3, .refl _⟩)
    split at h4
    · rename_i j ds ej es
      have wi : Rp X.K F3 u (.int j) := rq.view g3 ej
      cases wi
      obtain ⟨a1, us, y1, y2, y3, y4⟩ := own_at g3 es
      have z : some (some (V.ref a0)) = some (some (V.ref a1)) := z1.symm.trans y1
      cases z
      split at h4
      · rename_i m em
        refine .inl ⟨a0, us, j, m, rfl, rfl, y2, by rw [y4.length]; exact em, ?_⟩
        exact h4 _ _ _ _ (aft_wr g3 es y1 y2 y3 (y4.set rv3 m)) g3.tmp
      · exact h4.elim
    · exact h4.elim
  · rename_i kv0 e0
    obtain ⟨a0, ks0, z1, z2, z3, z4⟩ := dct_at g1 e0
    refine ⟨_, z1, ?_⟩
    show WE X y σ H1 _
    refine hk.stepS g1 h1 fun rk sl3 u F2 H2 L2' A hv h4 => ?_
    obtain ⟨F3, L3, st3, g3, rq⟩ := settle1 A hv
    have rv3 := (rv.mono A.st.fro).mono st3.fro
    have h4 := h4.from (Aft.s ⟨g3.ok, g3.rel, st3, .refl _⟩)
    split at h4
    · rename_i kd kvs ek es
      by_cases c : (kOk kd && decide (kvs.length < sizeLine)) = true
      · rw [if_pos c] at h4
        rw [Bool.and_eq_true] at c
        have vk := rq.view g3 ek
        obtain ⟨k, rfl, rfl, ok⟩ := kOk_of (K := X.K) (F := F3) (d := kd) (by
          have : ∀ b, kd ≠ .dict b := fun b e => by rw [e] at c; cases c.1
          cases kd <;> first | exact vk | exact absurd rfl (this _) | (cases c.1; done)) c.1
        obtain ⟨a1, ks, y1, y2, y3, y4⟩ := dct_at g3 es
        have z : some (some (V.ref a0)) = some (some (V.ref a1)) := z1.symm.trans y1
        cases z
        refine .inr ⟨a0, ks, k, rfl, rfl, y2, by rw [y4.length]; exact of_decide_eq_true c.2, ?_⟩
        exact h4 _ _ _ _ (aft_wrE (o := .dK (putK ks k v)) (t' := .dct (putD kvs (keyD k) w)) g3 es y1 y2 y3 (.dct upd_same y3 (y4.put ok rv3)) rfl).s g3.tmp
      · rw [if_neg c] at h4; exact h4.elim
    · exact h4.elim
  · exact h1.elim
theorem aft_big {i : Nat} {v : V} {t : T} {A : List Addr} (A1 : Aft X.K σ F H L sl sl1 F1 H1 L1) (b : t.isBig = true) (hA : ∀ a ∈ A, L1 a = 1 ∧ H1 a ≠ none) (hb : Big X.K F1 H1 A v t) (n : np i = false) :
    ∃ L2, AftS X.K np σ F1 H1 L1 sl1 (σ.set i (some v)) (sl1.set i (some t)) F1 H1 L2 ∧ ∀ a, L2 a ≠ 1 := by
  have st : Stp F1 H1 L1 F1 H1 (fun a => if L1 a = 1 then i + 2 else L1 a) := ⟨Same.refl _, fun _ _ h _ => h, fun a h => by
    by_cases z : L1 a = 1
    · exact .inl (by omega)
    · rw [if_neg z] at h; exact .inl h, fun a h => .inl h⟩
  refine ⟨fun a => if L1 a = 1 then i + 2 else L1 a, ⟨⟨A1.ok.sub, fun a h => ?_, fun a h => ?_⟩, ?_, st, ?_, fun j h => List.getElem?_set_ne fun z => by rw [z, h] at n; cases n⟩, fun a h => ?_⟩
  · by_cases z : L1 a = 1
    · exact A1.ok.dis a (by omega)
    · rw [if_neg z] at h; exact A1.ok.dis a h
  · by_cases z : L1 a = 1
    · exact A1.ok.dom a (by omega)
    · rw [if_neg z] at h; exact A1.ok.dom a h
  · have r2 : Rel X.K F1 H1 (fun a => if L1 a = 1 then i + 2 else L1 a) σ sl1 := A1.rel.mono st fun a o e q => ⟨e, if_neg (by omega)⟩
    exact r2.store (.big A b (fun a ha => ⟨if_pos (hA a ha).1, (hA a ha).2⟩) hb)
  · exact Lks.put sl1 σ i _ fun ds z => by cases z; cases b
  · by_cases z : L1 a = 1
    · simp only [z, if_true] at h; omega
    · simp only [z, if_false] at h
theorem dt_empty {P : Program} {w w' : World} {H : Hp} (h : Heap) (hb : sysModules < h.objs.size) : ObjOk P w H (h.push { cls := .type "dict", data := .dict #[] }) h.objs.size (DtO w' h.objs.size []) :=
  dtO_ok ⟨Nat.zero_le _, beq_eq_false_iff_ne.mpr (Nat.ne_of_gt hb), [], .nil, _, #[], 0, Heap.get?_push_size _ rfl, ⟨rfl, rfl, rfl⟩, rfl, rfl, List.nodup_nil⟩
theorem pe_dnewTT {pos : Pos} : PE X (.Dict [] [] pos) (fun _ H Q => ∀ p, H p = none → Q (.ref p) (upd H p (DtO Wd.w p []))) := ⟨fun pins s σ H Q I h =>
  wpAny_Dict_empty ⟨.ref s.heap.objs.size, _, I.laid (a := s.heap.objs.size) (o := DtO Wd.w s.heap.objs.size []) (t' := s.toks) (fun _ _ q => Heap.get?_push_of_some _ q) (Nat.le_refl _) (dt_empty s.heap I.big), rfl, h _ (I.hok.fresh (Nat.le_refl _))⟩⟩
/-- a new object, the expression's own -/
theorem new_own (g : G X.K F H L σ sl) {b : Addr} {o : HO} (np : H b = none) : Aft X.K σ F H L sl sl F (upd H b o) (fun a => if a = b then 1 else L a) := by
  have sH : Same H (upd H b o) := fun a u e => by rw [upd_ne (ne_of_none e np)]; exact e
  have st : Stp F H L F (upd H b o) (fun a => if a = b then 1 else L a) := ⟨Same.refl _, fun a u e _ => sH a u e, fun a h => by
    by_cases q : a = b
    · exact .inr (by rw [q]; exact np)
    · exact .inl (by rwa [if_neg q] at h), fun a h => .inl h⟩
  refine ⟨⟨fun a u e => sH a u (g.ok.sub a u e), fun a h => ?_, fun a h => ?_⟩, g.rel.mono st fun a u e _ => ⟨sH a u e, if_neg (ne_of_none e np)⟩, st, .refl _⟩
  · by_cases q : a = b
    · rw [q]; exact g.ok.fn np
    · exact g.ok.dis a (by rwa [if_neg q] at h)
  · by_cases q : a = b
    · rw [q, upd_same]; simp
    · rw [upd_ne q]; exact g.ok.dom a (by rwa [if_neg q] at h)
theorem ss_newT {i : Nat} {n : Str} {px dp : Pos} (C : Cd X p) (ht : tgB p i (.Name n px) = true) : SS X p cb (.newT i) (.Assign [.Name n px] (.Dict [] [] dp) q) := by
  intro σ sl F H L D g h
  refine ws_of (ps_asg pe_dnewTT (tg_one C ht) rfl rfl) ?_
  have h : SQ X.K p.np σ F H L sl D (nxt (put p.np sl i (.dtt []))) := h
  intro b nb
  cases ep : put p.np sl i (.dtt []) with
  | none => rw [ep] at h; exact h.elim
  | some sl3 =>
    rw [ep] at h
    obtain ⟨rfl, n, _⟩ := put_eq ep
    have A1 := new_own g (o := DtO Wd.w b []) nb
    obtain ⟨L2, A2, tm⟩ := aft_big (np := p.np) (i := i) (v := .ref b) (t := .dtt []) (A := [b]) A1 rfl (fun a ha => by
      cases List.mem_singleton.mp ha
      exact ⟨if_pos rfl, by rw [upd_same]; simp⟩) ⟨b, [], rfl, rfl, upd_same, .nil⟩ n
    exact SQ.from A1.s h _ _ _ _ A2 tm
theorem setT_ok (hu : X.A.units + 200 < cLine) (cw : X.w = Wd.w) : PSet X (fun o i v H Q => ∃ a b ks kd F, o = .ref a ∧ i = .ref b ∧ Same F H ∧ H a = some (DtO Wd.w a ks) ∧ KsOk X.K F ks ∧ tOk kd = true ∧ Rp X.K F (.ref b) kd ∧ ks.length < sizeLine ∧ Q (upd H a (DtO Wd.w a (putT ks (keyN kd) b v)))) := by
  intro pins s σ H o i v ov iv u Q I ro ri rv h
  obtain ⟨a, b, ks, kd, F, rfl, rfl, so, e, hk, t, rb, hz, q⟩ := h
  cases ro
  cases ri
  obtain ⟨z, hs, vals, rel, hd⟩ := dt_heap so cw I e hk
  have hl : ks.length = vals.length := Paired.length rel
  refine wpAny_setItem_heap (room8 hu) (key_is so I rb t) hd (fun h' hd' hsb => ?_) (by rw [← hl]; exact z)
  have he : ∃ q, h'.get? a = some q := let ⟨q, _, _, hq, _⟩ := hd'; ⟨q, hq⟩
  have hd' : h'.DictOfH (nestedKind X.prog Wd.w) a (storedH vals (keyN kd) b u) := cw ▸ hd'
  refine ⟨_, d_write (t' := _) I (by rw [e]; exact True.intro) hsb he (dtO_ok (w' := Wd.w) (dtR_heap ?_ hs (putT_rel rel rv) hd')), q⟩
  have := putT_len ks (keyN kd) b v
  omega
theorem ss_setT {i : Nat} {n : Str} {px pk : Pos} (C : Cd X p) (h1 : p.N[i]? = some n) (h2 : visB p.sc n = true) (h3 : dbg n = false) (hs : swapsWith x (some (.Subscript (.Name n px) y pk)) q.line X.env = pure false)
    (hsub : ∀ v, assign (.Subscript (.Name n px) y pk) X.env v = (do
      let ov ← holding [v] (eval (.Name n px) X.env)
      let iv ← holding [v, ov] (eval y X.env)
      standAt pk
      holding [v, ov, iv] (setItem ov iv v)
      release [v, ov, iv] [])) (ha : SE X p cb XF a x) (hk : SE X p cb XF b y) : SS X p cb (.setT i b a) (.Assign [.Subscript (.Name n px) y pk] x q) := by
  intro σ sl F H L D g h
  refine ws_of (ps_asg we_pe (pg_sub (pv_of C h1 h2 h3) we_pe (setT_ok C.units C.wd) hsub) hs rfl) ?_
  have h : SQ X.K p.np σ F H L sl D ((ev p.P p.np cb a sl).andS fun r sl1 => match r.take sl1 with
    | some (w, sl2) => match sl2[i]? with
      | some (some (.dtt _)) => (ev p.P p.np cb b sl2).andS fun rk sl3 => match rk.settle.view sl3, sl3[i]? with
        | some kd, some (some (.dtt kvs)) => if tOk kd && decide (kvs.length < sizeLine) then .nx (sl3.set i (some (.dtt (putD kvs kd w)))) else .no
        | _, _ => .no
      | _ => .no
    | none => .no) := h
  show WE X x σ H _
  refine ha.stepK g h (fun r sl1 e => by simp only [e]) fun r sl1 w sl2 v F1 H1 L1 e g1 rv h1 => ?_
  simp only [e] at h1
  split at h1
  · rename_i kv0 e0
    obtain ⟨a0, ks0, z1, z2, z3, z4⟩ := dtt_at g1 e0
    refine ⟨_, z1, ?_⟩
    show WE X y σ H1 _
    refine hk.stepS g1 h1 fun rk sl3 u F2 H2 L2' A hv h4 => ?_
    obtain ⟨F3, L3, st3, g3, rq⟩ := settle1 A hv
    have rv3 := (rv.mono A.st.fro).mono st3.fro
    have h4 := h4.from (Aft.s ⟨g3.ok, g3.rel, st3, .refl _⟩)
    split at h4
    · rename_i kd kvs ek es
      by_cases c : (tOk kd && decide (kvs.length < sizeLine)) = true
      · rw [if_pos c] at h4
        rw [Bool.and_eq_true] at c
        have vk := rq.view g3 ek
        have rk : Rp X.K F3 u kd := by cases kd <;> first | exact vk | (cases c.1; done)
        obtain ⟨a1, ks, y1, y2, y3, y4⟩ := dtt_at g3 es
        have z : some (some (V.ref a0)) = some (some (V.ref a1)) := z1.symm.trans y1
        cases z
        have rk' := rk
        cases rk with
        | tup _ _ =>
          refine ⟨a0, _, ks, _, F3, rfl, rfl, g3.ok.sub, y2, y4.ks, c.1, rk', by rw [y4.length]; exact of_decide_eq_true c.2, ?_⟩
          exact h4 _ _ _ _ (aft_wrE (t' := .dtt _) g3 es y1 y2 y3 (.big [a0] rfl (fun b hb => by
            cases List.mem_singleton.mp hb
            exact ⟨y3, by rw [upd_same]; simp⟩) ⟨a0, _, rfl, rfl, upd_same, y4.put c.1 rk' rv3⟩) rfl).s g3.tmp
        | _ => cases c.1
      · rw [if_neg c] at h4; exact h4.elim
    · exact h4.elim
  · exact h1.elim
end
end Md

/-! Md, part T: every statement; every def. -/
namespace Md
open PySem PySem.Spec
open PyProof.Rows L2
variable [Wd]
theorem app_of {e : Expr} {m : Str} {i : Nat} {N : List Str} {sc : Scope} {a : Expr} (h : appB e m i N sc = some a) : ∃ n px apos cpos, e = .Call (.Attribute (.Name n px) m apos) [a] [] cpos ∧ N[i]? = some n ∧ visB sc n = true ∧ dbg n = false ∧ (apos.endLine == cpos.line) = true := by
  unfold appB at h
  split at h
  · rename_i x q1 y apos a' cpos
    split at h
    · rename_i c
      simp only [Bool.and_eq_true, decide_eq_true_eq, Bool.not_eq_true'] at c
      cases h
      obtain ⟨⟨⟨⟨c1, c2⟩, c3⟩, rfl⟩, c5⟩ := c
      exact ⟨_, _, _, _, rfl, c1, c2, c3, c5⟩
    · cases h
  · cases h
def SD (cb : Nat → List T → FRes) (c : S) : Prop := (∀ (X : Cx) (p : Cp) (st : Stmt), Cd X p → Cl X p cb → PassesOwn (model X.prog X.w) X.A X.env X.xe → ckT p c st = true → SS X p cb c st) ∧
  ∀ (X : Cx) (p : Cp) (l : List Stmt), Cd X p → Cl X p cb → PassesOwn (model X.prog X.w) X.A X.env X.xe → ckS p c l = true → SB X p cb c l
theorem noS {cb : Nat → List T → FRes} {c : S} (h : ∀ p l, ckS p c l = false) : ∀ (X : Cx) (p : Cp) (l : List Stmt), Cd X p → Cl X p cb → PassesOwn (model X.prog X.w) X.A X.env X.xe → ckS p c l = true → SB X p cb c l := fun X p l _ _ _ k => by rw [h] at k; cases k
theorem soundS (cb : Nat → List T → FRes) (c : S) : SD cb c := by
  have E (X : Cx) (p : Cp) (C : Cd X p) (cl : Cl X p cb) (e : Md.E) (x : Expr) (h : ckE p e x = true) := (sound cb e).1 X p x C cl h
  induction c with
  | nop =>
    refine ⟨fun X p st C cl hp h => ss_nop h, fun X p l C cl hp h => ?_⟩
    simp only [ckS] at h
    split at h
    · exact sb_nil
    · cases h
  | never => exact ⟨fun X p st C cl hp h σ sl F H L D g hq => (show False from hq).elim, noS fun _ _ => by simp [ckS]⟩
  | brk =>
    refine ⟨fun X p st C cl hp h => ?_, noS fun _ _ => by simp [ckS]⟩
    simp only [ckT] at h
    split at h
    · exact ss_brk
    · cases h
  | cont =>
    refine ⟨fun X p st C cl hp h => ?_, noS fun _ _ => by simp [ckS]⟩
    simp only [ckT] at h
    split at h
    · exact ss_cont
    · cases h
  | seq a b iha ihb =>
    refine ⟨fun X p st C cl hp h => by simp [ckT] at h, fun X p l C cl hp h => ?_⟩
    simp only [ckS] at h
    split at h
    · rw [Bool.and_eq_true] at h
      exact sb_cons (iha.1 X p _ C cl hp h.1) (ihb.2 X p _ C cl hp h.2)
    · cases h
  | kil ks b ih =>
    refine ⟨fun X p st C cl hp h => by simp [ckT] at h, fun X p l C cl hp h => ?_⟩
    simp only [ckS] at h
    exact sb_kil (ih.2 X p _ C cl hp h)
  | ex e =>
    refine ⟨fun X p st C cl hp h => ?_, noS fun _ _ => by simp [ckS]⟩
    simp only [ckT] at h
    split at h
    · exact ss_ex rfl (E X p C cl _ _ h).1
    · cases h
  | as i e =>
    refine ⟨fun X p st C cl hp h => ?_, noS fun _ _ => by simp [ckS]⟩
    simp only [ckT] at h
    split at h
    · rename_i n px v q
      simp only [Bool.and_eq_true] at h
      obtain ⟨⟨h1, h2⟩, h3⟩ := h
      by_cases lc : ∃ y g s q', v = .ListComp y g s q'
      · obtain ⟨y, g, s, q', rfl⟩ := lc
        cases e with
        | lc elt tg k a b c cond has =>
          have h2' := h2
          simp only [ckE] at h2'
          split at h2'
          · rename_i y' t it ifs sc q'' heq
            cases heq
            simp only [Bool.and_eq_true] at h2'
            obtain ⟨⟨⟨⟨k1, k2⟩, k3⟩, k4⟩, k5⟩ := h2'
            simp only [swpB, Bool.and_eq_true, Bool.not_eq_true'] at h3
            obtain ⟨⟨⟨s1, s2⟩, s3⟩, s4⟩ := h3
            have hk : X.env.scope.kind = .function := by
              rw [C.sc]
              split at s1
              · assumption
              · cases s1
            refine ss_lc C (loc_of_tg h1).1 (loc_of s2) (sw_true hk (by rw [C.sc]; exact loc_of s2) s3 s4) ((hd_ckI k2).folded X.env) k1 (si_ok C (fun e he => (E X p C cl _ _ he).1) (fun e he => (E X p C cl _ _ he).1) k2) k3
              (fun s H Cc cl' fp => ((sound cb elt).1 _ _ _ (C.blk _ s H Cc cl' fp) (cl.blk _ s H Cc cl' fp) k5).1) ?_
            split at k4
            · exact .inl ⟨rfl, by simpa using k4⟩
            · rename_i z
              rw [Bool.and_eq_true] at k4
              exact .inr ⟨z, rfl, k4.1, fun s H Cc cl' fp => ((sound cb cond).1 _ _ _ (C.blk _ s H Cc cl' fp) (cl.blk _ s H Cc cl' fp) k4.2).2.1⟩
            · cases k4
          · cases h2'
        | _ => simp [ckE, noneE] at h2
      · refine ss_as C h1 ?_ ?_ (E X p C cl _ _ h2).1
        · cases v <;> first | rfl | exact absurd ⟨_, _, _, _, rfl⟩ lc | (simp [swpB] at h3)
        · rfl
    · cases h
  | ast is e =>
    refine ⟨fun X p st C cl hp h => ?_, noS fun _ _ => by simp [ckS]⟩
    simp only [ckT] at h
    split at h
    · rename_i ts k px v q
      simp only [Bool.and_eq_true] at h
      obtain ⟨⟨h1, h2⟩, h3⟩ := h
      have hd := hd_of h2
      refine ss_ast C h1 ?_ ?_ (E X p C cl _ _ h2).1
      · cases hd <;> first | rfl | cases h3
      · cases hd <;> first | rfl | cases h3
    · cases h
  | aug i o e =>
    refine ⟨fun X p st C cl hp h => ?_, noS fun _ _ => by simp [ckS]⟩
    simp only [ckT] at h
    split at h
    · simp only [Bool.and_eq_true] at h
      obtain ⟨⟨h1, h2⟩, h3⟩ := h
      cases opB_eq h2
      exact ss_aug C h1 (E X p C cl _ _ h3).1
    · cases h
  | ret e =>
    refine ⟨fun X p st C cl hp h => ?_, noS fun _ _ => by simp [ckS]⟩
    simp only [ckT] at h
    split at h
    · exact ss_ret (E X p C cl _ _ h).1
    · cases h
  | ifs c a b iha ihb =>
    refine ⟨fun X p st C cl hp h => ?_, noS fun _ _ => by simp [ckS]⟩
    simp only [ckT] at h
    split at h
    · simp only [Bool.and_eq_true] at h
      exact ss_ifs (E X p C cl _ _ h.1.1).2.1 (iha.2 X p _ C cl hp h.1.2) (ihb.2 X p _ C cl hp h.2)
    · cases h
  | «for» tg k a b c body ih =>
    refine ⟨fun X p st C cl hp h => ?_, noS fun _ _ => by simp [ckS]⟩
    simp only [ckT] at h
    split at h
    · simp only [Bool.and_eq_true] at h
      exact ss_for C hp ((hd_ckI h.1.1).folded X.env) (si_ok C (fun e he => (E X p C cl _ _ he).1) (fun e he => (E X p C cl _ _ he).1) h.1.1) h.1.2 (ih.2 X p _ C cl hp h.2)
    · cases h
  | whl m c body ih =>
    refine ⟨fun X p st C cl hp h => ?_, noS fun _ _ => by simp [ckS]⟩
    simp only [ckT] at h
    split at h
    · simp only [Bool.and_eq_true] at h
      exact ss_whl hp (E X p C cl _ _ h.1).2.1 (ih.2 X p _ C cl hp h.2)
    · cases h
  | app i e =>
    refine ⟨fun X p st C cl hp h => ?_, noS fun _ _ => by simp [ckS]⟩
    simp only [ckT] at h
    split at h
    · split at h
      · rename_i a ea
        obtain ⟨n, px, apos, cpos, rfl, h1, h2, h3, h4⟩ := app_of ea
        exact ss_app C h1 h2 h3 h4 (hd_of h) (E X p C cl _ _ h).1
      · cases h
    · cases h
  | ext i e =>
    refine ⟨fun X p st C cl hp h => ?_, noS fun _ _ => by simp [ckS]⟩
    simp only [ckT] at h
    split at h
    · split at h
      · rename_i a ea
        obtain ⟨n, px, apos, cpos, rfl, h1, h2, h3, h4⟩ := app_of ea
        exact ss_ext C h1 h2 h3 h4 (hd_of h) (E X p C cl _ _ h).1
      · cases h
    · cases h
  | newT i =>
    refine ⟨fun X p st C cl hp h => ?_, noS fun _ _ => by simp [ckS]⟩
    simp only [ckT] at h
    split at h
    · exact ss_newT C h
    · cases h
  | setT i k e =>
    refine ⟨fun X p st C cl hp h => ?_, noS fun _ _ => by simp [ckS]⟩
    simp only [ckT] at h
    split at h
    · simp only [Bool.and_eq_true, decide_eq_true_eq, Bool.not_eq_true'] at h
      obtain ⟨⟨⟨⟨⟨h1, h2⟩, h3⟩, h4⟩, h5⟩, h6⟩ := h
      have hd := hd_of h5
      have hd4 := hd_of h4
      refine ss_setT C h1 h2 h3 ?_ (by cases hd4 <;> exact fun _ => rfl) (E X p C cl _ _ h5).1 (E X p C cl _ _ h4).1
      cases hd <;> first | rfl | cases h6
    · cases h
  | setL i k e =>
    refine ⟨fun X p st C cl hp h => ?_, noS fun _ _ => by simp [ckS]⟩
    simp only [ckT] at h
    split at h
    · simp only [Bool.and_eq_true, decide_eq_true_eq, Bool.not_eq_true'] at h
      obtain ⟨⟨⟨⟨⟨h1, h2⟩, h3⟩, h4⟩, h5⟩, h6⟩ := h
      have hd := hd_of h5
      have hd4 := hd_of h4
      refine ss_setL C h1 h2 h3 ?_ (by cases hd4 <;> exact fun _ => rfl) (E X p C cl _ _ h5).1 (E X p C cl _ _ h4).1
      cases hd <;> first | rfl | cases h6
    · cases h
end Md

/-! Md, part U: defs. -/
namespace Md
open PySem PySem.Spec
open PyProof.Rows L2
variable [Wd]
/-- a def of the text -/
structure Df where
  nm : Str
  st : Stmt
  N : List Str
  fd : Fd
def Df.ps (d : Df) : List Str := d.N.take d.fd.np
/-- the law's defs, by their numbers in the whole table -/
def lookF : List (Nat × Df) → Nat → Option Df
  | [], _ => none
  | (k, d) :: r, f => if Nat.beq k f then some d else lookF r f
theorem lookF_mem : ∀ {l : List (Nat × Df)} {f : Nat} {d : Df}, lookF l f = some d → (f, d) ∈ l
  | [], _, _, h => by cases h
  | (k, d') :: r, f, d, h => by
    rw [lookF] at h
    by_cases c : Nat.beq k f = true
    · rw [if_pos c] at h
      cases h
      have : k = f := Nat.eq_of_beq_eq_true c
      subst this
      exact List.mem_cons_self
    · rw [if_neg c] at h
      exact List.mem_cons_of_mem _ (lookF_mem h)
def fnT (defs : List (Nat × Df)) (f : Nat) : Option Str := (lookF defs f).map (·.nm)
def scB (N ps : List Str) (sc : Scope) : Bool :=
  (match sc.kind with
  | .function => true
  | _ => false) && !sc.isCoroutine && !sc.isGenerator && decide N.Nodup && decide (N.take ps.length = ps) && ps.all (fun x => locB sc x || celB sc x) && sc.names.all fun y => match y.2 with
    | .free => false
    | _ => true
theorem scB_ok {N ps : List Str} {sc : Scope} (h : scB N ps sc = true) : FnScope N ps sc := by
  unfold scB at h
  simp only [Bool.and_eq_true, Bool.not_eq_true', decide_eq_true_eq, List.all_eq_true, Bool.or_eq_true] at h
  obtain ⟨⟨⟨⟨⟨⟨h1, h2⟩, h3⟩, h4⟩, h5⟩, h6⟩, h7⟩ := h
  refine ⟨?_, h2, h3, h4, h5, fun x hx => ?_, fun y hy z => ?_⟩
  · split at h1
    · assumption
    · cases h1
  · rcases h6 x hx with z | z
    · exact .inl (loc_of z)
    · exact .inr (cel_of z)
  · have := h7 y hy
    rw [z] at this
    cases this
/-- the text is what the small language says -/
structure CkD (bl : List Str) (gs : List Str) (fn : Nat → Option Str) (P : Pg) (d : Df) : Prop where
  sc : scB d.N d.ps (defScope d.st) = true
  ns : d.fd.ns = d.N.length
  np : d.fd.np ≤ d.N.length
  tx : ∀ np, ckS ⟨d.N, defScope d.st, true, np, bl, fn, P, gs⟩ d.fd.body (defBody d.st) = true
structure FdOk (K : PySem.W.Frag) (mg : Str → Option Value) (d : Df) (ad : Addr) (fd : FuncData) : Prop where
  fn : L2.Fun K d.nm d.nm d.st ad fd
  mg : mg d.nm = some (.ref ad)
  bd : Binds K fd d.ps []
/-- the module's own facts -/
structure Mn (K : PySem.W.Frag) (mg : Str → Option Value) (bl gs : List Str) (P : Pg) : Prop where
  free : ∀ x ∈ bl, mg x = none
  con : ∀ x w, x ∈ gs → P.const x = some w → ∃ u v, mg x = some u ∧ RelV v u ∧ ∀ F, Rp K F v w
theorem backs_get : ∀ {ts : List T} {sl : Sl} {ts' : List T}, backs ts sl = some ts' → ts'.length = ts.length ∧ ∀ (j : Nat) (t' : T), ts'[j]? = some t' → ∃ t, ts[j]? = some t ∧ ((t.isOwn = true ∧ sl[j]? = some (some t')) ∨ (t.isOwn = false ∧ t' = t))
  | [], sl, ts', h => by
    cases (Option.some.inj h)
    exact ⟨rfl, fun j t' e => by simp at e⟩
  | t :: ts, [], ts', h => by cases h
  | t :: ts, o :: sl, ts', h => by
    have h : (if t.isOwn then (match (generalizing := false) o with
      | some u => (backs ts sl).map (u :: ·)
      | none => none) else (backs ts sl).map (t :: ·)) = some ts' := h
    by_cases c : t.isOwn = true
    · rw [if_pos c] at h
      cases o with
      | none => cases h
      | some u =>
        simp only [Option.map_eq_some_iff] at h
        obtain ⟨us, h1, rfl⟩ := h
        obtain ⟨h2, h3⟩ := backs_get h1
        refine ⟨by simp [h2], fun j t' e => ?_⟩
        cases j with
        | zero => simp at e; subst e; exact ⟨t, rfl, .inl ⟨c, rfl⟩⟩
        | succ j => simpa using h3 j t' (by simpa using e)
    · rw [if_neg c] at h
      simp only [Option.map_eq_some_iff] at h
      obtain ⟨us, h1, rfl⟩ := h
      obtain ⟨h2, h3⟩ := backs_get h1
      refine ⟨by simp [h2], fun j t' e => ?_⟩
      cases j with
      | zero => simp at e; subst e; exact ⟨t, rfl, .inr ⟨by simpa using c, rfl⟩⟩
      | succ j => simpa using h3 j t' (by simpa using e)
section
variable {K : PySem.W.Frag} {F H : Hp} {L : Lbl}
/-- the slots at a def's entry -/
def sl0 (d : Fd) (ts : List T) : Sl := ts.map some ++ List.replicate (d.ns - d.np) none
theorem sl0_get {d : Fd} {ts : List T} {i : Nat} {t : T} (h : (sl0 d ts)[i]? = some (some t)) : ts[i]? = some t := by
  unfold sl0 at h
  by_cases c : i < ts.length
  · rw [List.getElem?_append_left (by simpa using c), List.getElem?_map] at h
    cases e : ts[i]? with
    | none => rw [e] at h; cases h
    | some u => rw [e] at h; simpa using h
  · rw [List.getElem?_append_right (by simpa using c)] at h
    rw [List.getElem?_replicate] at h
    split at h <;> cases h
theorem start_get {N : List Str} {vs : List V} {i : Nat} {v : V} (h : vs[i]? = some v) : (L2.start N vs)[i]? = some (some v) := by
  unfold L2.start
  have c : i < vs.length := (List.getElem?_eq_some_iff.mp h).1
  rw [List.getElem?_append_left (by simpa using c), List.getElem?_map, h]; rfl
theorem start_len {N : List Str} {vs : List V} (h : vs.length ≤ N.length) : (L2.start N vs).length = N.length := by
  unfold L2.start; simp; omega
theorem entry_G {d : Df} {vs : List V} {ts : List T} (hns : d.fd.ns = d.N.length) (hnp : d.fd.np ≤ d.N.length) (ok : Ok F H L) (tm : ∀ a, L a ≠ 1) (hl : ts.length = d.fd.np) (ag : Ags K F H L vs ts) : G K F H L (L2.start d.N vs) (sl0 d.fd ts) := by
  refine ⟨ok, ⟨?_, fun i t e => ?_⟩, tm⟩
  · rw [start_len (by rw [ag.1, hl]; exact hnp)]
    unfold sl0; simp; omega
  · obtain ⟨v, h1, h2⟩ := ag.2 i t (sl0_get e)
    exact ⟨v, start_get h1, h2⟩
/-- behind the body: the arguments' things -/
theorem exit_A {N : List Str} {d : Fd} {vs : List V} {ts ts' : List T} {σ : L2.St} {sl : Sl} {F' H' : Hp} {L' : Lbl} (ag : Ags K F H L vs ts) (hl : ts.length = d.np) (A : AftS K (flg ts) (L2.start N vs) F H L (sl0 d ts) σ sl F' H' L') (e : backs ts sl = some ts') :
    Ags K F' H' L' vs ts' ∧ ∀ (j : Nat) ds, ts'[j]? = some (.lk ds) → ts[j]? = some (.lk ds) := by
  obtain ⟨h1, h2⟩ := backs_get e
  refine ⟨⟨by rw [h1]; exact ag.1, fun j t' ht => ?_⟩, fun j ds ht => ?_⟩
  · obtain ⟨t, h3, h4⟩ := h2 j t' ht
    obtain ⟨v, h5, h6⟩ := ag.2 j t h3
    refine ⟨v, h5, ?_⟩
    rcases h4 with ⟨c, h7⟩ | ⟨c, rfl⟩
    · obtain ⟨v', h8, h9⟩ := A.rel.at_ j t' h7
      rw [A.kp j (by unfold flg; rw [h3]; exact c), start_get h5] at h8
      cases h8
      exact h9
    · have hc : t'.isOwn = false := c
      cases h6 with
      | fz r => exact .fz (r.mono A.st.fro)
      | big B b _ _ => cases t' <;> first | (cases b; done) | (cases hc; done)
      | _ => cases hc
  · obtain ⟨t, h3, h4⟩ := h2 j _ ht
    rcases h4 with ⟨c, h7⟩ | ⟨c, rfl⟩
    · have := (A.lk j ds h7).1
      exact sl0_get this
    · cases c
theorem body_SQ {N : List Str} {d : Fd} {vs : List V} {ts : List T} {Q : VK} (ag : Ags K F H L vs ts) (hl : ts.length = d.np) {r : SRes} (h : FQ K F H L vs ts Q (fun _ _ _ _ _ _ => False) (finish ts r)) :
    SQ K (flg ts) (L2.start N vs) F H L (sl0 d ts) { nx := fun _ H' => Q .non H', rt := Q } r := by
  cases r with
  | nx sl =>
    intro σ F' H' L' A n
    have h : FQ K F H L vs ts Q (fun _ _ _ _ _ _ => False) (match backs ts sl with
      | some ts' => .ok (.fz .none) ts'
      | none => .no) := h
    cases e : backs ts sl with
    | none => rw [e] at h; exact h.elim
    | some ts' =>
      rw [e] at h
      obtain ⟨a1, a2⟩ := exit_A ag hl A e
      exact h .non F' H' L' A.ok A.st (.fz .non) rfl a1 a2
  | rt t sl =>
    intro v σ F' H' L' A ow nw
    have h : FQ K F H L vs ts Q (fun _ _ _ _ _ _ => False) (match backs ts sl with
      | some ts' => .ok t ts'
      | none => .no) := h
    cases e : backs ts sl with
    | none => rw [e] at h; exact h.elim
    | some ts' =>
      rw [e] at h
      obtain ⟨a1, a2⟩ := exit_A ag hl A e
      exact h v F' H' L' A.ok A.st ow nw a1 a2
  | ex c w sl =>
    intro σ F' H' L' A n
    have h : FQ K F H L vs ts Q (fun _ _ _ _ _ _ => False) (match backs ts sl with
      | some ts' => .ex c w ts'
      | none => .no) := h
    cases e : backs ts sl with
    | none => rw [e] at h; exact h.elim
    | some ts' =>
      rw [e] at h
      obtain ⟨a1, a2⟩ := exit_A ag hl A e
      exact h F' H' L' A.ok A.st n a1 a2
  | bk sl => exact h.elim
  | ct sl => exact h.elim
  | no => exact h.elim
end
theorem spF_len {K : PySem.W.Frag} {cb : Nat → List T → FRes} {f np : Nat} {vs : List V} {H : Hp} {Q : VK} {E : XK} (h : spF K cb f np vs H Q E) : vs.length = np := by
  obtain ⟨F, L, ts, _, _, h1, h2, _⟩ := h
  rw [h2.1, h1]
/-- every def does what the small language says -/
theorem run_ok {P : Program} {w : World} (hw : w = Wd.w) {K : PySem.W.Frag} {mg : Str → Option Value} {base : Heap} {defs : List (Nat × Df)} {bl gs : List Str} {Pg : Pg} {D : Nat → Option Fd} (M : Mn K mg bl gs Pg) (hck : ∀ d ∈ defs, CkD bl gs (fnT defs) Pg d.2 ∧ D d.1 = some d.2.fd) (hfd : ∀ d ∈ defs, ∃ ad fd, FdOk K mg d.2 ad fd) :
    ∀ (n f : Nat) (d : Df) (ad : Addr) (fd : FuncData), lookF defs f = some d → FdOk K mg d ad fd → FnOk P w K mg base (L2.CX P w) n ad fd d.ps (spF K (run Pg D n) f d.fd.np)
  | 0, f, d, ad, fd, hf, ok => by
    have hd := lookF_mem hf
    have hl : d.ps.length = d.fd.np := by have : d.fd.np ≤ d.N.length := (hck _ hd).1.np; unfold Df.ps; simp; omega
    refine ⟨fun vs H Q E h => by rw [spF_len h, hl], fun A outer s H args us vs Q E _ _ _ _ h => ?_⟩
    obtain ⟨F, L, ts, _, _, _, _, z⟩ := h
    exact z.elim
  | n + 1, f, d, ad, fd, hf, ok => by
    have hd := lookF_mem hf
    have ck := (hck _ hd).1
    have hl : d.ps.length = d.fd.np := by have : d.fd.np ≤ d.N.length := ck.np; unfold Df.ps; simp; omega
    refine ok.fn.okX (scB_ok ck.sc) (fun vs H Q E h => by rw [spF_len h, hl]) fun cdv A outer s H vs Q E hr h => ?_
    refine ⟨_, wb_pss, ?_⟩
    obtain ⟨F, L, ts, o, tm, h1, ag, h2⟩ := h
    have hD : D f = some d.fd := (hck _ hd).2
    have e : run Pg D (n + 1) f ts = finish ts (exec Pg (flg ts) (run Pg D n) d.fd.body (sl0 d.fd ts)) := by
      rw [run, hD]
      simp only [h1, if_true]
      rfl
    rw [e] at h2
    refine (soundS (run Pg D n) d.fd.body).2 (cxOf (L2.CX P w) P w K mg base d.N d.nm (defScope d.st) ad cdv A outer s H E) ⟨d.N, defScope d.st, true, flg ts, bl, fnT defs, Pg, gs⟩ (defBody d.st)
      ⟨rfl, rfl, (scB_ok ck.sc).nd, rfl, fun _ _ => rfl, M.free, M.con, ?_, hw⟩ ⟨fun f' x hx => ?_⟩ (passes_of rfl) (ck.tx _) _ _ F H L _ (entry_G ck.ns ck.np o tm h1 ag) (body_SQ ag h1 h2)
    · have := hr.un
      show A.units + 3 + 200 < cLine
      have : A.units + 3 + 16 * n + 200 < cLine := this
      omega
    · have hx : (lookF defs f').map (·.nm) = some x := hx
      cases ef : lookF defs f' with
      | none => rw [ef] at hx; cases hx
      | some d' =>
        rw [ef] at hx
        obtain rfl : d'.nm = x := Option.some.inj hx
        obtain ⟨ad', fd', ok'⟩ := hfd _ (lookF_mem ef)
        refine ⟨d'.fd.np, n, ad', fd', d'.ps, run_ok hw M hck hfd n f' d' ad' fd' ef ok', hr, ok'.mg, ok'.fn.kp, ok'.bd, fun ts' hts => ?_⟩
        cases n with
        | zero => rfl
        | succ n =>
          have hD' : D f' = some d'.fd := (hck _ (lookF_mem ef)).2
          rw [run, hD']
          simp only [hts, if_false]
theorem cx_no {P : Program} {w : World} {outer : List Env} {H : Hp} {s : Shared} {e : Value} {s' : Shared} (h : L2.CX P w outer H s (fun _ _ _ => False) e s') : False := by
  obtain ⟨_, _, _, _, _, _, _, _, _, _, _, _, z⟩ := h
  exact z
/-- the law's end -/
theorem law_sp {K : PySem.W.Frag} {cb : Nat → List T → FRes} {f : Nat} {H : Hp} {a : Addr} {ns : List Int} (hS : SqL K H a (ns.map V.int)) {ts' : List T} (h : cb f [.ro (ns.map .int)] = .ok (.fz (.bool true)) ts') :
    spF K cb f 1 [.ref a] H (fun v _ => v = .bl true) fun _ _ _ => False := by
  have ri : ∀ ns : List Int, RpA K H (ns.map V.int) (ns.map PyData.int) := fun ns => by
    induction ns with
    | nil => exact .nil
    | cons n ns ih => exact .cons (.int n) ih
  refine ⟨H, fun _ => 0, [.ro (ns.map .int)], ⟨Same.refl _, fun a z => absurd rfl z, fun a z => absurd rfl z⟩, fun a z => (nomatch z), rfl, ⟨rfl, fun j t e => ?_⟩, ?_⟩
  · cases j with
    | zero => simp at e; subst e; exact ⟨_, rfl, .ro hS (ri ns)⟩
    | succ j => simp at e
  · rw [h]
    intro v F' H' L' _ _ ow _ _ _
    cases ow with
    | big A b _ _ => cases b
    | fz r => cases r; rfl
end Md

/-! Md, part V: how the small language is run by hand. -/
namespace Md
open PySem
section
variable {P : Pg} {np : Nat → Bool} {cb : Nat → List T → FRes} {sl sl1 : Sl} {α β : Type} {a b c : E} {i : Nat}
@[simp] theorem bind_ok (x : α) (f : α → Sl → Res β) : (Res.ok x sl).bind f = f x sl := rfl
@[simp] theorem bind_no (f : α → Sl → Res β) : (Res.no).bind f = .no := rfl
@[simp] theorem andS_ok (x : α) (f : α → Sl → SRes) : (Res.ok x sl).andS f = f x sl := rfl
@[simp] theorem sandS_nx (f : Sl → SRes) : (SRes.nx sl).andS f = f sl := rfl
@[simp] theorem sandS_rt (t : T) (f : Sl → SRes) : (SRes.rt t sl).andS f = .rt t sl := rfl
@[simp] theorem sandS_ct (f : Sl → SRes) : (SRes.ct sl).andS f = .ct sl := rfl
@[simp] theorem sandS_bk (f : Sl → SRes) : (SRes.bk sl).andS f = .bk sl := rfl
@[simp] theorem settle_t (t : T) : (R.t t).settle = .t (.fz t.view) := rfl
@[simp] theorem settle_p : (R.p i).settle = .p i := rfl
@[simp] theorem view_fz (d : Da) : (T.fz d).view = d := rfl
@[simp] theorem view_ro (d : List Da) : (T.ro d).view = .list d := rfl
@[simp] theorem view_lst (d : List Da) : (T.lst d).view = .list d := rfl
@[simp] theorem view_dct (d : List (Da × Da)) : (T.dct d).view = .dict d := rfl
@[simp] theorem view_lk (d : List Da) : (T.lk d).view = .list d := rfl
@[simp] theorem rview_t (t : T) : (R.t t).view sl = some t.view := rfl
@[simp] theorem rviewR_t (t : T) : (R.t t).viewR sl = some t.view := rfl
@[simp] theorem take_t (t : T) : (R.t t).take sl = some (t.view, sl) := rfl
theorem rview_lst {ds : List Da} (h : sl[i]? = some (some (.lst ds))) : (R.p i).view sl = some (.list ds) := by simp [R.view, h]
theorem rviewR_lst {ds : List Da} (h : sl[i]? = some (some (.lst ds))) : (R.p i).viewR sl = some (.list ds) := by simp [R.viewR, R.view, h]
theorem rviewR_ro {ds : List Da} (h : sl[i]? = some (some (.ro ds))) : (R.p i).viewR sl = some (.list ds) := by simp [R.viewR, h]
@[simp] theorem testOf_ok (k : Bool) : testOf (.ok (.t (.fz (.bool k))) sl) = .ok k sl := rfl
@[simp] theorem two_some (t : T) : two (some t) sl = .ok (.t t) sl := rfl
@[simp] theorem two_none : two none sl = .no := rfl
@[simp] theorem own_int (i : Int) : own (.int i) = .fz (.int i) := rfl
@[simp] theorem own_str (i : Str) : own (.str i) = .fz (.str i) := rfl
@[simp] theorem own_tup (i : List Da) : own (.tuple i) = .fz (.tuple i) := rfl
@[simp] theorem own_lst (i : List Da) : own (.list i) = .lst i := rfl
@[simp] theorem nxt_some : nxt (some sl) = .nx sl := rfl
@[simp] theorem mapO_nx (f : Sl → Option Sl) : SRes.mapO f (.nx sl) = (match f sl with
    | some s => .nx s
    | none => .no) := rfl
@[simp] theorem mapO_rt (t : T) (f : Sl → Option Sl) : SRes.mapO f (.rt t sl) = (match f sl with
    | some s => .rt t s
    | none => .no) := rfl
@[simp] theorem unlock_nil : unlock sl [] = some sl := rfl
@[simp] theorem lockR_t (t : T) : lockR sl (.t t) = some sl := rfl
@[simp] theorem lockOf_t (t : T) : lockOf sl (.t t) = [] := rfl
theorem lockR_ro {ds : List Da} (h : sl[i]? = some (some (.ro ds))) : lockR sl (.p i) = some sl := by simp [lockR, h]
theorem lockOf_ro {ds : List Da} (h : sl[i]? = some (some (.ro ds))) : lockOf sl (.p i) = [] := by simp [lockOf, h]
/-! ### loops -/
theorem forGo_inv {tg : Tg} {body : Sl → SRes} : ∀ (ws : List Da) (f : Nat → Sl), (∀ (j : Nat) (x : Da), ws[j]? = some x → ∃ s1, tg.put np x (f j) = some s1 ∧ (body s1 = .nx (f (j + 1)) ∨ body s1 = .ct (f (j + 1)))) → forGo np tg body ws (f 0) = .nx (f ws.length)
  | [], f, _ => rfl
  | x :: ws, f, h => by
    obtain ⟨s1, h1, h2⟩ := h 0 x rfl
    have ih := forGo_inv ws (fun j => f (j + 1)) fun j y e => h (j + 1) y (by simpa using e)
    rw [forGo]
    simp only [h1]
    rcases h2 with h2 | h2 <;> rw [h2] <;> exact ih
/-- .. to some state of a kind -/
theorem forGo_ex {tg : Tg} {body : Sl → SRes} (J : Nat → Sl → Prop) : ∀ (ws : List Da) (s : Sl) (k : Nat), J k s → (∀ (j : Nat) (x : Da) (s : Sl), ws[j]? = some x → J (k + j) s → ∃ s1 s2, tg.put np x s = some s1 ∧ (body s1 = .nx s2 ∨ body s1 = .ct s2) ∧ J (k + j + 1) s2) → ∃ s', forGo np tg body ws s = .nx s' ∧ J (k + ws.length) s'
  | [], s, k, h0, _ => ⟨s, rfl, h0⟩
  | x :: ws, s, k, h0, h => by
    obtain ⟨s1, s2, h1, h2, h3⟩ := h 0 x s rfl h0
    obtain ⟨s', h4, h5⟩ := forGo_ex J ws s2 (k + 1) h3 fun j y s e q => by
      have := h (j + 1) y s (by simpa using e) (by rw [show k + (j + 1) = k + 1 + j by omega]; exact q)
      rw [show k + (j + 1) = k + 1 + j by omega] at this
      exact this
    refine ⟨s', ?_, by rw [List.length_cons, show k + (ws.length + 1) = k + 1 + ws.length by omega]; exact h5⟩
    rw [forGo]
    simp only [h1]
    rcases h2 with h2 | h2 <;> rw [h2] <;> exact h4
theorem lcGo_map {tg : Tg} {body : Sl → Res (Option Da)} (f : Da → Option Da) (s : Sl) : ∀ (ws acc : List Da), (∀ x ∈ ws, ∃ s1 s2, tg.put np x s = some s1 ∧ body s1 = .ok (f x) s2 ∧ wipe s2 tg.slots = s) → acc.length + ws.length ≤ sizeLine → lcGo np tg body ws acc s = .ok (acc ++ ws.filterMap f) s
  | [], acc, _, _ => by simp [lcGo]
  | x :: ws, acc, h, hz => by
    obtain ⟨s1, s2, h1, h2, h3⟩ := h x List.mem_cons_self
    rw [lcGo]
    simp only [h1, h2]
    have hz' : acc.length + (ws.length + 1) ≤ sizeLine := by simpa using hz
    cases e : f x with
    | none =>
      simp only [h3]
      rw [lcGo_map f s ws acc (fun y hy => h y (List.mem_cons_of_mem _ hy)) (by omega)]
      simp [e]
    | some w =>
      simp only [h3]
      rw [if_pos (by simp; omega), lcGo_map f s ws (acc ++ [w]) (fun y hy => h y (List.mem_cons_of_mem _ hy)) (by simp; omega)]
      simp [e]
theorem wipe_get_of {vs : List Nat} {v : Nat} (h : v ∉ vs) : ∀ (sl : Sl), (Md.wipe sl vs)[v]? = sl[v]? := by
  intro sl
  induction vs with
  | nil => rfl
  | cons w vs ih =>
    rw [wipe, List.getElem?_set_ne (fun z => h (by rw [z]; exact List.mem_cons_self))]
    exact ih fun z => h (List.mem_cons_of_mem _ z)
theorem wipe_length (sl : Sl) (vs : List Nat) : (wipe sl vs).length = sl.length := wipeS_len sl vs
theorem restore_wipe : ∀ (sl : Sl) (vs : List Nat), restore sl (wipe sl vs) vs = sl := by
  intro sl vs
  apply List.ext_getElem?
  intro i
  have key : ∀ (vs : List Nat) (s : Sl), s.length = sl.length → (∀ j : Nat, j ∉ vs → s[j]? = sl[j]?) → ∀ j : Nat, (restore sl s vs)[j]? = sl[j]? := by
    intro vs
    induction vs with
    | nil => intro s hs h j; exact h j (by simp)
    | cons v vs ih =>
      intro s hs h j
      rw [restore]
      cases e : sl[v]? with
      | none =>
        simp only
        by_cases q : j = v
        · subst q
          rw [e]
          rw [List.getElem?_eq_none]
          rw [restore_len]
          rw [hs]
          exact List.getElem?_eq_none_iff.mp e
        · exact ih s hs (fun j hj => by
            by_cases q' : j = v
            · subst q'
              rw [e, List.getElem?_eq_none]; rw [hs]; exact List.getElem?_eq_none_iff.mp e
            · exact h j (by simp [q', hj])) j
      | some o =>
        simp only
        by_cases q : v = j
        · subst q
          rw [List.getElem?_set_self (by rw [restore_len, hs]; exact (List.getElem?_eq_some_iff.mp e).1), e]
        · rw [List.getElem?_set_ne q]
          -- s may differ at v, but v is not asked
          have : ∀ (vs : List Nat) (s s' : Sl) (j : Nat), s.length = s'.length → v ≠ j → (∀ k : Nat, k ≠ v → s[k]? = s'[k]?) → (restore sl s vs)[j]? = (restore sl s' vs)[j]? := by
            intro vs
            induction vs with
            | nil => intro s s' j _ hj hk; exact hk j (Ne.symm hj)
            | cons u us ihu =>
              intro s s' j hl hj hk
              rw [restore, restore]
              cases sl[u]? with
              | none => exact ihu s s' j hl hj hk
              | some o' =>
                simp only
                by_cases z : u = j
                · subst z
                  by_cases c : u < s.length
                  · rw [List.getElem?_set_self (by rw [restore_len]; exact c), List.getElem?_set_self (by rw [restore_len, ← hl]; exact c)]
                  · rw [List.getElem?_eq_none (by rw [List.length_set, restore_len]; omega), List.getElem?_eq_none (by rw [List.length_set, restore_len]; omega)]
                · rw [List.getElem?_set_ne z, List.getElem?_set_ne z]; exact ihu s s' j hl hj hk
          rw [this vs s (s.set v o) j (by simp) q (fun k hk => by rw [List.getElem?_set_ne (Ne.symm hk)])]
          refine ih (s.set v o) (by simpa using hs) (fun k hk => ?_) j
          by_cases z : k = v
          · subst z
            rw [List.getElem?_set_self (by rw [hs]; exact (List.getElem?_eq_some_iff.mp e).1), e]
          · rw [List.getElem?_set_ne (Ne.symm z)]
            exact h k (by simp [z, hk])
  exact key vs _ (wipe_length sl vs) (fun j hj => wipe_get_of hj sl) i
theorem set_self' {o : Option T} (h : sl[i]? = some o) : sl.set i o = sl := by
  apply List.ext_getElem?
  intro j
  by_cases q : i = j
  · subst q
    rw [List.getElem?_set_self (List.getElem?_eq_some_iff.mp h).1, h]
  · rw [List.getElem?_set_ne q]
theorem unlock_lock {r : R} {is : List Nat} (l : lockR sl r = some sl1) : unlock sl1 (lockOf sl r ++ is) = unlock sl is := by
  cases r with
  | t t => cases (Option.some.inj l); rfl
  | p j =>
    have l' : (match sl[j]? with
      | some (some (.lst ds)) => some (sl.set j (some (.lk ds)))
      | some (some (.lk _)) => some sl
      | some (some (.ro _)) => some sl
      | some (some (.lkd _)) => some sl
      | _ => none) = some sl1 := l
    split at l'
    · rename_i ds e
      cases l'
      have : lockOf sl (.p j) = [j] := by simp [lockOf, e]
      rw [this]
      show unlock (sl.set j (some (.lk ds))) (j :: is) = _
      have hj := (List.getElem?_eq_some_iff.mp e).1
      rw [unlock, List.getElem?_set_self hj]
      simp only [List.set_set]
      rw [set_self' e]
    · rename_i ds e
      cases l'
      have : lockOf sl (.p j) = [] := by simp [lockOf, e]
      rw [this]; rfl
    · rename_i ds e
      cases l'
      have : lockOf sl (.p j) = [] := by simp [lockOf, e]
      rw [this]; rfl
    · rename_i ds e
      cases l'
      have : lockOf sl (.p j) = [] := by simp [lockOf, e]
      rw [this]; rfl
    · cases l'
  | q _ _ => cases l
/-- a comprehension, where its parts leave the slots as they are -/
theorem ev_lc {elt cond : E} {tg : Tg} {k : IK} {has : Bool} {ws : List Da} {r1 r2 : R} {sl3 sl4 sl5 : Sl} (h1 : itr k (ev P np cb a) (ev P np cb b) (ev P np cb c) sl = .ok (ws, r1, r2) sl3) (h2 : lockR sl3 r1 = some sl4) (h3 : lockR sl4 r2 = some sl5) (h4 : plainAt sl5 tg.slots = true)
    (f : Da → Option Da) (hz : ws.length ≤ sizeLine) (hb : ∀ x ∈ ws, ∃ s1 s2, tg.put np x (wipe sl5 tg.slots) = some s1 ∧ lcB has (ev P np cb cond) (ev P np cb elt) s1 = .ok (f x) s2 ∧ wipe s2 tg.slots = wipe sl5 tg.slots) : ev P np cb (.lc elt tg k a b c cond has) sl = .ok (.t (.lst (ws.filterMap f))) sl3 := by
  rw [ev, h1]
  simp only [bind_ok, h2, h3, h4, if_true]
  rw [lcGo_map f (wipe sl5 tg.slots) ws [] hb (by simpa using hz)]
  simp only [List.nil_append, restore_wipe]
  rw [unlock_lock h3]
  have := unlock_lock (is := []) h2
  rw [List.append_nil] at this
  rw [this]
  rfl
end
end Md

/-! Md, part W: what an expression, a statement does at slots that are written out. -/
namespace Md
open PySem (Str PyData sizeLine seqIndex?)
@[simp] theorem ev_nm (P : Pg) (np : Nat → Bool) (cb : Nat → List T → FRes) (x0 : Option T) (s0 : Sl) (i : Nat) : ev P np cb (.nm i) (x0 :: s0) = (match (x0 :: s0)[i]? with
    | some (some (.fz w)) => .ok (.t (.fz w)) (x0 :: s0)
    | some (some _) => .ok (.p i) (x0 :: s0)
    | _ => .no) := by first | (rw [ev]; done) | (rw [ev]; rfl)
@[simp] theorem ev_nml (P : Pg) (np : Nat → Bool) (cb : Nat → List T → FRes) (x0 : Option T) (s0 : Sl) (i : Nat) : ev P np cb (.nml i) (x0 :: s0) = (match (x0 :: s0)[i]? with
    | some (some (.dct kvs)) => .ok (.p i) ((x0 :: s0).set i (some (.lkd kvs)))
    | some (some (.lkd _)) => .ok (.p i) (x0 :: s0)
    | _ => .no) := by first | (rw [ev]; done) | (rw [ev]; rfl)
@[simp] theorem ev_gl (P : Pg) (np : Nat → Bool) (cb : Nat → List T → FRes) (x0 : Option T) (s0 : Sl) (x : Str) : ev P np cb (.gl x) (x0 :: s0) = (match P.const x with
    | some w => .ok (.t (.fz w)) (x0 :: s0)
    | none => .no) := by first | (rw [ev]; done) | (rw [ev]; rfl)
@[simp] theorem ev_non (P : Pg) (np : Nat → Bool) (cb : Nat → List T → FRes) (x0 : Option T) (s0 : Sl) : ev P np cb (.non) (x0 :: s0) = (.ok (.t (.fz .none)) (x0 :: s0)) := by first | (rw [ev]; done) | (rw [ev]; rfl)
@[simp] theorem ev_bl (P : Pg) (np : Nat → Bool) (cb : Nat → List T → FRes) (x0 : Option T) (s0 : Sl) (b : Bool) : ev P np cb (.bl b) (x0 :: s0) = (.ok (.t (.fz (.bool b))) (x0 :: s0)) := by first | (rw [ev]; done) | (rw [ev]; rfl)
@[simp] theorem ev_int (P : Pg) (np : Nat → Bool) (cb : Nat → List T → FRes) (x0 : Option T) (s0 : Sl) (i : Int) : ev P np cb (.int i) (x0 :: s0) = (.ok (.t (.fz (.int i))) (x0 :: s0)) := by first | (rw [ev]; done) | (rw [ev]; rfl)
@[simp] theorem ev_str (P : Pg) (np : Nat → Bool) (cb : Nat → List T → FRes) (x0 : Option T) (s0 : Sl) (x : Str) : ev P np cb (.str x) (x0 :: s0) = (.ok (.t (.fz (.str x))) (x0 :: s0)) := by first | (rw [ev]; done) | (rw [ev]; rfl)
@[simp] theorem ev_bin (P : Pg) (np : Nat → Bool) (cb : Nat → List T → FRes) (x0 : Option T) (s0 : Sl) (o : BOp) (a : E) (b : E) : ev P np cb (.bin o a b) (x0 :: s0) = ((ev P np cb a (x0 :: s0)).bind fun ra sl1 => (ev P np cb b sl1).bind fun rb sl2 => match ra.settle.view sl2, rb.settle.view sl2 with
    | some x, some y => two ((binop o x y).map own) sl2
    | _, _ => .no) := by first | (rw [ev]; done) | (rw [ev]; rfl)
@[simp] theorem ev_neg (P : Pg) (np : Nat → Bool) (cb : Nat → List T → FRes) (x0 : Option T) (s0 : Sl) (a : E) : ev P np cb (.neg a) (x0 :: s0) = ((ev P np cb a (x0 :: s0)).bind fun ra sl1 => match ra.settle.view sl1 with
    | some (.int i) => .ok (.t (.fz (.int (-i)))) sl1
    | _ => .no) := by first | (rw [ev]; done) | (rw [ev]; rfl)
@[simp] theorem ev_not (P : Pg) (np : Nat → Bool) (cb : Nat → List T → FRes) (x0 : Option T) (s0 : Sl) (a : E) : ev P np cb (.not a) (x0 :: s0) = ((testOf (ev P np cb a (x0 :: s0))).bind fun k sl1 => .ok (.t (.fz (.bool (!k)))) sl1) := by first | (rw [ev]; done) | (rw [ev]; rfl)
@[simp] theorem ev_cmp (P : Pg) (np : Nat → Bool) (cb : Nat → List T → FRes) (x0 : Option T) (s0 : Sl) (o : COp) (a : E) (b : E) : ev P np cb (.cmp o a b) (x0 :: s0) = ((ev P np cb a (x0 :: s0)).bind fun ra sl1 => (ev P np cb b sl1).bind fun rb sl2 => match ra.settle.view sl2, rb.settle.view sl2 with
    | some x, some y => two ((compare o x y).map fun k => .fz (.bool k)) sl2
    | _, _ => .no) := by first | (rw [ev]; done) | (rw [ev]; rfl)
@[simp] theorem ev_chn (P : Pg) (np : Nat → Bool) (cb : Nat → List T → FRes) (x0 : Option T) (s0 : Sl) (o : COp) (o' : COp) (a : E) (b : E) (c : E) : ev P np cb (.chn o o' a b c) (x0 :: s0) = ((ev P np cb a (x0 :: s0)).bind fun ra sl1 => (ev P np cb b sl1).bind fun rb sl2 => match ra.settle.view sl2, rb.settle.view sl2 with
    | some x, some y => match compare o x y with
      | some true => (ev P np cb c sl2).bind fun rc sl3 => match rb.settle.view sl3, rc.settle.view sl3 with
        | some y', some z => two ((compare o' y' z).map fun k => .fz (.bool k)) sl3
        | _, _ => .no
      | some false => .ok (.t (.fz (.bool false))) sl2
      | none => .no
    | _, _ => .no) := by first | (rw [ev]; done) | (rw [ev]; rfl)
@[simp] theorem ev_one (P : Pg) (np : Nat → Bool) (cb : Nat → List T → FRes) (x0 : Option T) (s0 : Sl) (a : E) : ev P np cb (.one a) (x0 :: s0) = ((testOf (ev P np cb a (x0 :: s0))).bind fun k sl1 => .ok (.t (.fz (.bool k))) sl1) := by first | (rw [ev]; done) | (rw [ev]; rfl)
@[simp] theorem ev_and (P : Pg) (np : Nat → Bool) (cb : Nat → List T → FRes) (x0 : Option T) (s0 : Sl) (a : E) (r : E) : ev P np cb (.and a r) (x0 :: s0) = ((testOf (ev P np cb a (x0 :: s0))).bind fun k sl1 => if k then ev P np cb r sl1 else .ok (.t (.fz (.bool false))) sl1) := by first | (rw [ev]; done) | (rw [ev]; rfl)
@[simp] theorem ev_or (P : Pg) (np : Nat → Bool) (cb : Nat → List T → FRes) (x0 : Option T) (s0 : Sl) (a : E) (r : E) : ev P np cb (.or a r) (x0 :: s0) = ((testOf (ev P np cb a (x0 :: s0))).bind fun k sl1 => if k then .ok (.t (.fz (.bool true))) sl1 else ev P np cb r sl1) := by first | (rw [ev]; done) | (rw [ev]; rfl)
@[simp] theorem ev_ife (P : Pg) (np : Nat → Bool) (cb : Nat → List T → FRes) (x0 : Option T) (s0 : Sl) (c : E) (a : E) (b : E) : ev P np cb (.ife c a b) (x0 :: s0) = ((testOf (ev P np cb c (x0 :: s0))).bind fun k sl1 => if k then ev P np cb a sl1 else ev P np cb b sl1) := by first | (rw [ev]; done) | (rw [ev]; rfl)
@[simp] theorem ev_tup (P : Pg) (np : Nat → Bool) (cb : Nat → List T → FRes) (x0 : Option T) (s0 : Sl) (es : E) : ev P np cb (.tup es) (x0 :: s0) = ((evs P np cb es (x0 :: s0)).bind fun ws sl1 => if szOk ws.length then .ok (.t (.fz (.tuple ws))) sl1 else .no) := by first | (rw [ev]; done) | (rw [ev]; rfl)
@[simp] theorem ev_lst (P : Pg) (np : Nat → Bool) (cb : Nat → List T → FRes) (x0 : Option T) (s0 : Sl) (es : E) : ev P np cb (.lst es) (x0 :: s0) = ((evs P np cb es (x0 :: s0)).bind fun ws sl1 => if szOk ws.length then .ok (.t (.lst ws)) sl1 else .no) := by first | (rw [ev]; done) | (rw [ev]; rfl)
@[simp] theorem ev_idx (P : Pg) (np : Nat → Bool) (cb : Nat → List T → FRes) (x0 : Option T) (s0 : Sl) (a : E) (i : E) : ev P np cb (.idx a i) (x0 :: s0) = ((ev P np cb a (x0 :: s0)).bind fun ra sl1 => (ev P np cb i sl1).bind fun ri sl2 => match ra.settle.viewR sl2, ri.settle.view sl2 with
    | some x, some y => two ((index x y).map .fz) sl2
    | _, _ => .no) := by first | (rw [ev]; done) | (rw [ev]; rfl)
@[simp] theorem ev_sl (P : Pg) (np : Nat → Bool) (cb : Nat → List T → FRes) (x0 : Option T) (s0 : Sl) (a : E) (lo : E) (hi : E) (hl : Bool) (hh : Bool) : ev P np cb (.sl a lo hi hl hh) (x0 :: s0) = ((ev P np cb a (x0 :: s0)).bind fun ra sl1 => (prt hl (ev P np cb lo sl1) sl1).bind fun l sl2 => (prt hh (ev P np cb hi sl2) sl2).bind fun h sl3 =>
      match ra.settle.viewR sl3 with
      | some x => two ((cut x l h).map own) sl3
      | none => .no) := by first | (rw [ev]; done) | (rw [ev]; rfl)
@[simp] theorem ev_call (P : Pg) (np : Nat → Bool) (cb : Nat → List T → FRes) (x0 : Option T) (s0 : Sl) (f : Nat) (es : E) : ev P np cb (.call f es) (x0 :: s0) = ((evr P np cb es (x0 :: s0)).bind fun rs sl1 => match argsOf sl1 rs with
    | some ts => if (placesOf rs).Nodup then (match cb f ts with
      | .ok t ts' => .ok (.t t) (putBack sl1 rs ts')
      | .ex c w ts' => .ex c w (putBack sl1 rs ts')
      | .no => .no) else .no
    | none => .no) := by first | (rw [ev]; done) | (rw [ev]; rfl)
@[simp] theorem ev_b1 (P : Pg) (np : Nat → Bool) (cb : Nat → List T → FRes) (x0 : Option T) (s0 : Sl) (f : B1) (a : E) : ev P np cb (.b1 f a) (x0 :: s0) = ((ev P np cb a (x0 :: s0)).bind fun ra sl1 => match (if f = .len then ra.settle.viewR sl1 else ra.settle.view sl1) with
    | some x => two (call1 f x) sl1
    | none => .no) := by first | (rw [ev]; done) | (rw [ev]; rfl)
@[simp] theorem ev_b2 (P : Pg) (np : Nat → Bool) (cb : Nat → List T → FRes) (x0 : Option T) (s0 : Sl) (f : B2) (a : E) (b : E) : ev P np cb (.b2 f a b) (x0 :: s0) = ((ev P np cb a (x0 :: s0)).bind fun ra sl1 => (ev P np cb b sl1).bind fun rb sl2 => match ra.settle.view sl2, rb.settle.view sl2 with
    | some x, some y => two (call2 f x y) sl2
    | _, _ => .no) := by first | (rw [ev]; done) | (rw [ev]; rfl)
@[simp] theorem ev_dnew (P : Pg) (np : Nat → Bool) (cb : Nat → List T → FRes) (x0 : Option T) (s0 : Sl) : ev P np cb (.dnew) (x0 :: s0) = (.ok (.t (.dct [])) (x0 :: s0)) := by first | (rw [ev]; done) | (rw [ev]; rfl)
@[simp] theorem ev_sdf (P : Pg) (np : Nat → Bool) (cb : Nat → List T → FRes) (x0 : Option T) (s0 : Sl) (i : Nat) (k : E) (e : E) : ev P np cb (.sdf i k e) (x0 :: s0) = (match (x0 :: s0)[i]? with
    | some (some (.dct _)) => (ev P np cb k (x0 :: s0)).bind fun rk sl1 => match rk.settle.view sl1 with
      | some kd => (ev P np cb e sl1).bind fun re sl2 => match re.take sl2 with
        | some (w, sl3) => match sl3[i]? with
          | some (some (.dct kvs)) => if kOk kd && decide (kvs.length < sizeLine) then (match lookD kd kvs with
            | some w' => .ok (.t (.fz w')) sl3
            | none => .ok (.t (.fz w)) (sl3.set i (some (.dct (putD kvs kd w))))) else .no
          | _ => .no
        | none => .no
      | none => .no
    | _ => .no) := by first | (rw [ev]; done) | (rw [ev]; rfl)
@[simp] theorem ev_getT (P : Pg) (np : Nat → Bool) (cb : Nat → List T → FRes) (x0 : Option T) (s0 : Sl) (i : Nat) (k : E) : ev P np cb (.getT i k) (x0 :: s0) = (match (x0 :: s0)[i]? with
    | some (some (.dtt _)) => (ev P np cb k (x0 :: s0)).bind fun rk sl1 => match rk.settle.view sl1, sl1[i]? with
      | some kd, some (some (.dtt kvs)) => if tOk kd then two ((lookD kd kvs).map .fz) sl1 else .no
      | _, _ => .no
    | _ => .no) := by first | (rw [ev]; done) | (rw [ev]; rfl)
@[simp] theorem ev_inT (P : Pg) (np : Nat → Bool) (cb : Nat → List T → FRes) (x0 : Option T) (s0 : Sl) (neg : Bool) (i : Nat) (k : E) : ev P np cb (.inT neg i k) (x0 :: s0) = ((ev P np cb k (x0 :: s0)).bind fun rk sl1 => match rk.settle.view sl1, sl1[i]? with
    | some kd, some (some (.dtt kvs)) => if tOk kd then .ok (.t (.fz (.bool (neg ^^ (lookD kd kvs).isSome)))) sl1 else .no
    | _, _ => .no) := by first | (rw [ev]; done) | (rw [ev]; rfl)
@[simp] theorem ev_listT (P : Pg) (np : Nat → Bool) (cb : Nat → List T → FRes) (x0 : Option T) (s0 : Sl) (i : Nat) : ev P np cb (.listT i) (x0 :: s0) = (match (x0 :: s0)[i]? with
    | some (some (.dtt kvs)) => .ok (.t (.lst (kvs.map (·.1)))) (x0 :: s0)
    | _ => .no) := by first | (rw [ev]; done) | (rw [ev]; rfl)
@[simp] theorem ev_valsT (P : Pg) (np : Nat → Bool) (cb : Nat → List T → FRes) (x0 : Option T) (s0 : Sl) (i : Nat) : ev P np cb (.valsT i) (x0 :: s0) = (match (x0 :: s0)[i]? with
    | some (some (.dtt kvs)) => .ok (.t (.lst (kvs.map (·.2)))) (x0 :: s0)
    | _ => .no) := by first | (rw [ev]; done) | (rw [ev]; rfl)
@[simp] theorem ev_sortT (P : Pg) (np : Nat → Bool) (cb : Nat → List T → FRes) (x0 : Option T) (s0 : Sl) (i : Nat) : ev P np cb (.sortT i) (x0 :: s0) = (match (x0 :: s0)[i]? with
    | some (some (.dtt kvs)) => two (call1 .sorted (.list (kvs.map (·.1)))) (x0 :: s0)
    | some (some (.dct kvs)) => two (call1 .sorted (.list (kvs.map (·.1)))) (x0 :: s0)
    | _ => .no) := by first | (rw [ev]; done) | (rw [ev]; rfl)
@[simp] theorem ev_lm (P : Pg) (np : Nat → Bool) (cb : Nat → List T → FRes) (x0 : Option T) (s0 : Sl) (m : M1) (a : E) (b : E) : ev P np cb (.lm m a b) (x0 :: s0) = ((ev P np cb a (x0 :: s0)).bind fun ra sl1 => match ra.settle.view sl1 with
    | some (.list _) => (ev P np cb b sl1).bind fun rb sl2 => match ra.settle.view sl2, rb.settle.view sl2 with
      | some (.list ds), some y => two (callL m ds y) sl2
      | _, _ => .no
    | _ => .no) := by first | (rw [ev]; done) | (rw [ev]; rfl)
@[simp] theorem ev_sset (P : Pg) (np : Nat → Bool) (cb : Nat → List T → FRes) (x0 : Option T) (s0 : Sl) (a : E) : ev P np cb (.sset a) (x0 :: s0) = ((ev P np cb a (x0 :: s0)).bind fun ra sl1 => match ra.settle.view sl1 with
    | some (.list ds) => if ds.all kOk && alikeB ds && decide (ds.length < 4000) then .ok (.t (.lst (srt (onceD ds)))) sl1 else .no
    | _ => .no) := by first | (rw [ev]; done) | (rw [ev]; rfl)
@[simp] theorem ev_slen (P : Pg) (np : Nat → Bool) (cb : Nat → List T → FRes) (x0 : Option T) (s0 : Sl) (a : E) : ev P np cb (.slen a) (x0 :: s0) = ((ev P np cb a (x0 :: s0)).bind fun ra sl1 => match ra.settle.view sl1 with
    | some (.list ds) => if ds.all kOk && decide (ds.length < 4000) then .ok (.t (.fz (.int ((onceD ds).length : Nat)))) sl1 else .no
    | _ => .no) := by first | (rw [ev]; done) | (rw [ev]; rfl)
@[simp] theorem ev_rev (P : Pg) (np : Nat → Bool) (cb : Nat → List T → FRes) (x0 : Option T) (s0 : Sl) (a : E) : ev P np cb (.rev a) (x0 :: s0) = ((ev P np cb a (x0 :: s0)).bind fun ra sl1 => match ra.settle.viewR sl1 with
    | some (.list ds) => .ok (.t (.lst ds.reverse)) sl1
    | _ => .no) := by first | (rw [ev]; done) | (rw [ev]; rfl)
@[simp] theorem ev_pop (P : Pg) (np : Nat → Bool) (cb : Nat → List T → FRes) (x0 : Option T) (s0 : Sl) (i : Nat) (e : E) : ev P np cb (.pop i e) (x0 :: s0) = (match (x0 :: s0)[i]? with
    | some (some (.lst _)) => (ev P np cb e (x0 :: s0)).bind fun re sl1 => match re.settle.view sl1, sl1[i]? with
      | some (.int j), some (some (.lst ds)) => if decide (-(2 ^ 63) ≤ j) && decide (j < 2 ^ 63) then (match seqIndex? j ds.length with
        | some k => match ds[k]? with
          | some w => .ok (.t (.fz w)) (sl1.set i (some (.lst (ds.eraseIdx k))))
          | none => .no
        | none => .no) else .no
      | _, _ => .no
    | _ => .no) := by first | (rw [ev]; done) | (rw [ev]; rfl)
@[simp] theorem ev_rvl (P : Pg) (np : Nat → Bool) (cb : Nat → List T → FRes) (x0 : Option T) (s0 : Sl) (i : Nat) : ev P np cb (.rvl i) (x0 :: s0) = (match (x0 :: s0)[i]? with
    | some (some (.lst ds)) => .ok (.t (.fz .none)) ((x0 :: s0).set i (some (.lst ds.reverse)))
    | _ => .no) := by first | (rw [ev]; done) | (rw [ev]; rfl)
@[simp] theorem ev_clr (P : Pg) (np : Nat → Bool) (cb : Nat → List T → FRes) (x0 : Option T) (s0 : Sl) (i : Nat) : ev P np cb (.clr i) (x0 :: s0) = (match (x0 :: s0)[i]? with
    | some (some (.lst _)) => .ok (.t (.fz .none)) ((x0 :: s0).set i (some (.lst [])))
    | _ => .no) := by first | (rw [ev]; done) | (rw [ev]; rfl)
@[simp] theorem ev_insl (P : Pg) (np : Nat → Bool) (cb : Nat → List T → FRes) (x0 : Option T) (s0 : Sl) (i : Nat) (k : E) (e : E) : ev P np cb (.insl i k e) (x0 :: s0) = (match (x0 :: s0)[i]? with
    | some (some (.lst _)) => (ev P np cb k (x0 :: s0)).bind fun rk sl1 => match rk.settle.view sl1 with
      | some (.int j) => (ev P np cb e sl1).bind fun re sl2 => match re.take sl2 with
        | some (w, sl3) => match sl3[i]? with
          | some (some (.lst ds)) => if decide (0 ≤ j) && decide (j < 2 ^ 63) && decide (ds.length < sizeLine) then .ok (.t (.fz .none)) (sl3.set i (some (.lst (ds.take j.toNat ++ [w] ++ ds.drop j.toNat)))) else .no
          | _ => .no
        | none => .no
      | _ => .no
    | _ => .no) := by first | (rw [ev]; done) | (rw [ev]; rfl)
@[simp] theorem ev_isi (P : Pg) (np : Nat → Bool) (cb : Nat → List T → FRes) (x0 : Option T) (s0 : Sl) (a : E) (k : Kd) : ev P np cb (.isi a k) (x0 :: s0) = ((ev P np cb a (x0 :: s0)).bind fun ra sl1 => match ra.settle.view sl1 with
    | some x => if notD x then .ok (.t (.fz (.bool (isKd P k x)))) sl1 else .no
    | none => .no) := by first | (rw [ev]; done) | (rw [ev]; rfl)
@[simp] theorem ev_m1 (P : Pg) (np : Nat → Bool) (cb : Nat → List T → FRes) (x0 : Option T) (s0 : Sl) (m : M1) (a : E) (b : E) : ev P np cb (.m1 m a b) (x0 :: s0) = ((ev P np cb a (x0 :: s0)).bind fun ra sl1 => match ra.settle with
    | .t (.fz (.str x)) => (ev P np cb b sl1).bind fun rb sl2 => match rb.settle.view sl2 with
      | some y => two (callM m x y) sl2
      | _ => .no
    | _ => .no) := by first | (rw [ev]; done) | (rw [ev]; rfl)
@[simp] theorem evs_nil (P : Pg) (np : Nat → Bool) (cb : Nat → List T → FRes) (x0 : Option T) (s0 : Sl) : evs P np cb (.nil) (x0 :: s0) = (.ok [] (x0 :: s0)) := by first | (rw [evs]; done) | (rw [evs]; rfl)
@[simp] theorem evs_cons (P : Pg) (np : Nat → Bool) (cb : Nat → List T → FRes) (x0 : Option T) (s0 : Sl) (e : E) (es : E) : evs P np cb (.cons e es) (x0 :: s0) = ((ev P np cb e (x0 :: s0)).bind fun r sl1 => match r.take sl1 with
    | some (w, sl2) => (evs P np cb es sl2).bind fun ws sl3 => .ok (w :: ws) sl3
    | none => .no) := by first | (rw [evs]; done) | (rw [evs]; rfl)
@[simp] theorem evr_nil (P : Pg) (np : Nat → Bool) (cb : Nat → List T → FRes) (x0 : Option T) (s0 : Sl) : evr P np cb (.nil) (x0 :: s0) = (.ok [] (x0 :: s0)) := by first | (rw [evr]; done) | (rw [evr]; rfl)
@[simp] theorem evr_cons (P : Pg) (np : Nat → Bool) (cb : Nat → List T → FRes) (x0 : Option T) (s0 : Sl) (e : E) (es : E) : evr P np cb (.cons e es) (x0 :: s0) = ((ev P np cb e (x0 :: s0)).bind fun r sl1 => (evr P np cb es sl1).bind fun rs sl2 => .ok (r.settle :: rs) sl2) := by first | (rw [evr]; done) | (rw [evr]; rfl)
@[simp] theorem exec_nop (P : Pg) (np : Nat → Bool) (cb : Nat → List T → FRes) (x0 : Option T) (s0 : Sl) : exec P np cb (.nop) (x0 :: s0) = (.nx (x0 :: s0)) := by first | (rw [exec]; done) | (rw [exec]; rfl)
@[simp] theorem exec_never (P : Pg) (np : Nat → Bool) (cb : Nat → List T → FRes) (x0 : Option T) (s0 : Sl) : exec P np cb (.never) (x0 :: s0) = (.no) := by first | (rw [exec]; done) | (rw [exec]; rfl)
@[simp] theorem exec_brk (P : Pg) (np : Nat → Bool) (cb : Nat → List T → FRes) (x0 : Option T) (s0 : Sl) : exec P np cb (.brk) (x0 :: s0) = (.bk (x0 :: s0)) := by first | (rw [exec]; done) | (rw [exec]; rfl)
@[simp] theorem exec_cont (P : Pg) (np : Nat → Bool) (cb : Nat → List T → FRes) (x0 : Option T) (s0 : Sl) : exec P np cb (.cont) (x0 :: s0) = (.ct (x0 :: s0)) := by first | (rw [exec]; done) | (rw [exec]; rfl)
@[simp] theorem exec_seq (P : Pg) (np : Nat → Bool) (cb : Nat → List T → FRes) (x0 : Option T) (s0 : Sl) (a : S) (b : S) : exec P np cb (.seq a b) (x0 :: s0) = ((exec P np cb a (x0 :: s0)).andS (exec P np cb b)) := by first | (rw [exec]; done) | (rw [exec]; rfl)
@[simp] theorem exec_ex (P : Pg) (np : Nat → Bool) (cb : Nat → List T → FRes) (x0 : Option T) (s0 : Sl) (e : E) : exec P np cb (.ex e) (x0 :: s0) = ((ev P np cb e (x0 :: s0)).andS fun _ sl1 => .nx sl1) := by first | (rw [exec]; done) | (rw [exec]; rfl)
@[simp] theorem exec_as (P : Pg) (np : Nat → Bool) (cb : Nat → List T → FRes) (x0 : Option T) (s0 : Sl) (i : Nat) (e : E) : exec P np cb (.as i e) (x0 :: s0) = ((ev P np cb e (x0 :: s0)).andS fun r sl1 => match r with
    | .t t => nxt (put np sl1 i t)
    | r => match r.take sl1 with
      | some (w, sl2) => nxt (putF np sl2 i w)
      | none => .no) := by first | (rw [exec]; done) | (rw [exec]; rfl)
@[simp] theorem exec_ast (P : Pg) (np : Nat → Bool) (cb : Nat → List T → FRes) (x0 : Option T) (s0 : Sl) (is : List Nat) (e : E) : exec P np cb (.ast is e) (x0 :: s0) = ((ev P np cb e (x0 :: s0)).andS fun r sl1 => match r.take sl1 with
    | some (.tuple ws, sl2) => nxt (putAll np sl2 is ws)
    | _ => .no) := by first | (rw [exec]; done) | (rw [exec]; rfl)
@[simp] theorem exec_aug (P : Pg) (np : Nat → Bool) (cb : Nat → List T → FRes) (x0 : Option T) (s0 : Sl) (i : Nat) (o : BOp) (e : E) : exec P np cb (.aug i o e) (x0 :: s0) = (match (x0 :: s0)[i]? with
    | some (some (.fz (.int x))) => (ev P np cb e (x0 :: s0)).andS fun r sl1 => match r.settle.view sl1 with
      | some (.int y) => (match augI o x y with
        | some w => nxt (putF np sl1 i (.int w))
        | none => .no)
      | _ => .no
    | _ => .no) := by first | (rw [exec]; done) | (rw [exec]; rfl)
@[simp] theorem exec_ret (P : Pg) (np : Nat → Bool) (cb : Nat → List T → FRes) (x0 : Option T) (s0 : Sl) (e : E) : exec P np cb (.ret e) (x0 :: s0) = ((ev P np cb e (x0 :: s0)).andS fun r sl1 => retOf np r sl1) := by first | (rw [exec]; done) | (rw [exec]; rfl)
@[simp] theorem exec_ifs (P : Pg) (np : Nat → Bool) (cb : Nat → List T → FRes) (x0 : Option T) (s0 : Sl) (c : E) (a : S) (b : S) : exec P np cb (.ifs c a b) (x0 :: s0) = ((testOf (ev P np cb c (x0 :: s0))).andS fun k sl1 => if k then exec P np cb a sl1 else exec P np cb b sl1) := by first | (rw [exec]; done) | (rw [exec]; rfl)
@[simp] theorem exec_for (P : Pg) (np : Nat → Bool) (cb : Nat → List T → FRes) (x0 : Option T) (s0 : Sl) (tg : Tg) (k : IK) (a : E) (b : E) (c : E) (body : S) : exec P np cb (.for tg k a b c body) (x0 :: s0) = ((itr k (ev P np cb a) (ev P np cb b) (ev P np cb c) (x0 :: s0)).andS fun w sl3 => match lockR sl3 w.2.1 with
    | some sl4 => match lockR sl4 w.2.2 with
      | some sl5 => SRes.mapO (fun s => unlock s (lockOf sl4 w.2.2 ++ lockOf sl3 w.2.1)) (forGo np tg (exec P np cb body) w.1 sl5)
      | none => .no
    | none => .no) := by first | (rw [exec]; done) | (rw [exec]; rfl)
@[simp] theorem exec_whl (P : Pg) (np : Nat → Bool) (cb : Nat → List T → FRes) (x0 : Option T) (s0 : Sl) (m : Nat) (c : E) (body : S) : exec P np cb (.whl m c body) (x0 :: s0) = (whileGo (fun s => testOf (ev P np cb c s)) (exec P np cb body) m (x0 :: s0)) := by first | (rw [exec]; done) | (rw [exec]; rfl)
@[simp] theorem exec_app (P : Pg) (np : Nat → Bool) (cb : Nat → List T → FRes) (x0 : Option T) (s0 : Sl) (i : Nat) (e : E) : exec P np cb (.app i e) (x0 :: s0) = (match (x0 :: s0)[i]? with
    | some (some (.lst _)) => (ev P np cb e (x0 :: s0)).andS fun r sl1 => match r.take sl1 with
      | some (w, sl2) => match sl2[i]? with
        | some (some (.lst ds)) => if decide (ds.length < sizeLine) then .nx (sl2.set i (some (.lst (ds ++ [w])))) else .no
        | _ => .no
      | none => .no
    | _ => .no) := by first | (rw [exec]; done) | (rw [exec]; rfl)
@[simp] theorem exec_ext (P : Pg) (np : Nat → Bool) (cb : Nat → List T → FRes) (x0 : Option T) (s0 : Sl) (i : Nat) (e : E) : exec P np cb (.ext i e) (x0 :: s0) = (match (x0 :: s0)[i]? with
    | some (some (.lst _)) => (ev P np cb e (x0 :: s0)).andS fun r sl1 => match r.settle.view sl1 with
      | some (.list ws) => match sl1[i]? with
        | some (some (.lst ds)) => if szOk (ds.length + ws.length) then .nx (sl1.set i (some (.lst (ds ++ ws)))) else .no
        | _ => .no
      | _ => .no
    | _ => .no) := by first | (rw [exec]; done) | (rw [exec]; rfl)
@[simp] theorem exec_newT (P : Pg) (np : Nat → Bool) (cb : Nat → List T → FRes) (x0 : Option T) (s0 : Sl) (i : Nat) : exec P np cb (.newT i) (x0 :: s0) = (nxt (put np (x0 :: s0) i (.dtt []))) := by first | (rw [exec]; done) | (rw [exec]; rfl)
@[simp] theorem exec_kil (P : Pg) (np : Nat → Bool) (cb : Nat → List T → FRes) (x0 : Option T) (s0 : Sl) (ks : List Nat) (b : S) : exec P np cb (.kil ks b) (x0 :: s0) = ((exec P np cb b (x0 :: s0)).kil np ks) := by first | (rw [exec]; done) | (rw [exec]; rfl)
@[simp] theorem exec_setT (P : Pg) (np : Nat → Bool) (cb : Nat → List T → FRes) (x0 : Option T) (s0 : Sl) (i : Nat) (k : E) (e : E) : exec P np cb (.setT i k e) (x0 :: s0) = ((ev P np cb e (x0 :: s0)).andS fun r sl1 => match r.take sl1 with
    | some (w, sl2) => match sl2[i]? with
      | some (some (.dtt _)) => (ev P np cb k sl2).andS fun rk sl3 => match rk.settle.view sl3, sl3[i]? with
        | some kd, some (some (.dtt kvs)) => if tOk kd && decide (kvs.length < sizeLine) then .nx (sl3.set i (some (.dtt (putD kvs kd w)))) else .no
        | _, _ => .no
      | _ => .no
    | none => .no) := by first | (rw [exec]; done) | (rw [exec]; rfl)
@[simp] theorem exec_setL (P : Pg) (np : Nat → Bool) (cb : Nat → List T → FRes) (x0 : Option T) (s0 : Sl) (i : Nat) (k : E) (e : E) : exec P np cb (.setL i k e) (x0 :: s0) = ((ev P np cb e (x0 :: s0)).andS fun r sl1 => match r.take sl1 with
    | some (w, sl2) => match sl2[i]? with
      | some (some (.lst _)) => (ev P np cb k sl2).andS fun rk sl3 => match rk.settle.view sl3, sl3[i]? with
        | some (.int j), some (some (.lst ds)) => match L2.ixN ds.length j with
          | some n => .nx (sl3.set i (some (.lst (ds.set n w))))
          | none => .no
        | _, _ => .no
      | some (some (.dct _)) => (ev P np cb k sl2).andS fun rk sl3 => match rk.settle.view sl3, sl3[i]? with
        | some kd, some (some (.dct kvs)) => if kOk kd && decide (kvs.length < sizeLine) then .nx (sl3.set i (some (.dct (putD kvs kd w)))) else .no
        | _, _ => .no
      | _ => .no
    | none => .no) := by first | (rw [exec]; done) | (rw [exec]; rfl)
section
variable {i j : Int} {x y : Str} {b c : Bool} {xs ys : List Da} {d : Da}
@[simp] theorem binop_add (i j : Int) : binop .add (.int i) (.int j) = some (.int (i + j)) := rfl
@[simp] theorem binop_sub (i j : Int) : binop .sub (.int i) (.int j) = some (.int (i - j)) := rfl
theorem binop_mul (i j : Int) (h : mulOk i j = true) : binop .mul (.int i) (.int j) = some (.int (i * j)) := by simp [binop, h]
theorem binop_fdiv (i j : Int) (h : divOk j = true) : binop .fdiv (.int i) (.int j) = some (.int (i / j)) := by simp [binop, h]
theorem binop_mod (i j : Int) (h : 0 < j) : binop .mod (.int i) (.int j) = some (.int (i % j)) := by simp [binop, h]
theorem binop_pow (i j : Int) (h : powOk i j = true) : binop .pow (.int i) (.int j) = some (.int (i ^ j.toNat)) := by simp [binop, h]
theorem binop_adds (x y : Str) (h : szOk (x.length + y.length) = true) : binop .add (.str x) (.str y) = some (.str (x ++ y)) := by simp [binop, h]
theorem binop_addl (xs ys : List Da) (h : szOk (xs.length + ys.length) = true) : binop .add (.list xs) (.list ys) = some (.list (xs ++ ys)) := by simp [binop, h]
theorem binop_addt (xs ys : List Da) (h : szOk (xs.length + ys.length) = true) : binop .add (.tuple xs) (.tuple ys) = some (.tuple (xs ++ ys)) := by simp [binop, h]
@[simp] theorem cmp_lt (i j : Int) : Md.compare .lt (.int i) (.int j) = some (decide (i < j)) := rfl
@[simp] theorem cmp_le (i j : Int) : Md.compare .le (.int i) (.int j) = some (decide (i ≤ j)) := rfl
@[simp] theorem cmp_gt (i j : Int) : Md.compare .gt (.int i) (.int j) = some (decide (j < i)) := rfl
@[simp] theorem cmp_ge (i j : Int) : Md.compare .ge (.int i) (.int j) = some (decide (j ≤ i)) := rfl
theorem cmp_eq (a b : Da) : Md.compare .eq a b = if fits 64 a && fits 64 b then some (PyData.eqv a b) else if dEqD a b then some true else none := by cases b <;> rfl
theorem cmp_ne (a b : Da) : Md.compare .ne a b = if fits 64 a && fits 64 b then some (!PyData.eqv a b) else if dEqD a b then some false else none := by cases b <;> rfl
@[simp] theorem fits_int (k : Nat) (i : Int) : fits k (.int i) = true := by cases k <;> rfl
@[simp] theorem fits_str (k : Nat) (i : Str) : fits k (.str i) = true := by cases k <;> rfl
@[simp] theorem fits_bool (k : Nat) (i : Bool) : fits k (.bool i) = true := by cases k <;> rfl
@[simp] theorem fits_none (k : Nat) : fits k .none = true := by cases k <;> rfl
@[simp] theorem fits_list (k : Nat) (xs : List Da) : fits (k + 1) (.list xs) = fitsAll k xs := rfl
@[simp] theorem fits_tuple (k : Nat) (xs : List Da) : fits (k + 1) (.tuple xs) = fitsAll k xs := rfl
theorem fitsAll_iff (k : Nat) : ∀ xs : List Da, fitsAll k xs = true ↔ ∀ x ∈ xs, fits k x = true
  | [] => by simp [fitsAll]
  | x :: xs => by simp [fitsAll, fitsAll_iff k xs]
theorem eqv_int (i j : Int) : PyData.eqv (.int i) (.int j) = decide (i = j) := by rw [PyData.eqv]; exact Bool.eq_iff_iff.mpr (by simp)
theorem eqv_str (i j : Str) : PyData.eqv (.str i) (.str j) = decide (i = j) := by rw [PyData.eqv]; exact Bool.eq_iff_iff.mpr (by simp)
theorem eqv_bool (i j : Bool) : PyData.eqv (.bool i) (.bool j) = (i == j) := by rw [PyData.eqv]
@[simp] theorem cmp_eqi (i j : Int) : Md.compare .eq (.int i) (.int j) = some (decide (i = j)) := by rw [cmp_eq]; simp [eqv_int]
@[simp] theorem cmp_eqs (i j : Str) : Md.compare .eq (.str i) (.str j) = some (decide (i = j)) := by rw [cmp_eq]; simp [eqv_str]
@[simp] theorem cmp_eqb (i j : Bool) : Md.compare .eq (.bool i) (.bool j) = some (i == j) := by rw [cmp_eq]; simp [eqv_bool]
@[simp] theorem cmp_nei (i j : Int) : Md.compare .ne (.int i) (.int j) = some (!decide (i = j)) := by rw [cmp_ne]; simp [eqv_int]
@[simp] theorem cmp_nes (i j : Str) : Md.compare .ne (.str i) (.str j) = some (!decide (i = j)) := by rw [cmp_ne]; simp [eqv_str]
@[simp] theorem cmp_neb (i j : Bool) : Md.compare .ne (.bool i) (.bool j) = some (!(i == j)) := by rw [cmp_ne]; simp [eqv_bool]
@[simp] theorem cmp_isin_s (x y : Str) : Md.compare .isin (.str x) (.str y) = some (strIn x y) := rfl
@[simp] theorem cmp_notin_s (x y : Str) : Md.compare .notin (.str x) (.str y) = some (!strIn x y) := rfl
theorem c1_len (x : Str) (h : szOk x.length = true) : call1 .len (.str x) = some (.fz (.int x.length)) := by simp [call1, h]
@[simp] theorem c1_lenl (xs : List Da) : call1 .len (.list xs) = some (.fz (.int xs.length)) := rfl
@[simp] theorem c1_lent (xs : List Da) : call1 .len (.tuple xs) = some (.fz (.int xs.length)) := rfl
@[simp] theorem c1_all (xs : List Da) : call1 .all (.list xs) = (allB xs).map fun b => .fz (.bool b) := rfl
@[simp] theorem c1_any (xs : List Da) : call1 .any (.list xs) = (anyB xs).map fun b => .fz (.bool b) := rfl
@[simp] theorem c1_sum (xs : List Da) : call1 .sum (.list xs) = (sumI xs).map fun b => .fz (.int b) := rfl
@[simp] theorem c1_tuple (xs : List Da) : call1 .tuple (.list xs) = some (.fz (.tuple xs)) := rfl
@[simp] theorem c1_tuplet (xs : List Da) : call1 .tuple (.tuple xs) = some (.fz (.tuple xs)) := rfl
@[simp] theorem c1_list (xs : List Da) : call1 .list (.list xs) = some (.lst xs) := rfl
@[simp] theorem c1_listt (xs : List Da) : call1 .list (.tuple xs) = some (.lst xs) := rfl
@[simp] theorem c1_abs (i : Int) : call1 .abs (.int i) = some (.fz (.int (if i < 0 then -i else i))) := rfl
@[simp] theorem ix_l (xs : List Da) (i : Int) : index (.list xs) (.int i) = L2.atI xs i := rfl
@[simp] theorem ix_t (xs : List Da) (i : Int) : index (.tuple xs) (.int i) = L2.atI xs i := rfl
theorem ix_s (x : Str) (i : Int) (h : szOk x.length = true) : index (.str x) (.int i) = (L2.atI x.cps.toList i).map fun c => .str ⟨#[c]⟩ := by simp [index, h]
theorem cut_s (x : Str) (lo hi : Option Int) (h : szOk x.length = true) : cut (.str x) lo hi = some (.str (L2.cutS x lo hi)) := by simp [cut, h]
@[simp] theorem cut_l (xs : List Da) (lo hi : Option Int) : cut (.list xs) lo hi = some (.list (cutL xs lo hi)) := rfl
@[simp] theorem cut_t (xs : List Da) (lo hi : Option Int) : cut (.tuple xs) lo hi = some (.tuple (cutL xs lo hi)) := rfl
@[simp] theorem prt_no (r : Res R) (sl : Sl) : prt false r sl = .ok none sl := rfl
@[simp] theorem prt_int (i : Int) (sl sl' : Sl) : prt true (.ok (.t (.fz (.int i))) sl) sl' = .ok (some i) sl := rfl
@[simp] theorem isOwn_fz (d : Da) : (T.fz d).isOwn = false := rfl
@[simp] theorem isOwn_ro (d : List Da) : (T.ro d).isOwn = true := rfl
@[simp] theorem isOwn_lst (d : List Da) : (T.lst d).isOwn = true := rfl
@[simp] theorem isLk_fz (d : Da) : (T.fz d).isLk = false := rfl
@[simp] theorem isLk_lst (d : List Da) : (T.lst d).isLk = false := rfl
@[simp] theorem isLk_lk (d : List Da) : (T.lk d).isLk = true := rfl
@[simp] theorem slots_one (i : Nat) : (Tg.one i).slots = [i] := rfl
@[simp] theorem slots_tup (i : List Nat) : (Tg.tup i).slots = i := rfl
@[simp] theorem tgput_one (np : Nat → Bool) (i : Nat) (w : Da) (sl : Sl) : (Tg.one i).put np w sl = putF np sl i w := rfl
@[simp] theorem tgput_tup (np : Nat → Bool) (is : List Nat) (ws : List Da) (sl : Sl) : (Tg.tup is).put np (.tuple ws) sl = putAll np sl is ws := rfl
@[simp] theorem items_l (xs : List Da) (b c : Da) : items .seq (.list xs) b c = some xs := rfl
@[simp] theorem items_t (xs : List Da) (b c : Da) : items .seq (.tuple xs) b c = some xs := rfl
@[simp] theorem items_s (x : Str) (b c : Da) : items .seq (.str x) b c = some (x.cps.toList.map fun c => .str ⟨#[c]⟩) := rfl
theorem items_r1 (n : Int) (b c : Da) (h : rngOk n = true) : items .rng1 (.int n) b c = some (rangeUp 0 n.toNat) := by simp [items, h]
theorem items_r2 (n m : Int) (c : Da) (h : rngOk n = true) (h2 : rngOk m = true) : items .rng2 (.int n) (.int m) c = some (rangeUp n (m - n).toNat) := by simp [items, h, h2]
end
/-- what is walked, where it is data -/
theorem itr_1 {P : Pg} {np : Nat → Bool} {cb : Nat → List T → FRes} {k : IK} {a : E} {x0 : Option T} {s0 : Sl} {r : R} {x1 : Option T} {s1 : Sl} {d : Da} {ws : List Da} (h : ev P np cb a (x0 :: s0) = .ok r (x1 :: s1)) (hv : r.settle.viewR (x1 :: s1) = some d) (hw : items k d .none .none = some ws) :
    itr k (ev P np cb a) (ev P np cb .non) (ev P np cb .non) (x0 :: s0) = .ok (ws, r.settle, .t (.fz .none)) (x1 :: s1) := by
  simp [itr, h, hv, hw]
theorem run_def (P : Pg) (D : Nat → Option Fd) (f : Nat) (ts : List T) : run P D 0 f ts = .no := rfl

@[simp] theorem finish_nx (ts : List T) (sl : Sl) : finish ts (.nx sl) = (match backs ts sl with
    | some ts' => .ok (.fz .none) ts'
    | none => .no) := rfl
@[simp] theorem finish_rt (ts : List T) (t : T) (sl : Sl) : finish ts (.rt t sl) = (match backs ts sl with
    | some ts' => .ok t ts'
    | none => .no) := rfl
@[simp] theorem backs_nil (sl : Sl) : backs [] sl = some [] := rfl
@[simp] theorem backs_fz (d : Da) (ts : List T) (o : Option T) (sl : Sl) : backs (.fz d :: ts) (o :: sl) = (backs ts sl).map (.fz d :: ·) := rfl
@[simp] theorem backs_ro (d : List Da) (ts : List T) (u : T) (sl : Sl) : backs (.ro d :: ts) (some u :: sl) = (backs ts sl).map (u :: ·) := rfl
@[simp] theorem backs_lst (d : List Da) (ts : List T) (u : T) (sl : Sl) : backs (.lst d :: ts) (some u :: sl) = (backs ts sl).map (u :: ·) := rfl
@[simp] theorem retOf_t (np : Nat → Bool) (t : T) (sl : Sl) : retOf np (.t t) sl = .rt t sl := rfl
theorem allB_map {α : Type} (p : α → Bool) : ∀ xs : List α, allB (xs.map fun x => .bool (p x)) = some (xs.all p)
  | [] => rfl
  | x :: xs => by simp [allB, allB_map p xs]
theorem anyB_map {α : Type} (p : α → Bool) : ∀ xs : List α, anyB (xs.map fun x => .bool (p x)) = some (xs.any p)
  | [] => rfl
  | x :: xs => by simp [anyB, anyB_map p xs]
theorem sumI_map {α : Type} (p : α → Int) : ∀ xs : List α, sumI (xs.map fun x => .int (p x)) = some ((xs.map p).sum)
  | [] => rfl
  | x :: xs => by simp [sumI, sumI_map p xs]
section
variable {P : Pg} {np : Nat → Bool} {cb : Nat → List T → FRes} {elt cond a b c : E} {tg : Tg} {k : IK} {sl sl3 sl4 sl5 w0 : Sl} {r r1 r2 : R} {d e : Da} {ws : List Da}
theorem itr_2 {x0 : Option T} {s0 : Sl} (h : ev P np cb a sl = .ok r1 sl4) (h2 : ev P np cb b sl4 = .ok r2 (x0 :: s0)) (hv : r1.settle.viewR (x0 :: s0) = some d) (hv2 : r2.settle.viewR (x0 :: s0) = some e) (hw : items k d e .none = some ws) :
    itr k (ev P np cb a) (ev P np cb b) (ev P np cb .non) sl = .ok (ws, r1.settle, r2.settle) (x0 :: s0) := by
  simp [itr, h, h2, hv, hv2, hw]
/-- [elt for tg in ws] -/
theorem ev_lcm (h : itr k (ev P np cb a) (ev P np cb b) (ev P np cb c) sl = .ok (ws, r1, r2) sl3) (hl : lockR sl3 r1 = some sl4) (hl2 : lockR sl4 r2 = some sl5) (hp : plainAt sl5 tg.slots = true) (hwp : Md.wipe sl5 tg.slots = w0) (hz : ws.length ≤ sizeLine) (f : Da → Da)
    (hb : ∀ x ∈ ws, ∃ s1 re s2 s3, tg.put np x w0 = some s1 ∧ ev P np cb elt s1 = .ok re s2 ∧ re.take s2 = some (f x, s3) ∧ Md.wipe s3 tg.slots = w0) :
    ev P np cb (.lc elt tg k a b c cond false) sl = .ok (.t (.lst (ws.map f))) sl3 := by
  have := ev_lc (cond := cond) (has := false) (elt := elt) h hl hl2 hp (fun x => some (f x)) hz fun x hx => by
    obtain ⟨s1, re, s2, s3, h1, h2, h3, h4⟩ := hb x hx
    refine ⟨s1, s3, by rw [hwp]; exact h1, ?_, by rw [hwp]; exact h4⟩
    simp [lcB, h2, h3]
  rw [this]
  simp
/-- [elt for tg in ws if cond] -/
theorem ev_lcf (h : itr k (ev P np cb a) (ev P np cb b) (ev P np cb c) sl = .ok (ws, r1, r2) sl3) (hl : lockR sl3 r1 = some sl4) (hl2 : lockR sl4 r2 = some sl5) (hp : plainAt sl5 tg.slots = true) (hwp : Md.wipe sl5 tg.slots = w0) (hz : ws.length ≤ sizeLine) (q : Da → Bool) (f : Da → Da)
    (hb : ∀ x ∈ ws, ∃ s1 s2, tg.put np x w0 = some s1 ∧ testOf (ev P np cb cond s1) = .ok (q x) s2 ∧ (q x = false → Md.wipe s2 tg.slots = w0) ∧ (q x = true → ∃ re s3 s4, ev P np cb elt s2 = .ok re s3 ∧ re.take s3 = some (f x, s4) ∧ Md.wipe s4 tg.slots = w0)) :
    ev P np cb (.lc elt tg k a b c cond true) sl = .ok (.t (.lst ((ws.filter q).map f))) sl3 := by
  have := ev_lc (cond := cond) (has := true) (elt := elt) h hl hl2 hp (fun x => if q x then some (f x) else none) hz fun x hx => by
    obtain ⟨s1, s2, h1, h2, h3, h4⟩ := hb x hx
    cases e : q x with
    | false => exact ⟨s1, s2, by rw [hwp]; exact h1, by simp [lcB, h2, e], by rw [hwp]; exact h3 e⟩
    | true =>
      obtain ⟨re, s3, s4, h5, h6, h7⟩ := h4 e
      exact ⟨s1, s4, by rw [hwp]; exact h1, by simp [lcB, h2, h5, h6, e], by rw [hwp]; exact h7⟩
  rw [this]
  have z : ∀ l : List Da, l.filterMap (fun x => if q x then some (f x) else none) = (l.filter q).map f := fun l => by
    induction l with
    | nil => rfl
    | cons x l ih => by_cases hq : q x = true <;> simp [hq, ih]
  rw [z]
end

theorem szOk_lt {n : Nat} (h : n ≤ 1000000) : szOk n = true := by
  have : sizeLine = 16777216 := PySem.sizeLine_eq
  rw [szOk_eq, decide_eq_true_iff]; omega
theorem szOk_iff {n : Nat} : szOk n = true ↔ n ≤ sizeLine := by rw [szOk_eq, decide_eq_true_iff]
theorem str_small {α : Type} {s : Str} (hs : szOk s.length = true) (f : Nat → α) : (s.cps.toList.map f).length ≤ sizeLine := by
  have h : s.length ≤ sizeLine := szOk_iff.mp hs
  rw [List.length_map, Array.length_toList]
  exact h

theorem atI_ex {α : Type} {xs : List α} {i : Int} (h0 : 0 ≤ i) (h1 : i < xs.length) : ∃ x, x ∈ xs ∧ L2.atI xs i = some x := by
  obtain ⟨j, rfl⟩ := Int.eq_ofNat_of_zero_le h0
  have hj : j < xs.length := by omega
  refine ⟨xs[j], List.getElem_mem hj, ?_⟩
  unfold L2.atI L2.ixN
  rw [if_pos h0, if_pos h1]
  simp [hj]
theorem str1_len (c : Nat) : (⟨#[c]⟩ : Str).length = 1 := rfl
theorem str_add_len (x y : Str) : (x ++ y).length = x.length + y.length := Array.size_append
theorem rangeUp_length (lo : Int) (n : Nat) : (rangeUp lo n).length = n := by simp [rangeUp]
theorem rangeUp_get {lo : Int} {n j : Nat} {x : Da} (h : (rangeUp lo n)[j]? = some x) : x = .int (lo + j) := by
  simp only [rangeUp, List.getElem?_map] at h
  cases e : (List.range n)[j]? with
  | none => rw [e] at h; cases h
  | some k =>
    rw [e] at h
    have : k = j := by
      obtain ⟨h1, h2⟩ := List.getElem?_eq_some_iff.mp e
      simpa using h2.symm
    subst this
    exact (Option.some.inj h).symm
/-- a slot that holds nothing, or data -/
def Pln (o : Option T) : Prop := o = none ∨ ∃ d, o = some (.fz d)
@[simp] theorem pln_none : Pln none := .inl rfl
@[simp] theorem pln_fz (d : Da) : Pln (some (.fz d)) := .inr ⟨d, rfl⟩
theorem put_pln {np : Nat → Bool} {sl : Sl} {i : Nat} {o : Option T} {t : T} (hn : np i = false) (h : sl[i]? = some o) (p : Pln o) : put np sl i t = some (sl.set i (some t)) := by
  unfold put
  rw [hn, h]
  rcases p with rfl | ⟨d, rfl⟩ <;> rfl

theorem forGo_J {np : Nat → Bool} {tg : Tg} {body : Sl → SRes} (J : Nat → Sl → Prop) (ws : List Da) (s : Sl) (h0 : J 0 s) (h : ∀ (j : Nat) (x : Da) (s : Sl), ws[j]? = some x → J j s → ∃ s1 s2, tg.put np x s = some s1 ∧ (body s1 = .nx s2 ∨ body s1 = .ct s2) ∧ J (j + 1) s2) : ∃ s', forGo np tg body ws s = .nx s' ∧ J ws.length s' := by
  obtain ⟨s', h1, h2⟩ := forGo_ex J ws s 0 h0 fun j x s e q => by
    rw [Nat.zero_add] at q ⊢
    exact h j x s e q
  rw [Nat.zero_add] at h2
  exact ⟨s', h1, h2⟩

theorem tgput1 {np : Nat → Bool} {sl : Sl} {i : Nat} {o : Option T} {w : Da} (hn : np i = false) (h : sl[i]? = some o) (p : Pln o) : (Tg.one i).put np w sl = some (sl.set i (some (.fz w))) := put_pln hn h p
@[simp] theorem szOk_0 : szOk 0 = true := szOk_lt (by decide)
@[simp] theorem szOk_1 : szOk 1 = true := szOk_lt (by decide)
@[simp] theorem szOk_2 : szOk 2 = true := szOk_lt (by decide)
@[simp] theorem szOk_3 : szOk 3 = true := szOk_lt (by decide)
@[simp] theorem szOk_4 : szOk 4 = true := szOk_lt (by decide)
@[simp] theorem szOk_5 : szOk 5 = true := szOk_lt (by decide)
@[simp] theorem szOk_6 : szOk 6 = true := szOk_lt (by decide)
@[simp] theorem szOk_7 : szOk 7 = true := szOk_lt (by decide)
@[simp] theorem szOk_8 : szOk 8 = true := szOk_lt (by decide)
@[simp] theorem szOk_9 : szOk 9 = true := szOk_lt (by decide)
@[simp] theorem szOk_10 : szOk 10 = true := szOk_lt (by decide)
@[simp] theorem szOk_11 : szOk 11 = true := szOk_lt (by decide)
@[simp] theorem szOk_12 : szOk 12 = true := szOk_lt (by decide)
@[simp] theorem szOk_13 : szOk 13 = true := szOk_lt (by decide)
@[simp] theorem szOk_14 : szOk 14 = true := szOk_lt (by decide)
@[simp] theorem szOk_15 : szOk 15 = true := szOk_lt (by decide)
@[simp] theorem szOk_16 : szOk 16 = true := szOk_lt (by decide)
@[simp] theorem szOk_17 : szOk 17 = true := szOk_lt (by decide)
@[simp] theorem szOk_18 : szOk 18 = true := szOk_lt (by decide)
@[simp] theorem szOk_19 : szOk 19 = true := szOk_lt (by decide)
@[simp] theorem szOk_20 : szOk 20 = true := szOk_lt (by decide)
@[simp] theorem szOk_21 : szOk 21 = true := szOk_lt (by decide)
@[simp] theorem szOk_22 : szOk 22 = true := szOk_lt (by decide)
@[simp] theorem szOk_23 : szOk 23 = true := szOk_lt (by decide)
@[simp] theorem szOk_24 : szOk 24 = true := szOk_lt (by decide)
@[simp] theorem szOk_25 : szOk 25 = true := szOk_lt (by decide)
@[simp] theorem szOk_26 : szOk 26 = true := szOk_lt (by decide)
@[simp] theorem szOk_27 : szOk 27 = true := szOk_lt (by decide)
@[simp] theorem szOk_28 : szOk 28 = true := szOk_lt (by decide)
@[simp] theorem szOk_29 : szOk 29 = true := szOk_lt (by decide)
@[simp] theorem szOk_30 : szOk 30 = true := szOk_lt (by decide)
@[simp] theorem szOk_31 : szOk 31 = true := szOk_lt (by decide)
@[simp] theorem szOk_32 : szOk 32 = true := szOk_lt (by decide)
@[simp] theorem szOk_33 : szOk 33 = true := szOk_lt (by decide)
@[simp] theorem szOk_34 : szOk 34 = true := szOk_lt (by decide)
@[simp] theorem szOk_35 : szOk 35 = true := szOk_lt (by decide)
@[simp] theorem szOk_36 : szOk 36 = true := szOk_lt (by decide)
@[simp] theorem szOk_37 : szOk 37 = true := szOk_lt (by decide)
@[simp] theorem szOk_38 : szOk 38 = true := szOk_lt (by decide)
@[simp] theorem szOk_39 : szOk 39 = true := szOk_lt (by decide)
@[simp] theorem szOk_40 : szOk 40 = true := szOk_lt (by decide)

theorem str_empty {s : Str} (h : s.length = 0) : s = ("" : Str) := by
  cases s with
  | mk cps =>
    have : cps = #[] := Array.eq_empty_of_size_eq_zero h
    subst this
    decide +kernel

theorem strIn_one (c : Nat) (y : Str) : strIn ⟨#[c]⟩ y = decide (c ∈ y.cps.toList) := PySem.StrLaws.found_one y c
theorem str_ext {x y : Str} (h : x.cps.toList = y.cps.toList) : x = y := PySem.W.str_of_cps h
theorem tl_add (x y : Str) : (x ++ y).cps.toList = x.cps.toList ++ y.cps.toList := Array.toList_append
theorem exec_for1 {P : Pg} {np : Nat → Bool} {cb : Nat → List T → FRes} {tg : Tg} {k : IK} {a b c : E} {body : S} {sl sl3 sl4 sl5 s' s'' : Sl} {ws : List Da} {r1 r2 : R} (h : itr k (ev P np cb a) (ev P np cb b) (ev P np cb c) sl = .ok (ws, r1, r2) sl3) (hl : lockR sl3 r1 = some sl4) (hl2 : lockR sl4 r2 = some sl5)
    (hg : forGo np tg (exec P np cb body) ws sl5 = .nx s') (hu : unlock s' (lockOf sl4 r2 ++ lockOf sl3 r1) = some s'') : exec P np cb (.for tg k a b c body) sl = .nx s'' := by
  rw [exec, h, andS_ok]
  simp only [hl, hl2, hg, mapO_nx, hu]
/-- a slot that may be written -/
def Fr (o : Option T) : Prop := ∀ t, o = some t → t.isLk = false
theorem fr_none : Fr none := fun _ h => nomatch h
theorem fr_some {t : T} (h : t.isLk = false) : Fr (some t) := fun _ e => by cases e; exact h
theorem put_fr {np : Nat → Bool} {sl : Sl} {i : Nat} {o : Option T} {t : T} (hn : np i = false) (h : sl[i]? = some o) (p : Fr o) : put np sl i t = some (sl.set i (some t)) := by
  unfold put
  rw [hn, h]
  cases o with
  | none => rfl
  | some u => simp [p u rfl]
theorem Pln.fr {o : Option T} (h : Pln o) : Fr o := by
  rcases h with rfl | ⟨d, rfl⟩
  · exact fr_none
  · exact fr_some rfl

end Md

/-! Md, part GA: the table of defs; rules for running by hand, a statement at a time. -/
namespace Md
open PySem PySem.Spec
def lookG : List (Nat × Fd) → Nat → Option Fd
  | [], _ => none
  | (k, d) :: r, f => if Nat.beq k f then some d else lookG r f
theorem run_at {P : Pg} {D : Nat → Option Fd} {f n : Nat} {d : Fd} {ts : List T} (h : D f = some d) (hl : ts.length = d.np) :
    run P D (n + 1) f ts = finish ts (exec P (flg ts) (run P D n) d.body (ts.map some ++ List.replicate (d.ns - d.np) none)) := by
  rw [run, h]
  simp only [hl, if_true]
end Md

namespace Md
open PySem PySem.Spec
def b'l_cell_at : S :=
    .seq (.ifs (.cmp .lt (.nm 1) (.b1 .len (.nm 0)))
    (.seq (.ret (.idx (.nm 0) (.nm 1)))
    (.nop))
    (.nop))
    (.seq (.ret (.int 0))
    (.nop))
def F'l_cell_at : Fd := ⟨2, 2, b'l_cell_at⟩
def c'names_in'0 : E := .lc (.idx (.nm 2) (.int 1)) (.one 2) .seq (.nm 0) .non .non (.and (.cmp .eq (.idx (.nm 2) (.int 0)) (.str "var")) (.one (.cmp .notin (.idx (.nm 2) (.int 1)) (.nm 1)))) true
def b'names_in : S :=
    .seq (.ret (.sset (c'names_in'0)))
    (.nop)
def F'names_in : Fd := ⟨2, 3, b'names_in⟩
def b'key_names : S :=
    .seq (.ret (.call 294 (.cons (.sl (.idx (.nm 1) (.int 1)) .non (.idx (.idx (.nm 0) (.idx (.nm 1) (.int 0))) (.int 1)) false true) (.cons (.nm 2) (.nil)))))
    (.nop)
def F'key_names : Fd := ⟨3, 3, b'key_names⟩
def c'known_to'0 : E := .lc (.cmp .isin (.nm 9) (.nm 4)) (.one 9) .seq (.call 295 (.cons (.nm 0) (.cons (.nm 7) (.cons (.nm 2) (.nil))))) .non .non .non false
def c'known_to'1 : E := .lc (.nm 9) (.one 9) .seq (.call 294 (.cons (.idx (.nm 7) (.int 1)) (.cons (.nm 2) (.nil)))) .non .non (.cmp .notin (.nm 9) (.nm 4)) true
def l'known_to'1 : S := .seq (.as 8 (c'known_to'1))
    (.seq (.ifs (.and (.cmp .ne (.nm 6) (.nm 3)) (.and (.cmp .ne (.nm 8) (.lst (.nil))) (.one (.b1 .all (c'known_to'0)))))
    (.seq (.ext 4 (.nm 8))
    (.seq (.as 5 (.bl true))
    (.nop)))
    (.nop))
    (.nop))
def f'known_to'1 : S := .for (.tup [6, 7]) .enum (.nm 1) .non .non (.kil [6, 7, 8, 9] l'known_to'1)
def l'known_to'0 : S := .seq (.as 5 (.bl false))
    (.seq (f'known_to'1)
    (.nop))
def w'known_to'0 : S := .whl 100000 (.nm 5) (.kil [6, 7, 8, 9] l'known_to'0)
def b'known_to : S :=
    .seq (.as 4 (.call 295 (.cons (.nm 0) (.cons (.idx (.nm 1) (.nm 3)) (.cons (.nm 2) (.nil))))))
    (.seq (.as 5 (.bl true))
    (.seq (w'known_to'0)
    (.seq (.ret (.b1 .sorted (.nm 4)))
    (.nop))))
def F'known_to : Fd := ⟨4, 10, b'known_to⟩
def c'share'0 : E := .lc (.and (.cmp .isin (.nm 5) (.nm 4)) (.one (.cmp .notin (.nm 5) (.nm 3)))) (.one 5) .seq (.call 294 (.cons (.idx (.nm 0) (.int 1)) (.cons (.nm 2) (.nil)))) .non .non .non false
def b'share : S :=
    .seq (.as 4 (.call 294 (.cons (.idx (.nm 1) (.int 1)) (.cons (.nm 2) (.nil)))))
    (.seq (.ret (.b1 .any (c'share'0)))
    (.nop))
def F'share : Fd := ⟨4, 6, b'share⟩
def l'swayed'1 : S := .seq (.ifs (.and (.cmp .notin (.nm 7) (.nm 5)) (.one (.call 297 (.cons (.idx (.nm 1) (.idx (.nm 5) (.nm 6))) (.cons (.idx (.nm 1) (.nm 7)) (.cons (.nm 2) (.cons (.nm 4) (.nil))))))))
    (.seq (.app 5 (.nm 7))
    (.nop))
    (.nop))
    (.nop)
def f'swayed'1 : S := .for (.one 7) .rng1 (.b1 .len (.nm 1)) .non .non (.kil [7] l'swayed'1)
def l'swayed'0 : S := .seq (f'swayed'1)
    (.seq (.aug 6 .add (.int 1))
    (.nop))
def w'swayed'0 : S := .whl 100000 (.cmp .lt (.nm 6) (.b1 .len (.nm 5))) (.kil [7] l'swayed'0)
def b'swayed : S :=
    .seq (.as 4 (.call 296 (.cons (.nm 0) (.cons (.nm 1) (.cons (.nm 2) (.cons (.nm 3) (.nil)))))))
    (.seq (.as 5 (.lst (.cons (.nm 3) (.nil))))
    (.seq (.as 6 (.int 0))
    (.seq (w'swayed'0)
    (.seq (.ret (.b1 .sorted (.sl (.nm 5) (.int 1) .non true false)))
    (.nop)))))
def F'swayed : Fd := ⟨4, 8, b'swayed⟩
def l'check_double'0 : S := .seq (.ifs (.cmp .isin (.idx (.nm 3) (.int 0)) (.nm 1))
    (.seq (.never)
    (.nop))
    (.nop))
    (.seq (.setL 1 (.idx (.nm 3) (.int 0)) (.bl true))
    (.nop))
def f'check_double'0 : S := .for (.tup [2, 3]) .enum (.idx (.nm 0) (.int 1)) .non .non (.kil [2, 3] l'check_double'0)
def b'check_double : S :=
    .seq (.as 1 (.dnew))
    (.seq (f'check_double'0)
    (.nop))
def F'check_double : Fd := ⟨1, 4, b'check_double⟩
def b'known : S :=
    .seq (.ex (.call 299 (.cons (.nm 1) (.nil))))
    (.seq (.ret (.call 296 (.cons (.nm 0) (.cons (.idx (.nm 1) (.int 1)) (.cons (.idx (.nm 1) (.int 0)) (.cons (.nm 2) (.nil)))))))
    (.nop))
def F'known : Fd := ⟨3, 3, b'known⟩
def l'sways'1 : S := .seq (.app 2 (.tup (.cons (.nm 3) (.cons (.nm 4) (.nil)))))
    (.nop)
def f'sways'1 : S := .for (.one 4) .seq (.call 298 (.cons (.nm 0) (.cons (.idx (.nm 1) (.int 1)) (.cons (.idx (.nm 1) (.int 0)) (.cons (.nm 3) (.nil)))))) .non .non (.kil [4] l'sways'1)
def l'sways'0 : S := .seq (f'sways'1)
    (.nop)
def f'sways'0 : S := .for (.one 3) .rng1 (.b1 .len (.idx (.nm 1) (.int 1))) .non .non (.kil [3, 4] l'sways'0)
def b'sways : S :=
    .seq (.ex (.call 299 (.cons (.nm 1) (.nil))))
    (.seq (.as 2 (.lst (.nil)))
    (.seq (f'sways'0)
    (.seq (.ret (.nm 2))
    (.nop))))
def F'sways : Fd := ⟨2, 5, b'sways⟩
def l'ring'1 : S := .seq (.ifs (.and (.cmp .eq (.nm 7) (.idx (.nm 5) (.neg (.int 1)))) (.one (.cmp .eq (.nm 8) (.idx (.nm 5) (.int 0)))))
    (.seq (.ret (.nm 5))
    (.nop))
    (.nop))
    (.seq (.ifs (.and (.cmp .eq (.nm 7) (.idx (.nm 5) (.neg (.int 1)))) (.one (.cmp .notin (.nm 8) (.nm 5))))
    (.seq (.app 3 (.bin .add (.nm 5) (.lst (.cons (.nm 8) (.nil)))))
    (.nop))
    (.nop))
    (.nop))
def f'ring'1 : S := .for (.tup [7, 8]) .seq (.nm 2) .non .non (.kil [7, 8] l'ring'1)
def l'ring'0 : S := .seq (.as 5 (.idx (.nm 3) (.nm 4)))
    (.seq (f'ring'1)
    (.seq (.aug 4 .add (.int 1))
    (.nop)))
def w'ring'0 : S := .whl 100000 (.cmp .lt (.nm 4) (.b1 .len (.nm 3))) (.kil [5, 7, 8] l'ring'0)
def c'ring'0 : E := .lc (.lst (.cons (.nm 6) (.nil))) (.one 6) .rng1 (.b1 .len (.idx (.nm 1) (.int 1))) .non .non .non false
def b'ring : S :=
    .seq (.as 2 (.call 301 (.cons (.nm 0) (.cons (.nm 1) (.nil)))))
    (.seq (.as 3 (c'ring'0))
    (.seq (.as 4 (.int 0))
    (.seq (w'ring'0)
    (.seq (.ret (.non))
    (.nop)))))
def F'ring : Fd := ⟨2, 9, b'ring⟩
def l'l_name_in'0 : S := .seq (.as 3 (.bin .add (.nm 3) (.idx (.nm 1) (.bin .mod (.nm 0) (.int 26)))))
    (.seq (.as 0 (.bin .fdiv (.nm 0) (.int 26)))
    (.nop))
def f'l_name_in'0 : S := .for (.one 4) .rng1 (.nm 2) .non .non (.kil [4] l'l_name_in'0)
def b'l_name_in : S :=
    .seq (.as 1 (.str "abcdefghijklmnopqrstuvwxyz"))
    (.seq (.as 2 (.bin .add (.int 1) (.bin .mod (.nm 0) (.int 8))))
    (.seq (.as 0 (.bin .fdiv (.nm 0) (.int 8)))
    (.seq (.as 3 (.str ""))
    (.seq (f'l_name_in'0)
    (.seq (.ret (.tup (.cons (.nm 3) (.cons (.nm 0) (.nil)))))
    (.nop))))))
def F'l_name_in : Fd := ⟨1, 5, b'l_name_in⟩
def l'l_words_by_digits'1 : S := .seq (.ifs (.cmp .isin (.nm 5) (.nm 2))
    (.seq (.as 5 (.bin .add (.sl (.nm 5) .non (.int 7) false true) (.nm 4)))
    (.nop))
    (.nop))
    (.nop)
def f'l_words_by_digits'1 : S := .for (.one 4) .seq (.str "abcdefghij") .non .non (.kil [4] l'l_words_by_digits'1)
def l'l_words_by_digits'0 : S := .seq (.ast [5, 0] (.call 303 (.cons (.nm 0) (.nil))))
    (.seq (f'l_words_by_digits'1)
    (.seq (.app 2 (.nm 5))
    (.nop)))
def f'l_words_by_digits'0 : S := .for (.one 3) .rng1 (.nm 1) .non .non (.kil [3, 4, 5] l'l_words_by_digits'0)
def b'l_words_by_digits : S :=
    .seq (.as 2 (.lst (.nil)))
    (.seq (f'l_words_by_digits'0)
    (.seq (.ret (.nm 2))
    (.nop)))
def F'l_words_by_digits : Fd := ⟨2, 6, b'l_words_by_digits⟩
def l'l_words_2'1 : S := .seq (.as 9 (.bin .add (.bin .fdiv (.nm 0) (.bin .add (.int 49) (.bin .mul (.int 5) (.nm 8)))) (.bin .mul (.nm 8) (.bin .mod (.bin .fdiv (.nm 0) (.int 49)) (.int 3)))))
    (.seq (.ifs (.cmp .eq (.nm 8) (.nm 4))
    (.seq (.as 9 (.bin .add (.nm 9) (.bin .mul (.int 3) (.nm 6))))
    (.nop))
    (.nop))
    (.seq (.as 7 (.bin .add (.nm 7) (.idx (.nm 2) (.bin .mod (.nm 9) (.int 26)))))
    (.nop)))
def f'l_words_2'1 : S := .for (.one 8) .rng1 (.nm 3) .non .non (.kil [8, 9] l'l_words_2'1)
def l'l_words_2'0 : S := .seq (.as 7 (.str ""))
    (.seq (f'l_words_2'1)
    (.seq (.app 5 (.nm 7))
    (.nop)))
def f'l_words_2'0 : S := .for (.one 6) .rng1 (.nm 1) .non .non (.kil [6, 7, 8, 9] l'l_words_2'0)
def b'l_words_2 : S :=
    .seq (.ifs (.cmp .eq (.bin .mod (.nm 0) (.int 2)) (.int 0))
    (.seq (.ret (.call 304 (.cons (.bin .fdiv (.nm 0) (.int 2)) (.cons (.nm 1) (.nil)))))
    (.nop))
    (.nop))
    (.seq (.as 2 (.str "abcdefghijklmnopqrstuvwxyz"))
    (.seq (.as 0 (.bin .mod (.bin .mul (.bin .mod (.bin .mul (.nm 0) (.int 69621)) (.int 2147483629)) (.int 48271)) (.int 2147483647)))
    (.seq (.as 3 (.bin .add (.int 1) (.bin .mod (.nm 0) (.int 7))))
    (.seq (.as 4 (.bin .mod (.bin .fdiv (.nm 0) (.int 7)) (.nm 3)))
    (.seq (.as 5 (.lst (.nil)))
    (.seq (f'l_words_2'0)
    (.seq (.ifs (.cmp .eq (.bin .mod (.bin .fdiv (.nm 0) (.int 49)) (.int 4)) (.int 1))
    (.seq (.setL 5 (.int 1) (.bin .add (.idx (.nm 5) (.int 0)) (.idx (.nm 2) (.bin .mod (.bin .fdiv (.nm 0) (.int 196)) (.int 26)))))
    (.nop))
    (.nop))
    (.seq (.ret (.nm 5))
    (.nop)))))))))
def F'l_words_2 : Fd := ⟨2, 10, b'l_words_2⟩
def l'l_drawn_2'0 : S := .seq (.as 3 (.bin .mod (.bin .add (.bin .add (.bin .mul (.nm 3) (.nm 3)) (.bin .mul (.int 48271) (.nm 3))) (.nm 4)) (.int 2147483647)))
    (.seq (.app 2 (.bin .fdiv (.bin .mod (.bin .mul (.nm 3) (.int 69621)) (.int 2147483587)) (.int 16)))
    (.nop))
def f'l_drawn_2'0 : S := .for (.one 4) .rng1 (.nm 1) .non .non (.kil [4] l'l_drawn_2'0)
def l'l_drawn_2'1 : S := .seq (.app 2 (.bin .mod (.nm 5) (.int 1000000)))
    (.seq (.as 5 (.bin .fdiv (.nm 5) (.int 1000000)))
    (.nop))
def f'l_drawn_2'1 : S := .for (.one 4) .rng1 (.nm 1) .non .non (.kil [4] l'l_drawn_2'1)
def b'l_drawn_2 : S :=
    .seq (.as 2 (.lst (.nil)))
    (.seq (.ifs (.cmp .eq (.bin .mod (.nm 0) (.int 2)) (.int 0))
    (.seq (.as 5 (.bin .fdiv (.nm 0) (.int 2)))
    (.seq (f'l_drawn_2'1)
    (.seq (.ret (.nm 2))
    (.nop))))
    (.nop))
    (.seq (.as 3 (.bin .add (.bin .mod (.nm 0) (.int 2147483629)) (.int 1)))
    (.seq (f'l_drawn_2'0)
    (.seq (.ret (.nm 2))
    (.nop)))))
def F'l_drawn_2 : Fd := ⟨2, 6, b'l_drawn_2⟩
def l'l_tables_5'0 : S := .seq (.as 4 (.bin .add (.bin .add (.int 1) (.bin .mod (.nm 3) (.int 3))) (.b1 .int (.cmp .eq (.bin .mod (.bin .fdiv (.nm 3) (.int 3)) (.int 5)) (.int 0)))))
    (.seq (.app 2 (.tup (.cons (.nm 4) (.cons (.b2 .min (.nm 4) (.idx (.lst (.cons (.int 0) (.cons (.int 1) (.cons (.int 1) (.cons (.int 1) (.cons (.int 2) (.cons (.int 4) (.nil)))))))) (.bin .mod (.bin .fdiv (.nm 3) (.int 15)) (.int 6)))) (.nil)))))
    (.nop))
def f'l_tables_5'0 : S := .for (.one 3) .seq (.sl (.nm 1) .non (.bin .add (.int 1) (.bin .mod (.idx (.nm 1) (.int 4)) (.int 4))) false true) .non .non (.kil [3, 4] l'l_tables_5'0)
def b'l_tables_5 : S :=
    .seq (.as 1 (.call 306 (.cons (.nm 0) (.cons (.int 5) (.nil)))))
    (.seq (.as 2 (.lst (.nil)))
    (.seq (f'l_tables_5'0)
    (.seq (.ret (.b1 .tuple (.nm 2)))
    (.nop))))
def F'l_tables_5 : Fd := ⟨1, 5, b'l_tables_5⟩
def c'l_values_2'0 : E := .lc (.nm 10) (.one 10) .seq (.nm 1) .non .non (.cmp .notin (.nm 10) (.nm 7)) true
def l'l_values_2'0 : S := .seq (.ast [9, 5] (.call 303 (.cons (.bin .fdiv (.nm 5) (.int 2)) (.nil))))
    (.seq (.ifs (.cmp .eq (.bin .mod (.nm 5) (.int 2)) (.int 1))
    (.seq (.as 9 (.bin .add (.bin .sub (.bin .mod (.bin .fdiv (.nm 5) (.int 2)) (.bin .sub (.bin .mul (.int 2) (.bin .pow (.int 10) (.int 30))) (.int 1))) (.bin .pow (.int 10) (.int 30))) (.int 1)))
    (.seq (.as 5 (.bin .fdiv (.nm 5) (.bin .sub (.bin .mul (.int 2) (.bin .pow (.int 10) (.int 30))) (.int 1))))
    (.nop)))
    (.nop))
    (.seq (.ifs (.cmp .notin (.nm 9) (.nm 7))
    (.seq (.app 7 (.nm 9))
    (.nop))
    (.nop))
    (.nop)))
def f'l_values_2'0 : S := .for (.one 8) .rng1 (.nm 6) .non .non (.kil [8, 9] l'l_values_2'0)
def b'l_values_2 : S :=
    .seq (.ifs (.cmp .eq (.bin .mod (.nm 0) (.int 2)) (.int 0))
    (.seq (.as 5 (.bin .fdiv (.nm 0) (.int 2)))
    (.seq (.as 6 (.bin .add (.int 2) (.bin .mod (.nm 5) (.int 3))))
    (.seq (.as 5 (.bin .fdiv (.nm 5) (.int 3)))
    (.seq (.as 7 (.lst (.nil)))
    (.seq (f'l_values_2'0)
    (.seq (.ret (.bin .add (.nm 7) (.sl (c'l_values_2'0) .non (.bin .sub (.int 2) (.b2 .min (.int 2) (.b1 .len (.nm 7)))) false true)))
    (.nop)))))))
    (.nop))
    (.seq (.as 2 (.bin .add (.bin .sub (.bin .mod (.nm 0) (.bin .sub (.bin .mul (.int 2) (.bin .pow (.int 10) (.int 30))) (.int 2))) (.bin .pow (.int 10) (.int 30))) (.int 1)))
    (.seq (.as 3 (.lst (.cons (.nm 2) (.cons (.bin .add (.nm 2) (.int 1)) (.cons (.idx (.nm 1) (.int 0)) (.cons (.idx (.nm 1) (.int 1)) (.nil)))))))
    (.seq (.as 4 (.bin .mod (.bin .fdiv (.nm 0) (.int 5)) (.int 4)))
    (.seq (.ret (.sl (.bin .add (.sl (.nm 3) (.nm 4) .non true false) (.sl (.nm 3) .non (.nm 4) false true)) .non (.bin .add (.int 2) (.bin .mod (.nm 0) (.int 3))) false true))
    (.nop)))))
def F'l_values_2 : Fd := ⟨2, 11, b'l_values_2⟩
def b'l_term_2 : S :=
    .seq (.ifs (.cmp .eq (.bin .mod (.nm 0) (.int 6)) (.int 0))
    (.seq (.ret (.tup (.cons (.str "is") (.cons (.idx (.nm 2) (.bin .mod (.bin .fdiv (.nm 0) (.int 6)) (.b1 .len (.nm 2)))) (.nil)))))
    (.nop))
    (.nop))
    (.seq (.ret (.tup (.cons (.str "var") (.cons (.idx (.nm 1) (.bin .mod (.bin .fdiv (.nm 0) (.int 6)) (.b1 .len (.nm 1)))) (.nil)))))
    (.nop))
def F'l_term_2 : Fd := ⟨3, 3, b'l_term_2⟩
def l'l_standing'1 : S := .seq (.ifs (.cmp .eq (.idx (.nm 4) (.int 0)) (.str "var"))
    (.seq (.setL 1 (.idx (.nm 4) (.int 1)) (.bl true))
    (.nop))
    (.nop))
    (.nop)
def f'l_standing'1 : S := .for (.one 4) .seq (.nm 3) .non .non (.kil [4] l'l_standing'1)
def l'l_standing'0 : S := .seq (f'l_standing'1)
    (.nop)
def f'l_standing'0 : S := .for (.tup [2, 3]) .seq (.nm 0) .non .non (.kil [2, 3, 4] l'l_standing'0)
def b'l_standing : S :=
    .seq (.as 1 (.dnew))
    (.seq (f'l_standing'0)
    (.seq (.ret (.sortT 1))
    (.nop)))
def F'l_standing : Fd := ⟨1, 5, b'l_standing⟩
def c'l_question_3'0 : E := .lc (.idx (.nm 8) (.nm 7)) (.one 7) .rng1 (.b1 .len (.nm 8)) .non .non (.cmp .eq (.bin .mod (.bin .fdiv (.idx (.nm 0) (.int 1)) (.idx (.lst (.cons (.int 1) (.cons (.int 3) (.cons (.int 9) (.cons (.int 27) (.nil)))))) (.nm 7))) (.int 3)) (.int 1)) true
def c'l_question_3'1 : E := .lc (.call 309 (.cons (.nm 12) (.cons (.nm 2) (.cons (.nm 3) (.nil))))) (.one 12) .seq (.sl (.nm 10) .non (.nm 11) false true) .non .non .non false
def l'l_question_3'0 : S := .seq (.as 10 (.call 306 (.cons (.idx (.nm 0) (.bin .add (.int 2) (.nm 7))) (.cons (.int 4) (.nil)))))
    (.seq (.as 11 (.idx (.idx (.nm 1) (.idx (.nm 5) (.nm 7))) (.int 0)))
    (.seq (.app 6 (.tup (.cons (.idx (.nm 5) (.nm 7)) (.cons (.b1 .tuple (c'l_question_3'1)) (.nil)))))
    (.nop)))
def f'l_question_3'0 : S := .for (.one 7) .rng1 (.nm 4) .non .non (.kil [7, 10, 11, 12] l'l_question_3'0)
def c'l_question_3'2 : E := .lc (.bin .mod (.bin .add (.bin .fdiv (.idx (.nm 0) (.int 0)) (.int 4)) (.nm 7)) (.b1 .len (.nm 1))) (.one 7) .rng1 (.b1 .len (.nm 1)) .non .non .non false
def b'l_question_3 : S :=
    .seq (.as 4 (.bin .add (.int 1) (.bin .mod (.idx (.nm 0) (.int 0)) (.b1 .len (.nm 1)))))
    (.seq (.as 5 (c'l_question_3'2))
    (.seq (.ifs (.cmp .eq (.bin .mod (.bin .fdiv (.idx (.nm 0) (.int 0)) (.int 16)) (.int 2)) (.int 1))
    (.seq (.ex (.rvl 5))
    (.nop))
    (.nop))
    (.seq (.as 6 (.lst (.nil)))
    (.seq (f'l_question_3'0)
    (.seq (.as 8 (.call 310 (.cons (.nm 6) (.nil))))
    (.seq (.as 9 (c'l_question_3'0))
    (.seq (.ifs (.cmp .eq (.bin .mod (.bin .fdiv (.idx (.nm 0) (.int 1)) (.int 81)) (.int 2)) (.int 1))
    (.seq (.ex (.rvl 9))
    (.nop))
    (.nop))
    (.seq (.ret (.tup (.cons (.b1 .tuple (.sl (.nm 9) .non (.int 2) false true)) (.cons (.b1 .tuple (.nm 6)) (.nil)))))
    (.nop)))))))))
def F'l_question_3 : Fd := ⟨4, 13, b'l_question_3⟩
def l'l_same_2'0 : S := .seq (.ifs (.not (.call 318 (.cons (.nm 2) (.cons (.nm 3) (.nil)))))
    (.seq (.ret (.bl false))
    (.nop))
    (.nop))
    (.nop)
def f'l_same_2'0 : S := .for (.tup [2, 3]) .zip (.nm 0) (.nm 1) .non (.kil [2, 3] l'l_same_2'0)
def b'l_same_2 : S :=
    .seq (.ifs (.cmp .isN (.nm 1) (.non))
    (.seq (.ret (.cmp .isN (.nm 0) (.non)))
    (.nop))
    (.nop))
    (.seq (.ifs (.isi (.nm 1) .str)
    (.seq (.ret (.and (.isi (.nm 0) .str) (.one (.cmp .eq (.nm 0) (.nm 1)))))
    (.nop))
    (.nop))
    (.seq (.ifs (.isi (.nm 1) .int)
    (.seq (.ret (.and (.isi (.nm 0) .int) (.and (.not (.isi (.nm 0) .bool)) (.one (.cmp .eq (.nm 0) (.nm 1))))))
    (.nop))
    (.nop))
    (.seq (.ifs (.and (.isi (.nm 1) .list) (.one (.not (.isi (.nm 0) .list))))
    (.seq (.ret (.bl false))
    (.nop))
    (.nop))
    (.seq (.ifs (.and (.isi (.nm 1) .tuple) (.one (.not (.isi (.nm 0) .tuple))))
    (.seq (.ret (.bl false))
    (.nop))
    (.nop))
    (.seq (.ifs (.cmp .ne (.b1 .len (.nm 0)) (.b1 .len (.nm 1)))
    (.seq (.ret (.bl false))
    (.nop))
    (.nop))
    (.seq (f'l_same_2'0)
    (.seq (.ret (.bl true))
    (.nop))))))))
def F'l_same_2 : Fd := ⟨2, 4, b'l_same_2⟩
def c'l_names_2'0 : E := .lc (.idx (.nm 2) (.int 1)) (.one 2) .seq (.idx (.nm 0) (.int 1)) .non .non (.and (.cmp .eq (.idx (.nm 2) (.int 0)) (.str "var")) (.one (.cmp .notin (.idx (.nm 2) (.int 1)) (.nm 1)))) true
def b'l_names_2 : S :=
    .seq (.ret (.sset (c'l_names_2'0)))
    (.nop)
def F'l_names_2 : Fd := ⟨2, 3, b'l_names_2⟩
def c'l_known'0 : E := .lc (.nm 11) (.one 11) .seq (.nm 10) .non .non (.cmp .notin (.nm 11) (.nm 4)) true
def c'l_known'1 : E := .lc (.nm 11) (.one 11) .seq (.call 319 (.cons (.nm 9) (.cons (.nm 6) (.nil)))) .non .non (.cmp .notin (.nm 11) (.nm 4)) true
def l'l_known'1 : S := .seq (.as 10 (.call 319 (.cons (.tup (.cons (.int 0) (.cons (.sl (.idx (.nm 9) (.int 1)) .non (.idx (.idx (.nm 0) (.idx (.nm 9) (.int 0))) (.int 1)) false true) (.nil)))) (.cons (.nm 6) (.nil)))))
    (.seq (.ifs (.and (.cmp .ne (.nm 8) (.nm 2)) (.one (.cmp .eq (c'l_known'0) (.lst (.nil)))))
    (.seq (.as 4 (.bin .add (.nm 4) (c'l_known'1)))
    (.nop))
    (.nop))
    (.nop))
def f'l_known'1 : S := .for (.tup [8, 9]) .enum (.nm 7) .non .non (.kil [8, 9, 10, 11] l'l_known'1)
def l'l_known'0 : S := .seq (f'l_known'1)
    (.nop)
def f'l_known'0 : S := .for (.one 5) .rng1 (.b1 .len (.nm 7)) .non .non (.kil [5, 8, 9, 10, 11] l'l_known'0)
def b'l_known : S :=
    .seq (.ast [6, 7] (.nm 1))
    (.seq (.as 3 (.idx (.idx (.nm 0) (.idx (.idx (.nm 7) (.nm 2)) (.int 0))) (.int 1)))
    (.seq (.as 4 (.call 319 (.cons (.tup (.cons (.int 0) (.cons (.sl (.idx (.idx (.nm 7) (.nm 2)) (.int 1)) .non (.nm 3) false true) (.nil)))) (.cons (.nm 6) (.nil)))))
    (.seq (f'l_known'0)
    (.seq (.ret (.b1 .sorted (.nm 4)))
    (.nop)))))
def F'l_known : Fd := ⟨3, 12, b'l_known⟩
def c'l_linked'0 : E := .lc (.nm 6) (.one 6) .seq (.call 319 (.cons (.idx (.nm 0) (.nm 3)) (.cons (.nm 1) (.nil)))) .non .non (.and (.cmp .isin (.nm 6) (.nm 5)) (.one (.cmp .notin (.nm 6) (.nm 2)))) true
def b'l_linked : S :=
    .seq (.as 5 (.call 319 (.cons (.idx (.nm 0) (.nm 4)) (.cons (.nm 1) (.nil)))))
    (.seq (.ret (.cmp .ne (c'l_linked'0) (.lst (.nil))))
    (.nop))
def F'l_linked : Fd := ⟨5, 7, b'l_linked⟩
def l'l_valued'1 : S := .seq (.ifs (.and (.cmp .eq (.idx (.nm 6) (.int 0)) (.str "var")) (.one (.cmp .isin (.idx (.nm 6) (.int 1)) (.idx (.nm 0) (.int 0)))))
    (.seq (.app 5 (.tup (.cons (.str "is") (.cons (.nm 1) (.nil)))))
    (.nop))
    (.seq (.app 5 (.nm 6))
    (.nop)))
    (.nop)
def f'l_valued'1 : S := .for (.one 6) .seq (.nm 4) .non .non (.kil [6] l'l_valued'1)
def l'l_valued'0 : S := .seq (.as 5 (.lst (.nil)))
    (.seq (f'l_valued'1)
    (.seq (.app 2 (.tup (.cons (.nm 3) (.cons (.b1 .tuple (.nm 5)) (.nil)))))
    (.nop)))
def f'l_valued'0 : S := .for (.tup [3, 4]) .seq (.idx (.nm 0) (.int 1)) .non .non (.kil [3, 4, 5, 6] l'l_valued'0)
def b'l_valued : S :=
    .seq (.as 2 (.lst (.nil)))
    (.seq (f'l_valued'0)
    (.seq (.ret (.tup (.cons (.tup (.nil)) (.cons (.b1 .tuple (.nm 2)) (.nil)))))
    (.nop)))
def F'l_valued : Fd := ⟨2, 7, b'l_valued⟩
def c'l_turned_2'0 : E := .lc (.idx (.idx (.nm 0) (.int 1)) (.nm 4)) (.one 4) .seq (.nm 3) .non .non .non false
def c'l_turned_2'1 : E := .lc (.bin .mod (.bin .add (.nm 1) (.nm 4)) (.nm 2)) (.one 4) .rng1 (.nm 2) .non .non .non false
def b'l_turned_2 : S :=
    .seq (.as 2 (.b1 .len (.idx (.nm 0) (.int 1))))
    (.seq (.as 3 (c'l_turned_2'1))
    (.seq (.ifs (.cmp .eq (.bin .mod (.bin .fdiv (.nm 1) (.int 4)) (.int 2)) (.int 1))
    (.seq (.ex (.rvl 3))
    (.nop))
    (.nop))
    (.seq (.ret (.tup (.cons (.nm 3) (.cons (.tup (.cons (.idx (.nm 0) (.int 0)) (.cons (.b1 .tuple (c'l_turned_2'0)) (.nil)))) (.nil)))))
    (.nop))))
def F'l_turned_2 : Fd := ⟨2, 5, b'l_turned_2⟩
def c'l_row_5'0 : E := .lc (.idx (.lst (.cons (.tup (.cons (.str "is") (.cons (.bin .mod (.bin .fdiv (.nm 11) (.int 2)) (.bin .pow (.int 10) (.int 8))) (.nil)))) (.cons (.tup (.cons (.str "var") (.cons (.idx (.nm 1) (.nm 7)) (.nil)))) (.nil)))) (.bin .mod (.nm 11) (.int 2))) (.one 11) .seq (.sl (.nm 8) (.int 1) (.int 3) true true) .non .non .non false
def l'l_row_5'0 : S := .seq (.as 8 (.call 306 (.cons (.call 16 (.cons (.nm 0) (.cons (.bin .add (.int 4) (.nm 7)) (.nil)))) (.cons (.int 6) (.nil)))))
    (.seq (.as 9 (.bin .add (.nm 7) (.int 1)))
    (.seq (.ifs (.and (.nm 3) (.one (.cmp .eq (.nm 9) (.nm 2))))
    (.seq (.as 9 (.int 0))
    (.nop))
    (.nop))
    (.seq (.as 10 (.lst (.cons (.tup (.cons (.str "var") (.cons (.idx (.nm 1) (.nm 7)) (.nil)))) (.cons (.tup (.cons (.str "var") (.cons (.idx (.nm 1) (.nm 9)) (.nil)))) (.nil)))))
    (.seq (.as 10 (.bin .add (.nm 10) (c'l_row_5'0)))
    (.seq (.app 5 (.tup (.cons (.idx (.nm 6) (.nm 7)) (.cons (.b1 .tuple (.sl (.nm 10) .non (.idx (.idx (.nm 4) (.idx (.nm 6) (.nm 7))) (.int 0)) false true)) (.nil)))))
    (.nop))))))
def f'l_row_5'0 : S := .for (.one 7) .rng1 (.nm 2) .non .non (.kil [7, 8, 9, 10, 11] l'l_row_5'0)
def l'l_row_5'1 : S := .seq (.as 8 (.call 306 (.cons (.call 16 (.cons (.nm 0) (.cons (.bin .add (.int 4) (.nm 7)) (.nil)))) (.cons (.int 6) (.nil)))))
    (.seq (.app 4 (.tup (.cons (.bin .add (.int 2) (.bin .mod (.idx (.nm 8) (.int 0)) (.int 3))) (.cons (.int 1) (.nil)))))
    (.nop))
def f'l_row_5'1 : S := .for (.one 7) .rng1 (.nm 2) .non .non (.kil [7, 8] l'l_row_5'1)
def c'l_row_5'1 : E := .lc (.bin .mod (.bin .add (.bin .fdiv (.call 16 (.cons (.nm 0) (.cons (.int 1) (.nil)))) (.int 8)) (.nm 7)) (.nm 2)) (.one 7) .rng1 (.nm 2) .non .non .non false
def b'l_row_5 : S :=
    .seq (.as 4 (.lst (.nil)))
    (.seq (.as 5 (.lst (.nil)))
    (.seq (.as 6 (c'l_row_5'1))
    (.seq (f'l_row_5'1)
    (.seq (f'l_row_5'0)
    (.seq (.ret (.tup (.cons (.b1 .tuple (.nm 4)) (.cons (.nm 5) (.nil)))))
    (.nop))))))
def F'l_row_5 : Fd := ⟨4, 12, b'l_row_5⟩
def b'l_next : S :=
    .seq (.ifs (.and (.nm 1) (.one (.cmp .eq (.bin .add (.nm 2) (.int 1)) (.nm 0))))
    (.seq (.ret (.int 0))
    (.nop))
    (.nop))
    (.seq (.ret (.bin .add (.nm 2) (.int 1)))
    (.nop))
def F'l_next : Fd := ⟨3, 3, b'l_next⟩
def l'l_names_3'0 : S := .seq (.as 6 (.call 332 (.cons (.nm 1) (.cons (.nm 2) (.cons (.nm 6) (.nil))))))
    (.seq (.app 5 (.idx (.nm 0) (.nm 6)))
    (.nop))
def w'l_names_3'0 : S := .whl 100000 (.and (.cmp .ne (.nm 6) (.nm 4)) (.one (.cmp .lt (.nm 6) (.nm 1)))) (.kil [] l'l_names_3'0)
def b'l_names_3 : S :=
    .seq (.as 5 (.lst (.nil)))
    (.seq (.ifs (.cmp .ne (.nm 4) (.nm 3))
    (.seq (.app 5 (.idx (.nm 0) (.nm 4)))
    (.nop))
    (.nop))
    (.seq (.as 6 (.nm 4))
    (.seq (.ifs (.cmp .notN (.nm 3) (.non))
    (.seq (.as 6 (.nm 3))
    (.nop))
    (.nop))
    (.seq (w'l_names_3'0)
    (.seq (.ret (.sset (.nm 5)))
    (.nop))))))
def F'l_names_3 : Fd := ⟨5, 7, b'l_names_3⟩
def l'l_behind'0 : S := .seq (.app 4 (.nm 5))
    (.seq (.as 5 (.call 332 (.cons (.nm 0) (.cons (.nm 1) (.cons (.nm 5) (.nil))))))
    (.nop))
def w'l_behind'0 : S := .whl 100000 (.and (.cmp .ne (.nm 5) (.nm 3)) (.and (.cmp .lt (.nm 5) (.nm 0)) (.one (.cmp .ne (.nm 5) (.nm 2))))) (.kil [] l'l_behind'0)
def b'l_behind : S :=
    .seq (.as 4 (.lst (.nil)))
    (.seq (.as 5 (.call 332 (.cons (.nm 0) (.cons (.nm 1) (.cons (.nm 3) (.nil))))))
    (.seq (w'l_behind'0)
    (.seq (.ret (.nm 4))
    (.nop))))
def F'l_behind : Fd := ⟨4, 6, b'l_behind⟩
def c'law_k65'0 : E := .lc (.tup (.cons (.nm 9) (.cons (.bin .mod (.bin .sub (.nm 13) (.nm 6)) (.nm 2)) (.nil)))) (.one 13) .seq (.call 334 (.cons (.nm 2) (.cons (.nm 3) (.cons (.nm 4) (.cons (.nm 12) (.nil)))))) .non .non .non false
def l'law_k65'0 : S := .seq (.as 12 (.bin .mod (.bin .add (.nm 6) (.nm 9)) (.nm 2)))
    (.seq (.ifs (.cmp .ne (.call 300 (.cons (.nm 10) (.cons (.nm 7) (.cons (.nm 9) (.nil))))) (.call 333 (.cons (.nm 1) (.cons (.nm 2) (.cons (.nm 3) (.cons (.nm 4) (.cons (.nm 12) (.nil))))))))
    (.seq (.ret (.bl false))
    (.nop))
    (.nop))
    (.seq (.as 8 (.bin .add (.nm 8) (c'law_k65'0)))
    (.nop)))
def f'law_k65'0 : S := .for (.one 9) .rng1 (.nm 2) .non .non (.kil [9, 12, 13] l'law_k65'0)
def b'law_k65 : S :=
    .seq (.as 1 (.call 305 (.cons (.call 16 (.cons (.nm 0) (.cons (.int 0) (.nil)))) (.cons (.int 5) (.nil)))))
    (.seq (.as 2 (.bin .add (.int 1) (.bin .mod (.call 16 (.cons (.nm 0) (.cons (.int 1) (.nil)))) (.int 4))))
    (.seq (.as 3 (.cmp .eq (.bin .mod (.bin .fdiv (.call 16 (.cons (.nm 0) (.cons (.int 1) (.nil)))) (.int 4)) (.int 2)) (.int 1)))
    (.seq (.ast [10, 11] (.call 331 (.cons (.nm 0) (.cons (.nm 1) (.cons (.nm 2) (.cons (.nm 3) (.nil)))))))
    (.seq (.as 4 (.non))
    (.seq (.as 5 (.tup (.nil)))
    (.seq (.ifs (.cmp .eq (.bin .mod (.call 16 (.cons (.nm 0) (.cons (.int 2) (.nil)))) (.int 3)) (.int 1))
    (.seq (.as 4 (.bin .mod (.bin .fdiv (.call 16 (.cons (.nm 0) (.cons (.int 2) (.nil)))) (.int 3)) (.bin .sub (.bin .add (.nm 2) (.int 1)) (.b1 .int (.nm 3)))))
    (.seq (.as 5 (.tup (.cons (.idx (.nm 1) (.nm 4)) (.nil))))
    (.nop)))
    (.nop))
    (.seq (.as 6 (.bin .mod (.call 16 (.cons (.nm 0) (.cons (.int 3) (.nil)))) (.nm 2)))
    (.seq (.as 7 (.tup (.cons (.nm 5) (.cons (.b1 .tuple (.bin .add (.sl (.nm 11) (.nm 6) .non true false) (.sl (.nm 11) .non (.nm 6) false true))) (.nil)))))
    (.seq (.as 8 (.lst (.nil)))
    (.seq (f'law_k65'0)
    (.seq (.ifs (.cmp .ne (.call 301 (.cons (.nm 10) (.cons (.nm 7) (.nil)))) (.b1 .sorted (.nm 8)))
    (.seq (.ret (.bl false))
    (.nop))
    (.nop))
    (.seq (.ret (.cmp .eq (.cmp .isN (.call 302 (.cons (.nm 10) (.cons (.nm 7) (.nil)))) (.non)) (.or (.not (.nm 3)) (.or (.cmp .eq (.nm 2) (.int 1)) (.one (.cmp .notN (.nm 4) (.non)))))))
    (.nop)))))))))))))
def F'law_k65 : Fd := ⟨1, 14, b'law_k65⟩
def con (x : Str) : Option Da :=  none
def Pg0 : Pg := ⟨con, fun _ _ => false⟩
def DGl : List (Nat × Fd) := [(16, F'l_cell_at), (294, F'names_in), (295, F'key_names), (296, F'known_to), (297, F'share), (298, F'swayed), (299, F'check_double), (300, F'known), (301, F'sways), (302, F'ring), (303, F'l_name_in), (304, F'l_words_by_digits), (305, F'l_words_2), (306, F'l_drawn_2), (307, F'l_tables_5), (308, F'l_values_2), (309, F'l_term_2), (310, F'l_standing), (311, F'l_question_3), (318, F'l_same_2), (319, F'l_names_2), (320, F'l_known), (322, F'l_linked), (325, F'l_valued), (326, F'l_turned_2), (331, F'l_row_5), (332, F'l_next), (333, F'l_names_3), (334, F'l_behind), (335, F'law_k65)]
def DG (f : Nat) : Option Fd := lookG DGl f
abbrev i'l_cell_at : Nat := 16
theorem at'l_cell_at : DG 16 = some F'l_cell_at := by kernel_rfl
theorem run'l_cell_at (n : Nat) (t0 t1 : T) : Md.run Pg0 DG (n + 1) 16 [t0, t1] = Md.finish [t0, t1] (Md.exec Pg0 (flg [t0, t1]) (Md.run Pg0 DG n) b'l_cell_at [some t0, some t1]) := run_at at'l_cell_at rfl
abbrev i'names_in : Nat := 294
theorem at'names_in : DG 294 = some F'names_in := by kernel_rfl
theorem run'names_in (n : Nat) (t0 t1 : T) : Md.run Pg0 DG (n + 1) 294 [t0, t1] = Md.finish [t0, t1] (Md.exec Pg0 (flg [t0, t1]) (Md.run Pg0 DG n) b'names_in [some t0, some t1, none]) := run_at at'names_in rfl
abbrev i'key_names : Nat := 295
theorem at'key_names : DG 295 = some F'key_names := by kernel_rfl
theorem run'key_names (n : Nat) (t0 t1 t2 : T) : Md.run Pg0 DG (n + 1) 295 [t0, t1, t2] = Md.finish [t0, t1, t2] (Md.exec Pg0 (flg [t0, t1, t2]) (Md.run Pg0 DG n) b'key_names [some t0, some t1, some t2]) := run_at at'key_names rfl
abbrev i'known_to : Nat := 296
theorem at'known_to : DG 296 = some F'known_to := by kernel_rfl
theorem run'known_to (n : Nat) (t0 t1 t2 t3 : T) : Md.run Pg0 DG (n + 1) 296 [t0, t1, t2, t3] = Md.finish [t0, t1, t2, t3] (Md.exec Pg0 (flg [t0, t1, t2, t3]) (Md.run Pg0 DG n) b'known_to [some t0, some t1, some t2, some t3, none, none, none, none, none, none]) := run_at at'known_to rfl
abbrev i'share : Nat := 297
theorem at'share : DG 297 = some F'share := by kernel_rfl
theorem run'share (n : Nat) (t0 t1 t2 t3 : T) : Md.run Pg0 DG (n + 1) 297 [t0, t1, t2, t3] = Md.finish [t0, t1, t2, t3] (Md.exec Pg0 (flg [t0, t1, t2, t3]) (Md.run Pg0 DG n) b'share [some t0, some t1, some t2, some t3, none, none]) := run_at at'share rfl
abbrev i'swayed : Nat := 298
theorem at'swayed : DG 298 = some F'swayed := by kernel_rfl
theorem run'swayed (n : Nat) (t0 t1 t2 t3 : T) : Md.run Pg0 DG (n + 1) 298 [t0, t1, t2, t3] = Md.finish [t0, t1, t2, t3] (Md.exec Pg0 (flg [t0, t1, t2, t3]) (Md.run Pg0 DG n) b'swayed [some t0, some t1, some t2, some t3, none, none, none, none]) := run_at at'swayed rfl
abbrev i'check_double : Nat := 299
theorem at'check_double : DG 299 = some F'check_double := by kernel_rfl
theorem run'check_double (n : Nat) (t0 : T) : Md.run Pg0 DG (n + 1) 299 [t0] = Md.finish [t0] (Md.exec Pg0 (flg [t0]) (Md.run Pg0 DG n) b'check_double [some t0, none, none, none]) := run_at at'check_double rfl
abbrev i'known : Nat := 300
theorem at'known : DG 300 = some F'known := by kernel_rfl
theorem run'known (n : Nat) (t0 t1 t2 : T) : Md.run Pg0 DG (n + 1) 300 [t0, t1, t2] = Md.finish [t0, t1, t2] (Md.exec Pg0 (flg [t0, t1, t2]) (Md.run Pg0 DG n) b'known [some t0, some t1, some t2]) := run_at at'known rfl
abbrev i'sways : Nat := 301
theorem at'sways : DG 301 = some F'sways := by kernel_rfl
theorem run'sways (n : Nat) (t0 t1 : T) : Md.run Pg0 DG (n + 1) 301 [t0, t1] = Md.finish [t0, t1] (Md.exec Pg0 (flg [t0, t1]) (Md.run Pg0 DG n) b'sways [some t0, some t1, none, none, none]) := run_at at'sways rfl
abbrev i'ring : Nat := 302
theorem at'ring : DG 302 = some F'ring := by kernel_rfl
theorem run'ring (n : Nat) (t0 t1 : T) : Md.run Pg0 DG (n + 1) 302 [t0, t1] = Md.finish [t0, t1] (Md.exec Pg0 (flg [t0, t1]) (Md.run Pg0 DG n) b'ring [some t0, some t1, none, none, none, none, none, none, none]) := run_at at'ring rfl
abbrev i'l_name_in : Nat := 303
theorem at'l_name_in : DG 303 = some F'l_name_in := by kernel_rfl
theorem run'l_name_in (n : Nat) (t0 : T) : Md.run Pg0 DG (n + 1) 303 [t0] = Md.finish [t0] (Md.exec Pg0 (flg [t0]) (Md.run Pg0 DG n) b'l_name_in [some t0, none, none, none, none]) := run_at at'l_name_in rfl
abbrev i'l_words_by_digits : Nat := 304
theorem at'l_words_by_digits : DG 304 = some F'l_words_by_digits := by kernel_rfl
theorem run'l_words_by_digits (n : Nat) (t0 t1 : T) : Md.run Pg0 DG (n + 1) 304 [t0, t1] = Md.finish [t0, t1] (Md.exec Pg0 (flg [t0, t1]) (Md.run Pg0 DG n) b'l_words_by_digits [some t0, some t1, none, none, none, none]) := run_at at'l_words_by_digits rfl
abbrev i'l_words_2 : Nat := 305
theorem at'l_words_2 : DG 305 = some F'l_words_2 := by kernel_rfl
theorem run'l_words_2 (n : Nat) (t0 t1 : T) : Md.run Pg0 DG (n + 1) 305 [t0, t1] = Md.finish [t0, t1] (Md.exec Pg0 (flg [t0, t1]) (Md.run Pg0 DG n) b'l_words_2 [some t0, some t1, none, none, none, none, none, none, none, none]) := run_at at'l_words_2 rfl
abbrev i'l_drawn_2 : Nat := 306
theorem at'l_drawn_2 : DG 306 = some F'l_drawn_2 := by kernel_rfl
theorem run'l_drawn_2 (n : Nat) (t0 t1 : T) : Md.run Pg0 DG (n + 1) 306 [t0, t1] = Md.finish [t0, t1] (Md.exec Pg0 (flg [t0, t1]) (Md.run Pg0 DG n) b'l_drawn_2 [some t0, some t1, none, none, none, none]) := run_at at'l_drawn_2 rfl
abbrev i'l_tables_5 : Nat := 307
theorem at'l_tables_5 : DG 307 = some F'l_tables_5 := by kernel_rfl
theorem run'l_tables_5 (n : Nat) (t0 : T) : Md.run Pg0 DG (n + 1) 307 [t0] = Md.finish [t0] (Md.exec Pg0 (flg [t0]) (Md.run Pg0 DG n) b'l_tables_5 [some t0, none, none, none, none]) := run_at at'l_tables_5 rfl
abbrev i'l_values_2 : Nat := 308
theorem at'l_values_2 : DG 308 = some F'l_values_2 := by kernel_rfl
theorem run'l_values_2 (n : Nat) (t0 t1 : T) : Md.run Pg0 DG (n + 1) 308 [t0, t1] = Md.finish [t0, t1] (Md.exec Pg0 (flg [t0, t1]) (Md.run Pg0 DG n) b'l_values_2 [some t0, some t1, none, none, none, none, none, none, none, none, none]) := run_at at'l_values_2 rfl
abbrev i'l_term_2 : Nat := 309
theorem at'l_term_2 : DG 309 = some F'l_term_2 := by kernel_rfl
theorem run'l_term_2 (n : Nat) (t0 t1 t2 : T) : Md.run Pg0 DG (n + 1) 309 [t0, t1, t2] = Md.finish [t0, t1, t2] (Md.exec Pg0 (flg [t0, t1, t2]) (Md.run Pg0 DG n) b'l_term_2 [some t0, some t1, some t2]) := run_at at'l_term_2 rfl
abbrev i'l_standing : Nat := 310
theorem at'l_standing : DG 310 = some F'l_standing := by kernel_rfl
theorem run'l_standing (n : Nat) (t0 : T) : Md.run Pg0 DG (n + 1) 310 [t0] = Md.finish [t0] (Md.exec Pg0 (flg [t0]) (Md.run Pg0 DG n) b'l_standing [some t0, none, none, none, none]) := run_at at'l_standing rfl
abbrev i'l_question_3 : Nat := 311
theorem at'l_question_3 : DG 311 = some F'l_question_3 := by kernel_rfl
theorem run'l_question_3 (n : Nat) (t0 t1 t2 t3 : T) : Md.run Pg0 DG (n + 1) 311 [t0, t1, t2, t3] = Md.finish [t0, t1, t2, t3] (Md.exec Pg0 (flg [t0, t1, t2, t3]) (Md.run Pg0 DG n) b'l_question_3 [some t0, some t1, some t2, some t3, none, none, none, none, none, none, none, none, none]) := run_at at'l_question_3 rfl
abbrev i'l_same_2 : Nat := 318
theorem at'l_same_2 : DG 318 = some F'l_same_2 := by kernel_rfl
theorem run'l_same_2 (n : Nat) (t0 t1 : T) : Md.run Pg0 DG (n + 1) 318 [t0, t1] = Md.finish [t0, t1] (Md.exec Pg0 (flg [t0, t1]) (Md.run Pg0 DG n) b'l_same_2 [some t0, some t1, none, none]) := run_at at'l_same_2 rfl
abbrev i'l_names_2 : Nat := 319
theorem at'l_names_2 : DG 319 = some F'l_names_2 := by kernel_rfl
theorem run'l_names_2 (n : Nat) (t0 t1 : T) : Md.run Pg0 DG (n + 1) 319 [t0, t1] = Md.finish [t0, t1] (Md.exec Pg0 (flg [t0, t1]) (Md.run Pg0 DG n) b'l_names_2 [some t0, some t1, none]) := run_at at'l_names_2 rfl
abbrev i'l_known : Nat := 320
theorem at'l_known : DG 320 = some F'l_known := by kernel_rfl
theorem run'l_known (n : Nat) (t0 t1 t2 : T) : Md.run Pg0 DG (n + 1) 320 [t0, t1, t2] = Md.finish [t0, t1, t2] (Md.exec Pg0 (flg [t0, t1, t2]) (Md.run Pg0 DG n) b'l_known [some t0, some t1, some t2, none, none, none, none, none, none, none, none, none]) := run_at at'l_known rfl
abbrev i'l_linked : Nat := 322
theorem at'l_linked : DG 322 = some F'l_linked := by kernel_rfl
theorem run'l_linked (n : Nat) (t0 t1 t2 t3 t4 : T) : Md.run Pg0 DG (n + 1) 322 [t0, t1, t2, t3, t4] = Md.finish [t0, t1, t2, t3, t4] (Md.exec Pg0 (flg [t0, t1, t2, t3, t4]) (Md.run Pg0 DG n) b'l_linked [some t0, some t1, some t2, some t3, some t4, none, none]) := run_at at'l_linked rfl
abbrev i'l_valued : Nat := 325
theorem at'l_valued : DG 325 = some F'l_valued := by kernel_rfl
theorem run'l_valued (n : Nat) (t0 t1 : T) : Md.run Pg0 DG (n + 1) 325 [t0, t1] = Md.finish [t0, t1] (Md.exec Pg0 (flg [t0, t1]) (Md.run Pg0 DG n) b'l_valued [some t0, some t1, none, none, none, none, none]) := run_at at'l_valued rfl
abbrev i'l_turned_2 : Nat := 326
theorem at'l_turned_2 : DG 326 = some F'l_turned_2 := by kernel_rfl
theorem run'l_turned_2 (n : Nat) (t0 t1 : T) : Md.run Pg0 DG (n + 1) 326 [t0, t1] = Md.finish [t0, t1] (Md.exec Pg0 (flg [t0, t1]) (Md.run Pg0 DG n) b'l_turned_2 [some t0, some t1, none, none, none]) := run_at at'l_turned_2 rfl
abbrev i'l_row_5 : Nat := 331
theorem at'l_row_5 : DG 331 = some F'l_row_5 := by kernel_rfl
theorem run'l_row_5 (n : Nat) (t0 t1 t2 t3 : T) : Md.run Pg0 DG (n + 1) 331 [t0, t1, t2, t3] = Md.finish [t0, t1, t2, t3] (Md.exec Pg0 (flg [t0, t1, t2, t3]) (Md.run Pg0 DG n) b'l_row_5 [some t0, some t1, some t2, some t3, none, none, none, none, none, none, none, none]) := run_at at'l_row_5 rfl
abbrev i'l_next : Nat := 332
theorem at'l_next : DG 332 = some F'l_next := by kernel_rfl
theorem run'l_next (n : Nat) (t0 t1 t2 : T) : Md.run Pg0 DG (n + 1) 332 [t0, t1, t2] = Md.finish [t0, t1, t2] (Md.exec Pg0 (flg [t0, t1, t2]) (Md.run Pg0 DG n) b'l_next [some t0, some t1, some t2]) := run_at at'l_next rfl
abbrev i'l_names_3 : Nat := 333
theorem at'l_names_3 : DG 333 = some F'l_names_3 := by kernel_rfl
theorem run'l_names_3 (n : Nat) (t0 t1 t2 t3 t4 : T) : Md.run Pg0 DG (n + 1) 333 [t0, t1, t2, t3, t4] = Md.finish [t0, t1, t2, t3, t4] (Md.exec Pg0 (flg [t0, t1, t2, t3, t4]) (Md.run Pg0 DG n) b'l_names_3 [some t0, some t1, some t2, some t3, some t4, none, none]) := run_at at'l_names_3 rfl
abbrev i'l_behind : Nat := 334
theorem at'l_behind : DG 334 = some F'l_behind := by kernel_rfl
theorem run'l_behind (n : Nat) (t0 t1 t2 t3 : T) : Md.run Pg0 DG (n + 1) 334 [t0, t1, t2, t3] = Md.finish [t0, t1, t2, t3] (Md.exec Pg0 (flg [t0, t1, t2, t3]) (Md.run Pg0 DG n) b'l_behind [some t0, some t1, some t2, some t3, none, none]) := run_at at'l_behind rfl
abbrev i'law_k65 : Nat := 335
theorem at'law_k65 : DG 335 = some F'law_k65 := by kernel_rfl
theorem run'law_k65 (n : Nat) (t0 : T) : Md.run Pg0 DG (n + 1) 335 [t0] = Md.finish [t0] (Md.exec Pg0 (flg [t0]) (Md.run Pg0 DG n) b'law_k65 [some t0, none, none, none, none, none, none, none, none, none, none, none, none, none]) := run_at at'law_k65 rfl
end Md

/-! Md, part GT: rules for running by hand, a statement at a time, from the goal. -/
namespace Md
open PySem (Str PyData sizeLine seqIndex?)
/-- the outcome is as wanted -/
def Sat {α : Type} (Q : α → Prop) (r : α) : Prop := Q r
theorem eq_sat {α : Type} {r v : α} (h : Sat (fun x => x = v) r) : r = v := h
theorem sat_of {α : Type} {Q : α → Prop} {r : α} (h : Sat Q r) : Q r := h
theorem sat_eq {α : Type} {Q : α → Prop} {r v : α} (h : r = v) (q : Q v) : Sat Q r := by subst h; exact q
theorem Sat.mono {α : Type} {Q Q' : α → Prop} {r : α} (h : Sat Q r) (k : ∀ x, Q x → Q' x) : Sat Q' r := k _ h
section
variable {P : Pg} {np : Nat → Bool} {cb : Nat → List T → FRes} {Q : SRes → Prop} {a b c : E} {s t rest body : S} {sl sl1 sl2 sl3 sl4 sl5 : Sl} {i : Nat} {α : Type}
theorem fsat {QF : FRes → Prop} {D : Nat → Option Fd} {n f : Nat} {ts : List T} {r : SRes} (hr : run P D n f ts = finish ts r) (h : Sat (fun r => Sat QF (finish ts r)) r) : Sat QF (run P D n f ts) := by
  show QF _
  rw [hr]; exact h
theorem sat_seq (h : Sat (fun r => Sat Q (r.andS (exec P np cb t))) (exec P np cb s sl)) : Sat Q (exec P np cb (.seq s t) sl) := h
theorem sat_nx (h : exec P np cb s sl = .nx sl1) (k : Sat Q (exec P np cb t sl1)) : Sat Q (exec P np cb (.seq s t) sl) := by
  refine sat_seq ?_
  show Sat Q ((exec P np cb s sl).andS _)
  rw [h]; exact k
theorem sat_nop (k : Sat Q (exec P np cb t sl)) : Sat (fun r => Sat Q (r.andS (exec P np cb t))) (exec P np cb .nop sl) := k
theorem sat_end (k : Q (.nx sl)) : Sat Q (exec P np cb .nop sl) := k
theorem sat_kil {ks : List Nat} (k : Sat (fun r => Sat Q (r.kil np ks)) (exec P np cb s sl)) : Sat Q (exec P np cb (.kil ks s) sl) := k
theorem sat_if {k : Bool} (h : testOf (ev P np cb c sl) = .ok k sl1) (ht : k = true → Sat (fun r => Sat Q (r.andS (exec P np cb rest))) (exec P np cb s sl1)) (hf : k = false → Sat (fun r => Sat Q (r.andS (exec P np cb rest))) (exec P np cb t sl1)) :
    Sat Q (exec P np cb (.seq (.ifs c s t) rest) sl) := by
  refine sat_seq ?_
  show Sat Q (((testOf (ev P np cb c sl)).andS fun k sl1 => if k then exec P np cb s sl1 else exec P np cb t sl1).andS _)
  rw [h]
  cases k with
  | true => exact ht rfl
  | false => exact hf rfl
/-- .. by the test's proposition -/
theorem sat_ifp {p : Prop} [Decidable p] (h : testOf (ev P np cb c sl) = .ok (decide p) sl1) (ht : p → Sat (fun r => Sat Q (r.andS (exec P np cb rest))) (exec P np cb s sl1)) (hf : ¬p → Sat (fun r => Sat Q (r.andS (exec P np cb rest))) (exec P np cb t sl1)) :
    Sat Q (exec P np cb (.seq (.ifs c s t) rest) sl) := sat_if h (fun e => ht (of_decide_eq_true e)) (fun e => hf (of_decide_eq_false e))
theorem sat_ift (h : testOf (ev P np cb c sl) = .ok true sl1) (ht : Sat (fun r => Sat Q (r.andS (exec P np cb rest))) (exec P np cb s sl1)) : Sat Q (exec P np cb (.seq (.ifs c s t) rest) sl) := sat_if h (fun _ => ht) (fun e => nomatch e)
theorem sat_iff (h : testOf (ev P np cb c sl) = .ok false sl1) (hf : Sat (fun r => Sat Q (r.andS (exec P np cb rest))) (exec P np cb t sl1)) : Sat Q (exec P np cb (.seq (.ifs c s t) rest) sl) := sat_if h (fun e => nomatch e) (fun _ => hf)
theorem sat_ret {r : R} (h : ev P np cb a sl = .ok r sl1) (k : Q (retOf np r sl1)) : Sat Q (exec P np cb (.seq (.ret a) rest) sl) := by
  refine sat_seq ?_
  show Sat Q (((ev P np cb a sl).andS fun r sl1 => retOf np r sl1).andS _)
  rw [h]
  have z : (retOf np r sl1).andS (exec P np cb rest) = retOf np r sl1 := by
    cases r with
    | t t => rfl
    | p i =>
      unfold retOf
      split
      · rename_i e; cases e
      · rename_i j e; cases e
        split
        · split <;> rfl
        · split <;> rfl
      · rename_i e; cases e
    | q _ _ => rfl
  show Q ((retOf np r sl1).andS _)
  rw [z]; exact k
theorem sat_as {r : R} (h : ev P np cb a sl = .ok r sl1) {t : T} (hr : r = .t t) (hp : put np sl1 i t = some sl2) (k : Sat Q (exec P np cb rest sl2)) : Sat Q (exec P np cb (.seq (.as i a) rest) sl) := by
  subst hr
  refine sat_nx (sl1 := sl2) ?_ k
  rw [exec, h, andS_ok]
  simp only [hp, nxt_some]
/-- what a turn of a loop wants -/
def LQ (lk : List Nat) (Q : SRes → Prop) (N B : Sl → Prop) : SRes → Prop
  | .nx s => N s
  | .ct s => N s
  | .bk s => B s
  | .rt t s => ∃ s', unlock s lk = some s' ∧ Q (.rt t s')
  | .ex c w s => ∃ s', unlock s lk = some s' ∧ Q (.ex c w s')
  | .no => False
theorem forGo_sat {tg : Tg} {bd : Sl → SRes} {lk : List Nat} {K : Sl → SRes} (I : α → Sl) (J : Nat → α → Prop) : ∀ (ws : List Da) (j0 : Nat) (x0 : α), J j0 x0 →
    (∀ (j : Nat) (d : Da) (x : α), ws[j]? = some d → J (j0 + j) x → ∃ s1, tg.put np d (I x) = some s1 ∧ Sat (LQ lk Q (fun s => ∃ x', s = I x' ∧ J (j0 + j + 1) x') (fun s => ∃ s', unlock s lk = some s' ∧ Sat Q (K s'))) (bd s1)) →
    (∀ x, J (j0 + ws.length) x → ∃ s', unlock (I x) lk = some s' ∧ Sat Q (K s')) → Sat Q ((SRes.mapO (fun s => unlock s lk) (forGo np tg bd ws (I x0))).andS K)
  | [], j0, x0, h0, _, hk => by
    obtain ⟨s', h1, h2⟩ := hk x0 h0
    show Q _
    rw [forGo, mapO_nx]
    simp only [h1, sandS_nx]
    exact h2
  | d :: ws, j0, x0, h0, hb, hk => by
    obtain ⟨s1, h1, h2⟩ := hb 0 d x0 rfl h0
    have go : ∀ x', J (j0 + 1) x' → Sat Q ((SRes.mapO (fun s => unlock s lk) (forGo np tg bd ws (I x'))).andS K) := fun x' hx => forGo_sat I J ws (j0 + 1) x' hx (fun j e x he hj => by
      have := hb (j + 1) e x (by simpa using he) (by rw [show j0 + (j + 1) = j0 + 1 + j by omega]; exact hj)
      rw [show j0 + (j + 1) = j0 + 1 + j by omega] at this
      exact this) (fun x hx => hk x (by rw [List.length_cons, show j0 + (ws.length + 1) = j0 + 1 + ws.length by omega]; exact hx))
    show Q _
    rw [forGo]
    simp only [h1]
    have h2 : LQ lk Q (fun s => ∃ x', s = I x' ∧ J (j0 + 0 + 1) x') (fun s => ∃ s', unlock s lk = some s' ∧ Sat Q (K s')) (bd s1) := h2
    cases e : bd s1 with
    | nx s =>
      rw [e] at h2
      obtain ⟨x', rfl, hx⟩ := h2
      exact go x' hx
    | ct s =>
      rw [e] at h2
      obtain ⟨x', rfl, hx⟩ := h2
      exact go x' hx
    | bk s =>
      rw [e] at h2
      obtain ⟨s', h3, h4⟩ := h2
      simp only [mapO_nx, h3, sandS_nx]
      exact h4
    | rt t s =>
      rw [e] at h2
      obtain ⟨s', h3, h4⟩ := h2
      simp only [mapO_rt, h3, sandS_rt]
      exact h4
    | ex c w s =>
      rw [e] at h2
      obtain ⟨s', h3, h4⟩ := h2
      simp only [SRes.mapO, h3]
      exact h4
    | no => rw [e] at h2; exact h2.elim
/-- a loop over items, its state told by x from the state at its start -/
theorem sat_for {tg : Tg} {k : IK} {ws : List Da} {r1 r2 : R} (I : Sl → α → Sl) (J : Nat → α → Prop) (x0 : α)
    (hi : itr k (ev P np cb a) (ev P np cb b) (ev P np cb c) sl = .ok (ws, r1, r2) sl3) (l1 : lockR sl3 r1 = some sl4) (l2 : lockR sl4 r2 = some sl5)
    (h0 : sl5 = I sl5 x0) (j0 : J 0 x0)
    (hb : ∀ (j : Nat) (d : Da) (x : α), ws[j]? = some d → J j x → ∃ s1, tg.put np d (I sl5 x) = some s1 ∧ Sat (LQ (lockOf sl4 r2 ++ lockOf sl3 r1) Q (fun s => ∃ x', s = I sl5 x' ∧ J (j + 1) x') (fun s => ∃ s', unlock s (lockOf sl4 r2 ++ lockOf sl3 r1) = some s' ∧ Sat Q (exec P np cb rest s'))) (exec P np cb body s1))
    (hk : ∀ x, J ws.length x → ∃ s', unlock (I sl5 x) (lockOf sl4 r2 ++ lockOf sl3 r1) = some s' ∧ Sat Q (exec P np cb rest s')) : Sat Q (exec P np cb (.seq (.for tg k a b c body) rest) sl) := by
  refine sat_seq ?_
  have e : exec P np cb (.for tg k a b c body) sl = SRes.mapO (fun s => unlock s (lockOf sl4 r2 ++ lockOf sl3 r1)) (forGo np tg (exec P np cb body) ws sl5) := by
    rw [exec, hi, andS_ok]
    simp only [l1, l2]
  show Sat Q ((exec P np cb (.for tg k a b c body) sl).andS (exec P np cb rest))
  rw [e]
  generalize hb5 : I sl5 = I5 at h0 hb hk
  rw [h0]
  refine forGo_sat I5 J ws 0 x0 j0 (fun j d x hd hj => ?_) (fun x hx => ?_)
  · rw [Nat.zero_add] at hj ⊢
    exact hb j d x hd hj
  · rw [Nat.zero_add] at hx
    exact hk x hx
/-- .. that is not the slot's own -/
theorem sat_for' {tg : Tg} {k : IK} {ws : List Da} {r1 r2 : R} (I : Sl → α → Sl) (J : Nat → α → Prop) (x0 : α)
    (hi : itr k (ev P np cb a) (ev P np cb b) (ev P np cb c) sl = .ok (ws, r1, r2) sl3) (l1 : lockR sl3 r1 = some sl3) (l2 : lockR sl3 r2 = some sl3) (l3 : lockOf sl3 r1 = []) (l4 : lockOf sl3 r2 = [])
    (h0 : sl3 = I sl3 x0) (j0 : J 0 x0)
    (hb : ∀ (j : Nat) (d : Da) (x : α), ws[j]? = some d → J j x → ∃ s1, tg.put np d (I sl3 x) = some s1 ∧ Sat (LQ [] Q (fun s => ∃ x', s = I sl3 x' ∧ J (j + 1) x') (fun s => Sat Q (exec P np cb rest s))) (exec P np cb body s1))
    (hk : ∀ x, J ws.length x → Sat Q (exec P np cb rest (I sl3 x))) : Sat Q (exec P np cb (.seq (.for tg k a b c body) rest) sl) := by
  refine sat_for I J x0 hi l1 l2 h0 j0 (fun j d x hd hj => ?_) (fun x hx => ?_)
  · obtain ⟨s1, h1, h2⟩ := hb j d x hd hj
    refine ⟨s1, h1, ?_⟩
    rw [l3, l4]
    refine h2.mono fun r hr => ?_
    cases r with
    | bk s => exact ⟨s, rfl, hr⟩
    | _ => exact hr
  · rw [l3, l4]
    exact ⟨_, rfl, hk x hx⟩
theorem sat_whl {m : Nat} (I : Sl → α → Sl) (J : α → Prop) (mu : α → Nat) (x0 : α) (h0 : sl = I sl x0) (j0 : J x0) (hm : mu x0 < m)
    (hb : ∀ x, J x → ∃ kb s1, testOf (ev P np cb c (I sl x)) = .ok kb s1 ∧ (kb = true → Sat (LQ [] Q (fun s => ∃ x', s = I sl x' ∧ J x' ∧ mu x' < mu x) (fun s => Sat Q (exec P np cb rest s))) (exec P np cb body s1)) ∧ (kb = false → Sat Q (exec P np cb rest s1))) :
    Sat Q (exec P np cb (.seq (.whl m c body) rest) sl) := by
  refine sat_seq ?_
  show Sat Q ((whileGo (fun s => testOf (ev P np cb c s)) (exec P np cb body) m sl).andS (exec P np cb rest))
  generalize hI : I sl = I5 at h0 hb
  have go : ∀ (m : Nat) (x : α), J x → mu x < m → Sat Q ((whileGo (fun s => testOf (ev P np cb c s)) (exec P np cb body) m (I5 x)).andS (exec P np cb rest)) := by
    intro m
    induction m with
    | zero => intro x _ h; omega
    | succ m ih =>
      intro x hx hm
      obtain ⟨kb, s1, h1, h2, h3⟩ := hb x hx
      show Q _
      rw [whileGo]
      simp only [h1, andS_ok]
      cases kb with
      | false =>
        simp only [Bool.false_eq_true, if_false, sandS_nx]
        exact h3 rfl
      | true =>
        have h2 : LQ [] Q (fun s => ∃ x', s = I5 x' ∧ J x' ∧ mu x' < mu x) (fun s => Sat Q (exec P np cb rest s)) (exec P np cb body s1) := h2 rfl
        simp only [if_true]
        cases e : exec P np cb body s1 with
        | nx s =>
          rw [e] at h2
          obtain ⟨x', rfl, hx', hm'⟩ := h2
          exact ih x' hx' (by omega)
        | ct s =>
          rw [e] at h2
          obtain ⟨x', rfl, hx', hm'⟩ := h2
          exact ih x' hx' (by omega)
        | bk s =>
          rw [e] at h2
          exact h2
        | rt t s =>
          rw [e] at h2
          obtain ⟨s', h4, h5⟩ := h2
          cases (show some s = some s' from h4)
          exact h5
        | ex c w s =>
          rw [e] at h2
          obtain ⟨s', h4, h5⟩ := h2
          cases (show some s = some s' from h4)
          exact h5
        | no => rw [e] at h2; exact h2.elim
  rw [h0]
  exact go m x0 j0 hm
/-- where both ways of an if meet -/
def JQ (Q : SRes → Prop) (N : Sl → Prop) : SRes → Prop
  | .nx s => N s
  | .no => False
  | r => Q r
theorem sat_join (I : Sl → α → Sl) (J : α → Prop) {k : Bool} (h : testOf (ev P np cb c sl) = .ok k sl1) (ht : k = true → Sat (JQ Q fun s => ∃ x, s = I sl x ∧ J x) (exec P np cb s sl1)) (hf : k = false → Sat (JQ Q fun s => ∃ x, s = I sl x ∧ J x) (exec P np cb t sl1))
    (hk : ∀ x, J x → Sat Q (exec P np cb rest (I sl x))) : Sat Q (exec P np cb (.seq (.ifs c s t) rest) sl) := by
  have key : ∀ r : SRes, JQ Q (fun s => ∃ x, s = I sl x ∧ J x) r → Sat Q (r.andS (exec P np cb rest)) := fun r hr => by
    cases r with
    | nx s => obtain ⟨x, rfl, hx⟩ := hr; exact hk x hx
    | bk s => exact hr
    | ct s => exact hr
    | rt t s => exact hr
    | ex c w s => exact hr
    | no => exact hr.elim
  exact sat_if h (fun e => key _ (ht e)) (fun e => key _ (hf e))
/-! ### comprehensions -/
/-- [elt for tg in ws] -/
theorem lc_map {elt : E} {tg : Tg} {k : IK} {ws : List Da} {r1 r2 : R} (f : Da → Da)
    (hi : itr k (ev P np cb a) (ev P np cb b) (ev P np cb c) sl = .ok (ws, r1, r2) sl3) (hl : lockR sl3 r1 = some sl4) (hl2 : lockR sl4 r2 = some sl5) (hp : plainAt sl5 tg.slots = true) (hz : ws.length ≤ 1000000)
    (hb : ∀ x ∈ ws, ∃ s1 t, tg.put np x (Md.wipe sl5 tg.slots) = some s1 ∧ Md.wipe s1 tg.slots = Md.wipe sl5 tg.slots ∧ ev P np cb elt s1 = .ok (.t t) s1 ∧ t.view = f x) :
    ev P np cb (.lc elt tg k a b c .non false) sl = .ok (.t (.lst (ws.map f))) sl3 :=
  ev_lcm hi hl hl2 hp rfl (szOk_iff.mp (szOk_lt hz)) f fun x hx => by
    obtain ⟨s1, t, h1, h2, h3, h4⟩ := hb x hx
    exact ⟨s1, .t t, s1, s1, h1, h3, by rw [take_t, h4], h2⟩
/-- [elt for tg in ws if cond] -/
theorem lc_filt {elt cond : E} {tg : Tg} {k : IK} {ws : List Da} {r1 r2 : R} (q : Da → Bool) (f : Da → Da)
    (hi : itr k (ev P np cb a) (ev P np cb b) (ev P np cb c) sl = .ok (ws, r1, r2) sl3) (hl : lockR sl3 r1 = some sl4) (hl2 : lockR sl4 r2 = some sl5) (hp : plainAt sl5 tg.slots = true) (hz : ws.length ≤ 1000000)
    (hb : ∀ x ∈ ws, ∃ s1, tg.put np x (Md.wipe sl5 tg.slots) = some s1 ∧ Md.wipe s1 tg.slots = Md.wipe sl5 tg.slots ∧ testOf (ev P np cb cond s1) = .ok (q x) s1 ∧ (q x = true → ∃ t, ev P np cb elt s1 = .ok (.t t) s1 ∧ t.view = f x)) :
    ev P np cb (.lc elt tg k a b c cond true) sl = .ok (.t (.lst ((ws.filter q).map f))) sl3 :=
  ev_lcf hi hl hl2 hp rfl (szOk_iff.mp (szOk_lt hz)) q f fun x hx => by
    obtain ⟨s1, h1, h2, h3, h4⟩ := hb x hx
    refine ⟨s1, s1, h1, h3, fun _ => h2, fun e => ?_⟩
    obtain ⟨t, h5, h6⟩ := h4 e
    exact ⟨.t t, s1, s1, h5, by rw [take_t, h6], h2⟩
end
theorem allB_all {ds : List Da} {p : Da → Bool} : allB (ds.map fun x => .bool (p x)) = some (ds.all p) := allB_map p ds
@[simp] theorem atI_0 {α : Type} (x : α) (r : List α) : L2.atI (x :: r) 0 = some x := by
  unfold L2.atI L2.ixN; simp
theorem atI_nat {α : Type} (r : List α) (n : Nat) : L2.atI r (n : Int) = r[n]? := by
  unfold L2.atI L2.ixN
  by_cases h : n < r.length
  · simp [h]
  · simp [h]
@[simp] theorem atI_1 {α : Type} (x y : α) (r : List α) : L2.atI (x :: y :: r) 1 = some y := atI_nat _ 1
@[simp] theorem atI_2 {α : Type} (x y z : α) (r : List α) : L2.atI (x :: y :: z :: r) 2 = some z := atI_nat _ 2
@[simp] theorem atI_3 {α : Type} (x y z u : α) (r : List α) : L2.atI (x :: y :: z :: u :: r) 3 = some u := atI_nat _ 3
@[simp] theorem atI_4 {α : Type} (x y z u v : α) (r : List α) : L2.atI (x :: y :: z :: u :: v :: r) 4 = some v := atI_nat _ 4
@[simp] theorem atI_5 {α : Type} (x y z u v w : α) (r : List α) : L2.atI (x :: y :: z :: u :: v :: w :: r) 5 = some w := atI_nat _ 5
/-- a call that leaves its arguments as they are -/
def Runs (n f : Nat) (ts : List T) (Q : T → Prop) : Prop := ∃ t, run Pg0 DG n f ts = .ok t ts ∧ Q t
theorem runs_of {n f : Nat} {ts : List T} {Q : T → Prop} {r : SRes} (hr : run Pg0 DG n f ts = finish ts r) (h : Sat (fun r => ∃ t, finish ts r = .ok t ts ∧ Q t) r) : Runs n f ts Q := by
  unfold Runs
  rw [hr]; exact h
theorem run_eq {n f : Nat} {ts ts' : List T} {v : T} {r : SRes} (hr : run Pg0 DG n f ts = finish ts r) (h : Sat (fun r => finish ts r = .ok v ts') r) : run Pg0 DG n f ts = .ok v ts' := by
  rw [hr]; exact h
theorem Runs.eq {n f : Nat} {ts : List T} {Q : T → Prop} (h : Runs n f ts Q) : ∃ t, run Pg0 DG n f ts = .ok t ts ∧ Q t := h
@[simp] theorem binop_fdivP (i j : Int) (h0 : 0 < j) (h1 : j < 1073741824) : binop .fdiv (.int i) (.int j) = some (.int (i / j)) := binop_fdiv i j (by rw [divOk_eq]; simp [h0, h1])
@[simp] theorem binop_modP (i j : Int) (h0 : 0 < j) : binop .mod (.int i) (.int j) = some (.int (i % j)) := binop_mod i j h0
theorem mulR {i j : Int} (h : -18446744073709551616 < j) (h' : j < 18446744073709551616) : mulOk i j = true := by
  rw [mulOk_eq]
  rw [Bool.or_eq_true]
  exact .inl (decide_eq_true (.inr ⟨by omega, by omega⟩))
theorem mulL {i j : Int} (h : -18446744073709551616 < i) (h' : i < 18446744073709551616) : mulOk i j = true := by
  rw [mulOk_eq]
  rw [Bool.or_eq_true]
  exact .inl (decide_eq_true (.inl ⟨by omega, by omega⟩))
@[simp] theorem binop_mulR (i j : Int) (h : -18446744073709551616 < j) (h' : j < 18446744073709551616) : binop .mul (.int i) (.int j) = some (.int (i * j)) := binop_mul i j (mulR h h')
@[simp] theorem binop_mulL (i j : Int) (h : -18446744073709551616 < i) (h' : i < 18446744073709551616) : binop .mul (.int i) (.int j) = some (.int (i * j)) := binop_mul i j (mulL h h')
@[simp] theorem call1_bint (b : Bool) : call1 .int (.bool b) = some (.fz (.int (if b then 1 else 0))) := rfl
@[simp] theorem call1_iint (i : Int) : call1 .int (.int i) = some (.fz (.int i)) := rfl
@[simp] theorem call2_min (i j : Int) : call2 .min (.int i) (.int j) = some (.fz (.int (if j < i then j else i))) := rfl
@[simp] theorem call2_max (i j : Int) : call2 .max (.int i) (.int j) = some (.fz (.int (if j > i then j else i))) := rfl
section
variable {P : Pg} {np : Nat → Bool} {cb : Nat → List T → FRes} {a b c elt cond : E} {sl4 s0 : Sl} {x0 : Option T} {tg : Tg} {r : R} {d : Da} {k : Int}
theorem lc1m (f : Da → Da) (ws : List Da) (hi : ev P np cb a (x0 :: s0) = .ok r (x0 :: s0)) (hv : r.settle.viewR (x0 :: s0) = some d) (hw : items .seq d .none .none = some ws)
    (hl : lockR (x0 :: s0) r.settle = some sl4) (hp : plainAt sl4 tg.slots = true) (hz : ws.length ≤ 1000000)
    (hb : ∀ x ∈ ws, ∃ s1 t, tg.put np x (Md.wipe sl4 tg.slots) = some s1 ∧ Md.wipe s1 tg.slots = Md.wipe sl4 tg.slots ∧ ev P np cb elt s1 = .ok (.t t) s1 ∧ t.view = f x) :
    ev P np cb (.lc elt tg .seq a .non .non .non false) (x0 :: s0) = .ok (.t (.lst (ws.map f))) (x0 :: s0) := lc_map f (itr_1 hi hv hw) hl rfl hp hz hb
theorem lc1f (q : Da → Bool) (f : Da → Da) (ws : List Da) (hi : ev P np cb a (x0 :: s0) = .ok r (x0 :: s0)) (hv : r.settle.viewR (x0 :: s0) = some d) (hw : items .seq d .none .none = some ws)
    (hl : lockR (x0 :: s0) r.settle = some sl4) (hp : plainAt sl4 tg.slots = true) (hz : ws.length ≤ 1000000)
    (hb : ∀ x ∈ ws, ∃ s1, tg.put np x (Md.wipe sl4 tg.slots) = some s1 ∧ Md.wipe s1 tg.slots = Md.wipe sl4 tg.slots ∧ testOf (ev P np cb cond s1) = .ok (q x) s1 ∧ (q x = true → ∃ t, ev P np cb elt s1 = .ok (.t t) s1 ∧ t.view = f x)) :
    ev P np cb (.lc elt tg .seq a .non .non cond true) (x0 :: s0) = .ok (.t (.lst ((ws.filter q).map f))) (x0 :: s0) := lc_filt q f (itr_1 hi hv hw) hl rfl hp hz hb
theorem rng_ok {k : Int} (h0 : 0 ≤ k) (h1 : k ≤ 1000000) : rngOk k = true := by
  rw [rngOk_eq]
  rw [Bool.and_eq_true]
  exact ⟨decide_eq_true (by omega), decide_eq_true (by omega)⟩
theorem itr_r1 {x0 : Option T} {s0 sl : Sl} {k : Int} {r : R} (h : ev P np cb a sl = .ok r (x0 :: s0)) (hv : r.settle.viewR (x0 :: s0) = some (.int k)) (h0 : 0 ≤ k) (h1 : k ≤ 1000000) :
    itr .rng1 (ev P np cb a) (ev P np cb .non) (ev P np cb .non) sl = .ok (rangeUp 0 k.toNat, r.settle, .t (.fz .none)) (x0 :: s0) := by
  simp [itr, h, hv, items_r1 _ _ _ (rng_ok h0 h1)]
theorem rngUp_map (n : Nat) (f : Da → Da) : (rangeUp 0 n).map f = (List.range n).map (fun j : Nat => f (.int (j : Int))) := by simp [rangeUp, Function.comp_def]
theorem rngUp_filt (n : Nat) (q : Da → Bool) (f : Da → Da) : ((rangeUp 0 n).filter q).map f = ((List.range n).filter (fun j : Nat => q (.int (j : Int)))).map (fun j : Nat => f (.int (j : Int))) := by
  simp [rangeUp, List.filter_map, Function.comp_def]
/-- [elt for tg in range(k)] -/
theorem lc1r (k : Int) (f : Nat → Da) (hi : ev P np cb a (x0 :: s0) = .ok r (x0 :: s0)) (hv : r.settle.viewR (x0 :: s0) = some (.int k)) (h0 : 0 ≤ k) (h1 : k ≤ 1000000)
    (hl : lockR (x0 :: s0) r.settle = some sl4) (hp : plainAt sl4 tg.slots = true)
    (hb : ∀ j : Nat, (j : Int) < k → ∃ s1 t, tg.put np (.int j) (Md.wipe sl4 tg.slots) = some s1 ∧ Md.wipe s1 tg.slots = Md.wipe sl4 tg.slots ∧ ev P np cb elt s1 = .ok (.t t) s1 ∧ t.view = f j) :
    ev P np cb (.lc elt tg .rng1 a .non .non .non false) (x0 :: s0) = .ok (.t (.lst ((List.range k.toNat).map f))) (x0 :: s0) := by
  have := lc_map (P := P) (np := np) (cb := cb) (elt := elt) (fun d => match d with | .int i => f i.toNat | _ => .none) (itr_r1 hi hv h0 h1) hl rfl hp (by rw [rangeUp, List.length_map, List.length_range]; omega) fun x hx => by
    obtain ⟨j, hj, rfl⟩ := List.mem_map.mp hx
    have hj := List.mem_range.mp hj
    obtain ⟨s1, t, h1, h2, h3, h4⟩ := hb j (by omega)
    refine ⟨s1, t, by simpa using h1, h2, h3, ?_⟩
    simpa using h4
  rw [rngUp_map] at this
  simpa using this
theorem lc1rf (k : Int) (q : Nat → Bool) (f : Nat → Da) (hi : ev P np cb a (x0 :: s0) = .ok r (x0 :: s0)) (hv : r.settle.viewR (x0 :: s0) = some (.int k)) (h0 : 0 ≤ k) (h1 : k ≤ 1000000)
    (hl : lockR (x0 :: s0) r.settle = some sl4) (hp : plainAt sl4 tg.slots = true)
    (hb : ∀ j : Nat, (j : Int) < k → ∃ s1, tg.put np (.int j) (Md.wipe sl4 tg.slots) = some s1 ∧ Md.wipe s1 tg.slots = Md.wipe sl4 tg.slots ∧ testOf (ev P np cb cond s1) = .ok (q j) s1 ∧ (q j = true → ∃ t, ev P np cb elt s1 = .ok (.t t) s1 ∧ t.view = f j)) :
    ev P np cb (.lc elt tg .rng1 a .non .non cond true) (x0 :: s0) = .ok (.t (.lst (((List.range k.toNat).filter q).map f))) (x0 :: s0) := by
  have := lc_filt (P := P) (np := np) (cb := cb) (elt := elt) (cond := cond) (fun d => match d with | .int i => q i.toNat | _ => false) (fun d => match d with | .int i => f i.toNat | _ => .none) (itr_r1 hi hv h0 h1) hl rfl hp (by rw [rangeUp, List.length_map, List.length_range]; omega) fun x hx => by
    obtain ⟨j, hj, rfl⟩ := List.mem_map.mp hx
    have hj := List.mem_range.mp hj
    obtain ⟨s1, h1, h2, h3, h4⟩ := hb j (by omega)
    refine ⟨s1, by simpa using h1, h2, ?_, ?_⟩
    · simpa using h3
    · simpa using h4
  rw [rngUp_filt] at this
  simpa using this
end
theorem sat_ifs {P : Pg} {np : Nat → Bool} {cb : Nat → List T → FRes} {Q : SRes → Prop} {c : E} {s t rest : S} {sl : Sl} (k : Bool) (h : testOf (ev P np cb c sl) = .ok k sl) (ht : k = true → Sat (fun r => Sat Q (r.andS (exec P np cb rest))) (exec P np cb s sl)) (hf : k = false → Sat (fun r => Sat Q (r.andS (exec P np cb rest))) (exec P np cb t sl)) :
    Sat Q (exec P np cb (.seq (.ifs c s t) rest) sl) := sat_if h ht hf
end Md

/-! cells, names, words, drawn numbers -/
namespace Md
open PySem (Str PyData)
theorem sl_lt {n : Nat} (h : n ≤ 1000000) : n < PySem.sizeLine := by
  have : PySem.sizeLine = 16777216 := PySem.sizeLine_eq
  omega
theorem cell_ok (n : Nat) (ns : List Int) (k : Int) (hk : 0 ≤ k) : Runs (n + 1) i'l_cell_at [.ro (ns.map .int), .fz (.int k)] fun t => ∃ c : Int, t = .fz (.int c) := by
  refine runs_of (run'l_cell_at _ _ _) ?_
  refine sat_ifp (p := k < ns.length) (by ((conv => lhs; simp [argsOf, placesOf, putBack, put, putF, putAll, flg, R.view, R.viewR, kilS, SRes.kil, Md.wipe]); try rfl)) (fun h => ?_) (fun h => ?_)
  · obtain ⟨d, hd, e⟩ := atI_ex (xs := ns.map PyData.int) hk (by simpa using h)
    obtain ⟨c, _, rfl⟩ := List.mem_map.mp hd
    refine sat_ret (r := .t (.fz (.int c))) (by ((conv => lhs; simp [argsOf, placesOf, putBack, put, putF, putAll, flg, R.view, R.viewR, kilS, SRes.kil, Md.wipe, e]); try rfl)) ?_
    exact ⟨_, rfl, c, rfl⟩
  · refine sat_nop ?_
    refine sat_ret (r := .t (.fz (.int 0))) (by ((conv => lhs; simp [argsOf, placesOf, putBack, put, putF, putAll, flg, R.view, R.viewR, kilS, SRes.kil, Md.wipe]); try rfl)) ?_
    exact ⟨_, rfl, 0, rfl⟩
abbrev LT : Str := "abcdefghijklmnopqrstuvwxyz"
theorem LT_len : LT.cps.toList.length = 26 := by decide +kernel
theorem LT_sz : szOk LT.length = true := szOk_lt (by decide +kernel)
/-- a text of one to eight signs -/
def Wo (d : Da) : Prop := ∃ x : Str, d = .str x ∧ 1 ≤ x.length ∧ x.length ≤ 8
theorem lt_at (i : Int) : ∃ c, L2.atI LT.cps.toList (i % 26) = some c := by
  obtain ⟨c, _, e⟩ := atI_ex (xs := LT.cps.toList) (i := i % 26) (by omega) (by rw [LT_len]; omega)
  exact ⟨c, e⟩
theorem lt_ix (i : Int) : ∃ c : Nat, index (.str LT) (.int (i % 26)) = some (.str ⟨#[c]⟩) := by
  obtain ⟨c, e⟩ := lt_at i
  exact ⟨c, by rw [ix_s _ _ LT_sz, e]; rfl⟩
theorem rng_get {k : Int} {j : Nat} {d : Da} (h : (rangeUp 0 k.toNat)[j]? = some d) : d = .int j ∧ (j : Int) < k := by
  have h1 := rangeUp_get h
  have h2 := (List.getElem?_eq_some_iff.mp h).1
  rw [rangeUp_length] at h2
  exact ⟨by rw [h1]; simp, by omega⟩
theorem name_in_ok (n : Nat) (c : Int) : Runs (n + 1) i'l_name_in [.fz (.int c)] fun t => ∃ (x : Str) (m : Int), t = .fz (.tuple [.str x, .int m]) ∧ 1 ≤ x.length ∧ x.length ≤ 8 := by
  refine runs_of (run'l_name_in _ _) ?_
  (apply sat_nx; focus ((conv => lhs; simp [argsOf, placesOf, putBack, put, putF, putAll, flg, R.view, R.viewR, kilS, SRes.kil, Md.wipe]); try rfl)); (apply sat_nx; focus ((conv => lhs; simp [argsOf, placesOf, putBack, put, putF, putAll, flg, R.view, R.viewR, kilS, SRes.kil, Md.wipe]); try rfl)); (apply sat_nx; focus ((conv => lhs; simp [argsOf, placesOf, putBack, put, putF, putAll, flg, R.view, R.viewR, kilS, SRes.kil, Md.wipe]); try rfl)); (apply sat_nx; focus ((conv => lhs; simp [argsOf, placesOf, putBack, put, putF, putAll, flg, R.view, R.viewR, kilS, SRes.kil, Md.wipe]); try rfl))
  refine sat_for' (fun b (x : Str × Int) => (b.set 3 (some (.fz (.str x.1)))).set 0 (some (.fz (.int x.2)))) (fun j x => x.1.length = j) (("" : Str), c / 8) (itr_r1 rfl rfl (by omega) (by omega)) rfl rfl rfl rfl rfl rfl (fun j d x hd hx => ?_) (fun x hx => ?_)
  · obtain ⟨rfl, hj⟩ := rng_get hd
    obtain ⟨ch, e⟩ := lt_ix x.2
    have hz : szOk (x.1.length + 1) = true := szOk_lt (by omega)
    refine ⟨_, rfl, sat_kil ?_⟩
    (apply sat_nx; focus ((conv => lhs; simp [argsOf, placesOf, putBack, put, putF, putAll, flg, R.view, R.viewR, kilS, SRes.kil, Md.wipe, e, binop_adds, str1_len, hz]); try rfl))
    (apply sat_nx; focus ((conv => lhs; simp [argsOf, placesOf, putBack, put, putF, putAll, flg, R.view, R.viewR, kilS, SRes.kil, Md.wipe]); try rfl))
    exact ⟨(_, _), rfl, by simp [str_add_len, hx, str1_len]⟩
  · rw [rangeUp_length] at hx
    refine sat_ret (by ((conv => lhs; simp [argsOf, placesOf, putBack, put, putF, putAll, flg, R.view, R.viewR, kilS, SRes.kil, Md.wipe]); try rfl)) ?_
    exact ⟨_, rfl, x.1, x.2, rfl, by omega, by omega⟩
theorem cut7 (x : Str) : (L2.cutS x none (some 7)).length ≤ 7 := by
  show ((L2.cutS x none (some 7)).cps.size) ≤ 7
  unfold L2.cutS
  simp [HT.sIx]
  omega
theorem wo_isin {x : Str} {ws : List Da} (hw : ∀ d ∈ ws, Wo d) : Md.compare .isin (.str x) (.list ws) = some (ws.any fun y => PyData.eqv y (.str x)) := by
  have : fitsAll 63 ws = true := (fitsAll_iff 63 ws).mpr fun d hd => by
    obtain ⟨y, rfl, _⟩ := hw d hd
    simp
  show (if (fits 64 (.str x) && fitsAll 63 ws) = true then some (ws.any fun y => PyData.eqv y (.str x)) else none) = _
  rw [this]; rfl
theorem digits_ok (n : Nat) (c k : Int) (hk : 0 ≤ k ∧ k ≤ 100) : Runs (n + 2) i'l_words_by_digits [.fz (.int c), .fz (.int k)] fun t => ∃ ws, t = .lst ws ∧ ws.length = k.toNat ∧ ∀ d ∈ ws, Wo d := by
  refine runs_of (run'l_words_by_digits _ _ _) ?_
  (apply sat_nx; focus ((conv => lhs; simp [argsOf, placesOf, putBack, put, putF, putAll, flg, R.view, R.viewR, kilS, SRes.kil, Md.wipe]); try rfl))
  refine sat_for' (fun b (x : List Da × Int) => (b.set 2 (some (.lst x.1))).set 0 (some (.fz (.int x.2)))) (fun j x => x.1.length = j ∧ ∀ d ∈ x.1, Wo d) ([], c) (itr_r1 rfl rfl (by omega) (by omega)) rfl rfl rfl rfl rfl ⟨rfl, fun _ h => nomatch h⟩ (fun j d x hd hx => ?_) (fun x hx => ?_)
  · obtain ⟨rfl, hj⟩ := rng_get hd
    obtain ⟨_, h1, w, m, rfl, l1, l2⟩ := name_in_ok n x.2
    refine ⟨_, rfl, sat_kil ?_⟩
    (apply sat_nx; focus ((conv => lhs; simp [argsOf, placesOf, putBack, put, putF, putAll, flg, R.view, R.viewR, kilS, SRes.kil, Md.wipe, h1]); try rfl))
    refine sat_for' (fun b (y : Str) => b.set 5 (some (.fz (.str y)))) (fun _ y => 1 ≤ y.length ∧ y.length ≤ 8) w (itr_1 (d := .str "abcdefghij") rfl rfl rfl) rfl rfl rfl rfl rfl ⟨l1, l2⟩ (fun i e y he hy => ?_) (fun y hy => ?_)
    · have hc : ∃ ch : Nat, e = .str ⟨#[ch]⟩ := by
        obtain ⟨ch, _, rfl⟩ := List.mem_map.mp (List.mem_of_getElem? he)
        exact ⟨ch, rfl⟩
      obtain ⟨ch, rfl⟩ := hc
      refine ⟨_, rfl, sat_kil ?_⟩
      refine sat_if (by ((conv => lhs; simp [argsOf, placesOf, putBack, put, putF, putAll, flg, R.view, R.viewR, kilS, SRes.kil, Md.wipe, wo_isin hx.2]); try rfl)) (fun _ => ?_) (fun _ => ?_)
      · have := cut7 y
        have hz : szOk y.length = true := szOk_lt (by omega)
        (apply sat_nx; focus ((conv => lhs; simp [argsOf, placesOf, putBack, put, putF, putAll, flg, R.view, R.viewR, kilS, SRes.kil, Md.wipe, cut_s, hz, binop_adds, str1_len, szOk_lt (show (L2.cutS y none (some 7)).length + 1 ≤ 1000000 by omega)]); try rfl))
        refine sat_nop ?_
        exact ⟨_, rfl, by simp only [str_add_len, str1_len]; omega⟩
      · refine sat_nop ?_
        exact ⟨_, rfl, hy⟩
    · have hs := sl_lt (show x.1.length ≤ 1000000 by omega)
      (apply sat_nx; focus ((conv => lhs; simp [argsOf, placesOf, putBack, put, putF, putAll, flg, R.view, R.viewR, kilS, SRes.kil, Md.wipe, hs]); try rfl))
      refine ⟨(_, _), rfl, by simp [hx.1], fun d hd => ?_⟩
      rcases List.mem_append.mp hd with h | h
      · exact hx.2 d h
      · rw [List.mem_singleton.mp h]; exact ⟨y, rfl, hy⟩
  · rw [rangeUp_length] at hx
    refine sat_ret (by ((conv => lhs; simp [argsOf, placesOf, putBack, put, putF, putAll, flg, R.view, R.viewR, kilS, SRes.kil, Md.wipe]); try rfl)) ?_
    exact ⟨_, rfl, x.1, rfl, hx⟩
/-- a number -/
def Nu (d : Da) : Prop := ∃ i, d = .int i
theorem drawn_ok (n : Nat) (c k : Int) (hk : 0 ≤ k ∧ k ≤ 100) : Runs (n + 1) i'l_drawn_2 [.fz (.int c), .fz (.int k)] fun t => ∃ ds, t = .lst ds ∧ ds.length = k.toNat ∧ ∀ d ∈ ds, Nu d := by
  refine runs_of (run'l_drawn_2 _ _ _) ?_
  (apply sat_nx; focus ((conv => lhs; simp [argsOf, placesOf, putBack, put, putF, putAll, flg, R.view, R.viewR, kilS, SRes.kil, Md.wipe]); try rfl))
  (apply sat_if; focus ((conv => lhs; simp [argsOf, placesOf, putBack, put, putF, putAll, flg, R.view, R.viewR, kilS, SRes.kil, Md.wipe]); try rfl)) <;> intro _
  · (apply sat_nx; focus ((conv => lhs; simp [argsOf, placesOf, putBack, put, putF, putAll, flg, R.view, R.viewR, kilS, SRes.kil, Md.wipe]); try rfl))
    refine sat_for' (fun b (x : List Da × Int) => (b.set 2 (some (.lst x.1))).set 5 (some (.fz (.int x.2)))) (fun j x => x.1.length = j ∧ ∀ d ∈ x.1, Nu d) ([], c / 2) (itr_r1 rfl rfl (by omega) (by omega)) rfl rfl rfl rfl rfl ⟨rfl, fun _ h => nomatch h⟩ (fun j d x hd hx => ?_) (fun x hx => ?_)
    · obtain ⟨rfl, hj⟩ := rng_get hd
      have hs := sl_lt (show x.1.length ≤ 1000000 by omega)
      refine ⟨_, rfl, sat_kil ?_⟩
      (apply sat_nx; focus ((conv => lhs; simp [argsOf, placesOf, putBack, put, putF, putAll, flg, R.view, R.viewR, kilS, SRes.kil, Md.wipe, hs]); try rfl))
      (apply sat_nx; focus ((conv => lhs; simp [argsOf, placesOf, putBack, put, putF, putAll, flg, R.view, R.viewR, kilS, SRes.kil, Md.wipe]); try rfl))
      refine ⟨(_, _), rfl, by simp [hx.1], fun d hd => ?_⟩
      rcases List.mem_append.mp hd with h | h
      · exact hx.2 d h
      · rw [List.mem_singleton.mp h]; exact ⟨_, rfl⟩
    · rw [rangeUp_length] at hx
      refine sat_ret (by ((conv => lhs; simp [argsOf, placesOf, putBack, put, putF, putAll, flg, R.view, R.viewR, kilS, SRes.kil, Md.wipe]); try rfl)) ?_
      exact ⟨_, rfl, x.1, rfl, hx⟩
  · refine sat_nop ?_
    (apply sat_nx; focus ((conv => lhs; simp [argsOf, placesOf, putBack, put, putF, putAll, flg, R.view, R.viewR, kilS, SRes.kil, Md.wipe]); try rfl))
    refine sat_for' (fun b (x : List Da × Int) => (b.set 2 (some (.lst x.1))).set 3 (some (.fz (.int x.2)))) (fun j x => (x.1.length = j ∧ ∀ d ∈ x.1, Nu d) ∧ 0 ≤ x.2 ∧ x.2 < 2147483648) ([], c % 2147483629 + 1) (itr_r1 rfl rfl (by omega) (by omega)) rfl rfl rfl rfl rfl ⟨⟨rfl, fun _ h => nomatch h⟩, by omega, by omega⟩ (fun j d x hd hx => ?_) (fun x hx => ?_)
    · obtain ⟨rfl, hj⟩ := rng_get hd
      obtain ⟨hx, hb⟩ := hx
      have hs := sl_lt (show x.1.length ≤ 1000000 by omega)
      refine ⟨_, rfl, sat_kil ?_⟩
      have m1 : mulOk x.2 x.2 = true := mulR (by omega) (by omega)
      (apply sat_nx; focus ((conv => lhs; simp [argsOf, placesOf, putBack, put, putF, putAll, flg, R.view, R.viewR, kilS, SRes.kil, Md.wipe, binop_mul, m1]); try rfl))
      (apply sat_nx; focus ((conv => lhs; simp [argsOf, placesOf, putBack, put, putF, putAll, flg, R.view, R.viewR, kilS, SRes.kil, Md.wipe, hs]); try rfl))
      refine ⟨(_, _), rfl, ⟨by simp [hx.1], fun d hd => ?_⟩, by omega, by omega⟩
      rcases List.mem_append.mp hd with h | h
      · exact hx.2 d h
      · rw [List.mem_singleton.mp h]; exact ⟨_, rfl⟩
    · rw [rangeUp_length] at hx
      refine sat_ret (by ((conv => lhs; simp [argsOf, placesOf, putBack, put, putF, putAll, flg, R.view, R.viewR, kilS, SRes.kil, Md.wipe]); try rfl)) ?_
      exact ⟨_, rfl, x.1, rfl, hx.1⟩
/-- a cell of the script -/
def cl (ns : List Int) (k : Nat) : Int := ns.getD k 0
theorem cell_eq (n : Nat) (ns : List Int) (k : Int) (hk : 0 ≤ k) : run Pg0 DG (n + 1) i'l_cell_at [.ro (ns.map .int), .fz (.int k)] = .ok (.fz (.int (cl ns k.toNat))) [.ro (ns.map .int), .fz (.int k)] := by
  refine run_eq (run'l_cell_at _ _ _) ?_
  obtain ⟨j, rfl⟩ := Int.eq_ofNat_of_zero_le hk
  apply sat_ifp (p := j < ns.length)
  · ((conv => lhs; simp [argsOf, placesOf, putBack, put, putF, putAll, flg, R.view, R.viewR, kilS, SRes.kil, Md.wipe]); try rfl)
  · intro h
    have hj : j < ns.length := by omega
    have e : L2.atI (ns.map PyData.int) (j : Int) = some (.int ns[j]) := by rw [atI_nat, List.getElem?_map, List.getElem?_eq_getElem hj]; rfl
    have ec : cl ns (j : Int).toNat = ns[j] := by simp [cl, hj]
    rw [ec]
    (apply sat_ret; focus ((conv => lhs; simp [argsOf, placesOf, putBack, put, putF, putAll, flg, R.view, R.viewR, kilS, SRes.kil, Md.wipe, e]); try rfl))
    rfl
  · intro h
    have ec : cl ns (j : Int).toNat = 0 := by
      unfold cl
      rw [List.getD_eq_getElem?_getD, List.getElem?_eq_none (by rw [Int.toNat_natCast]; omega)]
      rfl
    rw [ec]
    refine sat_nop ?_
    (apply sat_ret; focus ((conv => lhs; simp [argsOf, placesOf, putBack, put, putF, putAll, flg, R.view, R.viewR, kilS, SRes.kil, Md.wipe]); try rfl))
    rfl
end Md

/-! words, values, tables, questions (k60-k66, k70-k76, k92) -/
namespace Md
open PySem (Str PyData)
/-- a text of one to seven signs -/
def Wo7 (d : Da) : Prop := ∃ x : Str, d = .str x ∧ 1 ≤ x.length ∧ x.length ≤ 7
theorem Wo7.wo {d : Da} (h : Wo7 d) : Wo d := by obtain ⟨x, rfl, h1, h2⟩ := h; exact ⟨x, rfl, h1, by omega⟩
theorem words_ok (n : Nat) (c k : Int) (hk : 2 ≤ k ∧ k ≤ 100) : Runs (n + 3) i'l_words_2 [.fz (.int c), .fz (.int k)] fun t => ∃ ws, t = .lst ws ∧ ws.length = k.toNat ∧ ∀ d ∈ ws, Wo d := by
  refine runs_of (run'l_words_2 _ _ _) ?_
  (apply sat_if; focus ((conv => lhs; simp [argsOf, placesOf, putBack, put, putF, putAll, flg, R.view, R.viewR, kilS, SRes.kil, Md.wipe]); try rfl)) <;> intro _
  · obtain ⟨_, h1, ws, rfl, h2⟩ := digits_ok n (c / 2) k (by omega)
    (apply sat_ret; focus ((conv => lhs; simp [argsOf, placesOf, putBack, put, putF, putAll, flg, R.view, R.viewR, kilS, SRes.kil, Md.wipe, h1]); try rfl))
    exact ⟨_, rfl, ws, rfl, h2⟩
  · refine sat_nop ?_
    (apply sat_nx; focus ((conv => lhs; simp [argsOf, placesOf, putBack, put, putF, putAll, flg, R.view, R.viewR, kilS, SRes.kil, Md.wipe]); try rfl))
    (apply sat_nx; focus ((conv => lhs; simp [argsOf, placesOf, putBack, put, putF, putAll, flg, R.view, R.viewR, kilS, SRes.kil, Md.wipe]); try rfl))
    generalize c * 69621 % 2147483629 * 48271 % 2147483647 = m
    (apply sat_nx; focus ((conv => lhs; simp [argsOf, placesOf, putBack, put, putF, putAll, flg, R.view, R.viewR, kilS, SRes.kil, Md.wipe]); try rfl))
    (apply sat_nx; focus ((conv => lhs; simp [argsOf, placesOf, putBack, put, putF, putAll, flg, R.view, R.viewR, kilS, SRes.kil, Md.wipe, binop_mod _ _ (show 0 < 1 + m % 7 by omega)]); try rfl))
    have hl : 1 ≤ 1 + m % 7 ∧ 1 + m % 7 ≤ 7 := by omega
    generalize 1 + m % 7 = lo at hl
    generalize m / 7 % lo = sp
    (apply sat_nx; focus ((conv => lhs; simp [argsOf, placesOf, putBack, put, putF, putAll, flg, R.view, R.viewR, kilS, SRes.kil, Md.wipe]); try rfl))
    refine sat_for' (fun b (x : List Da) => b.set 5 (some (.lst x))) (fun j x => x.length = j ∧ ∀ d ∈ x, Wo7 d) [] (itr_r1 rfl rfl (by omega) (by omega)) rfl rfl rfl rfl rfl ⟨rfl, fun _ h => nomatch h⟩ (fun j d x hd hx => ?_) (fun x hx => ?_)
    · obtain ⟨rfl, hj⟩ := rng_get hd
      refine ⟨_, rfl, sat_kil ?_⟩
      (apply sat_nx; focus ((conv => lhs; simp [argsOf, placesOf, putBack, put, putF, putAll, flg, R.view, R.viewR, kilS, SRes.kil, Md.wipe]); try rfl))
      refine sat_for' (fun b (y : Str) => b.set 7 (some (.fz (.str y)))) (fun i y => y.length = i) ("" : Str) (itr_r1 rfl rfl (by omega) (by omega)) rfl rfl rfl rfl rfl rfl (fun i e y he hy => ?_) (fun y hy => ?_)
      · obtain ⟨rfl, hi⟩ := rng_get he
        refine ⟨_, rfl, sat_kil ?_⟩
        (apply sat_nx; focus ((conv => lhs; simp [argsOf, placesOf, putBack, put, putF, putAll, flg, R.view, R.viewR, kilS, SRes.kil, Md.wipe, binop_fdiv _ _ (show divOk (49 + 5 * (i : Int)) = true by rw [divOk_eq]; simp; omega), binop_mul _ _ (mulL (i := i) (j := m / 49 % 3) (by omega) (by omega)), binop_mul _ _ (mulL (i := 5) (j := i) (by omega) (by omega))]); try rfl))
        (apply sat_if; focus ((conv => lhs; simp [argsOf, placesOf, putBack, put, putF, putAll, flg, R.view, R.viewR, kilS, SRes.kil, Md.wipe]); try rfl)) <;> intro _
        · (apply sat_nx; focus ((conv => lhs; simp [argsOf, placesOf, putBack, put, putF, putAll, flg, R.view, R.viewR, kilS, SRes.kil, Md.wipe, binop_mul _ _ (mulL (i := 3) (j := j) (by omega) (by omega))]); try rfl))
          refine sat_nop ?_
          obtain ⟨ch, e⟩ := lt_ix (m / (49 + 5 * (i : Int)) + i * (m / 49 % 3) + 3 * j)
          (apply sat_nx; focus ((conv => lhs; simp [argsOf, placesOf, putBack, put, putF, putAll, flg, R.view, R.viewR, kilS, SRes.kil, Md.wipe, e, binop_adds, str1_len, szOk_lt (show y.length + 1 ≤ 1000000 by omega)]); try rfl))
          exact ⟨_, rfl, by simp [str_add_len, hy, str1_len]⟩
        · refine sat_nop ?_
          obtain ⟨ch, e⟩ := lt_ix (m / (49 + 5 * (i : Int)) + i * (m / 49 % 3))
          (apply sat_nx; focus ((conv => lhs; simp [argsOf, placesOf, putBack, put, putF, putAll, flg, R.view, R.viewR, kilS, SRes.kil, Md.wipe, e, binop_adds, str1_len, szOk_lt (show y.length + 1 ≤ 1000000 by omega)]); try rfl))
          exact ⟨_, rfl, by simp [str_add_len, hy, str1_len]⟩
      · rw [rangeUp_length] at hy
        (apply sat_nx; focus ((conv => lhs; simp [argsOf, placesOf, putBack, put, putF, putAll, flg, R.view, R.viewR, kilS, SRes.kil, Md.wipe, sl_lt (show x.length ≤ 1000000 by omega)]); try rfl))
        refine ⟨_, rfl, by simp [hx.1], fun d hd => ?_⟩
        rcases List.mem_append.mp hd with h | h
        · exact hx.2 d h
        · rw [List.mem_singleton.mp h]; exact ⟨y, rfl, by omega, by omega⟩
    · rw [rangeUp_length] at hx
      obtain ⟨hx1, hx2⟩ := hx
      (apply sat_if; focus ((conv => lhs; simp [argsOf, placesOf, putBack, put, putF, putAll, flg, R.view, R.viewR, kilS, SRes.kil, Md.wipe]); try rfl)) <;> intro _
      · obtain ⟨d0, d1, r, rfl⟩ : ∃ d0 d1 r, x = d0 :: d1 :: r := by
          match x, hx1 with
          | [], h => simp at h; omega
          | [_], h => simp at h; omega
          | d0 :: d1 :: r, _ => exact ⟨d0, d1, r, rfl⟩
        obtain ⟨y, rfl, l1, l2⟩ := hx2 d0 List.mem_cons_self
        obtain ⟨ch, e⟩ := lt_ix (m / 196)
        have ix : L2.ixN (r.length + 1 + 1) 1 = some 1 := by
          unfold L2.ixN
          simp
          omega
        (apply sat_nx; focus ((conv => lhs; simp [argsOf, placesOf, putBack, put, putF, putAll, flg, R.view, R.viewR, kilS, SRes.kil, Md.wipe, e, binop_adds, str1_len, szOk_lt (show y.length + 1 ≤ 1000000 by omega), ix]); try rfl))
        refine sat_nop ?_
        (apply sat_ret; focus ((conv => lhs; simp [argsOf, placesOf, putBack, put, putF, putAll, flg, R.view, R.viewR, kilS, SRes.kil, Md.wipe]); try rfl))
        refine ⟨_, rfl, _, rfl, by simpa using hx1, fun d hd => ?_⟩
        simp only [List.set_cons_succ, List.set_cons_zero, List.mem_cons] at hd
        rcases hd with rfl | rfl | hd
        · exact ⟨y, rfl, l1, by omega⟩
        · exact ⟨_, rfl, by rw [str_add_len]; omega, by rw [str_add_len, str1_len]; omega⟩
        · exact (hx2 d (by simp [hd])).wo
      · refine sat_nop ?_
        (apply sat_ret; focus ((conv => lhs; simp [argsOf, placesOf, putBack, put, putF, putAll, flg, R.view, R.viewR, kilS, SRes.kil, Md.wipe]); try rfl))
        exact ⟨_, rfl, x, rfl, hx1, fun d hd => (hx2 d hd).wo⟩
/-- a value -/
def Vl (d : Da) : Prop := Nu d ∨ Wo d
theorem vl_fits {d : Da} (h : Vl d) (k : Nat) : fits k d = true := by
  rcases h with ⟨i, rfl⟩ | ⟨x, rfl, _⟩ <;> simp
theorem vls_fit {ds : List Da} (h : ∀ d ∈ ds, Vl d) (k : Nat) : fitsAll k ds = true := (fitsAll_iff k ds).mpr fun d hd => vl_fits (h d hd) k
theorem vl_eqv {a b : Da} (ha : Vl a) (hb : Vl b) : PyData.eqv a b = true ↔ a = b := by
  rcases ha with ⟨i, rfl⟩ | ⟨x, rfl, _⟩ <;> rcases hb with ⟨j, rfl⟩ | ⟨y, rfl, _⟩ <;> simp [PyData.eqv]
noncomputable instance daDec : DecidableEq Da := fun a b => Classical.propDecidable (a = b)
/-- stands in -/
noncomputable def has (f : List Da) (d : Da) : Bool := decide (d ∈ f)
theorem vl_any {d : Da} {ds : List Da} (hd : Vl d) (h : ∀ d ∈ ds, Vl d) : (ds.any fun y => PyData.eqv y d) = has ds d := by
  unfold has
  rw [Bool.eq_iff_iff, List.any_eq_true, decide_eq_true_iff]
  constructor
  · rintro ⟨y, hy, e⟩; rw [← (vl_eqv (h y hy) hd).mp e]; exact hy
  · intro hm; exact ⟨d, hm, (vl_eqv hd hd).mpr rfl⟩
theorem isin_l {d : Da} {ds : List Da} (hd : Vl d) (h : ∀ d ∈ ds, Vl d) : Md.compare .isin d (.list ds) = some (has ds d) := by
  have f := vl_fits hd 64
  have g := vls_fit h 63
  rw [← vl_any hd h]
  rcases hd with ⟨i, rfl⟩ | ⟨x, rfl, _⟩
  · show (if (fits 64 (.int i) && fitsAll 63 ds) = true then some (ds.any fun y => PyData.eqv y (.int i)) else none) = _
    rw [f, g]; rfl
  · show (if (fits 64 (.str x) && fitsAll 63 ds) = true then some (ds.any fun y => PyData.eqv y (.str x)) else none) = _
    rw [f, g]; rfl
theorem notin_l {d : Da} {ds : List Da} (hd : Vl d) (h : ∀ d ∈ ds, Vl d) : Md.compare .notin d (.list ds) = some (!has ds d) := by
  have f := vl_fits hd 64
  have g := vls_fit h 63
  rw [← vl_any hd h]
  rcases hd with ⟨i, rfl⟩ | ⟨x, rfl, _⟩
  · show (if (fits 64 (.int i) && fitsAll 63 ds) = true then some (!ds.any fun y => PyData.eqv y (.int i)) else none) = _
    rw [f, g]; rfl
  · show (if (fits 64 (.str x) && fitsAll 63 ds) = true then some (!ds.any fun y => PyData.eqv y (.str x)) else none) = _
    rw [f, g]; rfl
theorem isin_t {d : Da} {ds : List Da} (hd : Vl d) (h : ∀ d ∈ ds, Vl d) : Md.compare .isin d (.tuple ds) = some (has ds d) := by
  have f := vl_fits hd 64
  have g := vls_fit h 63
  rw [← vl_any hd h]
  rcases hd with ⟨i, rfl⟩ | ⟨x, rfl, _⟩
  · show (if (fits 64 (.int i) && fitsAll 63 ds) = true then some (ds.any fun y => PyData.eqv y (.int i)) else none) = _
    rw [f, g]; rfl
  · show (if (fits 64 (.str x) && fitsAll 63 ds) = true then some (ds.any fun y => PyData.eqv y (.str x)) else none) = _
    rw [f, g]; rfl
theorem notin_t {d : Da} {ds : List Da} (hd : Vl d) (h : ∀ d ∈ ds, Vl d) : Md.compare .notin d (.tuple ds) = some (!has ds d) := by
  have f := vl_fits hd 64
  have g := vls_fit h 63
  rw [← vl_any hd h]
  rcases hd with ⟨i, rfl⟩ | ⟨x, rfl, _⟩
  · show (if (fits 64 (.int i) && fitsAll 63 ds) = true then some (!ds.any fun y => PyData.eqv y (.int i)) else none) = _
    rw [f, g]; rfl
  · show (if (fits 64 (.str x) && fitsAll 63 ds) = true then some (!ds.any fun y => PyData.eqv y (.str x)) else none) = _
    rw [f, g]; rfl
theorem cutL_take (xs : List Da) (k : Int) (h : 0 ≤ k) : cutL xs none (some k) = xs.take k.toNat := by
  show (xs.drop 0).take ((if k < 0 then (k + (xs.length : Int)).toNat else min k.toNat xs.length) - 0) = _
  rw [if_neg (by omega), List.drop_zero, Nat.sub_zero]
  rcases Nat.le_total k.toNat xs.length with c | c
  · rw [Nat.min_eq_left c]
  · rw [Nat.min_eq_right c, List.take_length, List.take_of_length_le c]
theorem cutL_drop (xs : List Da) (k : Int) (h : 0 ≤ k) : cutL xs (some k) none = xs.drop k.toNat := by
  show (xs.drop (if k < 0 then (k + (xs.length : Int)).toNat else min k.toNat xs.length)).take (xs.length - (if k < 0 then (k + (xs.length : Int)).toNat else min k.toNat xs.length)) = _
  rw [if_neg (by omega)]
  rcases Nat.le_total k.toNat xs.length with c | c
  · rw [Nat.min_eq_left c, List.take_of_length_le (by simp)]
  · rw [Nat.min_eq_right c, List.drop_of_length_le (Nat.le_refl _), List.drop_of_length_le c]; simp
theorem cutL_mem {xs : List Da} {a b : Option Int} {d : Da} (h : d ∈ cutL xs a b) : d ∈ xs := List.mem_of_mem_drop (List.mem_of_mem_take h)
theorem cutL_len (xs : List Da) (a b : Option Int) : (cutL xs a b).length ≤ xs.length := by
  unfold cutL
  rw [List.length_take, List.length_drop]
  omega
theorem p30 : binop .pow (.int 10) (.int 30) = some (.int 1000000000000000000000000000000) := by rw [binop_pow _ _ (by rw [powOk_eq]; decide +kernel)]; rfl
theorem m230 : binop .mul (.int 2) (.int 1000000000000000000000000000000) = some (.int 2000000000000000000000000000000) := by rw [binop_mul _ _ (mulL (by omega) (by omega))]; rfl
theorem f30 : divOk 1999999999999999999999999999999 = true := by rw [divOk_eq]; decide +kernel
theorem values_ok (n : Nat) (c : Int) (ws : List Da) (hl : ws.length = 2) (hw : ∀ d ∈ ws, Wo d) : Runs (n + 2) i'l_values_2 [.fz (.int c), .fz (.list ws)] fun t => ∃ vs, t = .lst vs ∧ 0 < vs.length ∧ vs.length ≤ 10 ∧ ∀ d ∈ vs, Vl d := by
  refine runs_of (run'l_values_2 _ _ _) ?_
  (apply sat_if; focus ((conv => lhs; simp [argsOf, placesOf, putBack, put, putF, putAll, flg, R.view, R.viewR, kilS, SRes.kil, Md.wipe]); try rfl)) <;> intro _
  · (apply sat_nx; focus ((conv => lhs; simp [argsOf, placesOf, putBack, put, putF, putAll, flg, R.view, R.viewR, kilS, SRes.kil, Md.wipe]); try rfl)); (apply sat_nx; focus ((conv => lhs; simp [argsOf, placesOf, putBack, put, putF, putAll, flg, R.view, R.viewR, kilS, SRes.kil, Md.wipe]); try rfl)); (apply sat_nx; focus ((conv => lhs; simp [argsOf, placesOf, putBack, put, putF, putAll, flg, R.view, R.viewR, kilS, SRes.kil, Md.wipe]); try rfl)); (apply sat_nx; focus ((conv => lhs; simp [argsOf, placesOf, putBack, put, putF, putAll, flg, R.view, R.viewR, kilS, SRes.kil, Md.wipe]); try rfl))
    have hm : 2 ≤ 2 + c / 2 % 3 ∧ 2 + c / 2 % 3 ≤ 4 := by omega
    generalize 2 + c / 2 % 3 = m at hm
    refine sat_for' (fun b (x : List Da × Int) => (b.set 7 (some (.lst x.1))).set 5 (some (.fz (.int x.2)))) (fun j x => x.1.length ≤ j ∧ (∀ d ∈ x.1, Vl d) ∧ (1 ≤ j → x.1 ≠ [])) ([], c / 2 / 3) (itr_r1 rfl rfl (by omega) (by omega)) rfl rfl rfl rfl rfl ⟨Nat.le_refl _, (fun _ h => nomatch h), fun h => by omega⟩ (fun j d x hd hx => ?_) (fun x hx => ?_)
    · obtain ⟨rfl, hj⟩ := rng_get hd
      obtain ⟨hx1, hx2, hx3⟩ := hx
      obtain ⟨_, h1, w, r, rfl, l1, l2⟩ := name_in_ok n (x.2 / 2)
      refine ⟨_, rfl, sat_kil ?_⟩
      (apply sat_nx; focus ((conv => lhs; simp [argsOf, placesOf, putBack, put, putF, putAll, flg, R.view, R.viewR, kilS, SRes.kil, Md.wipe, h1]); try rfl))
      refine sat_join (fun b (y : Da × Int) => (b.set 9 (some (.fz y.1))).set 5 (some (.fz (.int y.2)))) (fun y => Vl y.1) (by ((conv => lhs; simp [argsOf, placesOf, putBack, put, putF, putAll, flg, R.view, R.viewR, kilS, SRes.kil, Md.wipe]); try rfl)) (fun _ => ?_) (fun _ => ?_) (fun y hy => ?_)
      · (apply sat_nx; focus ((conv => lhs; simp [argsOf, placesOf, putBack, put, putF, putAll, flg, R.view, R.viewR, kilS, SRes.kil, Md.wipe, p30, m230]); try rfl))
        (apply sat_nx; focus ((conv => lhs; simp [argsOf, placesOf, putBack, put, putF, putAll, flg, R.view, R.viewR, kilS, SRes.kil, Md.wipe, p30, m230, binop_fdiv _ _ f30]); try rfl))
        exact ⟨(.int _, _), rfl, .inl ⟨_, rfl⟩⟩
      · exact ⟨(.str w, r), rfl, .inr ⟨w, rfl, l1, l2⟩⟩
      · refine sat_if (by ((conv => lhs; simp [argsOf, placesOf, putBack, put, putF, putAll, flg, R.view, R.viewR, kilS, SRes.kil, Md.wipe, notin_l hy hx2]); try rfl)) (fun _ => ?_) (fun hh => ?_)
        · (apply sat_nx; focus ((conv => lhs; simp [argsOf, placesOf, putBack, put, putF, putAll, flg, R.view, R.viewR, kilS, SRes.kil, Md.wipe, sl_lt (show x.1.length ≤ 1000000 by omega)]); try rfl))
          refine sat_nop ?_
          refine ⟨(_, _), rfl, by simp; omega, fun d hd => ?_, fun _ => by simp⟩
          rcases List.mem_append.mp hd with h | h
          · exact hx2 d h
          · rw [List.mem_singleton.mp h]; exact hy
        · refine sat_nop ?_
          refine ⟨(_, _), rfl, by show x.1.length ≤ _; omega, hx2, fun _ z => ?_⟩
          have hh : (!has x.1 y.1) = false := hh
          rw [show x.1 = [] from z] at hh
          simp [has] at hh
    · rw [rangeUp_length] at hx
      obtain ⟨hx1, hx2, hx3⟩ := hx
      have hx3 := hx3 (by omega)
      apply sat_ret
      focus
        ((conv => lhs; simp [argsOf, placesOf, putBack, put, putF, putAll, flg, R.view, R.viewR, kilS, SRes.kil, Md.wipe]); try rfl)
        (unfold c'l_values_2'0; rw [lc1f (fun d => !has x.1 d) id ws ?hi ?hv ?hw ?hl ?hp ?hz ?hb]; (case hi => (first | rfl | ((conv => lhs; simp [argsOf, placesOf, putBack, put, putF, putAll, flg, R.view, R.viewR, kilS, SRes.kil, Md.wipe]); try rfl))); (case hv => (first | rfl | simp)); (case hw => (first | rfl | ((conv => lhs; simp [argsOf, placesOf, putBack, put, putF, putAll, flg, R.view, R.viewR, kilS, SRes.kil, Md.wipe]); try rfl))); (case hl => rfl); (case hp => rfl))
        case hz => omega
        case hb =>
          intro d hd
          refine ⟨_, rfl, rfl, ?_, fun _ => ⟨_, rfl, rfl⟩⟩
          ((conv => lhs; simp [argsOf, placesOf, putBack, put, putF, putAll, flg, R.view, R.viewR, kilS, SRes.kil, Md.wipe, notin_l (.inr (hw d hd)) hx2]); try rfl)
        have hcl := cutL_len (List.filter (fun d => !has x.1 d) ws) none (some (2 - if (x.1.length : Int) < 2 then (x.1.length : Int) else 2))
        have hfl := List.length_filter_le (fun d => !has x.1 d) ws
        have hcm : ∀ d ∈ cutL (List.filter (fun d => !has x.1 d) ws) none (some (2 - if (x.1.length : Int) < 2 then (x.1.length : Int) else 2)), Vl d := fun d hd => .inr (hw d (List.mem_filter.mp (cutL_mem hd)).1)
        ((conv => lhs; simp [argsOf, placesOf, putBack, put, putF, putAll, flg, R.view, R.viewR, kilS, SRes.kil, Md.wipe]); try rfl)
        rw [binop_addl _ _ (szOk_lt (by omega))]
        rfl
      refine ⟨_, rfl, _, rfl, ?_, ?_, fun d hd => ?_⟩
      · rw [List.length_append]; have := List.length_pos_iff.mpr hx3; omega
      · have hcl := cutL_len (List.filter (fun d => !has x.1 d) ws) none (some (2 - if (x.1.length : Int) < 2 then (x.1.length : Int) else 2))
        have hfl := List.length_filter_le (fun d => !has x.1 d) ws
        rw [List.length_append]; omega
      · rcases List.mem_append.mp hd with h | h
        · exact hx2 d h
        · exact .inr (hw d (List.mem_filter.mp (cutL_mem h)).1)
  · refine sat_nop ?_
    match ws, hl, hw with
    | [a, b], _, hw =>
      (apply sat_nx; focus ((conv => lhs; simp [argsOf, placesOf, putBack, put, putF, putAll, flg, R.view, R.viewR, kilS, SRes.kil, Md.wipe, p30, m230]); try rfl))
      generalize c % 1999999999999999999999999999998 - 1000000000000000000000000000000 + 1 = nu
      (apply sat_nx; focus ((conv => lhs; simp [argsOf, placesOf, putBack, put, putF, putAll, flg, R.view, R.viewR, kilS, SRes.kil, Md.wipe]); try rfl))
      (apply sat_nx; focus ((conv => lhs; simp [argsOf, placesOf, putBack, put, putF, putAll, flg, R.view, R.viewR, kilS, SRes.kil, Md.wipe]); try rfl))
      have ht : 0 ≤ c / 5 % 4 ∧ c / 5 % 4 < 4 := by omega
      generalize c / 5 % 4 = tu at ht
      have e1 := cutL_drop [PyData.int nu, .int (nu + 1), a, b] tu ht.1
      have e2 := cutL_take [PyData.int nu, .int (nu + 1), a, b] tu ht.1
      have e3 : ∀ q, cutL q none (some (2 + c % 3)) = q.take (2 + c % 3).toNat := fun q => cutL_take _ _ (by omega)
      have l1 : ([PyData.int nu, .int (nu + 1), a, b].drop tu.toNat).length = 4 - tu.toNat := by simp
      have l2 : ([PyData.int nu, .int (nu + 1), a, b].take tu.toNat).length = min tu.toNat 4 := by simp
      have m1 : ∀ d ∈ [PyData.int nu, .int (nu + 1), a, b].drop tu.toNat ++ [PyData.int nu, .int (nu + 1), a, b].take tu.toNat, Vl d := fun d hd => by
        have : d ∈ [PyData.int nu, .int (nu + 1), a, b] := by
          rcases List.mem_append.mp hd with h | h
          · exact List.mem_of_mem_drop h
          · exact List.mem_of_mem_take h
        simp only [List.mem_cons, List.not_mem_nil, or_false] at this
        rcases this with rfl | rfl | rfl | rfl
        · exact .inl ⟨_, rfl⟩
        · exact .inl ⟨_, rfl⟩
        · exact .inr (hw _ (by simp))
        · exact .inr (hw _ (by simp))
      have e4 := binop_addl ([PyData.int nu, .int (nu + 1), a, b].drop tu.toNat) ([PyData.int nu, .int (nu + 1), a, b].take tu.toNat) (szOk_lt (by rw [l1, l2]; omega))
      apply sat_ret
      focus
        ((conv => lhs; simp [argsOf, placesOf, putBack, put, putF, putAll, flg, R.view, R.viewR, kilS, SRes.kil, Md.wipe, e1, e2, e4]); try rfl)
      refine ⟨_, rfl, _, rfl, ?_, ?_, fun d hd => ?_⟩
      · rw [e3, List.length_take, List.length_append, l1, l2]; omega
      · rw [e3, List.length_take, List.length_append, l1, l2]; omega
      · exact m1 d (cutL_mem hd)
end Md

/-! tables, terms, questions (k60-k66, k73-k75, k92) -/
namespace Md
open PySem (Str PyData)
/-- a table -/
def Tb (d : Da) : Prop := ∃ w k : Int, d = .tuple [.int w, .int k] ∧ 1 ≤ w ∧ w ≤ 4 ∧ 0 ≤ k ∧ k ≤ w
theorem lst6 (m : Int) : ∃ k : Int, L2.atI ([.int 0, .int 1, .int 1, .int 1, .int 2, .int 4] : List Da) (m % 6) = some (.int k) ∧ 0 ≤ k := by
  have : m % 6 = 0 ∨ m % 6 = 1 ∨ m % 6 = 2 ∨ m % 6 = 3 ∨ m % 6 = 4 ∨ m % 6 = 5 := by omega
  rcases this with h | h | h | h | h | h <;> rw [h] <;> exact ⟨_, rfl, by decide⟩
theorem tables_ok (n : Nat) (c : Int) : Runs (n + 2) i'l_tables_5 [.fz (.int c)] fun t => ∃ ts, t = .fz (.tuple ts) ∧ 1 ≤ ts.length ∧ ts.length ≤ 4 ∧ ∀ d ∈ ts, Tb d := by
  refine runs_of (run'l_tables_5 _ _) ?_
  obtain ⟨_, hds, ds, rfl, ld, wd⟩ := drawn_ok n c 5 (by decide)
  obtain ⟨d4, m4, e4⟩ := atI_ex (xs := ds) (i := 4) (by decide) (by rw [ld]; decide)
  obtain ⟨i4, rfl⟩ := wd d4 m4
  have e5 : cutL ds none (some (1 + i4 % 4)) = ds.take (1 + i4 % 4).toNat := cutL_take _ _ (by omega)
  have ll : (ds.take (1 + i4 % 4).toNat).length = (1 + i4 % 4).toNat := by rw [List.length_take, ld]; omega
  (apply sat_nx; focus ((conv => lhs; simp [argsOf, placesOf, putBack, put, putF, putAll, flg, R.view, R.viewR, kilS, SRes.kil, Md.wipe, hds]); try rfl))
  (apply sat_nx; focus ((conv => lhs; simp [argsOf, placesOf, putBack, put, putF, putAll, flg, R.view, R.viewR, kilS, SRes.kil, Md.wipe]); try rfl))
  refine sat_for' (fun b (x : List Da) => b.set 2 (some (.lst x))) (fun j x => x.length = j ∧ ∀ d ∈ x, Tb d) [] (itr_1 (r := .t (.lst (ds.take (1 + i4 % 4).toNat))) (by ((conv => lhs; simp [argsOf, placesOf, putBack, put, putF, putAll, flg, R.view, R.viewR, kilS, SRes.kil, Md.wipe, e4, e5]); try rfl)) rfl rfl) rfl rfl rfl rfl rfl ⟨rfl, fun _ h => nomatch h⟩ (fun j d x hd hx => ?_) (fun x hx => ?_)
  · have hj := (List.getElem?_eq_some_iff.mp hd).1
    rw [ll] at hj
    obtain ⟨m, rfl⟩ := wd d (List.mem_of_mem_take (List.mem_of_getElem? hd))
    refine ⟨_, rfl, sat_kil ?_⟩
    (apply sat_nx; focus ((conv => lhs; simp [argsOf, placesOf, putBack, put, putF, putAll, flg, R.view, R.viewR, kilS, SRes.kil, Md.wipe]); try rfl))
    have hw : 1 ≤ 1 + m % 3 + (if m / 3 % 5 = 0 then 1 else 0) ∧ 1 + m % 3 + (if m / 3 % 5 = 0 then 1 else 0) ≤ 4 := by split <;> omega
    generalize 1 + m % 3 + (if m / 3 % 5 = 0 then 1 else 0) = w at hw
    obtain ⟨k, hk, k0⟩ := lst6 (m / 15)
    (apply sat_nx; focus ((conv => lhs; simp [argsOf, placesOf, putBack, put, putF, putAll, flg, R.view, R.viewR, kilS, SRes.kil, Md.wipe, hk, sl_lt (show x.length ≤ 1000000 by omega)]); try rfl))
    refine ⟨_, rfl, by simp [hx.1], fun d hd => ?_⟩
    rcases List.mem_append.mp hd with h | h
    · exact hx.2 d h
    · rw [List.mem_singleton.mp h]; exact ⟨w, _, rfl, hw.1, hw.2, by split <;> omega, by split <;> omega⟩
  · rw [ll] at hx
    (apply sat_ret; focus ((conv => lhs; simp [argsOf, placesOf, putBack, put, putF, putAll, flg, R.view, R.viewR, kilS, SRes.kil, Md.wipe]); try rfl))
    exact ⟨_, rfl, x, rfl, by omega, by omega, hx.2⟩
/-- a term of an atom -/
def Tm (d : Da) : Prop := (∃ x : Str, d = .tuple [.str "var", .str x] ∧ 1 ≤ x.length ∧ x.length ≤ 8) ∨ ∃ v, Vl v ∧ d = .tuple [.str "is", v]
/-- .. of these names -/
def Tw (ns : List Da) (d : Da) : Prop := (∃ x ∈ ns, Wo x ∧ d = .tuple [.str "var", x]) ∨ ∃ v, Vl v ∧ d = .tuple [.str "is", v]
theorem Tw.tm {ns : List Da} {d : Da} (h : Tw ns d) : Tm d := by
  rcases h with ⟨_, _, ⟨x, rfl, h1, h2⟩, rfl⟩ | h
  · exact .inl ⟨x, rfl, h1, h2⟩
  · exact .inr h
theorem term_ok (n : Nat) (c : Int) (ns : List Da) (vs : List Da) (h1 : 0 < ns.length) (h2 : 0 < vs.length) (hn : ∀ d ∈ ns, Wo d) (hv : ∀ d ∈ vs, Vl d) :
    Runs (n + 1) i'l_term_2 [.fz (.int c), .fz (.list ns), .lst vs] fun t => ∃ d, t = .fz d ∧ Tw ns d := by
  refine runs_of (run'l_term_2 _ _ _ _) ?_
  have a1 : (0 : Int) < vs.length := by omega
  have a2 : (0 : Int) < ns.length := by omega
  (apply sat_if; focus ((conv => lhs; simp [argsOf, placesOf, putBack, put, putF, putAll, flg, R.view, R.viewR, kilS, SRes.kil, Md.wipe]); try rfl)) <;> intro _
  · obtain ⟨d, m, e⟩ := atI_ex (xs := vs) (i := c / 6 % vs.length) (by exact Int.emod_nonneg _ (by omega)) (Int.emod_lt_of_pos _ a1)
    (apply sat_ret; focus ((conv => lhs; simp [argsOf, placesOf, putBack, put, putF, putAll, flg, R.view, R.viewR, kilS, SRes.kil, Md.wipe, binop_mod _ _ a1, e]); try rfl))
    exact ⟨_, rfl, _, rfl, .inr ⟨d, hv d m, rfl⟩⟩
  · refine sat_nop ?_
    obtain ⟨d, m, e⟩ := atI_ex (xs := ns) (i := c / 6 % ns.length) (by exact Int.emod_nonneg _ (by omega)) (Int.emod_lt_of_pos _ a2)
    (apply sat_ret; focus ((conv => lhs; simp [argsOf, placesOf, putBack, put, putF, putAll, flg, R.view, R.viewR, kilS, SRes.kil, Md.wipe, binop_mod _ _ a2, e]); try rfl))
    exact ⟨_, rfl, _, rfl, .inl ⟨d, m, hn d m, rfl⟩⟩
theorem wo_alike {ds : List Da} (h : ∀ d ∈ ds, Wo d) : alikeB ds = true := by
  refine List.all_eq_true.mpr fun d hd => List.all_eq_true.mpr fun e he => ?_
  obtain ⟨x, rfl, _⟩ := h d hd
  obtain ⟨y, rfl, _⟩ := h e he
  rfl
theorem sorted_wo {ds : List Da} (h : ∀ d ∈ ds, Wo d) : call1 .sorted (.list ds) = some (.lst (srt ds)) := by
  have h1 := wo_alike h
  have h2 : sortB ds = true := by
    unfold sortB
    rw [Bool.or_eq_true, Bool.or_eq_true]
    exact .inl (.inr (List.all_eq_true.mpr fun d hd => by obtain ⟨x, rfl, _⟩ := h d hd; rfl))
  have h3 := vls_fit (fun d hd => .inr (h d hd)) 64
  show (if (alikeB ds && sortB ds && fitsAll 64 ds) = true then some (T.lst (srt ds)) else none) = _
  rw [h1, h2, h3]
  rfl
theorem srt_perm' (ds : List Da) : (srt ds).Perm ds := List.mergeSort_perm _ _
theorem keq_wo {a b : Da} (ha : Wo a) (hb : Wo b) : keq a b = true ↔ a = b := by
  obtain ⟨x, rfl, _⟩ := ha
  obtain ⟨y, rfl, _⟩ := hb
  rw [keq]
  simp
theorem look_wo {kvs : List (Da × Da)} {k : Da} (hk : Wo k) (h : ∀ p ∈ kvs, Wo p.1) : (lookD k kvs).isSome = true ↔ k ∈ kvs.map (·.1) := by
  induction kvs with
  | nil => simp [lookD]
  | cons p r ih =>
    have ih := ih fun q hq => h q (List.mem_cons_of_mem _ hq)
    have hp := h p List.mem_cons_self
    obtain ⟨a, v⟩ := p
    rw [lookD]
    by_cases e : keq a k = true
    · rw [if_pos e]
      have : a = k := (keq_wo hp hk).mp e
      subst this
      simp
    · rw [if_neg e, ih]
      have : k ≠ a := fun q => e ((keq_wo hp hk).mpr q.symm)
      simp [this]
theorem putD_keys {kvs : List (Da × Da)} {k v : Da} (hk : Wo k) (h : ∀ p ∈ kvs, Wo p.1) : (putD kvs k v).map (·.1) = if k ∈ kvs.map (·.1) then kvs.map (·.1) else kvs.map (·.1) ++ [k] := by
  unfold putD
  by_cases e : (lookD k kvs).isSome = true
  · rw [if_pos e, if_pos ((look_wo hk h).mp e), List.map_map]
    refine List.map_congr_left fun p _ => ?_
    show (if keq p.1 k = true then (p.1, v) else p).1 = p.1
    split <;> rfl
  · rw [if_neg e, if_neg fun q => e ((look_wo hk h).mpr q)]; simp
theorem nodup_snoc {α : Type} {l : List α} {a : α} (h : l.Nodup) (ha : a ∉ l) : (l ++ [a]).Nodup := List.nodup_append.mpr ⟨h, by simp, fun x hx y hy e => ha (by rw [← List.mem_singleton.mp hy, ← e]; exact hx)⟩
/-- an atom with some names -/
def Aw (ns : List Da) (a : Da) : Prop := ∃ (t : Int) (ts : List Da), a = .tuple [.int t, .tuple ts] ∧ ts.length ≤ 4 ∧ ∀ d ∈ ts, Tw ns d
theorem standing_ok (n : Nat) (as ns : List Da) (hl : ns.length ≤ 1000) (ha : ∀ a ∈ as, Aw ns a) : Runs (n + 1) i'l_standing [.lst as] fun t => ∃ ds, t = .lst ds ∧ ds.Nodup ∧ ∀ d ∈ ds, d ∈ ns ∧ Wo d := by
  refine runs_of (run'l_standing _ _) ?_
  (apply sat_nx; focus ((conv => lhs; simp [argsOf, placesOf, putBack, put, putF, putAll, flg, R.view, R.viewR, kilS, SRes.kil, Md.wipe]); try rfl))
  have fin : ∀ {ds : List Da}, ds.Nodup → (∀ d ∈ ds, d ∈ ns ∧ Wo d) → ds.length ≤ 1000 := fun h1 h2 => by
    have := List.Nodup.length_le_of_subset h1 (fun d hd => (h2 d hd).1)
    omega
  refine sat_for (fun b (x : List (Da × Da)) => b.set 1 (some (.dct x))) (fun _ x => (x.map (·.1)).Nodup ∧ ∀ d ∈ x.map (·.1), d ∈ ns ∧ Wo d) [] (itr_1 (d := .list as) (r := .p 0) rfl rfl rfl) rfl rfl rfl ⟨List.nodup_nil, fun _ h => nomatch h⟩ (fun j d x hd hx => ?_) (fun x hx => ?_)
  · obtain ⟨t, ts, rfl, lt, ht⟩ := ha d (List.mem_of_getElem? hd)
    refine ⟨_, rfl, sat_kil ?_⟩
    refine sat_for' (fun b (x : List (Da × Da)) => b.set 1 (some (.dct x))) (fun _ x => (x.map (·.1)).Nodup ∧ ∀ d ∈ x.map (·.1), d ∈ ns ∧ Wo d) x (itr_1 (d := .tuple ts) rfl rfl rfl) rfl rfl rfl rfl rfl hx (fun i e y he hy => ?_) (fun y hy => ?_)
    · refine ⟨_, rfl, sat_kil ?_⟩
      rcases ht e (List.mem_of_getElem? he) with ⟨w, hw, ww, rfl⟩ | ⟨v, hv, rfl⟩
      · have hk := putD_keys (v := .bool true) ww fun p hp => (hy.2 p.1 (List.mem_map_of_mem hp)).2
        have hlen : y.length < PySem.sizeLine := sl_lt (by have := fin hy.1 hy.2; rw [List.length_map] at this; omega)
        have hko : kOk w = true := by obtain ⟨z, rfl, _⟩ := ww; rfl
        (apply sat_ift; focus ((conv => lhs; simp [argsOf, placesOf, putBack, put, putF, putAll, flg, R.view, R.viewR, kilS, SRes.kil, Md.wipe]); try rfl))
        (apply sat_nx; focus ((conv => lhs; simp [argsOf, placesOf, putBack, put, putF, putAll, flg, R.view, R.viewR, kilS, SRes.kil, Md.wipe, hko, hlen]); try rfl))
        refine sat_nop ?_
        refine ⟨_, rfl, ?_⟩
        rw [hk]
        by_cases q : w ∈ y.map (·.1)
        · rw [if_pos q]; exact hy
        · rw [if_neg q]
          refine ⟨nodup_snoc hy.1 q, fun d hd => ?_⟩
          rcases List.mem_append.mp hd with h | h
          · exact hy.2 d h
          · rw [List.mem_singleton.mp h]; exact ⟨hw, ww⟩
      · apply sat_iff
        · ((conv => lhs; simp [argsOf, placesOf, putBack, put, putF, putAll, flg, R.view, R.viewR, kilS, SRes.kil, Md.wipe]); try rfl)
        · refine sat_nop ?_
          exact ⟨_, rfl, hy⟩
    · exact ⟨_, rfl, hy⟩
  · refine ⟨_, rfl, ?_⟩
    have hs := sorted_wo fun d hd => (hx.2 d hd).2
    (apply sat_ret; focus ((conv => lhs; simp [argsOf, placesOf, putBack, put, putF, putAll, flg, R.view, R.viewR, kilS, SRes.kil, Md.wipe, hs]); try rfl))
    refine ⟨_, rfl, _, rfl, (srt_perm' _).nodup_iff.mpr hx.1, fun d hd => hx.2 d ((srt_perm' _).mem_iff.mp hd)⟩
end Md

/-! questions -/
namespace Md
open PySem (Str PyData)
/-- an atom over some tables -/
def At (tbs ns : List Da) (a : Da) : Prop := ∃ (t w k : Int) (ts : List Da), a = .tuple [.int t, .tuple ts] ∧ L2.atI tbs t = some (.tuple [.int w, .int k]) ∧ 0 ≤ t ∧ 0 ≤ k ∧ k ≤ w ∧ (ts.length : Int) = w ∧ w ≤ 4 ∧ ∀ d ∈ ts, Tw ns d
def Tn : Da → Da
  | .tuple [t, _] => t
  | _ => .none
/-- a question over some tables, of some names -/
def Qn (tbs ns : List Da) (q : Da) : Prop := ∃ g as, q = .tuple [.tuple g, .tuple as] ∧ g.length ≤ 2 ∧ (∀ d ∈ g, d ∈ ns ∧ Wo d) ∧ 1 ≤ as.length ∧ as.length ≤ 4 ∧ (as.map Tn).Nodup ∧ ∀ a ∈ as, At tbs ns a
/-- the tables in some order -/
def Od (m : Nat) (x : List Da) : Prop := x.length = m ∧ x.Nodup ∧ ∀ d ∈ x, ∃ i : Nat, d = .int (i : Int) ∧ i < m
theorem od_mk (c : Int) (m : Nat) (hm : 0 < m) : Od m ((List.range m).map fun (j : Nat) => .int ((c + (j : Int)) % (m : Int))) := by
  refine ⟨by simp, ?_, fun d hd => ?_⟩
  · refine List.pairwise_map.mpr (List.nodup_range.imp_of_mem fun {i j} hi hj hij e => ?_)
    have hi := List.mem_range.mp hi
    have hj := List.mem_range.mp hj
    simp only [PyData.int.injEq] at e
    have h2 : ((c + (j : Int)) - (c + (i : Int))) % (m : Int) = 0 := by rw [Int.sub_emod, e, Int.sub_self]; rfl
    have h2' : ((c + (i : Int)) - (c + (j : Int))) % (m : Int) = 0 := by rw [Int.sub_emod, e, Int.sub_self]; rfl
    rw [show (c + (j : Int)) - (c + (i : Int)) = (j : Int) - i by omega] at h2
    rw [show (c + (i : Int)) - (c + (j : Int)) = (i : Int) - j by omega] at h2'
    rcases Nat.lt_or_ge i j with q | q
    · rw [Int.emod_eq_of_lt (by omega) (by omega)] at h2
      omega
    · rw [Int.emod_eq_of_lt (by omega) (by omega)] at h2'
      omega
  · obtain ⟨j, hj, rfl⟩ := List.mem_map.mp hd
    have h0 : (0 : Int) < m := by omega
    have h1 := Int.emod_nonneg (c + (j : Int)) (show (m : Int) ≠ 0 by omega)
    have h2 := Int.emod_lt_of_pos (c + (j : Int)) h0
    exact ⟨((c + (j : Int)) % m).toNat, by rw [Int.toNat_of_nonneg h1], by omega⟩
theorem Od.rev {m : Nat} {x : List Da} (h : Od m x) : Od m x.reverse := ⟨by rw [List.length_reverse]; exact h.1, (List.reverse_perm x).nodup_iff.mpr h.2.1, fun d hd => h.2.2 d (List.mem_reverse.mp hd)⟩
def pw3 : Nat → Int
  | 0 => 1
  | 1 => 3
  | 2 => 9
  | _ => 27
theorem pw3_at {j : Nat} (h : j < 4) : L2.atI ([.int 1, .int 3, .int 9, .int 27] : List Da) (j : Int) = some (.int (pw3 j)) ∧ 0 < pw3 j ∧ pw3 j < 100 := by
  rw [atI_nat]
  have : j = 0 ∨ j = 1 ∨ j = 2 ∨ j = 3 := by omega
  rcases this with rfl | rfl | rfl | rfl <;> exact ⟨rfl, by decide, by decide⟩
theorem question_ok (n : Nat) (cs tbs ns vs : List Da) (lc : cs.length = 6) (hc : ∀ d ∈ cs, Nu d) (l1 : 1 ≤ tbs.length) (l4 : tbs.length ≤ 4) (ht : ∀ d ∈ tbs, Tb d) (n1 : 0 < ns.length) (n4 : ns.length ≤ 4) (hn : ∀ d ∈ ns, Wo d) (v1 : 0 < vs.length) (hv : ∀ d ∈ vs, Vl d) :
    Runs (n + 3) i'l_question_3 [.lst cs, .fz (.tuple tbs), .fz (.list ns), .lst vs] fun t => ∃ q, t = .fz q ∧ Qn tbs ns q := by
  refine runs_of (run'l_question_3 _ _ _ _ _) ?_
  obtain ⟨_, m0, e0⟩ := atI_ex (xs := cs) (i := 0) (by decide) (by rw [lc]; decide)
  obtain ⟨c0, rfl⟩ := hc _ m0
  obtain ⟨_, m1, e1⟩ := atI_ex (xs := cs) (i := 1) (by decide) (by rw [lc]; decide)
  obtain ⟨c1, rfl⟩ := hc _ m1
  have lp : (0 : Int) < tbs.length := by omega
  (apply sat_nx; focus ((conv => lhs; simp [argsOf, placesOf, putBack, put, putF, putAll, flg, R.view, R.viewR, kilS, SRes.kil, Md.wipe, e0, binop_mod _ _ lp]); try rfl))
  have hm : 1 ≤ 1 + c0 % tbs.length ∧ 1 + c0 % (tbs.length : Int) ≤ tbs.length := by
    have h1 := Int.emod_nonneg c0 (show (tbs.length : Int) ≠ 0 by omega)
    have h2 := Int.emod_lt_of_pos c0 lp
    omega
  generalize 1 + c0 % (tbs.length : Int) = m at hm
  have od := od_mk (c0 / 4) tbs.length (by omega)
  apply sat_nx
  focus
    ((conv => lhs; simp [argsOf, placesOf, putBack, put, putF, putAll, flg, R.view, R.viewR, kilS, SRes.kil, Md.wipe]); try rfl)
    (unfold c'l_question_3'2; rw [lc1r (tbs.length : Int) (fun (j : Nat) => .int ((c0 / 4 + (j : Int)) % (tbs.length : Int))) ?hi ?hv ?h0 ?h1 ?hl ?hp ?hb]; (case hi => (first | rfl | ((conv => lhs; simp [argsOf, placesOf, putBack, put, putF, putAll, flg, R.view, R.viewR, kilS, SRes.kil, Md.wipe]); try rfl))); (case hv => (first | rfl | simp)); (case h0 => omega); (case h1 => omega); (case hl => rfl); (case hp => rfl))
    case hb =>
      intro j hj
      refine ⟨_, _, rfl, rfl, by ((conv => lhs; simp [argsOf, placesOf, putBack, put, putF, putAll, flg, R.view, R.viewR, kilS, SRes.kil, Md.wipe, e0, binop_mod _ _ lp]); try rfl), rfl⟩
    ((conv => lhs; simp [argsOf, placesOf, putBack, put, putF, putAll, flg, R.view, R.viewR, kilS, SRes.kil, Md.wipe]); try rfl)
  try rw [Int.toNat_natCast]
  generalize (List.range tbs.length).map (fun (j : Nat) => PyData.int ((c0 / 4 + (j : Int)) % (tbs.length : Int))) = od0 at od
  refine sat_join (fun b (x : List Da) => b.set 5 (some (.lst x))) (fun x => Od tbs.length x) (by ((conv => lhs; simp [argsOf, placesOf, putBack, put, putF, putAll, flg, R.view, R.viewR, kilS, SRes.kil, Md.wipe, e0]); try rfl)) (fun _ => ?_) (fun _ => ?_) (fun x hx => ?_)
  · (apply sat_nx; focus ((conv => lhs; simp [argsOf, placesOf, putBack, put, putF, putAll, flg, R.view, R.viewR, kilS, SRes.kil, Md.wipe]); try rfl))
    exact ⟨_, rfl, od.rev⟩
  · exact ⟨_, rfl, od⟩
  obtain ⟨ox, onx, oix⟩ := hx
  (apply sat_nx; focus ((conv => lhs; simp [argsOf, placesOf, putBack, put, putF, putAll, flg, R.view, R.viewR, kilS, SRes.kil, Md.wipe]); try rfl))
  refine sat_for' (fun b (y : List Da) => b.set 6 (some (.lst y))) (fun j y => y.map Tn = x.take j ∧ ∀ a ∈ y, At tbs ns a) [] (itr_r1 rfl rfl (by omega) (by omega)) rfl rfl rfl rfl rfl ⟨by simp, fun _ h => nomatch h⟩ (fun j d y hd hy => ?_) (fun y hy => ?_)
  · obtain ⟨rfl, hj⟩ := rng_get hd
    have jx : j < x.length := by omega
    obtain ⟨i, hi, li⟩ := oix x[j] (List.getElem_mem jx)
    have ex : L2.atI x (j : Int) = some (.int (i : Int)) := by rw [atI_nat, List.getElem?_eq_getElem jx, hi]
    obtain ⟨_, mc, ec⟩ := atI_ex (xs := cs) (i := 2 + (j : Int)) (by omega) (by rw [lc]; omega)
    obtain ⟨cj, rfl⟩ := hc _ mc
    obtain ⟨w, k, ew, w1, w2, k1, k2⟩ := ht tbs[i] (List.getElem_mem li)
    have et : L2.atI tbs (i : Int) = some (.tuple [.int w, .int k]) := by rw [atI_nat, List.getElem?_eq_getElem li, ew]
    obtain ⟨_, hds, ds, rfl, ld, wd⟩ := drawn_ok (n + 1) cj 4 (by decide)
    have ll : y.length = j := by
      have := congrArg List.length hy.1
      rw [List.length_map, List.length_take] at this
      omega
    refine ⟨_, rfl, sat_kil ?_⟩
    (apply sat_nx; focus ((conv => lhs; simp [argsOf, placesOf, putBack, put, putF, putAll, flg, R.view, R.viewR, kilS, SRes.kil, Md.wipe, ec, hds]); try rfl))
    (apply sat_nx; focus ((conv => lhs; simp [argsOf, placesOf, putBack, put, putF, putAll, flg, R.view, R.viewR, kilS, SRes.kil, Md.wipe, ex, et]); try rfl))
    have e4 : cutL ds none (some w) = ds.take w.toNat := cutL_take _ _ (by omega)
    have key : ∀ d : Da, ∃ e : Da, (∃ i, d = .int i) → (run Pg0 DG (n + 2) i'l_term_2 [.fz d, .fz (.list ns), .lst vs] = .ok (.fz e) [.fz d, .fz (.list ns), .lst vs] ∧ Tw ns e) := fun d => by
      by_cases q : ∃ i, d = .int i
      · obtain ⟨i, rfl⟩ := q
        obtain ⟨_, h1, e, rfl, h2⟩ := term_ok (n + 1) i ns vs n1 v1 hn hv
        exact ⟨e, fun _ => ⟨h1, h2⟩⟩
      · exact ⟨.none, fun z => absurd z q⟩
    let tf : Da → Da := fun d => Classical.choose (key d)
    have htf : ∀ i : Int, run Pg0 DG (n + 2) i'l_term_2 [.fz (.int i), .fz (.list ns), .lst vs] = .ok (.fz (tf (.int i))) [.fz (.int i), .fz (.list ns), .lst vs] ∧ Tw ns (tf (.int i)) := fun i => Classical.choose_spec (key (.int i)) ⟨i, rfl⟩
    have ld4 : ds.length = 4 := ld
    apply sat_nx
    focus
      ((conv => lhs; simp [argsOf, placesOf, putBack, put, putF, putAll, flg, R.view, R.viewR, kilS, SRes.kil, Md.wipe, ex]); try rfl)
      (unfold c'l_question_3'1; rw [lc1m tf (ds.take w.toNat) ?hi ?hv ?hw ?hl ?hp ?hz ?hb]; (case hi => (first | rfl | ((conv => lhs; simp [argsOf, placesOf, putBack, put, putF, putAll, flg, R.view, R.viewR, kilS, SRes.kil, Md.wipe, e4]); try rfl))); (case hv => (first | rfl | simp)); (case hw => (first | rfl | ((conv => lhs; simp [argsOf, placesOf, putBack, put, putF, putAll, flg, R.view, R.viewR, kilS, SRes.kil, Md.wipe, e4]); try rfl))); (case hl => rfl); (case hp => rfl))
      case hz => rw [List.length_take]; omega
      case hb =>
        intro d hd
        obtain ⟨i, rfl⟩ := wd d (List.mem_of_mem_take hd)
        exact ⟨_, _, rfl, rfl, by ((conv => lhs; simp [argsOf, placesOf, putBack, put, putF, putAll, flg, R.view, R.viewR, kilS, SRes.kil, Md.wipe, (htf i).1]); try rfl), rfl⟩
      ((conv => lhs; simp [argsOf, placesOf, putBack, put, putF, putAll, flg, R.view, R.viewR, kilS, SRes.kil, Md.wipe, sl_lt (show y.length ≤ 1000000 by omega)]); try rfl)
    refine ⟨_, rfl, ?_, fun a ha => ?_⟩
    · rw [List.map_append, hy.1, List.take_add_one, List.getElem?_eq_getElem jx, hi]; rfl
    · rcases List.mem_append.mp ha with h | h
      · exact hy.2 a h
      · rw [List.mem_singleton.mp h]
        refine ⟨i, w, k, _, rfl, et, by omega, k1, k2, ?_, w2, fun d hd => ?_⟩
        · rw [List.length_take, List.length_map]; omega
        · obtain ⟨e, he, rfl⟩ := List.mem_map.mp (List.mem_of_mem_take hd)
          obtain ⟨i, rfl⟩ := wd e he
          exact (htf i).2
  · rw [rangeUp_length] at hy
    have ly : y.length = m.toNat := by
      have := congrArg List.length hy.1
      rw [List.length_map, List.length_take] at this
      omega
    have nd : (y.map Tn).Nodup := by rw [hy.1]; exact onx.sublist (List.take_sublist _ _)
    obtain ⟨_, hst, ds, rfl, nds, wds⟩ := standing_ok (n + 1) y ns (by omega) fun a ha => by
      obtain ⟨t, w, k, ts, rfl, _, _, _, _, h1, h2, h3⟩ := hy.2 a ha
      exact ⟨t, ts, rfl, by omega, h3⟩
    have lds : ds.length ≤ 4 := by
      have := List.Nodup.length_le_of_subset nds (fun d hd => (wds d hd).1)
      omega
    (apply sat_nx; focus ((conv => lhs; simp [argsOf, placesOf, putBack, put, putF, putAll, flg, R.view, R.viewR, kilS, SRes.kil, Md.wipe, hst]); try rfl))
    apply sat_nx
    focus
      ((conv => lhs; simp [argsOf, placesOf, putBack, put, putF, putAll, flg, R.view, R.viewR, kilS, SRes.kil, Md.wipe]); try rfl)
      (unfold c'l_question_3'0; rw [lc1rf (ds.length : Int) (fun j => decide (c1 / pw3 j % 3 = 1)) (fun j => ds[j]?.getD .none) ?hi ?hv ?h0 ?h1 ?hl ?hp ?hb]; (case hi => (first | rfl | ((conv => lhs; simp [argsOf, placesOf, putBack, put, putF, putAll, flg, R.view, R.viewR, kilS, SRes.kil, Md.wipe]); try rfl))); (case hv => (first | rfl | simp)); (case h0 => omega); (case h1 => omega); (case hl => rfl); (case hp => rfl))
      case hb =>
        intro j hj
        obtain ⟨p1, p2, p3⟩ := pw3_at (j := j) (by omega)
        have jd : j < ds.length := by omega
        refine ⟨_, rfl, rfl, by ((conv => lhs; simp [argsOf, placesOf, putBack, put, putF, putAll, flg, R.view, R.viewR, kilS, SRes.kil, Md.wipe, e1, p1, binop_fdivP _ _ p2 (by omega)]); try rfl), fun _ => ?_⟩
        have e : L2.atI ds (j : Int) = some (ds[j]?.getD .none) := by rw [atI_nat, List.getElem?_eq_getElem jd]; rfl
        exact ⟨_, by ((conv => lhs; simp [argsOf, placesOf, putBack, put, putF, putAll, flg, R.view, R.viewR, kilS, SRes.kil, Md.wipe, e]); try rfl), rfl⟩
      ((conv => lhs; simp [argsOf, placesOf, putBack, put, putF, putAll, flg, R.view, R.viewR, kilS, SRes.kil, Md.wipe]); try rfl)
    try rw [Int.toNat_natCast]
    have hh : ∀ d ∈ ((List.range ds.length).filter fun j => decide (c1 / pw3 j % 3 = 1)).map (fun j => ds[j]?.getD .none), d ∈ ns ∧ Wo d := fun d hd => by
      obtain ⟨j, hj, rfl⟩ := List.mem_map.mp hd
      have := List.mem_range.mp (List.mem_filter.mp hj).1
      rw [List.getElem?_eq_getElem this]
      exact wds _ (List.getElem_mem this)
    generalize ((List.range ds.length).filter fun j => decide (c1 / pw3 j % 3 = 1)).map (fun j => ds[j]?.getD .none) = hd0 at hh
    refine sat_join (fun b (x : List Da) => b.set 9 (some (.lst x))) (fun x => ∀ d ∈ x, d ∈ ns ∧ Wo d) (by ((conv => lhs; simp [argsOf, placesOf, putBack, put, putF, putAll, flg, R.view, R.viewR, kilS, SRes.kil, Md.wipe, e1]); try rfl)) (fun _ => ?_) (fun _ => ?_) (fun z hz => ?_)
    · (apply sat_nx; focus ((conv => lhs; simp [argsOf, placesOf, putBack, put, putF, putAll, flg, R.view, R.viewR, kilS, SRes.kil, Md.wipe]); try rfl))
      exact ⟨_, rfl, fun d hd => hh d (List.mem_reverse.mp hd)⟩
    · exact ⟨_, rfl, hh⟩
    · have e4 : cutL z none (some 2) = z.take 2 := cutL_take _ _ (by omega)
      (apply sat_ret; focus ((conv => lhs; simp [argsOf, placesOf, putBack, put, putF, putAll, flg, R.view, R.viewR, kilS, SRes.kil, Md.wipe, e4]); try rfl))
      refine ⟨_, rfl, _, rfl, z.take 2, y, rfl, ?_, fun d hd => hz d (List.mem_of_mem_take hd), by omega, by omega, nd, hy.2⟩
      rw [List.length_take]; omega
end Md

/-! plain law: what is known, who sways whom, rings (k60-k66) -/
namespace Sw
section
variable {α : Type} (n : Nat) (K V : Nat → List α)
/-- what is known to c -/
inductive Cl (c : Nat) : α → Prop
  | key {d : α} : d ∈ K c → Cl c d
  | step {d : α} (i : Nat) : i < n → i ≠ c → (∀ k ∈ K i, Cl c k) → d ∈ V i → Cl c d
def Sh (c i j : Nat) : Prop := ∃ d, d ∈ V i ∧ d ∈ V j ∧ ¬Cl n K V c d
inductive Rc (c : Nat) : Nat → Prop
  | start : Rc c c
  | step {i j : Nat} : Rc c i → j < n → Sh n K V c i j → Rc c j
/-- c sways j -/
def Sy (c j : Nat) : Prop := j ≠ c ∧ Rc n K V c j
variable {n K V}
theorem Rc.lt {c j : Nat} (hc : c < n) (h : Rc n K V c j) : j < n := by
  cases h with
  | start => exact hc
  | step _ h _ => exact h
theorem back {a b : Nat} (ha : a < n) (hK : ∀ i d, d ∈ K i → d ∈ V i) (hab : Sy n K V a b) {d : α} (h : Cl n K V a d) : ∀ i, ¬Cl n K V b d → d ∈ V i → Rc n K V b i → Rc n K V b a := by
  induction h with
  | key h => exact fun i nb hi ri => ri.step ha ⟨_, hi, hK _ _ h, nb⟩
  | step m hm hma hk hd ih =>
    rename_i d
    intro i nb hi ri
    have rm : Rc n K V b m := ri.step hm ⟨d, hi, hd, nb⟩
    by_cases e : m = b
    · subst e
      exfalso
      obtain ⟨h1, h2⟩ := hab
      cases h2 with
      | start => exact h1 rfl
      | step _ _ h =>
        obtain ⟨d', _, h4, h5⟩ := h
        exact h5 (.step m hm hma hk h4)
    · by_cases q : ∀ k ∈ K m, Cl n K V b k
      · exact absurd (.step m hm e q hd) nb
      · have : ∃ k, k ∈ K m ∧ ¬Cl n K V b k := Classical.byContradiction fun z => q fun k hk => Classical.byContradiction fun y => z ⟨k, hk, y⟩
        obtain ⟨k, k1, k2⟩ := this
        exact ih k k1 m k2 (hK _ _ k1) rm
/-- swaying goes on, or back -/
theorem trans {a b c : Nat} (ha : a < n) (hK : ∀ i d, d ∈ K i → d ∈ V i) (hab : Sy n K V a b) (hbc : Sy n K V b c) (hca : c ≠ a) : Sy n K V a c ∨ Sy n K V b a := by
  by_cases hr : Rc n K V b a
  · exact .inr ⟨fun e => hab.1 e.symm, hr⟩
  · refine .inl ⟨hca, ?_⟩
    have key : ∀ j, Rc n K V b j → Rc n K V a j := fun j h => by
      induction h with
      | start => exact hab.2
      | step h1 h2 h3 ih =>
        rename_i i j
        obtain ⟨d, d1, d2, d3⟩ := h3
        by_cases q : Cl n K V a d
        · exact absurd (back ha hK hab q i d3 d1 h1) hr
        · exact ih.step h2 ⟨d, d1, d2, q⟩
    exact key c hbc.2
/-- where no atom has a name beside its key's, none sways -/
theorem none_keyed {a b : Nat} (ha : a < n) (hK : ∀ i d, i < n → d ∈ V i → d ∈ K i) (h : Sy n K V a b) : False := by
  have key : ∀ j, Rc n K V a j → j = a := fun j h => by
    induction h with
    | start => rfl
    | step h1 h2 h3 ih =>
      rename_i i j
      subst ih
      obtain ⟨d, d1, d2, d3⟩ := h3
      exact absurd (.key (hK _ _ ha d1)) d3
  exact h.1 (key b h.2)
end
/-! ### other atoms, alike -/
section
variable {α : Type} {n : Nat} {K V K' V' : Nat → List α} {s t : Nat → Nat}
theorem Cl.map (hs : ∀ i, i < n → s i < n ∧ t (s i) = i) (ht : ∀ i, i < n → t i < n ∧ s (t i) = i)
    (hK : ∀ i d, i < n → (d ∈ K' i ↔ d ∈ K (s i))) (hV : ∀ i d, i < n → (d ∈ V' i ↔ d ∈ V (s i))) {c : Nat} (hc : c < n) {d : α} (h : Cl n K' V' c d) : Cl n K V (s c) d := by
  induction h with
  | key h => exact .key ((hK _ _ hc).mp h)
  | step i hi hic hk hd ih => exact .step (s i) (hs i hi).1 (fun e => hic (by rw [← (hs i hi).2, e, (hs c hc).2])) (fun k h => ih k ((hK _ _ hi).mpr h)) ((hV _ _ hi).mp hd)
theorem Rc.map (hs : ∀ i, i < n → s i < n ∧ t (s i) = i) (ht : ∀ i, i < n → t i < n ∧ s (t i) = i)
    (hK : ∀ i d, i < n → (d ∈ K' i ↔ d ∈ K (s i))) (hV : ∀ i d, i < n → (d ∈ V' i ↔ d ∈ V (s i))) {c j : Nat} (hc : c < n)
    (hcl : ∀ d, Cl n K V (s c) d → Cl n K' V' c d) (h : Rc n K' V' c j) : Rc n K V (s c) (s j) := by
  induction h with
  | start => exact .start
  | step h1 h2 h3 ih =>
    obtain ⟨d, d1, d2, d3⟩ := h3
    exact ih.step (hs _ h2).1 ⟨d, (hV _ _ (h1.lt hc)).mp d1, (hV _ _ h2).mp d2, fun q => d3 (hcl d q)⟩
end
/-! ### rings -/
section
variable {E : Nat → Nat → Prop}
/-- a road: of unlike numbers, each to the next -/
def Road (n : Nat) (E : Nat → Nat → Prop) : List Nat → Prop
  | [] => True
  | [a] => a < n
  | a :: b :: r => a < n ∧ a ∉ b :: r ∧ E a b ∧ Road n E (b :: r)
/-- a ring -/
def IsR (n : Nat) (E : Nat → Nat → Prop) (r : List Nat) : Prop := ∃ a b, r.head? = some a ∧ r.getLast? = some b ∧ Road n E r ∧ E b a
variable {n : Nat}
theorem Road.nodup : ∀ {r : List Nat}, Road n E r → r.Nodup
  | [], _ => List.nodup_nil
  | [a], _ => by simp
  | a :: b :: r, h => by
    obtain ⟨_, h2, _, h4⟩ := h
    exact List.nodup_cons.mpr ⟨h2, h4.nodup⟩
theorem Road.lt : ∀ {r : List Nat}, Road n E r → ∀ a ∈ r, a < n
  | [], _ => fun _ h => nomatch h
  | [a], h => fun x hx => by rw [List.mem_singleton.mp hx]; exact h
  | a :: b :: r, h => fun x hx => by
    rcases List.mem_cons.mp hx with e | e
    · rw [e]; exact h.1
    · exact Road.lt h.2.2.2 x e
theorem road_len {r : List Nat} (h1 : r.Nodup) (h2 : ∀ a ∈ r, a < n) : r.length ≤ n := by
  have := List.Nodup.length_le_of_subset (l₂ := List.range n) h1 (fun a ha => List.mem_range.mpr (h2 a ha))
  simpa using this
theorem Road.snoc : ∀ {r : List Nat} {a b : Nat}, Road n E r → r.getLast? = some a → E a b → b ∉ r → b < n → Road n E (r ++ [b])
  | [], a, b, _, h, _, _, _ => by simp at h
  | [x], a, b, h, h1, h2, h3, h4 => by
    simp at h1; subst h1
    exact ⟨h, by simpa using fun e => h3 (by simp [e]), h2, h4⟩
  | x :: y :: r, a, b, h, h1, h2, h3, h4 => by
    obtain ⟨g1, g2, g3, g4⟩ := h
    refine ⟨g1, ?_, g3, Road.snoc g4 (by simpa using h1) h2 (fun e => h3 (by simp [List.mem_cons.mp e])) h4⟩
    intro e
    rcases List.mem_append.mp (show x ∈ (y :: r) ++ [b] from e) with e | e
    · exact g2 e
    · exact h3 (by rw [List.mem_singleton.mp e]; simp)
theorem Road.init : ∀ {r : List Nat} {b : Nat}, Road n E (r ++ [b]) → Road n E r
  | [], _, _ => trivial
  | [x], b, h => h.1
  | x :: y :: r, b, h => by
    obtain ⟨g1, g2, g3, g4⟩ := h
    exact ⟨g1, fun e => g2 (List.mem_append_left _ e), g3, Road.init g4⟩
theorem Road.last : ∀ {r : List Nat} {a b : Nat}, Road n E (r ++ [b]) → r.getLast? = some a → E a b ∧ b ∉ r
  | [], a, b, _, h => by simp at h
  | [x], a, b, h, h1 => by
    simp at h1; subst h1
    exact ⟨h.2.2.1, fun e => h.2.1 (by simpa using (List.mem_singleton.mp e).symm)⟩
  | x :: y :: r, a, b, h, h1 => by
    obtain ⟨g1, g2, g3, g4⟩ := h
    have := Road.last g4 (a := a) (by simpa using h1)
    refine ⟨this.1, fun e => ?_⟩
    rcases List.mem_cons.mp e with e | e
    · exact g2 (e ▸ (by simp : b ∈ (y :: r) ++ [b]))
    · exact this.2 e
/-- of a ring some pair sways each other -/
theorem two_ring (hlt : ∀ a b, E a b → a < n ∧ b < n ∧ a ≠ b) (htr : ∀ a b c, E a b → E b c → c ≠ a → E a c ∨ E b a) : ∀ (m : Nat) (r : List Nat), r.length ≤ m → IsR n E r → ∃ a b, E a b ∧ E b a
  | m, [], _, ⟨a, b, h, _⟩ => by simp at h
  | m, [x], _, ⟨a, b, h1, h2, _, h4⟩ => by
    simp at h1 h2; subst h1; subst h2
    exact absurd rfl (hlt _ _ h4).2.2
  | m, [x, y], _, ⟨a, b, h1, h2, h3, h4⟩ => by
    simp at h1 h2; subst h1; subst h2
    exact ⟨x, y, h3.2.2.1, h4⟩
  | 0, x :: y :: z :: r, h, _ => by simp at h
  | m + 1, x :: y :: z :: r, h, ⟨a, b, h1, h2, h3, h4⟩ => by
    simp at h1; subst h1
    obtain ⟨g1, g2, g3, g4⟩ := h3
    obtain ⟨k1, k2, k3, k4⟩ := g4
    rcases htr _ _ _ g3 k3 (fun e => g2 (by simp [e])) with q | q
    · refine two_ring hlt htr m (x :: z :: r) (by simp at h ⊢; omega) ⟨x, b, rfl, by simpa using h2, ⟨g1, fun e => g2 (List.mem_cons_of_mem _ e), q, k4⟩, h4⟩
    · exact ⟨x, y, g3, q⟩
theorem Road.drop : ∀ {r : List Nat} (k : Nat), Road n E r → Road n E (r.drop k)
  | r, 0, h => by simpa using h
  | [], k + 1, _ => by simp [Road]
  | [a], k + 1, _ => by simp [Road]
  | a :: b :: r, k + 1, h => by
    rw [List.drop_succ_cons]; exact Road.drop k h.2.2.2
/-- where each of some has a next one of these, there is a ring -/
theorem has_ring {L : List Nat} (hne : L ≠ []) (hl : ∀ a ∈ L, a < n ∧ ∃ b ∈ L, E a b) : ∃ r, IsR n E r ∧ ∀ a ∈ r, a ∈ L := by
  have key : ∀ (m : Nat) (r : List Nat), r ≠ [] → Road n E r → (∀ a ∈ r, a ∈ L) → n < r.length + m → ∃ r, IsR n E r ∧ ∀ a ∈ r, a ∈ L := by
    intro m
    induction m with
    | zero =>
      intro r _ h2 _ h4
      have := road_len h2.nodup h2.lt
      omega
    | succ m ih =>
      intro r h1 h2 h3 h4
      obtain ⟨a, ha⟩ : ∃ a, r.getLast? = some a := by
        cases e : r.getLast? with
        | none => exact absurd (List.getLast?_eq_none_iff.mp e) h1
        | some a => exact ⟨a, rfl⟩
      have har : a ∈ r := List.mem_of_getLast? ha
      obtain ⟨hn, b, hb, hab⟩ := hl a (h3 a har)
      by_cases q : b ∈ r
      · obtain ⟨k, hk, e⟩ := List.getElem_of_mem q
        refine ⟨r.drop k, ⟨b, a, ?_, ?_, h2.drop k, hab⟩, fun x hx => h3 x (List.mem_of_mem_drop hx)⟩
        · rw [List.head?_drop]; rw [List.getElem?_eq_getElem hk, e]
        · rw [List.getLast?_drop, if_neg (by omega)]; exact ha
      · refine ih (r ++ [b]) (by simp) (h2.snoc ha hab q (hl b hb).1) (fun x hx => ?_) (by simp; omega)
        rcases List.mem_append.mp hx with h | h
        · exact h3 x h
        · rw [List.mem_singleton.mp h]; exact hb
  obtain ⟨a, ha⟩ := List.exists_mem_of_ne_nil L hne
  exact key n [a] (by simp) (hl a ha).1 (fun x hx => by rw [List.mem_singleton.mp hx]; exact ha) (by simp)
theorem Road.next : ∀ {r : List Nat} {a : Nat}, Road n E r → a ∈ r → r.getLast? = some a ∨ ∃ b ∈ r, E a b
  | [x], a, _, h => by rw [List.mem_singleton.mp h]; exact .inl rfl
  | x :: y :: r, a, h, hm => by
    rcases List.mem_cons.mp hm with e | e
    · exact .inr ⟨y, by simp, by rw [e]; exact h.2.2.1⟩
    · rcases Road.next h.2.2.2 e with q | ⟨b, q1, q2⟩
      · exact .inl (by simpa using q)
      · exact .inr ⟨b, List.mem_cons_of_mem _ q1, q2⟩
/-- .. and the other way about -/
theorem ring_next {r : List Nat} (h : IsR n E r) : r ≠ [] ∧ ∀ a ∈ r, a < n ∧ ∃ b ∈ r, E a b := by
  obtain ⟨x, y, h1, h2, h3, h4⟩ := h
  refine ⟨fun e => by subst e; simp at h1, fun a ha => ⟨h3.lt a ha, ?_⟩⟩
  rcases h3.next ha with e | e
  · have : y = a := Option.some.inj (h2.symm.trans e)
    subst this
    exact ⟨x, List.mem_of_head? h1, h4⟩
  · exact e
theorem Road.map {E' : Nat → Nat → Prop} {s : Nat → Nat} (hs : ∀ a b, a < n → b < n → s a = s b → a = b) (hn : ∀ a, a < n → s a < n) (hE : ∀ a b, a < n → b < n → E a b → E' (s a) (s b)) : ∀ {r : List Nat}, Road n E r → Road n E' (r.map s)
  | [], _ => trivial
  | [a], h => hn _ h
  | a :: b :: r, h => by
    obtain ⟨h1, h2, h3, h4⟩ := h
    refine ⟨hn _ h1, fun e => ?_, hE _ _ h1 (h4.lt b (by simp)) h3, Road.map hs hn hE h4⟩
    obtain ⟨x, hx, e⟩ := List.mem_map.mp (show s a ∈ (b :: r).map s from e)
    exact h2 (by rw [← hs _ _ (h4.lt x hx) h1 e]; exact hx)
theorem IsR.map {E' : Nat → Nat → Prop} {s : Nat → Nat} (hs : ∀ a b, a < n → b < n → s a = s b → a = b) (hn : ∀ a, a < n → s a < n) (hE : ∀ a b, a < n → b < n → E a b → E' (s a) (s b)) {r : List Nat} (h : IsR n E r) : IsR n E' (r.map s) := by
  obtain ⟨a, b, h1, h2, h3, h4⟩ := h
  exact ⟨s a, s b, by simp [h1], by simp [h2], h3.map hs hn hE, hE _ _ (h3.lt _ (List.mem_of_getLast? h2)) (h3.lt _ (List.mem_of_head? h1)) h4⟩
end
/-! ### what is known, found -/
/-- whether it holds -/
noncomputable def cd (p : Prop) : Bool := @decide p (Classical.propDecidable p)
theorem cd_true {p : Prop} (h : p) : cd p = true := @decide_eq_true p (Classical.propDecidable p) h
theorem cd_false {p : Prop} (h : ¬p) : cd p = false := @decide_eq_false p (Classical.propDecidable p) h
theorem of_cd {p : Prop} (h : cd p = true) : p := @of_decide_eq_true p (Classical.propDecidable p) h
theorem cd_iff {p : Prop} : cd p = true ↔ p := ⟨of_cd, cd_true⟩
theorem cd_of {p : Prop} {b : Bool} (h : b = true ↔ p) : cd p = b := by cases b with
  | true => exact cd_true (h.mp rfl)
  | false => exact cd_false fun q => nomatch h.mpr q
section
variable {α : Type} [DecidableEq α] {n : Nat} {K V : Nat → List α} {c : Nat}
def Ok (n : Nat) (K V : Nat → List α) (c : Nat) (f : List α) : Prop := f.Nodup ∧ (∀ d ∈ f, Cl n K V c d) ∧ ∀ d ∈ K c, d ∈ f
def Kin (K : Nat → List α) (f : List α) (i : Nat) : Prop := ∀ k ∈ K i, k ∈ f
def Cv (V : Nat → List α) (f : List α) (i : Nat) : Prop := ∀ d ∈ V i, d ∈ f
def Closed (n : Nat) (K V : Nat → List α) (c : Nat) (f : List α) : Prop := ∀ i, i < n → i ≠ c → Kin K f i → Cv V f i
def IsK (n : Nat) (K V : Nat → List α) (c : Nat) (f : List α) : Prop := f.Nodup ∧ ∀ d, d ∈ f ↔ Cl n K V c d
theorem Ok.isK {f : List α} (h : Ok n K V c f) (hc : Closed n K V c f) : IsK n K V c f := by
  refine ⟨h.1, fun d => ⟨h.2.1 d, fun hd => ?_⟩⟩
  induction hd with
  | key h' => exact h.2.2 _ h'
  | step i hi hic hk hd ih => exact hc i hi hic (fun k hk' => ih k hk') _ hd
theorem Ok.add {f : List α} (h : Ok n K V c f) {i : Nat} (hi : i < n) (hic : i ≠ c) (hk : Kin K f i) (hV : (V i).Nodup) : Ok n K V c (f ++ (V i).filter fun d => !decide (d ∈ f)) := by
  refine ⟨List.nodup_append.mpr ⟨h.1, hV.sublist List.filter_sublist, fun x hx y hy e => ?_⟩, fun d hd => ?_, fun d hd => List.mem_append_left _ (h.2.2 d hd)⟩
  · subst e
    have := (List.mem_filter.mp hy).2
    simp [hx] at this
  · rcases List.mem_append.mp hd with q | q
    · exact h.2.1 d q
    · exact .step i hi hic (fun k hk' => h.2.1 k (hk k hk')) (List.mem_filter.mp q).1
theorem cv_add (f : List α) (i : Nat) : Cv V (f ++ (V i).filter fun d => !decide (d ∈ f)) i := fun d hd => by
  by_cases q : d ∈ f
  · exact List.mem_append_left _ q
  · exact List.mem_append_right _ (List.mem_filter.mpr ⟨hd, by simp [q]⟩)
theorem lacks_nil {f : List α} {i : Nat} : (V i).filter (fun d => !decide (d ∈ f)) = [] ↔ Cv V f i := by
  rw [List.filter_eq_nil_iff]
  exact ⟨fun h d hd => by simpa using h d hd, fun h d hd => by simpa using h d hd⟩
theorem Kin.mono {f f' : List α} (hf : ∀ d ∈ f, d ∈ f') {i : Nat} (h : Kin K f i) : Kin K f' i := fun k hk => hf k (h k hk)
theorem Cv.mono {f f' : List α} (hf : ∀ d ∈ f, d ∈ f') {i : Nat} (h : Cv V f i) : Cv V f' i := fun k hk => hf k (h k hk)
noncomputable def unc (n : Nat) (V : Nat → List α) (c : Nat) (f : List α) : Nat := ((List.range n).filter fun i => cd (i ≠ c ∧ ¬Cv V f i)).length
theorem filter_le {β : Type} {p q : β → Bool} : ∀ (l : List β), (∀ x ∈ l, p x = true → q x = true) → (l.filter p).length ≤ (l.filter q).length
  | [], _ => Nat.le_refl _
  | x :: l, h => by
    have ih := filter_le l fun y hy => h y (List.mem_cons_of_mem _ hy)
    have hx := h x List.mem_cons_self
    rw [List.filter_cons, List.filter_cons]
    cases hp : p x with
    | false => cases hq : q x <;> simp <;> omega
    | true => rw [hx hp]; simp; omega
theorem filter_lt {β : Type} {p q : β → Bool} : ∀ (l : List β), (∀ x ∈ l, p x = true → q x = true) → (∃ x ∈ l, q x = true ∧ p x = false) → (l.filter p).length < (l.filter q).length
  | [], _, ⟨x, h, _⟩ => nomatch h
  | x :: l, h, ⟨y, hy, hq, hp⟩ => by
    have le := filter_le l fun z hz => h z (List.mem_cons_of_mem _ hz)
    rw [List.filter_cons, List.filter_cons]
    rcases List.mem_cons.mp hy with e | e
    · subst e
      rw [hq, hp]; simp; omega
    · have ih := filter_lt l (fun z hz => h z (List.mem_cons_of_mem _ hz)) ⟨y, e, hq, hp⟩
      have hx := h x List.mem_cons_self
      cases hp : p x with
      | false => cases hq : q x <;> simp <;> omega
      | true => rw [hx hp]; simp; omega
theorem unc_lt {f f' : List α} (hf : ∀ d ∈ f, d ∈ f') {i : Nat} (hi : i < n) (hic : i ≠ c) (h1 : ¬Cv V f i) (h2 : Cv V f' i) : unc n V c f' < unc n V c f := by
  refine filter_lt _ (fun j _ hj => ?_) ⟨i, List.mem_range.mpr hi, ?_, ?_⟩
  · have hj := of_cd hj
    exact cd_true ⟨hj.1, fun q => hj.2 (q.mono hf)⟩
  · exact cd_true ⟨hic, h1⟩
  · exact cd_false fun q => q.2 h2
theorem unc_le (hc : c < n) (f : List α) : unc n V c f < n := by
  have := filter_lt (p := fun i => cd (i ≠ c ∧ ¬Cv V f i)) (q := fun _ => true) (List.range n) (fun _ _ _ => rfl) ⟨c, List.mem_range.mpr hc, rfl, cd_false fun q => q.1 rfl⟩
  rw [List.filter_eq_self.mpr (fun _ _ => rfl), List.length_range] at this
  exact this
theorem unc_closed {f : List α} (h : unc n V c f = 0) : Closed n K V c f := fun i hi hic _ => by
  have := List.length_eq_zero_iff.mp h
  have := List.filter_eq_nil_iff.mp this i (List.mem_range.mpr hi)
  exact Classical.byContradiction fun q => this (cd_true ⟨hic, q⟩)
/-- a pass over all -/
structure Pass (n : Nat) (K V : Nat → List α) (c : Nat) (f0 : List α) (j : Nat) (f : List α) : Prop where
  ok : Ok n K V c f
  sub : ∀ d ∈ f0, d ∈ f
  got : ∀ i, i < j → i ≠ c → Kin K f0 i → Cv V f i
  len : f0.length ≤ f.length
  same : Closed n K V c f0 → f = f0
theorem Pass.start {f : List α} (h : Ok n K V c f) : Pass n K V c f 0 f := ⟨h, fun _ h => h, fun _ h => by omega, Nat.le_refl _, fun _ => rfl⟩
theorem Pass.skip {f0 f : List α} {j : Nat} (h : Pass n K V c f0 j f) (hj : j ≠ c → Kin K f j → Cv V f j) : Pass n K V c f0 (j + 1) f :=
  ⟨h.ok, h.sub, fun i hi hic hk => by
    by_cases e : i = j
    · subst e; exact hj hic (hk.mono h.sub)
    · exact h.got i (by omega) hic hk, h.len, h.same⟩
theorem Pass.add {f0 f : List α} {j : Nat} (h : Pass n K V c f0 j f) (hj : j < n) (hjc : j ≠ c) (hk : Kin K f j) (hV : (V j).Nodup) : Pass n K V c f0 (j + 1) (f ++ (V j).filter fun d => !decide (d ∈ f)) :=
  ⟨h.ok.add hj hjc hk hV, fun d hd => List.mem_append_left _ (h.sub d hd), fun i hi hic hk' => by
    by_cases e : i = j
    · subst e; exact cv_add f i
    · exact (h.got i (by omega) hic hk').mono fun d hd => List.mem_append_left _ hd, by rw [List.length_append]; have := h.len; omega, fun hcl => by
    have e := h.same hcl
    subst e
    rw [lacks_nil.mpr (hcl j hj hjc hk), List.append_nil]⟩
theorem Pass.next {f0 f : List α} (h : Pass n K V c f0 n f) : Closed n K V c f ∨ unc n V c f < unc n V c f0 := by
  by_cases q : Closed n K V c f0
  · exact .inl (by rw [h.same q]; exact q)
  · have : ∃ i, i < n ∧ i ≠ c ∧ Kin K f0 i ∧ ¬Cv V f0 i := Classical.byContradiction fun z => q fun i hi hic hk => Classical.byContradiction fun y => z ⟨i, hi, hic, hk, y⟩
    obtain ⟨i, hi, hic, hk, hv⟩ := this
    exact .inr (unc_lt h.sub hi hic hv (h.got i hi hic hk))
end
/-! ### who is swayed, found -/
section
variable {α : Type} {n : Nat} {K V : Nat → List α} {c : Nat}
/-- reached by c: some, of which the first `at` are looked at -/
structure Bf (n : Nat) (K V : Nat → List α) (c : Nat) (k : Nat) (f : List Nat) : Prop where
  nd : f.Nodup
  lt : ∀ i ∈ f, i < n
  hd : f.head? = some c
  rc : ∀ i ∈ f, Rc n K V c i
  dn : ∀ (m i j : Nat), m < k → f[m]? = some i → j < n → Sh n K V c i j → j ∈ f
theorem Bf.all {k : Nat} {f : List Nat} (h : Bf n K V c k f) (hk : f.length ≤ k) (j : Nat) : j ∈ f ↔ Rc n K V c j := by
  refine ⟨h.rc j, fun hj => ?_⟩
  induction hj with
  | start => exact List.mem_of_head? h.hd
  | step h1 h2 h3 ih =>
    obtain ⟨m, hm, e⟩ := List.getElem_of_mem ih
    exact h.dn m _ _ (by omega) (by rw [List.getElem?_eq_getElem hm, e]) h2 h3
end
end Sw

/-! what is known (k60-k66, k73-k75, k92) -/
namespace Md
open PySem (Str PyData)
/-- a term with a name that is not given -/
noncomputable def wdq (g : List Da) : Da → Bool
  | .tuple [.str s, x] => decide (s = "var") && !has g x
  | _ => false
def nmof : Da → Da
  | .tuple [_, x] => x
  | _ => .none
/-- the names of terms, the given left out, sorted, each once -/
noncomputable def Nms (ts g : List Da) : List Da := srt (onceD ((ts.filter (wdq g)).map nmof))
theorem wo_kOk {d : Da} (h : Wo d) : kOk d = true := by obtain ⟨x, rfl, _⟩ := h; rfl
theorem once_wo {ds : List Da} (h : ∀ d ∈ ds, Wo d) : (onceD ds).Nodup ∧ ∀ d, d ∈ onceD ds ↔ d ∈ ds := by
  have key : ∀ (ds acc : List Da), (∀ d ∈ ds, Wo d) → (∀ d ∈ acc, Wo d) → acc.Nodup → (ds.foldl (fun acc d => if acc.any (fun x => keq x d) then acc else acc ++ [d]) acc).Nodup ∧ ∀ d, d ∈ ds.foldl (fun acc d => if acc.any (fun x => keq x d) then acc else acc ++ [d]) acc ↔ d ∈ acc ∨ d ∈ ds := by
    intro ds
    induction ds with
    | nil => intro acc _ _ hn; exact ⟨hn, fun d => by simp⟩
    | cons x ds ih =>
      intro acc hd ha hn
      have hx := hd x List.mem_cons_self
      have hany : (acc.any fun y => keq y x) = true ↔ x ∈ acc := by
        rw [List.any_eq_true]
        exact ⟨fun ⟨y, hy, e⟩ => by rw [← (keq_wo (ha y hy) hx).mp e]; exact hy, fun hm => ⟨x, hm, (keq_wo hx hx).mpr rfl⟩⟩
      rw [List.foldl_cons]
      by_cases e : x ∈ acc
      · rw [if_pos (hany.mpr e)]
        obtain ⟨h1, h2⟩ := ih acc (fun d h => hd d (List.mem_cons_of_mem _ h)) ha hn
        refine ⟨h1, fun d => (h2 d).trans ⟨fun q => q.elim .inl fun q => .inr (List.mem_cons_of_mem _ q), fun q => q.elim .inl fun q => ?_⟩⟩
        rcases List.mem_cons.mp q with q | q
        · exact .inl (by rw [q]; exact e)
        · exact .inr q
      · rw [if_neg fun q => e (hany.mp q)]
        obtain ⟨h1, h2⟩ := ih (acc ++ [x]) (fun d h => hd d (List.mem_cons_of_mem _ h)) (fun d h => by
          rcases List.mem_append.mp h with q | q
          · exact ha d q
          · rw [List.mem_singleton.mp q]; exact hx) (nodup_snoc hn e)
        refine ⟨h1, fun d => (h2 d).trans ?_⟩
        rw [List.mem_append, List.mem_singleton, List.mem_cons, or_assoc]
  obtain ⟨h1, h2⟩ := key ds [] h (fun _ h => nomatch h) List.nodup_nil
  exact ⟨h1, fun d => (h2 d).trans (by simp)⟩
theorem wds_mem {ns ts g : List Da} (h : ∀ d ∈ ts, Tw ns d) (d : Da) : d ∈ (ts.filter (wdq g)).map nmof ↔ .tuple [.str "var", d] ∈ ts ∧ d ∉ g := by
  rw [List.mem_map]
  constructor
  · rintro ⟨e, he, rfl⟩
    obtain ⟨h1, h2⟩ := List.mem_filter.mp he
    rcases h e h1 with ⟨x, hx, wx, rfl⟩ | ⟨v, _, rfl⟩
    · refine ⟨h1, fun q => ?_⟩
      have q : x ∈ g := q
      simp [wdq, has, q] at h2
    · simp +decide [wdq] at h2
  · rintro ⟨h1, h2⟩
    exact ⟨_, List.mem_filter.mpr ⟨h1, by simp [wdq, has, h2]⟩, rfl⟩
theorem wds_wo {ns ts g : List Da} (h : ∀ d ∈ ts, Tw ns d) : ∀ d ∈ (ts.filter (wdq g)).map nmof, d ∈ ns ∧ Wo d := fun d hd => by
  obtain ⟨h1, _⟩ := (wds_mem h d).mp hd
  rcases h _ h1 with ⟨x, hx, wx, e⟩ | ⟨v, _, e⟩
  · simp at e
    rw [e]; exact ⟨hx, wx⟩
  · simp at e
    exact absurd e.1 (by decide)
theorem nms_spec {ns ts g : List Da} (h : ∀ d ∈ ts, Tw ns d) : (Nms ts g).Nodup ∧ (∀ d, d ∈ Nms ts g ↔ .tuple [.str "var", d] ∈ ts ∧ d ∉ g) ∧ ∀ d ∈ Nms ts g, d ∈ ns ∧ Wo d := by
  have hw := wds_wo (g := g) h
  obtain ⟨h1, h2⟩ := once_wo fun d hd => (hw d hd).2
  have p := srt_perm' (onceD ((ts.filter (wdq g)).map nmof))
  refine ⟨p.nodup_iff.mpr h1, fun d => ?_, fun d hd => hw d ((h2 d).mp (p.mem_iff.mp hd))⟩
  exact (p.mem_iff.trans (h2 d)).trans (wds_mem h d)
theorem sset_ok {P : Pg} {np : Nat → Bool} {cb : Nat → List T → FRes} {a : E} {x0 : Option T} {s0 : Sl} {q : List Da} (h : ev P np cb a (x0 :: s0) = .ok (.t (.lst q)) (x0 :: s0)) (hw : ∀ d ∈ q, Wo d) (lw : q.length < 4000) :
    ev P np cb (.sset a) (x0 :: s0) = .ok (.t (.lst (srt (onceD q)))) (x0 :: s0) := by
  have hk : q.all kOk = true := List.all_eq_true.mpr fun d hd => wo_kOk (hw d hd)
  have ha := wo_alike hw
  rw [ev_sset, h]
  simp only [bind_ok, settle_t, view_lst, rview_t, view_fz, hk, ha, lw, decide_true, Bool.and_self, if_true]
theorem names_in_ok (n : Nat) {ns ts g : List Da} (hl : ts.length ≤ 1000) (h : ∀ d ∈ ts, Tw ns d) (hg : ∀ d ∈ g, Wo d) :
    run Pg0 DG (n + 1) i'names_in [.fz (.tuple ts), .fz (.tuple g)] = .ok (.lst (Nms ts g)) [.fz (.tuple ts), .fz (.tuple g)] := by
  refine run_eq (run'names_in _ _ _) ?_
  have hw := wds_wo (g := g) h
  have lw : ((ts.filter (wdq g)).map nmof).length < 4000 := by rw [List.length_map]; have := List.length_filter_le (wdq g) ts; omega
  unfold Nms
  apply sat_ret
  focus
    refine sset_ok (q := (ts.filter (wdq g)).map nmof) ?_ (fun d hd => (hw d hd).2) lw
    (unfold c'names_in'0; rw [lc1f (wdq g) nmof ts ?hi ?hv ?hw ?hl ?hp ?hz ?hb]; (case hi => (first | rfl | ((conv => lhs; simp [argsOf, placesOf, putBack, put, putF, putAll, flg, R.view, R.viewR, kilS, SRes.kil, Md.wipe]); try rfl))); (case hv => (first | rfl | simp)); (case hw => (first | rfl | ((conv => lhs; simp [argsOf, placesOf, putBack, put, putF, putAll, flg, R.view, R.viewR, kilS, SRes.kil, Md.wipe]); try rfl))); (case hl => rfl); (case hp => rfl))
    case hz => omega
    case hb =>
      intro d hd
      rcases h d hd with ⟨x, hx, wx, rfl⟩ | ⟨v, hv, rfl⟩
      · have hn := notin_t (.inr wx) (fun d hd => .inr (hg d hd))
        refine ⟨_, rfl, rfl, ?_, fun _ => ⟨.fz x, by ((conv => lhs; simp [argsOf, placesOf, putBack, put, putF, putAll, flg, R.view, R.viewR, kilS, SRes.kil, Md.wipe]); try rfl), rfl⟩⟩
        ((conv => lhs; simp [argsOf, placesOf, putBack, put, putF, putAll, flg, R.view, R.viewR, kilS, SRes.kil, Md.wipe, hn, wdq]); try rfl)
      · refine ⟨_, rfl, rfl, ?_, fun e => by simp +decide [wdq] at e⟩
        have : decide ((("is" : Str)) = "var") = false := by decide
        ((conv => lhs; simp [argsOf, placesOf, putBack, put, putF, putAll, flg, R.view, R.viewR, kilS, SRes.kil, Md.wipe, this, wdq]); try rfl)
  rfl
theorem law_names_ok (n : Nat) {ns ts g : List Da} {a : Da} (hl : ts.length ≤ 1000) (h : ∀ d ∈ ts, Tw ns d) (hg : ∀ d ∈ g, Wo d) :
    run Pg0 DG (n + 1) i'l_names_2 [.fz (.tuple [a, .tuple ts]), .fz (.tuple g)] = .ok (.lst (Nms ts g)) [.fz (.tuple [a, .tuple ts]), .fz (.tuple g)] := by
  refine run_eq (run'l_names_2 _ _ _) ?_
  have hw := wds_wo (g := g) h
  have lw : ((ts.filter (wdq g)).map nmof).length < 4000 := by rw [List.length_map]; have := List.length_filter_le (wdq g) ts; omega
  unfold Nms
  apply sat_ret
  focus
    refine sset_ok (q := (ts.filter (wdq g)).map nmof) ?_ (fun d hd => (hw d hd).2) lw
    (unfold c'l_names_2'0; rw [lc1f (wdq g) nmof ts ?hi ?hv ?hw ?hl ?hp ?hz ?hb]; (case hi => (first | rfl | ((conv => lhs; simp [argsOf, placesOf, putBack, put, putF, putAll, flg, R.view, R.viewR, kilS, SRes.kil, Md.wipe]); try rfl))); (case hv => (first | rfl | simp)); (case hw => (first | rfl | ((conv => lhs; simp [argsOf, placesOf, putBack, put, putF, putAll, flg, R.view, R.viewR, kilS, SRes.kil, Md.wipe]); try rfl))); (case hl => rfl); (case hp => rfl))
    case hz => omega
    case hb =>
      intro d hd
      rcases h d hd with ⟨x, hx, wx, rfl⟩ | ⟨v, hv, rfl⟩
      · have hn := notin_t (.inr wx) (fun d hd => .inr (hg d hd))
        refine ⟨_, rfl, rfl, ?_, fun _ => ⟨.fz x, by ((conv => lhs; simp [argsOf, placesOf, putBack, put, putF, putAll, flg, R.view, R.viewR, kilS, SRes.kil, Md.wipe]); try rfl), rfl⟩⟩
        ((conv => lhs; simp [argsOf, placesOf, putBack, put, putF, putAll, flg, R.view, R.viewR, kilS, SRes.kil, Md.wipe, hn, wdq]); try rfl)
      · refine ⟨_, rfl, rfl, ?_, fun e => by simp +decide [wdq] at e⟩
        have : decide ((("is" : Str)) = "var") = false := by decide
        ((conv => lhs; simp [argsOf, placesOf, putBack, put, putF, putAll, flg, R.view, R.viewR, kilS, SRes.kil, Md.wipe, this, wdq]); try rfl)
  rfl
/-- an atom's key names, the given left out -/
noncomputable def Kn (tbs g : List Da) : Da → List Da
  | .tuple [.int t, .tuple ts] => match L2.atI tbs t with
    | some (.tuple [_, .int k]) => Nms (ts.take k.toNat) g
    | _ => []
  | _ => []
/-- an atom's names, the given left out -/
noncomputable def An (g : List Da) : Da → List Da
  | .tuple [_, .tuple ts] => Nms ts g
  | _ => []
noncomputable def KN (tbs g as : List Da) (i : Nat) : List Da := match as[i]? with
  | some a => Kn tbs g a
  | none => []
noncomputable def VN (g as : List Da) (i : Nat) : List Da := match as[i]? with
  | some a => An g a
  | none => []
theorem kn_spec {tbs ns g : List Da} {a : Da} (ha : At tbs ns a) : (Kn tbs g a).Nodup ∧ (∀ d ∈ Kn tbs g a, d ∈ An g a) ∧ (An g a).Nodup ∧ ∀ d ∈ An g a, d ∈ ns ∧ Wo d := by
  obtain ⟨t, w, k, ts, rfl, ht, t0, k0, kw, lw, w4, hts⟩ := ha
  have ek : Kn tbs g (.tuple [.int t, .tuple ts]) = Nms (ts.take k.toNat) g := by simp only [Kn, ht]
  obtain ⟨h1, h2, h3⟩ := nms_spec (g := g) fun d hd => hts d (List.mem_of_mem_take (i := k.toNat) hd)
  obtain ⟨g1, g2, g3⟩ := nms_spec (g := g) hts
  rw [ek]
  exact ⟨h1, fun d hd => (g2 d).mpr ⟨List.mem_of_mem_take ((h2 d).mp hd).1, ((h2 d).mp hd).2⟩, g1, g3⟩
theorem key_names_ok (n : Nat) {tbs ns g : List Da} {a : Da} (ha : At tbs ns a) (hg : ∀ d ∈ g, Wo d) :
    run Pg0 DG (n + 2) i'key_names [.fz (.tuple tbs), .fz a, .fz (.tuple g)] = .ok (.lst (Kn tbs g a)) [.fz (.tuple tbs), .fz a, .fz (.tuple g)] := by
  obtain ⟨t, w, k, ts, rfl, ht, t0, k0, kw, lw, w4, hts⟩ := ha
  refine run_eq (run'key_names _ _ _ _) ?_
  have hc : cutL ts none (some k) = ts.take k.toNat := cutL_take _ _ k0
  have hr := names_in_ok n (ts := ts.take k.toNat) (by rw [List.length_take]; omega) (fun d hd => hts d (List.mem_of_mem_take hd)) hg
  have ek : Kn tbs g (.tuple [.int t, .tuple ts]) = Nms (ts.take k.toNat) g := by simp only [Kn, ht]
  rw [ek]
  (apply sat_ret; focus ((conv => lhs; simp [argsOf, placesOf, putBack, put, putF, putAll, flg, R.view, R.viewR, kilS, SRes.kil, Md.wipe, ht, hc, hr]); try rfl))
  rfl
theorem anames_ok (n : Nat) {tbs ns g : List Da} {a : Da} (ha : At tbs ns a) (hg : ∀ d ∈ g, Wo d) : ∃ x ts, a = .tuple [x, .tuple ts] ∧ run Pg0 DG (n + 1) i'names_in [.fz (.tuple ts), .fz (.tuple g)] = .ok (.lst (An g a)) [.fz (.tuple ts), .fz (.tuple g)] ∧ run Pg0 DG (n + 1) i'l_names_2 [.fz a, .fz (.tuple g)] = .ok (.lst (An g a)) [.fz a, .fz (.tuple g)] := by
  obtain ⟨t, w, k, ts, rfl, ht, t0, k0, kw, lw, w4, hts⟩ := ha
  exact ⟨_, ts, rfl, names_in_ok n (by omega) hts hg, law_names_ok n (by omega) hts hg⟩
/-- what is sorted is told by what it has -/
theorem srt_uniq {f l : List Da} (p : f.Perm l) (an : ∀ a ∈ l, ∀ b ∈ l, PySem.W.dataLe false id a b = true → PySem.W.dataLe false id b a = true → a = b) (hs : l.Pairwise fun a b => PySem.W.dataLe false id a b = true) : srt f = l := by
  have tot : PySem.W.TotalLe (PySem.W.dataLe false (id : Da → Da)) := PySem.W.sortLe_total _ _ _
  have q1 := srt_perm' f
  exact List.Perm.eq_of_pairwise (le := fun a b => PySem.W.dataLe false id a b = true) (fun a b ha hb h1 h2 => an a (p.mem_iff.mp (q1.mem_iff.mp ha)) b hb h1 h2) (PySem.W.sort_pairwise tot _) hs (q1.trans p)
theorem srt_both {f l : List Da} (p : f.Perm l) (an : ∀ a ∈ l, ∀ b ∈ l, PySem.W.dataLe false id a b = true → PySem.W.dataLe false id b a = true → a = b) : srt f = srt l := by
  have tot : PySem.W.TotalLe (PySem.W.dataLe false (id : Da → Da)) := PySem.W.sortLe_total _ _ _
  have q := srt_perm' l
  exact srt_uniq (p.trans q.symm) (fun a ha b hb => an a (q.mem_iff.mp ha) b (q.mem_iff.mp hb)) (PySem.W.sort_pairwise tot _)
theorem srt_wo {f f' : List Da} (p : f.Perm f') (h : ∀ d ∈ f', Wo d) : srt f = srt f' := srt_both p fun a ha b hb h1 h2 => by
  obtain ⟨x, rfl, _⟩ := h a ha
  obtain ⟨y, rfl, _⟩ := h b hb
  have e1 : PySem.W.dataLt (.str y) (.str x) = false := by simpa [PySem.W.dataLe_eq] using h1
  have e2 : PySem.W.dataLt (.str x) (.str y) = false := by simpa [PySem.W.dataLe_eq] using h2
  simp only [PySem.W.dataLt_str, decide_eq_false_iff_not] at e1 e2
  rw [PySem.W.str_of_cps (List.le_antisymm (List.not_lt.mp e1) (List.not_lt.mp e2))]
theorem perm_of {f f' : List Da} (h1 : f.Nodup) (h2 : f'.Nodup) (h : ∀ d, d ∈ f ↔ d ∈ f') : f.Perm f' := (List.perm_ext_iff_of_nodup h1 h2).mpr h
/-- what is known, sorted -/
noncomputable def Kw (tbs g as : List Da) (c : Nat) : List Da :=
  @dite _ (∃ f, Sw.IsK as.length (KN tbs g as) (VN g as) c f ∧ ∀ d ∈ f, Wo d) (Classical.propDecidable _) (fun h => srt (Classical.choose h)) fun _ => []
end Md

/-! known_to, _law_known, check_double, known -/
namespace Md
open PySem (Str PyData)
theorem enumW_len (xs : List Da) : (enumW xs).length = xs.length := by simp [enumW]
theorem enumW_at {xs : List Da} {j : Nat} {d : Da} (h : (enumW xs)[j]? = some d) : ∃ hj : j < xs.length, d = .tuple [.int (j : Int), xs[j]] := by
  have hj := (List.getElem?_eq_some_iff.mp h).1
  rw [enumW_len] at hj
  have : (enumW xs)[j]? = some (.tuple [.int (j : Int), xs[j]]) := by
    simp [enumW, List.getElem?_zipWith, hj]
  exact ⟨hj, Option.some.inj (h.symm.trans this)⟩
theorem lst_ne {ds : List Da} (h : ∀ d ∈ ds, Wo d) : Md.compare .ne (.list ds) (.list []) = some (!ds.isEmpty) := by
  have g := vls_fit (fun d hd => .inr (h d hd)) 63
  have f1 : fits 64 (.list ds) = true := by show fitsAll 63 ds = true; exact g
  have f2 : fits 64 (.list []) = true := rfl
  rw [cmp_ne, f1, f2]
  cases ds with
  | nil => rfl
  | cons x l => rfl
theorem lst_eq {ds : List Da} (h : ∀ d ∈ ds, Wo d) : Md.compare .eq (.list ds) (.list []) = some ds.isEmpty := by
  have g := vls_fit (fun d hd => .inr (h d hd)) 63
  have f1 : fits 64 (.list ds) = true := by show fitsAll 63 ds = true; exact g
  have f2 : fits 64 (.list []) = true := rfl
  rw [cmp_eq, f1, f2]
  cases ds with
  | nil => rfl
  | cons x l => rfl
theorem atI_at {as : List Da} {c : Nat} (hc : c < as.length) : L2.atI as (c : Int) = some as[c] := by rw [atI_nat, List.getElem?_eq_getElem hc]
section
variable {tbs ns g as : List Da}
theorem kn_at {i : Nat} (hi : i < as.length) : KN tbs g as i = Kn tbs g as[i] := by simp only [KN, List.getElem?_eq_getElem hi]
theorem vn_at {i : Nat} (hi : i < as.length) : VN g as i = An g as[i] := by simp only [VN, List.getElem?_eq_getElem hi]
theorem kv_sub (ha : ∀ a ∈ as, At tbs ns a) (i : Nat) (d : Da) (h : d ∈ KN tbs g as i) : d ∈ VN g as i := by
  unfold KN at h
  unfold VN
  cases e : as[i]? with
  | none => rw [e] at h; cases h
  | some a => rw [e] at h; exact (kn_spec (g := g) (ha a (List.mem_of_getElem? e))).2.1 d h
theorem vn_wo (ha : ∀ a ∈ as, At tbs ns a) (i : Nat) (d : Da) (h : d ∈ VN g as i) : d ∈ ns ∧ Wo d := by
  unfold VN at h
  cases e : as[i]? with
  | none => rw [e] at h; cases h
  | some a => rw [e] at h; exact (kn_spec (g := g) (ha a (List.mem_of_getElem? e))).2.2.2 d h
theorem vn_nd (ha : ∀ a ∈ as, At tbs ns a) (i : Nat) : (VN g as i).Nodup := by
  unfold VN
  cases e : as[i]? with
  | none => exact List.nodup_nil
  | some a => exact (kn_spec (g := g) (ha a (List.mem_of_getElem? e))).2.2.1
theorem cl_wo (ha : ∀ a ∈ as, At tbs ns a) {c : Nat} {d : Da} (h : Sw.Cl as.length (KN tbs g as) (VN g as) c d) : d ∈ ns ∧ Wo d := by
  cases h with
  | key h => exact vn_wo ha c d (kv_sub ha c d h)
  | step i _ _ _ h => exact vn_wo ha i d h
theorem ok_wo (ha : ∀ a ∈ as, At tbs ns a) {c : Nat} {f : List Da} (h : Sw.Ok as.length (KN tbs g as) (VN g as) c f) : (∀ d ∈ f, Wo d) ∧ f.length ≤ ns.length :=
  ⟨fun d hd => (cl_wo ha (h.2.1 d hd)).2, List.Nodup.length_le_of_subset h.1 fun d hd => (cl_wo ha (h.2.1 d hd)).1⟩
theorem Kw_of {c : Nat} {f : List Da} (hk : Sw.IsK as.length (KN tbs g as) (VN g as) c f) (hw : ∀ d ∈ f, Wo d) : srt f = Kw tbs g as c := by
  have h : ∃ f, Sw.IsK as.length (KN tbs g as) (VN g as) c f ∧ ∀ d ∈ f, Wo d := ⟨f, hk, hw⟩
  unfold Kw
  rw [dif_pos h]
  have q := Classical.choose_spec h
  exact srt_wo (perm_of hk.1 q.1.1 fun d => (hk.2 d).trans (q.1.2 d).symm) q.2
theorem ok0 (ha : ∀ a ∈ as, At tbs ns a) {c : Nat} (hc : c < as.length) : Sw.Ok as.length (KN tbs g as) (VN g as) c (Kn tbs g as[c]) := by
  have e := kn_at (tbs := tbs) (g := g) hc
  exact ⟨(kn_spec (g := g) (ha _ (List.getElem_mem hc))).1, fun d hd => .key (by rw [e]; exact hd), fun d hd => by rw [e] at hd; exact hd⟩
end
theorem pass_next {α : Type} [DecidableEq α] {n : Nat} {K V : Nat → List α} {c : Nat} {f0 f : List α} (h : Sw.Pass n K V c f0 n f) (e : f ≠ f0) : Sw.unc n V c f < Sw.unc n V c f0 := by
  have q : ¬Sw.Closed n K V c f0 := fun q => e (h.same q)
  have : ∃ i, i < n ∧ i ≠ c ∧ Sw.Kin K f0 i ∧ ¬Sw.Cv V f0 i := Classical.byContradiction fun z => q fun i hi hic hk => Classical.byContradiction fun y => z ⟨i, hi, hic, hk, y⟩
  obtain ⟨i, hi, hic, hk, hv⟩ := this
  exact Sw.unc_lt h.sub hi hic hv (h.got i hi hic hk)
theorem has_filter (f q : List Da) : (q.filter fun d => !has f d) = q.filter fun d => !decide (d ∈ f) := rfl
theorem all_has (f q : List Da) : (q.all fun d => has f d) = true ↔ ∀ d ∈ q, d ∈ f := by
  simp [has]
theorem known_to_ok (n : Nat) {tbs ns g as : List Da} (ha : ∀ a ∈ as, At tbs ns a) (hg : ∀ d ∈ g, Wo d) (la : as.length ≤ 1000) (ln : ns.length ≤ 500) {c : Nat} (hc : c < as.length) :
    Runs (n + 3) i'known_to [.fz (.tuple tbs), .fz (.tuple as), .fz (.tuple g), .fz (.int c)] fun t => t = .lst (Kw tbs g as c) ∧ ∃ f, Kw tbs g as c = srt f ∧ Sw.IsK as.length (KN tbs g as) (VN g as) c f := by
  refine runs_of (run'known_to _ _ _ _ _) ?_
  have hat := atI_at hc
  have hr := key_names_ok n (ha as[c] (List.getElem_mem hc)) hg
  have hk0 := ok0 (g := g) ha hc
  (apply sat_nx; focus ((conv => lhs; simp [argsOf, placesOf, putBack, put, putF, putAll, flg, R.view, R.viewR, kilS, SRes.kil, Md.wipe, hat, hr]); try rfl))
  generalize Kn tbs g as[c] = k0 at hk0
  (apply sat_nx; focus ((conv => lhs; simp [argsOf, placesOf, putBack, put, putF, putAll, flg, R.view, R.viewR, kilS, SRes.kil, Md.wipe]); try rfl))
  refine sat_whl (fun b (x : List Da × Bool) => (b.set 4 (some (.lst x.1))).set 5 (some (.fz (.bool x.2)))) (fun x => Sw.Ok as.length (KN tbs g as) (VN g as) c x.1 ∧ (x.2 = false → Sw.Closed as.length (KN tbs g as) (VN g as) c x.1)) (fun x => if x.2 then Sw.unc as.length (VN g as) c x.1 + 1 else 0) (k0, true) rfl ⟨hk0, fun h => nomatch h⟩ ?_ (fun x hx => ?_)
  · have := Sw.unc_le (V := VN g as) hc k0
    show Sw.unc as.length (VN g as) c k0 + 1 < 100000
    omega
  · obtain ⟨f0, q0⟩ := x
    obtain ⟨hok, hcl⟩ := hx
    refine ⟨q0, _, by ((conv => lhs; simp [argsOf, placesOf, putBack, put, putF, putAll, flg, R.view, R.viewR, kilS, SRes.kil, Md.wipe]); try rfl), fun hq => ?_, fun hq => ?_⟩
    · have hq : q0 = true := hq
      subst hq
      refine sat_kil ?_
      (apply sat_nx; focus ((conv => lhs; simp [argsOf, placesOf, putBack, put, putF, putAll, flg, R.view, R.viewR, kilS, SRes.kil, Md.wipe]); try rfl))
      refine sat_for' (fun b (x : List Da × Bool) => (b.set 4 (some (.lst x.1))).set 5 (some (.fz (.bool x.2)))) (fun j x => Sw.Pass as.length (KN tbs g as) (VN g as) c f0 j x.1 ∧ (x.2 = false → x.1 = f0) ∧ (x.2 = true → f0.length < x.1.length)) (f0, false) (itr_1 (d := .tuple as) rfl rfl rfl) rfl rfl rfl rfl rfl ⟨Sw.Pass.start hok, fun _ => rfl, fun h => nomatch h⟩ (fun j d x hd hx => ?_) (fun x hx => ?_)
      · obtain ⟨hj, rfl⟩ := enumW_at hd
        obtain ⟨f, q⟩ := x
        obtain ⟨ps, h1, h2⟩ := hx
        have ps : Sw.Pass as.length (KN tbs g as) (VN g as) c f0 j f := ps
        have haj := ha as[j] (List.getElem_mem hj)
        have hv := vn_at (g := g) hj
        have hkn := kn_at (tbs := tbs) (g := g) hj
        have vw := vn_wo (g := g) ha j
        have vd := vn_nd (g := g) ha j
        have kw := kv_sub (g := g) ha j
        have hkj := key_names_ok n haj hg
        obtain ⟨x, ts, ea, r1, _⟩ := anames_ok (n + 1) haj hg
        rw [hv] at vw vd kw
        rw [hkn] at kw
        generalize as[j] = a at *
        subst ea
        obtain ⟨fw, fl⟩ := ok_wo (g := g) ha ps.ok
        have vl : (An g (.tuple [x, .tuple ts])).length ≤ ns.length := List.Nodup.length_le_of_subset vd fun d hd => (vw d hd).1
        have kl : (Kn tbs g (.tuple [x, .tuple ts])).length ≤ 1000 := by
          have h1 := (kn_spec (g := g) haj).1
          have := List.Nodup.length_le_of_subset h1 fun d hd => kw d hd
          omega
        refine ⟨_, rfl, sat_kil ?_⟩
        have fv : ∀ d ∈ f, Vl d := fun d hd => .inr (fw d hd)
        apply sat_nx
        focus
          ((conv => lhs; simp [argsOf, placesOf, putBack, put, putF, putAll, flg, R.view, R.viewR, kilS, SRes.kil, Md.wipe]); try rfl)
          (unfold c'known_to'1; rw [lc1f (fun d => !has f d) id (An g (.tuple [x, .tuple ts])) ?hi ?hv ?hw ?hl ?hp ?hz ?hb]; (case hi => (first | rfl | ((conv => lhs; simp [argsOf, placesOf, putBack, put, putF, putAll, flg, R.view, R.viewR, kilS, SRes.kil, Md.wipe, r1]); try rfl))); (case hv => (first | rfl | simp)); (case hw => (first | rfl | ((conv => lhs; simp [argsOf, placesOf, putBack, put, putF, putAll, flg, R.view, R.viewR, kilS, SRes.kil, Md.wipe, r1]); try rfl))); (case hl => rfl); (case hp => rfl))
          case hz => omega
          case hb =>
            intro d hd
            refine ⟨_, rfl, rfl, by ((conv => lhs; simp [argsOf, placesOf, putBack, put, putF, putAll, flg, R.view, R.viewR, kilS, SRes.kil, Md.wipe, notin_l (.inr (vw d hd).2) fv]); try rfl), fun _ => ⟨_, by ((conv => lhs; simp [argsOf, placesOf, putBack, put, putF, putAll, flg, R.view, R.viewR, kilS, SRes.kil, Md.wipe]); try rfl), rfl⟩⟩
          ((conv => lhs; simp [argsOf, placesOf, putBack, put, putF, putAll, flg, R.view, R.viewR, kilS, SRes.kil, Md.wipe]); try rfl)
        generalize hlk : (An g (.tuple [x, .tuple ts])).filter (fun d => !has f d) = lk
        have lkl : lk.length ≤ ns.length := by rw [← hlk]; exact Nat.le_trans (List.length_filter_le _ _) vl
        have hne := lst_ne (ds := lk) fun d hd => by rw [← hlk] at hd; exact (vw d (List.mem_filter.mp hd).1).2
        apply sat_ifs (k := !decide ((j : Int) = c) && (!lk.isEmpty && (Kn tbs g (.tuple [x, .tuple ts])).all (has f)))
        · by_cases e1 : (j : Int) = c
          · simp [argsOf, placesOf, putBack, put, putF, putAll, flg, R.view, R.viewR, kilS, SRes.kil, Md.wipe, e1]
          · by_cases e2 : lk.isEmpty = true
            · simp [argsOf, placesOf, putBack, put, putF, putAll, flg, R.view, R.viewR, kilS, SRes.kil, Md.wipe, e1, e2, hne]
            · ((conv => lhs; simp [argsOf, placesOf, putBack, put, putF, putAll, flg, R.view, R.viewR, kilS, SRes.kil, Md.wipe, e1, e2, hne]); try rfl)
              (unfold c'known_to'0; rw [lc1m (fun d => .bool (has f d)) (Kn tbs g (.tuple [x, .tuple ts])) ?hi ?hv ?hw ?hl ?hp ?hz ?hb]; (case hi => (first | rfl | ((conv => lhs; simp [argsOf, placesOf, putBack, put, putF, putAll, flg, R.view, R.viewR, kilS, SRes.kil, Md.wipe, hkj]); try rfl))); (case hv => (first | rfl | simp)); (case hw => (first | rfl | ((conv => lhs; simp [argsOf, placesOf, putBack, put, putF, putAll, flg, R.view, R.viewR, kilS, SRes.kil, Md.wipe, hkj]); try rfl))); (case hl => rfl); (case hp => rfl))
              case hz => omega
              case hb =>
                intro d hd
                exact ⟨_, _, rfl, rfl, by ((conv => lhs; simp [argsOf, placesOf, putBack, put, putF, putAll, flg, R.view, R.viewR, kilS, SRes.kil, Md.wipe, isin_l (.inr (vw d (kw d hd)).2) fv]); try rfl), rfl⟩
              simp [argsOf, placesOf, putBack, put, putF, putAll, flg, R.view, R.viewR, kilS, SRes.kil, Md.wipe, e1, e2, allB_map]
        · intro hk
          rw [Bool.and_eq_true, Bool.and_eq_true] at hk
          obtain ⟨k1, k2, k3⟩ := hk
          have k1 : ¬((j : Int) = c) := by simpa using k1
          have k1 : j ≠ c := by omega
          have k3 := (all_has f _).mp k3
          have lf : lk ≠ [] := by simpa using k2
          have := List.length_pos_iff.mpr lf
          (apply sat_nx; focus ((conv => lhs; simp [argsOf, placesOf, putBack, put, putF, putAll, flg, R.view, R.viewR, kilS, SRes.kil, Md.wipe, szOk_lt (show f.length + lk.length ≤ 1000000 by omega)]); try rfl))
          (apply sat_nx; focus ((conv => lhs; simp [argsOf, placesOf, putBack, put, putF, putAll, flg, R.view, R.viewR, kilS, SRes.kil, Md.wipe]); try rfl))
          refine sat_nop ?_
          have ps' := ps.add hj k1 (fun k hk => k3 k (by rw [hkn] at hk; exact hk)) (by rw [hv]; exact vd)
          rw [hv, ← has_filter, hlk] at ps'
          have pl : f0.length ≤ f.length := ps.len
          refine ⟨(f ++ lk, true), rfl, ps', (fun h => nomatch h), fun _ => ?_⟩
          show f0.length < (f ++ lk).length
          rw [List.length_append]; omega
        · intro hk
          refine sat_nop ?_
          refine ⟨(f, q), rfl, ps.skip fun hjc hkk => ?_, h1, h2⟩
          have k1 : ¬((j : Int) = c) := by omega
          have k3 : ((Kn tbs g (.tuple [x, .tuple ts])).all (has f)) = true := (all_has f _).mpr fun d hd => hkk d (by rw [hkn]; exact hd)
          rw [k3] at hk
          simp [k1] at hk
          rw [hk, has_filter, ← hv] at hlk
          exact Sw.lacks_nil.mp hlk
      · obtain ⟨f, q⟩ := x
        obtain ⟨ps, h1, h2⟩ := hx
        rw [enumW_len] at ps
        refine ⟨(f, q), rfl, ⟨ps.ok, fun hq => ?_⟩, ?_⟩
        · have e : f = f0 := h1 hq
          subst e
          exact fun i hi hic hk => ps.got i hi hic hk
        · show (if q = true then _ else _) < (if true = true then _ else _)
          rw [if_pos rfl]
          cases q with
          | false => simp
          | true =>
            have h2 : f0.length < f.length := h2 rfl
            have : Sw.unc as.length (VN g as) c f < Sw.unc as.length (VN g as) c f0 := pass_next ps fun e => by
              have e : f = f0 := e
              rw [e] at h2; omega
            simp only [if_true]
            show Sw.unc as.length (VN g as) c f + 1 < Sw.unc as.length (VN g as) c f0 + 1
            omega
    · have hq : q0 = false := hq
      obtain ⟨fw, _⟩ := ok_wo (g := g) ha hok
      have fw : ∀ d ∈ f0, Wo d := fw
      have hs := sorted_wo fw
      have ik := hok.isK (hcl hq)
      have kw := Kw_of ik fw
      rw [kw] at hs
      (apply sat_ret; focus ((conv => lhs; simp [argsOf, placesOf, putBack, put, putF, putAll, flg, R.view, R.viewR, kilS, SRes.kil, Md.wipe, hs]); try rfl))
      exact ⟨_, rfl, rfl, f0, kw.symm, ik⟩
end Md

/-! _law_known, check_double, known -/
namespace Md
open PySem (Str PyData)
section
variable {tbs ns g as : List Da}
theorem law_key_ok (n : Nat) {a : Da} (ha : At tbs ns a) (hg : ∀ d ∈ g, Wo d) : ∃ t w k ts, a = .tuple [.int t, .tuple ts] ∧ L2.atI tbs t = some (.tuple [.int w, .int k]) ∧ cutL ts none (some k) = ts.take k.toNat ∧ run Pg0 DG (n + 1) i'l_names_2 [.fz (.tuple [.int 0, .tuple (ts.take k.toNat)]), .fz (.tuple g)] = .ok (.lst (Kn tbs g a)) [.fz (.tuple [.int 0, .tuple (ts.take k.toNat)]), .fz (.tuple g)] ∧
    run Pg0 DG (n + 1) i'l_names_2 [.fz a, .fz (.tuple g)] = .ok (.lst (An g a)) [.fz a, .fz (.tuple g)] := by
  obtain ⟨t, w, k, ts, rfl, ht, t0, k0, kw, lw, w4, hts⟩ := ha
  have ek : Kn tbs g (.tuple [.int t, .tuple ts]) = Nms (ts.take k.toNat) g := by simp only [Kn, ht]
  refine ⟨t, w, k, ts, rfl, ht, cutL_take _ _ k0, ?_, law_names_ok n (by omega) hts hg⟩
  rw [ek]
  exact law_names_ok n (by rw [List.length_take]; omega) (fun d hd => hts d (List.mem_of_mem_take hd)) hg
theorem law_known_ok (n : Nat) (ha : ∀ a ∈ as, At tbs ns a) (hg : ∀ d ∈ g, Wo d) (la : as.length ≤ 1000) (ln : ns.length ≤ 500) {c : Nat} (hc : c < as.length) :
    run Pg0 DG (n + 2) i'l_known [.fz (.tuple tbs), .fz (.tuple [.tuple g, .tuple as]), .fz (.int c)] = .ok (.lst (Kw tbs g as c)) [.fz (.tuple tbs), .fz (.tuple [.tuple g, .tuple as]), .fz (.int c)] := by
  refine run_eq (run'l_known _ _ _ _) ?_
  have hk0 := ok0 (g := g) ha hc
  have hat := atI_at hc
  obtain ⟨t, w, k, ts, ea, ht, hcut, hr, _⟩ := law_key_ok n (ha as[c] (List.getElem_mem hc)) hg
  generalize as[c] = ac at *
  subst ea
  (apply sat_nx; focus ((conv => lhs; simp [argsOf, placesOf, putBack, put, putF, putAll, flg, R.view, R.viewR, kilS, SRes.kil, Md.wipe]); try rfl))
  (apply sat_nx; focus ((conv => lhs; simp [argsOf, placesOf, putBack, put, putF, putAll, flg, R.view, R.viewR, kilS, SRes.kil, Md.wipe, hat, ht]); try rfl))
  (apply sat_nx; focus ((conv => lhs; simp [argsOf, placesOf, putBack, put, putF, putAll, flg, R.view, R.viewR, kilS, SRes.kil, Md.wipe, hat, hcut, hr]); try rfl))
  generalize Kn tbs g (.tuple [.int t, .tuple ts]) = k0 at hk0
  refine sat_for' (fun b (x : List Da) => b.set 4 (some (.lst x))) (fun j f => Sw.Ok as.length (KN tbs g as) (VN g as) c f ∧ (Sw.Closed as.length (KN tbs g as) (VN g as) c f ∨ Sw.unc as.length (VN g as) c f + j < as.length)) k0 (itr_r1 (k := as.length) (r := .t (.fz (.int as.length))) (by ((conv => lhs; simp [argsOf, placesOf, putBack, put, putF, putAll, flg, R.view, R.viewR, kilS, SRes.kil, Md.wipe]); try rfl)) rfl (by omega) (by omega)) rfl rfl rfl rfl rfl ⟨hk0, .inr (by have := Sw.unc_le (V := VN g as) hc k0; omega)⟩ (fun j d f0 hd hx => ?_) (fun f hx => ?_)
  · obtain ⟨rfl, _⟩ := rng_get hd
    obtain ⟨hok, hcl⟩ := hx
    refine ⟨_, rfl, sat_kil ?_⟩
    refine sat_for' (fun b (x : List Da) => b.set 4 (some (.lst x))) (fun i f => Sw.Pass as.length (KN tbs g as) (VN g as) c f0 i f) f0 (itr_1 (d := .tuple as) rfl rfl rfl) rfl rfl rfl rfl rfl (Sw.Pass.start hok) (fun i d f hd ps => ?_) (fun f ps => ?_)
    · obtain ⟨hi, rfl⟩ := enumW_at hd
      have haj := ha as[i] (List.getElem_mem hi)
      have hv := vn_at (g := g) hi
      have hkn := kn_at (tbs := tbs) (g := g) hi
      have vw := vn_wo (g := g) ha i
      have vd := vn_nd (g := g) ha i
      have kw := kv_sub (g := g) ha i
      obtain ⟨t, w, k, ts, ea, ht, hcut, hr, hr2⟩ := law_key_ok n haj hg
      rw [hv] at vw vd kw
      rw [hkn] at kw
      generalize as[i] = a at *
      subst ea
      obtain ⟨fw, fl⟩ := ok_wo (g := g) ha ps.ok
      have fv : ∀ d ∈ f, Vl d := fun d hd => .inr (fw d hd)
      have vl : (An g (.tuple [.int t, .tuple ts])).length ≤ ns.length := List.Nodup.length_le_of_subset vd fun d hd => (vw d hd).1
      have kl : (Kn tbs g (.tuple [.int t, .tuple ts])).length ≤ 1000 := by
        have h1 := (kn_spec (g := g) haj).1
        have := List.Nodup.length_le_of_subset h1 fun d hd => kw d hd
        omega
      refine ⟨_, rfl, sat_kil ?_⟩
      (apply sat_nx; focus ((conv => lhs; simp [argsOf, placesOf, putBack, put, putF, putAll, flg, R.view, R.viewR, kilS, SRes.kil, Md.wipe, ht, hcut, hr]); try rfl))
      have hne := lst_eq (ds := (Kn tbs g (.tuple [.int t, .tuple ts])).filter (fun d => !has f d)) fun d hd => (vw d (kw d (List.mem_filter.mp hd).1)).2
      have em : ((Kn tbs g (.tuple [.int t, .tuple ts])).filter (fun d => !has f d)).isEmpty = true ↔ ∀ d ∈ Kn tbs g (.tuple [.int t, .tuple ts]), d ∈ f := by
        rw [List.isEmpty_iff, List.filter_eq_nil_iff]
        exact ⟨fun h d hd => by simpa [has] using h d hd, fun h d hd => by simpa [has] using h d hd⟩
      apply sat_ifs (k := !decide ((i : Int) = c) && ((Kn tbs g (.tuple [.int t, .tuple ts])).filter (fun d => !has f d)).isEmpty)
      · by_cases e1 : (i : Int) = c
        · simp [argsOf, placesOf, putBack, put, putF, putAll, flg, R.view, R.viewR, kilS, SRes.kil, Md.wipe, e1]
        · ((conv => lhs; simp [argsOf, placesOf, putBack, put, putF, putAll, flg, R.view, R.viewR, kilS, SRes.kil, Md.wipe, e1]); try rfl)
          (unfold c'l_known'0; rw [lc1f (fun d => !has f d) id (Kn tbs g (.tuple [.int t, .tuple ts])) ?hi ?hv ?hw ?hl ?hp ?hz ?hb]; (case hi => (first | rfl | ((conv => lhs; simp [argsOf, placesOf, putBack, put, putF, putAll, flg, R.view, R.viewR, kilS, SRes.kil, Md.wipe]); try rfl))); (case hv => (first | rfl | simp)); (case hw => (first | rfl | ((conv => lhs; simp [argsOf, placesOf, putBack, put, putF, putAll, flg, R.view, R.viewR, kilS, SRes.kil, Md.wipe]); try rfl))); (case hl => rfl); (case hp => rfl))
          case hz => omega
          case hb =>
            intro d hd
            refine ⟨_, rfl, rfl, by ((conv => lhs; simp [argsOf, placesOf, putBack, put, putF, putAll, flg, R.view, R.viewR, kilS, SRes.kil, Md.wipe, notin_l (.inr (vw d (kw d hd)).2) fv]); try rfl), fun _ => ⟨_, by ((conv => lhs; simp [argsOf, placesOf, putBack, put, putF, putAll, flg, R.view, R.viewR, kilS, SRes.kil, Md.wipe]); try rfl), rfl⟩⟩
          simp [argsOf, placesOf, putBack, put, putF, putAll, flg, R.view, R.viewR, kilS, SRes.kil, Md.wipe, e1, hne]
      · intro hk
        rw [Bool.and_eq_true] at hk
        obtain ⟨k1, k2⟩ := hk
        have k1 : ¬((i : Int) = c) := by simpa using k1
        have k1 : i ≠ c := by omega
        have k2 := em.mp k2
        have ps' := ps.add hi k1 (fun k hk => k2 k (by rw [hkn] at hk; exact hk)) (by rw [hv]; exact vd)
        rw [hv, ← has_filter] at ps'
        have lfl := List.length_filter_le (fun d => !has f d) (An g (.tuple [.int t, .tuple ts]))
        apply sat_nx
        focus
          ((conv => lhs; simp [argsOf, placesOf, putBack, put, putF, putAll, flg, R.view, R.viewR, kilS, SRes.kil, Md.wipe]); try rfl)
          (unfold c'l_known'1; rw [lc1f (fun d => !has f d) id (An g (.tuple [.int t, .tuple ts])) ?hi ?hv ?hw ?hl ?hp ?hz ?hb]; (case hi => (first | rfl | ((conv => lhs; simp [argsOf, placesOf, putBack, put, putF, putAll, flg, R.view, R.viewR, kilS, SRes.kil, Md.wipe, hr2]); try rfl))); (case hv => (first | rfl | simp)); (case hw => (first | rfl | ((conv => lhs; simp [argsOf, placesOf, putBack, put, putF, putAll, flg, R.view, R.viewR, kilS, SRes.kil, Md.wipe, hr2]); try rfl))); (case hl => rfl); (case hp => rfl))
          case hz => omega
          case hb =>
            intro d hd
            refine ⟨_, rfl, rfl, by ((conv => lhs; simp [argsOf, placesOf, putBack, put, putF, putAll, flg, R.view, R.viewR, kilS, SRes.kil, Md.wipe, notin_l (.inr (vw d hd).2) fv]); try rfl), fun _ => ⟨_, by ((conv => lhs; simp [argsOf, placesOf, putBack, put, putF, putAll, flg, R.view, R.viewR, kilS, SRes.kil, Md.wipe]); try rfl), rfl⟩⟩
          ((conv => lhs; simp [argsOf, placesOf, putBack, put, putF, putAll, flg, R.view, R.viewR, kilS, SRes.kil, Md.wipe, binop_addl f ((An g (.tuple [.int t, .tuple ts])).filter fun d => !has f d) (szOk_lt (by omega))]); try rfl)
        refine sat_nop ?_
        exact ⟨_, rfl, ps'⟩
      · intro hk
        refine sat_nop ?_
        refine ⟨f, rfl, ps.skip fun hjc hkk => ?_⟩
        have k1 : ¬((i : Int) = c) := by omega
        have k3 := em.mpr fun d hd => hkk d (by rw [hkn]; exact hd)
        rw [k3] at hk
        simp [k1] at hk
    · rw [enumW_len] at ps
      refine ⟨f, rfl, ps.ok, ?_⟩
      rcases hcl with h | h
      · rw [ps.same h]; exact .inl h
      · rcases ps.next with q | q
        · exact .inl q
        · exact .inr (by omega)
  · obtain ⟨hok, hcl⟩ := hx
    rw [rangeUp_length] at hcl
    have hcl : Sw.Closed as.length (KN tbs g as) (VN g as) c f := hcl.elim id fun h => by omega
    obtain ⟨fw, _⟩ := ok_wo (g := g) ha hok
    have hs := sorted_wo fw
    rw [Kw_of (hok.isK hcl) fw] at hs
    (apply sat_ret; focus ((conv => lhs; simp [argsOf, placesOf, putBack, put, putF, putAll, flg, R.view, R.viewR, kilS, SRes.kil, Md.wipe, hs]); try rfl))
    rfl
end
/-! ### no table twice -/
def Ti (a : Da) : Int := match Tn a with
  | .int t => t
  | _ => 0
def sn (as : List Da) : List (Da × Da) := as.map fun a => (.int (Ti a), .bool true)
theorem sn_none : ∀ (as : List Da) (t : Int), (∀ a ∈ as, Ti a ≠ t) → lookD (.int t) (sn as) = none
  | [], _, _ => rfl
  | a :: r, t, h => by
    have h1 : Ti a ≠ t := h a List.mem_cons_self
    show (if keq (.int (Ti a)) (.int t) = true then some (.bool true) else lookD (.int t) (sn r)) = none
    have hk : keq (.int (Ti a)) (.int t) = false := by simp [keq, h1]
    rw [hk]
    exact sn_none r t (fun a h' => h a (List.mem_cons_of_mem _ h'))
theorem sn_isD {as : List Da} : isD (sn as) = true := by cases as <;> rfl
theorem check_ok (n : Nat) {tbs ns as : List Da} {g : Da} (ha : ∀ a ∈ as, At tbs ns a) (la : as.length ≤ 1000) (nd : (as.map Tn).Nodup) :
    run Pg0 DG (n + 1) i'check_double [.fz (.tuple [g, .tuple as])] = .ok (.fz .none) [.fz (.tuple [g, .tuple as])] := by
  refine run_eq (run'check_double _ _) ?_
  (apply sat_nx; focus ((conv => lhs; simp [argsOf, placesOf, putBack, put, putF, putAll, flg, R.view, R.viewR, kilS, SRes.kil, Md.wipe]); try rfl))
  have hint : ∀ a ∈ as, ∃ i, Tn a = .int i := fun a h => by
    obtain ⟨t, w, k, ts, rfl, _⟩ := ha a h
    exact ⟨t, rfl⟩
  refine sat_for' (fun b (x : List (Da × Da)) => b.set 1 (some (.dct x))) (fun j x => x = sn (as.take j)) [] (itr_1 (d := .tuple as) (r := .t (.fz (.tuple as))) (by ((conv => lhs; simp [argsOf, placesOf, putBack, put, putF, putAll, flg, R.view, R.viewR, kilS, SRes.kil, Md.wipe]); try rfl)) rfl rfl) rfl rfl rfl rfl rfl rfl (fun j d x hd hx => ?_) (fun x hx => ?_)
  · obtain ⟨hj, rfl⟩ := enumW_at hd
    have et : as.take (j + 1) = as.take j ++ [as[j]] := by rw [List.take_add_one, List.getElem?_eq_getElem hj]; rfl
    obtain ⟨t, w, k, ts, ea, _⟩ := ha as[j] (List.getElem_mem hj)
    have nm : ∀ a ∈ as.take j, Ti a ≠ t := fun a hm e => by
      have h2 : ((as.take (j + 1)).map Tn).Nodup := nd.sublist ((List.take_sublist _ _).map _)
      rw [et, List.map_append, List.nodup_append] at h2
      obtain ⟨i, hi⟩ := hint a (List.mem_of_mem_take hm)
      have : Ti a = i := by unfold Ti; rw [hi]
      exact h2.2.2 _ (List.mem_map_of_mem hm) (Tn as[j]) (by simp) (by rw [hi, ea, ← this, e]; rfl)
    have l1 := sn_none _ t nm
    have l4 : (sn (as.take j)).length < PySem.sizeLine := sl_lt (by simp only [sn, List.length_map, List.length_take]; omega)
    have l3 : putD (sn (as.take j)) (.int t) (.bool true) = sn (as.take (j + 1)) := by
      rw [et, putD, l1, ea]
      simp [sn, Tn, Ti]
    have hin : Md.compare .isin (.int t) (.dict (sn (as.take j))) = some false := by
      show (if (kOk (.int t) && isD (sn (as.take j))) = true then some (lookD (.int t) (sn (as.take j))).isSome else none) = _
      rw [l1, sn_isD]; rfl
    rw [ea]
    subst hx
    refine ⟨_, rfl, sat_kil ?_⟩
    apply sat_iff
    · ((conv => lhs; simp [argsOf, placesOf, putBack, put, putF, putAll, flg, R.view, R.viewR, kilS, SRes.kil, Md.wipe, hin]); try rfl)
    · refine sat_nop ?_
      (apply sat_nx; focus ((conv => lhs; simp [argsOf, placesOf, putBack, put, putF, putAll, flg, R.view, R.viewR, kilS, SRes.kil, Md.wipe, kOk, l4, l3]); try rfl))
      exact ⟨_, rfl, rfl⟩
  · rfl
theorem known_ok (n : Nat) {tbs ns g as : List Da} (ha : ∀ a ∈ as, At tbs ns a) (hg : ∀ d ∈ g, Wo d) (la : as.length ≤ 1000) (ln : ns.length ≤ 500) (nd : (as.map Tn).Nodup) {c : Nat} (hc : c < as.length) :
    run Pg0 DG (n + 4) i'known [.fz (.tuple tbs), .fz (.tuple [.tuple g, .tuple as]), .fz (.int c)] = .ok (.lst (Kw tbs g as c)) [.fz (.tuple tbs), .fz (.tuple [.tuple g, .tuple as]), .fz (.int c)] := by
  refine run_eq (run'known _ _ _ _) ?_
  have h1 := check_ok (n + 2) (g := .tuple g) ha la nd
  obtain ⟨_, h2, rfl, _⟩ := known_to_ok n ha hg la ln hc
  (apply sat_nx; focus ((conv => lhs; simp [argsOf, placesOf, putBack, put, putF, putAll, flg, R.view, R.viewR, kilS, SRes.kil, Md.wipe, h1]); try rfl))
  (apply sat_ret; focus ((conv => lhs; simp [argsOf, placesOf, putBack, put, putF, putAll, flg, R.view, R.viewR, kilS, SRes.kil, Md.wipe, h2]); try rfl))
  rfl
end Md

/-! share, swayed, sways, _law_linked, _law_sways -/
namespace Md
open PySem (Str PyData)
section
variable {tbs ns g as : List Da}
/-- a and b share a name that is not known -/
noncomputable def shb (g mine : List Da) (a b : Da) : Bool := (An g a).any fun d => has (An g b) d && !has mine d
theorem shb_iff {mine : List Da} {c i j : Nat} (hi : i < as.length) (hj : j < as.length) (hm : ∀ d, d ∈ mine ↔ Sw.Cl as.length (KN tbs g as) (VN g as) c d) :
    shb g mine as[i] as[j] = true ↔ Sw.Sh as.length (KN tbs g as) (VN g as) c i j := by
  unfold shb Sw.Sh
  rw [vn_at hi, vn_at hj, List.any_eq_true]
  constructor
  · rintro ⟨d, d1, d2⟩
    rw [Bool.and_eq_true] at d2
    refine ⟨d, d1, by simpa [has] using d2.1, fun q => ?_⟩
    have := (hm d).mpr q
    simp [has, this] at d2
  · rintro ⟨d, d1, d2, d3⟩
    exact ⟨d, d1, by simp [has, d2, mt (hm d).mp d3]⟩
theorem share_ok (n : Nat) {mine : List Da} {a b : Da} (ha : At tbs ns a) (hb : At tbs ns b) (hg : ∀ d ∈ g, Wo d) (hm : ∀ d ∈ mine, Wo d) (ln : ns.length ≤ 500) :
    run Pg0 DG (n + 2) i'share [.fz a, .fz b, .fz (.tuple g), .lst mine] = .ok (.fz (.bool (shb g mine a b))) [.fz a, .fz b, .fz (.tuple g), .lst mine] := by
  refine run_eq (run'share _ _ _ _ _) ?_
  have sa := (kn_spec (g := g) ha).2.2
  have sb := (kn_spec (g := g) hb).2.2
  obtain ⟨x, ts, ea, r1, _⟩ := anames_ok n ha hg
  obtain ⟨y, us, eb, r2, _⟩ := anames_ok n hb hg
  unfold shb
  generalize An g a = qa at *
  generalize An g b = qb at *
  subst ea eb
  have la : qa.length ≤ ns.length := List.Nodup.length_le_of_subset sa.1 fun d hd => (sa.2 d hd).1
  (apply sat_nx; focus ((conv => lhs; simp [argsOf, placesOf, putBack, put, putF, putAll, flg, R.view, R.viewR, kilS, SRes.kil, Md.wipe, r2]); try rfl))
  apply sat_ret
  focus
    ((conv => lhs; simp [argsOf, placesOf, putBack, put, putF, putAll, flg, R.view, R.viewR, kilS, SRes.kil, Md.wipe]); try rfl)
    (unfold c'share'0; rw [lc1m (fun d => .bool (has qb d && !has mine d)) qa ?hi ?hv ?hw ?hl ?hp ?hz ?hb]; (case hi => (first | rfl | ((conv => lhs; simp [argsOf, placesOf, putBack, put, putF, putAll, flg, R.view, R.viewR, kilS, SRes.kil, Md.wipe, r1]); try rfl))); (case hv => (first | rfl | simp)); (case hw => (first | rfl | ((conv => lhs; simp [argsOf, placesOf, putBack, put, putF, putAll, flg, R.view, R.viewR, kilS, SRes.kil, Md.wipe, r1]); try rfl))); (case hl => rfl); (case hp => rfl))
    case hz => omega
    case hb =>
      intro d hd
      have vd : Vl d := .inr (sa.2 d hd).2
      have i1 := isin_l (ds := qb) vd fun d hd => .inr (sb.2 d hd).2
      have i2 := notin_l (ds := mine) vd fun d hd => .inr (hm d hd)
      by_cases e : has qb d = true
      · exact ⟨_, _, rfl, rfl, by ((conv => lhs; simp [argsOf, placesOf, putBack, put, putF, putAll, flg, R.view, R.viewR, kilS, SRes.kil, Md.wipe, i1, i2, e]); try rfl), by rw [e, Bool.true_and]; rfl⟩
      · have e : has qb d = false := by simpa using e
        exact ⟨_, .fz (.bool false), rfl, rfl, by ((conv => lhs; simp [argsOf, placesOf, putBack, put, putF, putAll, flg, R.view, R.viewR, kilS, SRes.kil, Md.wipe, i1, i2, e]); try rfl), by simp [e, R.view]⟩
    ((conv => lhs; simp [argsOf, placesOf, putBack, put, putF, putAll, flg, R.view, R.viewR, kilS, SRes.kil, Md.wipe, anyB_map]); try rfl)
  rfl
theorem linked_ok (n : Nat) {mine : List Da} {i j : Nat} (ha : ∀ a ∈ as, At tbs ns a) (hg : ∀ d ∈ g, Wo d) (hm : ∀ d ∈ mine, Wo d) (ln : ns.length ≤ 500) (hi : i < as.length) (hj : j < as.length) :
    run Pg0 DG (n + 2) i'l_linked [.fz (.tuple as), .fz (.tuple g), .lst mine, .fz (.int i), .fz (.int j)] = .ok (.fz (.bool (shb g mine as[i] as[j]))) [.fz (.tuple as), .fz (.tuple g), .lst mine, .fz (.int i), .fz (.int j)] := by
  refine run_eq (run'l_linked _ _ _ _ _ _) ?_
  have sa := (kn_spec (g := g) (ha _ (List.getElem_mem hi))).2.2
  have sb := (kn_spec (g := g) (ha _ (List.getElem_mem hj))).2.2
  obtain ⟨x, ts, _, _, r1⟩ := anames_ok n (ha _ (List.getElem_mem hi)) hg
  obtain ⟨y, us, _, _, r2⟩ := anames_ok n (ha _ (List.getElem_mem hj)) hg
  have i1 := atI_at hi
  have i2 := atI_at hj
  unfold shb
  generalize as[i] = a at *
  generalize as[j] = b at *
  generalize An g a = qa at *
  generalize An g b = qb at *
  have la : qa.length ≤ ns.length := List.Nodup.length_le_of_subset sa.1 fun d hd => (sa.2 d hd).1
  (apply sat_nx; focus ((conv => lhs; simp [argsOf, placesOf, putBack, put, putF, putAll, flg, R.view, R.viewR, kilS, SRes.kil, Md.wipe, i2, r2]); try rfl))
  have hne := lst_ne (ds := qa.filter fun d => has qb d && !has mine d) fun d hd => (sa.2 d (List.mem_filter.mp hd).1).2
  have ee : (!(qa.filter fun d => has qb d && !has mine d).isEmpty) = qa.any fun d => has qb d && !has mine d := by
    rw [Bool.eq_iff_iff, List.any_eq_true, Bool.not_eq_true', List.isEmpty_eq_false_iff_exists_mem]
    exact ⟨fun ⟨d, h⟩ => ⟨d, List.mem_filter.mp h⟩, fun ⟨d, h⟩ => ⟨d, List.mem_filter.mpr h⟩⟩
  apply sat_ret
  focus
    ((conv => lhs; simp [argsOf, placesOf, putBack, put, putF, putAll, flg, R.view, R.viewR, kilS, SRes.kil, Md.wipe]); try rfl)
    (unfold c'l_linked'0; rw [lc1f (fun d => has qb d && !has mine d) id qa ?hi ?hv ?hw ?hl ?hp ?hz ?hb]; (case hi => (first | rfl | ((conv => lhs; simp [argsOf, placesOf, putBack, put, putF, putAll, flg, R.view, R.viewR, kilS, SRes.kil, Md.wipe, i1, r1]); try rfl))); (case hv => (first | rfl | simp)); (case hw => (first | rfl | ((conv => lhs; simp [argsOf, placesOf, putBack, put, putF, putAll, flg, R.view, R.viewR, kilS, SRes.kil, Md.wipe, i1, r1]); try rfl))); (case hl => rfl); (case hp => rfl))
    case hz => omega
    case hb =>
      intro d hd
      have vd : Vl d := .inr (sa.2 d hd).2
      have i1 := isin_l (ds := qb) vd fun d hd => .inr (sb.2 d hd).2
      have i2 := notin_l (ds := mine) vd fun d hd => .inr (hm d hd)
      by_cases e : has qb d = true
      · exact ⟨_, rfl, rfl, by simp [argsOf, placesOf, putBack, put, putF, putAll, flg, R.view, R.viewR, kilS, SRes.kil, Md.wipe, i1, i2, e], fun _ => ⟨_, by ((conv => lhs; simp [argsOf, placesOf, putBack, put, putF, putAll, flg, R.view, R.viewR, kilS, SRes.kil, Md.wipe]); try rfl), rfl⟩⟩
      · have e : has qb d = false := by simpa using e
        exact ⟨_, rfl, rfl, by simp [argsOf, placesOf, putBack, put, putF, putAll, flg, R.view, R.viewR, kilS, SRes.kil, Md.wipe, i1, i2, e], fun h => by simp [e] at h⟩
    ((conv => lhs; simp [argsOf, placesOf, putBack, put, putF, putAll, flg, R.view, R.viewR, kilS, SRes.kil, Md.wipe, hne, ee]); try rfl)
  rfl
end
/-! ### numbers in order -/
def Ns (f : List Nat) : List Da := f.map fun (i : Nat) => .int (i : Int)
theorem ns_vl (f : List Nat) : ∀ d ∈ Ns f, Vl d := fun d hd => by
  obtain ⟨i, _, rfl⟩ := List.mem_map.mp hd
  exact .inl ⟨_, rfl⟩
theorem ns_has (f : List Nat) (i : Nat) : has (Ns f) (.int (i : Int)) = decide (i ∈ f) := by
  unfold has Ns
  rw [decide_eq_decide, List.mem_map]
  constructor
  · rintro ⟨j, hj, e⟩
    have : (j : Int) = i := by simpa using e
    rw [show i = j by omega]; exact hj
  · exact fun h => ⟨i, h, rfl⟩
theorem sorted_int {f : List Nat} : call1 .sorted (.list (Ns f)) = some (.lst (srt (Ns f))) := by
  have h1 : alikeB (Ns f) = true := by
    refine List.all_eq_true.mpr fun d hd => List.all_eq_true.mpr fun e he => ?_
    obtain ⟨x, _, rfl⟩ := List.mem_map.mp hd
    obtain ⟨y, _, rfl⟩ := List.mem_map.mp he
    rfl
  have h2 : sortB (Ns f) = true := by
    unfold sortB
    rw [Bool.or_eq_true, Bool.or_eq_true]
    exact .inl (.inr (List.all_eq_true.mpr fun d hd => by obtain ⟨x, _, rfl⟩ := List.mem_map.mp hd; rfl))
  have h3 := vls_fit (ns_vl f) 64
  show (if (alikeB (Ns f) && sortB (Ns f) && fitsAll 64 (Ns f)) = true then some (T.lst (srt (Ns f))) else none) = _
  rw [h1, h2, h3]
  rfl
theorem int_le {i j : Nat} : PySem.W.dataLe false id (PyData.int (i : Int)) (.int (j : Int)) = true ↔ i ≤ j := by
  rw [PySem.W.dataLe_eq]
  simp [PySem.W.dataLt_int]
theorem srt_ints {f l : List Nat} (p : f.Perm l) (hs : l.Pairwise (· < ·)) : srt (Ns f) = Ns l := by
  refine srt_uniq (p.map _) (fun a ha b hb h1 h2 => ?_) (List.pairwise_map.mpr (hs.imp fun h => int_le.mpr (Nat.le_of_lt h)))
  obtain ⟨i, _, rfl⟩ := List.mem_map.mp ha
  obtain ⟨j, _, rfl⟩ := List.mem_map.mp hb
  have := int_le.mp h1
  have := int_le.mp h2
  rw [show i = j by omega]
theorem range_filt (n : Nat) (q : Nat → Bool) : ((List.range n).filter q).Pairwise (· < ·) := List.pairwise_lt_range.sublist List.filter_sublist
theorem srt_range {f : List Nat} {n : Nat} {q : Nat → Bool} (nd : f.Nodup) (h : ∀ i, i ∈ f ↔ i < n ∧ q i = true) : srt (Ns f) = Ns ((List.range n).filter q) :=
  srt_ints ((List.perm_ext_iff_of_nodup nd (List.nodup_range.sublist List.filter_sublist)).mpr fun i => by rw [h i, List.mem_filter, List.mem_range]) (range_filt n q)
/-- whom c sways -/
noncomputable def Yw (tbs g as : List Da) (c : Nat) : List Nat := (List.range as.length).filter fun j => Sw.cd (Sw.Sy as.length (KN tbs g as) (VN g as) c j)
/-- all pairs -/
noncomputable def Pw (tbs g as : List Da) : List Da := (List.range as.length).flatMap fun c => (Yw tbs g as c).map fun (j : Nat) => .tuple [.int (c : Int), .int (j : Int)]
theorem yw_mem {tbs g as : List Da} {c j : Nat} : j ∈ Yw tbs g as c ↔ j < as.length ∧ Sw.Sy as.length (KN tbs g as) (VN g as) c j := by
  unfold Yw
  rw [List.mem_filter, List.mem_range]
  exact and_congr_right fun _ => Sw.cd_iff
theorem yw_len {tbs g as : List Da} {c : Nat} : (Yw tbs g as c).length ≤ as.length := by
  have := List.length_filter_le (fun j => Sw.cd (Sw.Sy as.length (KN tbs g as) (VN g as) c j)) (List.range as.length)
  rw [List.length_range] at this
  exact this
theorem pw_mem {tbs g as : List Da} {d : Da} : d ∈ Pw tbs g as ↔ ∃ c j : Nat, d = .tuple [.int (c : Int), .int (j : Int)] ∧ c < as.length ∧ j < as.length ∧ Sw.Sy as.length (KN tbs g as) (VN g as) c j := by
  unfold Pw
  rw [List.mem_flatMap]
  constructor
  · rintro ⟨c, hc, h⟩
    obtain ⟨j, hj, rfl⟩ := List.mem_map.mp h
    have := yw_mem.mp hj
    exact ⟨c, j, rfl, List.mem_range.mp hc, this.1, this.2⟩
  · rintro ⟨c, j, rfl, hc, hj, h⟩
    exact ⟨c, List.mem_range.mpr hc, List.mem_map.mpr ⟨j, yw_mem.mpr ⟨hj, h⟩, rfl⟩⟩
end Md

/-! swayed, sways, _law_sways -/
namespace Sw
section
variable {α : Type} {n : Nat} {K V : Nat → List α} {c : Nat}
theorem Bf.add {k : Nat} {f : List Nat} {i j : Nat} (h : Bf n K V c k f) (hk : f[k]? = some i) (hj : j < n) (hn : j ∉ f) (hr : Rc n K V c j) : Bf n K V c k (f ++ [j]) := by
  have hkl := (List.getElem?_eq_some_iff.mp hk).1
  refine ⟨Md.nodup_snoc h.nd hn, fun x hx => ?_, ?_, fun x hx => ?_, fun m i' j' hm e hj' hs => ?_⟩
  · rcases List.mem_append.mp hx with q | q
    · exact h.lt x q
    · rw [List.mem_singleton.mp q]; exact hj
  · rw [List.head?_append, h.hd]; rfl
  · rcases List.mem_append.mp hx with q | q
    · exact h.rc x q
    · rw [List.mem_singleton.mp q]; exact hr
  · rw [List.getElem?_append_left (by omega)] at e
    exact List.mem_append_left _ (h.dn m i' j' hm e hj' hs)
/-- a turn's found -/
structure Tf (n : Nat) (K V : Nat → List α) (c : Nat) (f : List Nat) : Prop where
  nd : f.Nodup
  lt : ∀ i ∈ f, i < n
  me : c ∈ f
  rc : ∀ i ∈ f, Rc n K V c i
def Tc (n : Nat) (K V : Nat → List α) (c : Nat) (f : List Nat) : Prop := ∀ i ∈ f, ∀ j, j < n → Sh n K V c i j → j ∈ f
theorem Tf.len {f : List Nat} (h : Tf n K V c f) : f.length ≤ n := road_len h.nd h.lt
theorem Tf.all {f : List Nat} (h : Tf n K V c f) (hc : Tc n K V c f) (j : Nat) : j ∈ f ↔ Rc n K V c j := by
  refine ⟨h.rc j, fun hj => ?_⟩
  induction hj with
  | start => exact h.me
  | step h1 h2 h3 ih => exact hc _ ih _ h2 h3
theorem Tf.add {f : List Nat} {i j : Nat} (h : Tf n K V c f) (hi : i ∈ f) (hj : j < n) (hn : j ∉ f) (hs : Sh n K V c i j) : Tf n K V c (f ++ [j]) := by
  refine ⟨Md.nodup_snoc h.nd hn, fun x hx => ?_, List.mem_append_left _ h.me, fun x hx => ?_⟩
  · rcases List.mem_append.mp hx with q | q
    · exact h.lt x q
    · rw [List.mem_singleton.mp q]; exact hj
  · rcases List.mem_append.mp hx with q | q
    · exact h.rc x q
    · rw [List.mem_singleton.mp q]; exact (h.rc i hi).step hj hs
end
end Sw
namespace Md
open PySem (Str PyData)
theorem lst_neV {ds : List Da} (h : ∀ d ∈ ds, Vl d) : Md.compare .ne (.list ds) (.list []) = some (!ds.isEmpty) := by
  have g := vls_fit h 63
  have f1 : fits 64 (.list ds) = true := by show fitsAll 63 ds = true; exact g
  have f2 : fits 64 (.list []) = true := rfl
  rw [cmp_ne, f1, f2]
  cases ds with
  | nil => rfl
  | cons x l => rfl
theorem ns_snoc (f : List Nat) (j : Nat) : Ns (f ++ [j]) = Ns f ++ [.int (j : Int)] := by simp [Ns]
theorem ns_at {f : List Nat} {k i : Nat} (h : f[k]? = some i) : L2.atI (Ns f) (k : Int) = some (.int (i : Int)) := by
  rw [atI_nat]; simp [Ns, h]
theorem ns_len (f : List Nat) : (Ns f).length = f.length := by simp [Ns]
section
variable {tbs ns g as : List Da}
theorem kw_mem (n : Nat) (ha : ∀ a ∈ as, At tbs ns a) (hg : ∀ d ∈ g, Wo d) (la : as.length ≤ 1000) (ln : ns.length ≤ 500) {c : Nat} (hc : c < as.length) : (∀ d, d ∈ Kw tbs g as c ↔ Sw.Cl as.length (KN tbs g as) (VN g as) c d) ∧ ∀ d ∈ Kw tbs g as c, Wo d := by
  obtain ⟨_, _, _, f, ef, ik⟩ := known_to_ok n ha hg la ln hc
  have : ∀ d, d ∈ Kw tbs g as c ↔ Sw.Cl as.length (KN tbs g as) (VN g as) c d := fun d => by rw [ef, (srt_perm' f).mem_iff, ik.2 d]
  exact ⟨this, fun d hd => (cl_wo ha ((this d).mp hd)).2⟩
theorem swayed_ok (n : Nat) (ha : ∀ a ∈ as, At tbs ns a) (hg : ∀ d ∈ g, Wo d) (la : as.length ≤ 1000) (ln : ns.length ≤ 500) {c : Nat} (hc : c < as.length) :
    run Pg0 DG (n + 4) i'swayed [.fz (.tuple tbs), .fz (.tuple as), .fz (.tuple g), .fz (.int c)] = .ok (.lst (Ns (Yw tbs g as c))) [.fz (.tuple tbs), .fz (.tuple as), .fz (.tuple g), .fz (.int c)] := by
  refine run_eq (run'swayed _ _ _ _ _) ?_
  obtain ⟨_, hk, rfl, _⟩ := known_to_ok n ha hg la ln hc
  obtain ⟨km, kw⟩ := kw_mem n ha hg la ln hc
  (apply sat_nx; focus ((conv => lhs; simp [argsOf, placesOf, putBack, put, putF, putAll, flg, R.view, R.viewR, kilS, SRes.kil, Md.wipe, hk]); try rfl))
  unfold Yw
  generalize Kw tbs g as c = mine at *
  (apply sat_nx; focus ((conv => lhs; simp [argsOf, placesOf, putBack, put, putF, putAll, flg, R.view, R.viewR, kilS, SRes.kil, Md.wipe]); try rfl))
  (apply sat_nx; focus ((conv => lhs; simp [argsOf, placesOf, putBack, put, putF, putAll, flg, R.view, R.viewR, kilS, SRes.kil, Md.wipe]); try rfl))
  refine sat_whl (fun b (x : List Nat × Nat) => (b.set 5 (some (.lst (Ns x.1)))).set 6 (some (.fz (.int (x.2 : Int))))) (fun x => Sw.Bf as.length (KN tbs g as) (VN g as) c x.2 x.1 ∧ x.2 ≤ x.1.length) (fun x => as.length - x.2) ([c], 0) rfl ⟨⟨by simp, fun i hi => by rw [List.mem_singleton.mp hi]; exact hc, rfl, fun i hi => by rw [List.mem_singleton.mp hi]; exact .start, fun m i j h => by omega⟩, Nat.zero_le _⟩ (by show as.length - 0 < 100000; omega) (fun x hx => ?_)
  obtain ⟨f, k⟩ := x
  obtain ⟨hb, hkl⟩ := hx
  have fl : f.length ≤ as.length := Sw.road_len hb.nd hb.lt
  refine ⟨decide (k < f.length), _, by ((conv => lhs; simp [argsOf, placesOf, putBack, put, putF, putAll, flg, R.view, R.viewR, kilS, SRes.kil, Md.wipe, ns_len]); try rfl), fun hq => ?_, fun hq => ?_⟩
  · have hq : k < f.length := by simpa using hq
    refine sat_kil ?_
    have hfk : f[k]? = some f[k] := List.getElem?_eq_getElem hq
    have him : f[k] ∈ f := List.getElem_mem hq
    generalize f[k] = i at hfk him
    have hi := hb.lt i him
    refine sat_for' (fun b (x : List Nat) => b.set 5 (some (.lst (Ns x)))) (fun j x => Sw.Bf as.length (KN tbs g as) (VN g as) c k x ∧ x[k]? = some i ∧ i ∈ x ∧ ∀ j', j' < j → Sw.Sh as.length (KN tbs g as) (VN g as) c i j' → j' ∈ x) f (itr_r1 (k := as.length) (r := .t (.fz (.int as.length))) (by ((conv => lhs; simp [argsOf, placesOf, putBack, put, putF, putAll, flg, R.view, R.viewR, kilS, SRes.kil, Md.wipe]); try rfl)) rfl (by omega) (by omega)) rfl rfl rfl rfl rfl ⟨hb, hfk, him, fun _ h => by omega⟩ (fun j d f hd hx => ?_) (fun f hx => ?_)
    · obtain ⟨rfl, hj⟩ := rng_get hd
      have hj : j < as.length := by omega
      obtain ⟨hb, hfk, him, hgot⟩ := hx
      have fl : f.length ≤ as.length := Sw.road_len hb.nd hb.lt
      refine ⟨_, rfl, sat_kil ?_⟩
      have e1 := ns_at hfk
      have e2 := atI_at hi
      have e3 := atI_at hj
      have hs := share_ok (n + 1) (mine := mine) (ha _ (List.getElem_mem hi)) (ha _ (List.getElem_mem hj)) hg kw ln
      have hnot := notin_l (d := .int (j : Int)) (ds := Ns f) (.inl ⟨_, rfl⟩) (ns_vl f)
      rw [ns_has] at hnot
      have hsh := shb_iff (g := g) (tbs := tbs) hi hj km
      generalize as[i] = ai at *
      generalize as[j] = aj at *
      apply sat_ifs (k := !decide (j ∈ f) && shb g mine ai aj)
      · by_cases e : j ∈ f
        · simp [argsOf, placesOf, putBack, put, putF, putAll, flg, R.view, R.viewR, kilS, SRes.kil, Md.wipe, hnot, e]
        · simp [argsOf, placesOf, putBack, put, putF, putAll, flg, R.view, R.viewR, kilS, SRes.kil, Md.wipe, hnot, e, e1, e2, e3, hs]
      · intro hk
        rw [Bool.and_eq_true] at hk
        have hn : j ∉ f := by simpa using hk.1
        have hs := hsh.mp hk.2
        have e := ns_snoc f j
        (apply sat_nx; focus ((conv => lhs; simp [argsOf, placesOf, putBack, put, putF, putAll, flg, R.view, R.viewR, kilS, SRes.kil, Md.wipe, sl_lt (show (Ns f).length ≤ 1000000 by rw [ns_len]; omega)]); try rfl))
        refine sat_nop ?_
        refine ⟨f ++ [j], by rw [e]; rfl, hb.add hfk hj hn ((hb.rc i him).step hj hs), by rw [List.getElem?_append_left (List.getElem?_eq_some_iff.mp hfk).1]; exact hfk, List.mem_append_left _ him, fun j' hj' hs' => ?_⟩
        by_cases q : j' = j
        · rw [q]; simp
        · exact List.mem_append_left _ (hgot j' (by omega) hs')
      · intro hk
        refine sat_nop ?_
        refine ⟨f, rfl, hb, hfk, him, fun j' hj' hs' => ?_⟩
        by_cases q : j' = j
        · subst q
          rw [hsh.mpr hs'] at hk
          simpa using hk
        · exact hgot j' (by omega) hs'
    · rw [rangeUp_length] at hx
      obtain ⟨hb, hfk, him, hgot⟩ := hx
      (apply sat_nx; focus ((conv => lhs; simp [argsOf, placesOf, putBack, put, putF, putAll, flg, R.view, R.viewR, kilS, SRes.kil, Md.wipe]); try rfl))
      refine ⟨(f, k + 1), rfl, ⟨⟨hb.nd, hb.lt, hb.hd, hb.rc, fun m i' j' hm e hj' hs => ?_⟩, ?_⟩, ?_⟩
      · by_cases q : m = k
        · subst q
          have : i' = i := Option.some.inj (e.symm.trans hfk)
          subst this
          exact hgot j' (by omega) hs
        · exact hb.dn m i' j' (by omega) e hj' hs
      · show k + 1 ≤ f.length
        exact (List.getElem?_eq_some_iff.mp hfk).1
      · show as.length - (k + 1) < as.length - k
        omega
  · have hq : ¬k < f.length := by simpa using hq
    have hq : f.length ≤ k := by omega
    have hall := Sw.Bf.all hb hq
    obtain ⟨rest, rfl⟩ : ∃ rest, f = c :: rest := by
      cases f with
      | nil => have := hb.hd; simp at this
      | cons x r => have := hb.hd; simp at this; exact ⟨r, by rw [this]⟩
    have e1 : cutL (Ns (c :: rest)) (some 1) none = Ns rest := by rw [cutL_drop _ _ (by decide)]; rfl
    have nd := List.nodup_cons.mp hb.nd
    have e2 : srt (Ns rest) = Ns ((List.range as.length).filter fun j => Sw.cd (Sw.Sy as.length (KN tbs g as) (VN g as) c j)) := srt_range nd.2 fun j => by
      rw [Sw.cd_iff]
      constructor
      · exact fun h => ⟨hb.lt j (List.mem_cons_of_mem _ h), fun e => nd.1 (by rw [← e]; exact h), (hall j).mp (List.mem_cons_of_mem _ h)⟩
      · rintro ⟨h1, h2, h3⟩
        exact (List.mem_cons.mp ((hall j).mpr h3)).elim (fun e => absurd e h2) id
    have e3 := sorted_int (f := rest)
    rw [e2] at e3
    (apply sat_ret; focus ((conv => lhs; simp [argsOf, placesOf, putBack, put, putF, putAll, flg, R.view, R.viewR, kilS, SRes.kil, Md.wipe, e1, e3]); try rfl))
    rfl
theorem pw_len (n : Nat) (c : Nat) (h : ∀ i, (Yw tbs g as i).length ≤ n) : ((List.range c).flatMap fun c => (Yw tbs g as c).map fun (j : Nat) => PyData.tuple [.int (c : Int), .int (j : Int)]).length ≤ c * n := by
  induction c with
  | zero => simp
  | succ c ih =>
    rw [List.range_succ, List.flatMap_append, List.length_append, Nat.succ_mul]
    have := h c
    have : (List.flatMap (fun c => (Yw tbs g as c).map fun (j : Nat) => PyData.tuple [.int (c : Int), .int (j : Int)]) [c]).length = (Yw tbs g as c).length := by simp
    omega
theorem sways_ok (n : Nat) (ha : ∀ a ∈ as, At tbs ns a) (hg : ∀ d ∈ g, Wo d) (la : as.length ≤ 100) (ln : ns.length ≤ 500) (nd : (as.map Tn).Nodup) :
    run Pg0 DG (n + 5) i'sways [.fz (.tuple tbs), .fz (.tuple [.tuple g, .tuple as])] = .ok (.lst (Pw tbs g as)) [.fz (.tuple tbs), .fz (.tuple [.tuple g, .tuple as])] := by
  refine run_eq (run'sways _ _ _) ?_
  have h1 := check_ok (n + 3) (g := .tuple g) ha (by omega) nd
  (apply sat_nx; focus ((conv => lhs; simp [argsOf, placesOf, putBack, put, putF, putAll, flg, R.view, R.viewR, kilS, SRes.kil, Md.wipe, h1]); try rfl))
  (apply sat_nx; focus ((conv => lhs; simp [argsOf, placesOf, putBack, put, putF, putAll, flg, R.view, R.viewR, kilS, SRes.kil, Md.wipe]); try rfl))
  have hpl := fun c => pw_len (tbs := tbs) (g := g) (as := as) as.length c fun _ => yw_len
  refine sat_for' (fun b (x : List Da) => b.set 2 (some (.lst x))) (fun c x => x = (List.range c).flatMap fun c => (Yw tbs g as c).map fun (j : Nat) => .tuple [.int (c : Int), .int (j : Int)]) [] (itr_r1 (k := as.length) (r := .t (.fz (.int as.length))) (by ((conv => lhs; simp [argsOf, placesOf, putBack, put, putF, putAll, flg, R.view, R.viewR, kilS, SRes.kil, Md.wipe]); try rfl)) rfl (by omega) (by omega)) rfl rfl rfl rfl rfl rfl (fun c d x hd hx => ?_) (fun x hx => ?_)
  · obtain ⟨rfl, hc⟩ := rng_get hd
    have hc : c < as.length := by omega
    have hs := swayed_ok n ha hg (by omega) ln hc
    have hl := hpl c
    rw [← hx] at hl
    have hl : x.length ≤ 100 * 100 := Nat.le_trans hl (Nat.mul_le_mul (by omega) la)
    refine ⟨_, rfl, sat_kil ?_⟩
    refine sat_for' (fun b (x : List Da) => b.set 2 (some (.lst x))) (fun j y => y = x ++ ((Yw tbs g as c).take j).map fun (j : Nat) => .tuple [.int (c : Int), .int (j : Int)]) x (itr_1 (d := .list (Ns (Yw tbs g as c))) (r := .t (.lst (Ns (Yw tbs g as c)))) (by ((conv => lhs; simp [argsOf, placesOf, putBack, put, putF, putAll, flg, R.view, R.viewR, kilS, SRes.kil, Md.wipe, hs]); try rfl)) rfl rfl) rfl rfl rfl rfl rfl (by simp) (fun j d y hd hy => ?_) (fun y hy => ?_)
    · have hj := (List.getElem?_eq_some_iff.mp hd).1
      rw [ns_len] at hj
      have e : d = .int ((Yw tbs g as c)[j] : Nat) := by
        rw [Ns, List.getElem?_map, List.getElem?_eq_getElem hj] at hd
        exact (Option.some.inj hd).symm
      subst e
      have yl := yw_len (tbs := tbs) (g := g) (as := as) (c := c)
      have ly : y.length ≤ 1000000 := by rw [hy, List.length_append, List.length_map, List.length_take]; omega
      refine ⟨_, rfl, sat_kil ?_⟩
      (apply sat_nx; focus ((conv => lhs; simp [argsOf, placesOf, putBack, put, putF, putAll, flg, R.view, R.viewR, kilS, SRes.kil, Md.wipe, sl_lt ly]); try rfl))
      refine ⟨_, rfl, ?_⟩
      rw [hy, List.take_add_one, List.getElem?_eq_getElem hj, Option.toList_some, List.map_append, List.append_assoc]
      rfl
    · rw [ns_len, List.take_length] at hy
      refine ⟨y, rfl, ?_⟩
      rw [hy, hx, List.range_succ, List.flatMap_append]
      simp
  · rw [rangeUp_length, Int.toNat_natCast] at hx
    (apply sat_ret; focus ((conv => lhs; simp [argsOf, placesOf, putBack, put, putF, putAll, flg, R.view, R.viewR, kilS, SRes.kil, Md.wipe]); try rfl))
    rw [hx]
    rfl
end
end Md

/-! a row of atoms, by numbers: what is known, who is swayed, counted out -/
namespace Sw
section
variable (n : Nat) (K V : Nat → List Nat)
def stp (c : Nat) (f : List Nat) (i : Nat) : List Nat := if i ≠ c ∧ ∀ k ∈ K i, k ∈ f then f ++ (V i).filter (fun d => !decide (d ∈ f)) else f
def pss (c : Nat) (f : List Nat) : List Nat := (List.range n).foldl (stp K V c) f
def itr {α : Type} (g : α → α) : Nat → α → α
  | 0, x => x
  | m + 1, x => itr g m (g x)
def clo (c : Nat) : List Nat := itr (pss n K V c) n (K c)
def shr (m : List Nat) (i j : Nat) : Bool := (V i).any fun d => decide (d ∈ V j) && !decide (d ∈ m)
def rst (m : List Nat) (f : List Nat) (j : Nat) : List Nat := if j ∈ f then f else if f.any (fun i => shr V m i j) then f ++ [j] else f
def rtn (m : List Nat) (f : List Nat) : List Nat := (List.range n).foldl (rst V m) f
def rcf (c : Nat) : List Nat := itr (rtn n V (clo n K V c)) n [c]
variable {n K V}
theorem pass_fold (hV : ∀ i, (V i).Nodup) {c : Nat} {f0 : List Nat} (h : Ok n K V c f0) : ∀ j, j ≤ n → Pass n K V c f0 j ((List.range j).foldl (stp K V c) f0) := by
  intro j
  induction j with
  | zero => intro _; exact Pass.start h
  | succ j ih =>
    intro hj
    have ps := ih (by omega)
    rw [List.range_succ, List.foldl_append]
    show Pass n K V c f0 (j + 1) (stp K V c ((List.range j).foldl (stp K V c) f0) j)
    generalize (List.range j).foldl (stp K V c) f0 = f at ps
    unfold stp
    by_cases q : j ≠ c ∧ ∀ k ∈ K j, k ∈ f
    · rw [if_pos q]
      exact ps.add (by omega) q.1 q.2 (hV j)
    · rw [if_neg q]
      exact ps.skip fun h1 h2 => absurd ⟨h1, h2⟩ q
theorem clo_ok (hK : ∀ i, (K i).Nodup) (hV : ∀ i, (V i).Nodup) {c : Nat} (hc : c < n) (d : Nat) : d ∈ clo n K V c ↔ Cl n K V c d := by
  have key : ∀ (m : Nat) (f : List Nat), Ok n K V c f → (Closed n K V c f ∨ unc n V c f < m) → Ok n K V c (itr (pss n K V c) m f) ∧ Closed n K V c (itr (pss n K V c) m f) := by
    intro m
    induction m with
    | zero => intro f h1 h2; exact ⟨h1, h2.elim id fun h => by omega⟩
    | succ m ih =>
      intro f h1 h2
      have ps := pass_fold hV h1 n (Nat.le_refl _)
      refine ih (pss n K V c f) ps.ok ?_
      rcases h2 with h | h
      · exact .inl (by have := ps.same h; unfold pss; rw [this]; exact h)
      · rcases ps.next with q | q
        · exact .inl q
        · exact .inr (by unfold pss; omega)
  have h0 : Ok n K V c (K c) := ⟨hK c, fun d hd => .key hd, fun d hd => hd⟩
  obtain ⟨h1, h2⟩ := key n (K c) h0 (.inr (unc_le hc _))
  exact (h1.isK h2).2 d
theorem shr_ok {m : List Nat} {c i j : Nat} (hm : ∀ d, d ∈ m ↔ Cl n K V c d) : shr V m i j = true ↔ Sh n K V c i j := by
  unfold shr Sh
  rw [List.any_eq_true]
  constructor
  · rintro ⟨d, d1, d2⟩
    rw [Bool.and_eq_true] at d2
    exact ⟨d, d1, by simpa using d2.1, fun q => by have := (hm d).mpr q; simp [this] at d2⟩
  · rintro ⟨d, d1, d2, d3⟩
    exact ⟨d, d1, by simp [d2, mt (hm d).mp d3]⟩
theorem turn_fold {m : List Nat} {c : Nat} (hm : ∀ d, d ∈ m ↔ Cl n K V c d) {f0 : List Nat} (h : Tf n K V c f0) : ∀ j, j ≤ n →
    Tf n K V c ((List.range j).foldl (rst V m) f0) ∧ (∀ i ∈ f0, i ∈ (List.range j).foldl (rst V m) f0) ∧ (∀ i ∈ f0, ∀ j', j' < j → Sh n K V c i j' → j' ∈ (List.range j).foldl (rst V m) f0) ∧ ((List.range j).foldl (rst V m) f0 = f0 ∨ f0.length < ((List.range j).foldl (rst V m) f0).length) := by
  intro j
  induction j with
  | zero => intro _; exact ⟨h, fun _ h => h, fun _ _ _ h => by omega, .inl rfl⟩
  | succ j ih =>
    intro hj
    obtain ⟨tf, sub, got, len⟩ := ih (by omega)
    rw [List.range_succ, List.foldl_append]
    show Tf n K V c (rst V m ((List.range j).foldl (rst V m) f0) j) ∧ (∀ i ∈ f0, i ∈ rst V m ((List.range j).foldl (rst V m) f0) j) ∧ (∀ i ∈ f0, ∀ j', j' < j + 1 → Sh n K V c i j' → j' ∈ rst V m ((List.range j).foldl (rst V m) f0) j) ∧ (rst V m ((List.range j).foldl (rst V m) f0) j = f0 ∨ f0.length < (rst V m ((List.range j).foldl (rst V m) f0) j).length)
    generalize (List.range j).foldl (rst V m) f0 = f at *
    unfold rst
    by_cases q : j ∈ f
    · rw [if_pos q]
      refine ⟨tf, sub, fun i hi j' hj' hs => ?_, len⟩
      by_cases e : j' = j
      · rw [e]; exact q
      · exact got i hi j' (by omega) hs
    · rw [if_neg q]
      by_cases q2 : (f.any fun i => shr V m i j) = true
      · rw [if_pos q2]
        obtain ⟨i, hi, hs⟩ := List.any_eq_true.mp q2
        refine ⟨tf.add hi (by omega) q ((shr_ok hm).mp hs), fun i hi => List.mem_append_left _ (sub i hi), fun i hi j' hj' hs => ?_, .inr ?_⟩
        · by_cases e : j' = j
          · rw [e]; simp
          · exact List.mem_append_left _ (got i hi j' (by omega) hs)
        · rw [List.length_append]
          rcases len with z | z
          · rw [z]; simp
          · simp; omega
      · rw [if_neg q2]
        refine ⟨tf, sub, fun i hi j' hj' hs => ?_, len⟩
        by_cases e : j' = j
        · subst e
          exact (q2 (List.any_eq_true.mpr ⟨i, sub i hi, (shr_ok hm).mpr hs⟩)).elim
        · exact got i hi j' (by omega) hs
theorem rcf_ok (hK : ∀ i, (K i).Nodup) (hV : ∀ i, (V i).Nodup) {c : Nat} (hc : c < n) (j : Nat) : j ∈ rcf n K V c ↔ Rc n K V c j := by
  have hm := clo_ok hK hV hc
  have key : ∀ (m : Nat) (f : List Nat), Tf n K V c f → (Tc n K V c f ∨ n < f.length + m) → Tf n K V c (itr (rtn n V (clo n K V c)) m f) ∧ Tc n K V c (itr (rtn n V (clo n K V c)) m f) := by
    intro m
    induction m with
    | zero => intro f h1 h2; exact ⟨h1, h2.elim id fun h => by have := h1.len; omega⟩
    | succ m ih =>
      intro f h1 h2
      obtain ⟨tf, sub, got, len⟩ := turn_fold hm h1 n (Nat.le_refl _)
      refine ih (rtn n V (clo n K V c) f) tf ?_
      rcases h2 with h | h
      · exact .inl fun i hi j hj hs => sub j (((h1.all h) j).mpr ((tf.rc i hi).step hj hs))
      · rcases len with z | z
        · refine .inl fun i hi j hj hs => ?_
          unfold rtn at hi ⊢
          rw [z] at hi
          exact got i hi j hj hs
        · exact .inr (by unfold rtn; omega)
  have h0 : Tf n K V c [c] := ⟨by simp, fun i hi => by rw [List.mem_singleton.mp hi]; exact hc, by simp, fun i hi => by rw [List.mem_singleton.mp hi]; exact .start⟩
  obtain ⟨h1, h2⟩ := key n [c] h0 (.inr (by simp))
  exact h1.all h2 j
end
/-! ### the same with other names -/
section
variable {α : Type} {n : Nat} {K V : Nat → List Nat} {KN VN : Nat → List α} {W : Nat → α} {m : Nat}
theorem cl_lt (hK : ∀ i, i < n → ∀ j ∈ K i, j < m) (hV : ∀ i, i < n → ∀ j ∈ V i, j < m) {c : Nat} (hc : c < n) {d : Nat} (h : Cl n K V c d) : d < m := by
  cases h with
  | key h => exact hK c hc d h
  | step i hi _ _ h => exact hV i hi d h
theorem cl_emb (hW : ∀ i j, i < m → j < m → W i = W j → i = j) (hK : ∀ i, i < n → ∀ j ∈ K i, j < m) (hV : ∀ i, i < n → ∀ j ∈ V i, j < m)
    (eK : ∀ i, i < n → ∀ d, d ∈ KN i ↔ ∃ j ∈ K i, d = W j) (eV : ∀ i, i < n → ∀ d, d ∈ VN i ↔ ∃ j ∈ V i, d = W j) {c : Nat} (hc : c < n) (d : α) : Cl n KN VN c d ↔ ∃ j, d = W j ∧ Cl n K V c j := by
  constructor
  · intro h
    induction h with
    | key h =>
      obtain ⟨j, hj, e⟩ := (eK c hc _).mp h
      exact ⟨j, e, .key hj⟩
    | step i hi hic hk hd ih =>
      obtain ⟨j, hj, e⟩ := (eV i hi _).mp hd
      refine ⟨j, e, .step i hi hic (fun k hk' => ?_) hj⟩
      obtain ⟨j', e', h'⟩ := ih (W k) ((eK i hi _).mpr ⟨k, hk', rfl⟩)
      rw [hW k j' (hK i hi k hk') (cl_lt hK hV hc h') e']
      exact h'
  · rintro ⟨j, rfl, h⟩
    induction h with
    | key h => exact .key ((eK c hc _).mpr ⟨_, h, rfl⟩)
    | step i hi hic hk hd ih =>
      refine .step i hi hic (fun k hk' => ?_) ((eV i hi _).mpr ⟨_, hd, rfl⟩)
      obtain ⟨j', h', rfl⟩ := (eK i hi _).mp hk'
      exact ih j' h'
theorem rc_emb (hW : ∀ i j, i < m → j < m → W i = W j → i = j) (hK : ∀ i, i < n → ∀ j ∈ K i, j < m) (hV : ∀ i, i < n → ∀ j ∈ V i, j < m)
    (eK : ∀ i, i < n → ∀ d, d ∈ KN i ↔ ∃ j ∈ K i, d = W j) (eV : ∀ i, i < n → ∀ d, d ∈ VN i ↔ ∃ j ∈ V i, d = W j) {c : Nat} (hc : c < n) (j : Nat) : Rc n KN VN c j ↔ Rc n K V c j := by
  have hcl := cl_emb hW hK hV eK eV hc
  have sh : ∀ i j, i < n → j < n → (Sh n KN VN c i j ↔ Sh n K V c i j) := fun i j hi hj => by
    constructor
    · rintro ⟨d, d1, d2, d3⟩
      obtain ⟨a, ha, rfl⟩ := (eV i hi _).mp d1
      obtain ⟨b, hb, e⟩ := (eV j hj _).mp d2
      have : a = b := hW a b (hV i hi a ha) (hV j hj b hb) e
      subst this
      exact ⟨a, ha, hb, fun q => d3 ((hcl _).mpr ⟨a, rfl, q⟩)⟩
    · rintro ⟨a, d1, d2, d3⟩
      refine ⟨W a, (eV i hi _).mpr ⟨a, d1, rfl⟩, (eV j hj _).mpr ⟨a, d2, rfl⟩, fun q => ?_⟩
      obtain ⟨b, e, hb⟩ := (hcl _).mp q
      rw [hW a b (hV i hi a d1) (cl_lt hK hV hc hb) e] at d3
      exact d3 hb
  constructor
  · intro h
    induction h with
    | start => exact .start
    | step h1 h2 h3 ih => exact ih.step h2 ((sh _ _ (h1.lt hc) h2).mp h3)
  · intro h
    induction h with
    | start => exact .start
    | step h1 h2 h3 ih => exact ih.step h2 ((sh _ _ (h1.lt hc) h2).mpr h3)
end
/-! ### rows -/
def nxr (n : Nat) (cl : Bool) (k : Nat) : Nat := if cl && k + 1 == n then 0 else k + 1
def kr (n : Nat) (fx : Option Nat) (t : Nat) (i : Nat) : List Nat := if fx = some ((t + i) % n) then [] else [(t + i) % n]
def vr (n : Nat) (cl : Bool) (fx : Option Nat) (t : Nat) (i : Nat) : List Nat :=
  if nxr n cl ((t + i) % n) = (t + i) % n then kr n fx t i else kr n fx t i ++ (if fx = some (nxr n cl ((t + i) % n)) then [] else [nxr n cl ((t + i) % n)])
def cw (n : Nat) (k here : Nat) : Bool := decide (here ≠ k) && decide (here < n)
def wk (n : Nat) (cl : Bool) (k : Nat) : Nat → Nat → List Nat
  | 0, _ => []
  | m + 1, here => if cw n k here then nxr n cl here :: wk n cl k m (nxr n cl here) else []
def wd (n : Nat) (cl : Bool) (k : Nat) : Nat → Nat → Bool
  | 0, here => !cw n k here
  | m + 1, here => if cw n k here then wd n cl k m (nxr n cl here) else true
def nmr (n : Nat) (cl : Bool) (fx : Option Nat) (k : Nat) : List Nat := (if fx = some k then [] else [k]) ++ wk n cl k 6 (fx.getD k)
def cb (n : Nat) (fx : Option Nat) (k here : Nat) : Bool := decide (here ≠ k) && (decide (here < n) && !decide (fx = some here))
def bk (n : Nat) (cl : Bool) (fx : Option Nat) (k : Nat) : Nat → Nat → List Nat
  | 0, _ => []
  | m + 1, here => if cb n fx k here then here :: bk n cl fx k m (nxr n cl here) else []
def bd (n : Nat) (cl : Bool) (fx : Option Nat) (k : Nat) : Nat → Nat → Bool
  | 0, here => !cb n fx k here
  | m + 1, here => if cb n fx k here then bd n cl fx k m (nxr n cl here) else true
def due (n : Nat) (cl : Bool) (fx : Option Nat) (t : Nat) : List (Nat × Nat) := (List.range n).flatMap fun k => (bk n cl fx ((t + k) % n) 6 (nxr n cl ((t + k) % n))).map fun th => (k, (th + n - t) % n)
def swr (n : Nat) (cl : Bool) (fx : Option Nat) (t : Nat) (c j : Nat) : Bool := decide (j ≠ c) && decide (j ∈ rcf n (kr n fx t) (vr n cl fx t) c)
def chk (n : Nat) (cl : Bool) (fx : Option Nat) (t : Nat) : Bool :=
  ((List.range n).all fun k => (clo n (kr n fx t) (vr n cl fx t) k).all (fun d => decide (d ∈ nmr n cl fx ((t + k) % n))) && (nmr n cl fx ((t + k) % n)).all (fun d => decide (d ∈ clo n (kr n fx t) (vr n cl fx t) k)) && (nmr n cl fx ((t + k) % n)).all (fun d => decide (d < 5))
    && (wd n cl ((t + k) % n) 6 (fx.getD ((t + k) % n)) && bd n cl fx ((t + k) % n) 6 (nxr n cl ((t + k) % n)) && (kr n fx t k).all (fun d => decide (d < 5)) && (vr n cl fx t k).all (fun d => decide (d < 5)) && decide (vr n cl fx t k).Nodup))
  && decide (due n cl fx t).Nodup
  && ((due n cl fx t).all fun p => decide (p.1 < n) && decide (p.2 < n) && swr n cl fx t p.1 p.2)
  && ((List.range n).all fun c => (List.range n).all fun j => !swr n cl fx t c j || decide ((c, j) ∈ due n cl fx t))
  && (((List.range n).any fun c => (List.range n).any fun j => swr n cl fx t c j && swr n cl fx t j c) == (cl && decide (n ≠ 1) && decide (fx = none)))
def fxs (n : Nat) (cl : Bool) : List (Option Nat) := none :: (List.range (n + (if cl then 0 else 1))).map some
def chkAll : Bool := [1, 2, 3, 4].all fun n => [true, false].all fun cl => (fxs n cl).all fun fx => (List.range n).all fun t => chk n cl fx t
theorem chk_all : chkAll = true := by decide +kernel
end Sw

/-! words, no two alike -/
namespace Md
open PySem (Str PyData)
abbrev TJ : Str := "abcdefghij"
theorem TJ_nd : TJ.cps.toList.Nodup := by decide +kernel
theorem TJ_len : TJ.cps.toList.length = 10 := by decide +kernel
theorem LT_nd : LT.cps.toList.Nodup := by decide +kernel
/-- its last sign -/
def ls (x : Str) : Option Nat := x.cps.toList.getLast?
theorem nodup_snoc' {α : Type} {l : List α} {a : α} (h : l.Nodup) (ha : a ∉ l) : (l ++ [a]).Nodup := List.nodup_append.mpr ⟨h, by simp, fun x hx y hy e => ha (by rw [← List.mem_singleton.mp hy, ← e]; exact hx)⟩
theorem ls_add (x : Str) (c : Nat) : ls (x ++ ⟨#[c]⟩) = some c := by
  unfold ls
  rw [tl_add]
  simp
/-- the words told ahead that this one was alike -/
def Dw (xs : List Da) (i : Nat) (y : Str) : Prop := .str y ∉ xs ∨ ∃ seen : List Da, seen.Nodup ∧ (∀ s ∈ seen, s ∈ xs) ∧ i ≤ seen.length + 1 ∧ (∀ s ∈ seen, ∃ (j : Nat) (z : Str), j + 1 < i ∧ s = .str z ∧ ls z = TJ.cps.toList[j]?) ∧ (0 < i → ls y = TJ.cps.toList[i - 1]?)
theorem dw_step {xs : List Da} {i : Nat} {y y' : Str} {c : Nat} (h : Dw xs i y) (hy : .str y ∈ xs) (hc : TJ.cps.toList[i]? = some c) (hl : ls y' = some c) : Dw xs (i + 1) y' := by
  rcases h with h | ⟨seen, s1, s2, s3, s4, s5⟩
  · exact absurd hy h
  · by_cases e : i = 0
    · subst e
      exact .inr ⟨[], List.nodup_nil, (fun _ h => by cases h), by simp, (fun _ h => by cases h), fun _ => by rw [hl, hc]⟩
    · have hi : i < 10 := by
        have := (List.getElem?_eq_some_iff.mp hc).1
        rw [TJ_len] at this
        exact this
      have hly := s5 (by omega)
      have hns : .str y ∉ seen := fun hm => by
        obtain ⟨j, z, h1, h2, h3⟩ := s4 _ hm
        have : y = z := by simpa using h2
        subst this
        rw [hly] at h3
        have := (List.getElem?_inj (by rw [TJ_len]; omega) TJ_nd).mp h3
        omega
      refine .inr ⟨seen ++ [.str y], nodup_snoc' s1 hns, fun s hs => ?_, by rw [List.length_append]; simp; omega, fun s hs => ?_, fun _ => by rw [hl, Nat.add_sub_cancel, hc]⟩
      · rcases List.mem_append.mp hs with q | q
        · exact s2 s q
        · rw [List.mem_singleton.mp q]; exact hy
      · rcases List.mem_append.mp hs with q | q
        · obtain ⟨j, z, h1, h2, h3⟩ := s4 s q
          exact ⟨j, z, by omega, h2, h3⟩
        · exact ⟨i - 1, y, by omega, List.mem_singleton.mp q, hly⟩
theorem dw_end {xs : List Da} {y : Str} (h : Dw xs 10 y) (hl : xs.length < 9) : .str y ∉ xs := by
  rcases h with h | ⟨seen, s1, s2, s3, _⟩
  · exact h
  · have := List.Nodup.length_le_of_subset s1 s2
    omega
theorem digits_nd (n : Nat) (c k : Int) (hk : 0 ≤ k ∧ k ≤ 9) : Runs (n + 2) i'l_words_by_digits [.fz (.int c), .fz (.int k)] fun t => ∃ ws, t = .lst ws ∧ ws.length = k.toNat ∧ (∀ d ∈ ws, Wo d) ∧ ws.Nodup := by
  refine runs_of (run'l_words_by_digits _ _ _) ?_
  (apply sat_nx; focus ((conv => lhs; simp [argsOf, placesOf, putBack, put, putF, putAll, flg, R.view, R.viewR, kilS, SRes.kil, Md.wipe]); try rfl))
  refine sat_for' (fun b (x : List Da × Int) => (b.set 2 (some (.lst x.1))).set 0 (some (.fz (.int x.2)))) (fun j x => x.1.length = j ∧ (∀ d ∈ x.1, Wo d) ∧ x.1.Nodup) ([], c) (itr_r1 rfl rfl (by omega) (by omega)) rfl rfl rfl rfl rfl ⟨rfl, (fun _ h => by cases h), List.nodup_nil⟩ (fun j d x hd hx => ?_) (fun x hx => ?_)
  · obtain ⟨rfl, hj⟩ := rng_get hd
    obtain ⟨_, h1, w, m, rfl, l1, l2⟩ := name_in_ok n x.2
    obtain ⟨hx1, hx2, hx3⟩ := hx
    refine ⟨_, rfl, sat_kil ?_⟩
    (apply sat_nx; focus ((conv => lhs; simp [argsOf, placesOf, putBack, put, putF, putAll, flg, R.view, R.viewR, kilS, SRes.kil, Md.wipe, h1]); try rfl))
    refine sat_for' (fun b (y : Str) => b.set 5 (some (.fz (.str y)))) (fun i y => (1 ≤ y.length ∧ y.length ≤ 8) ∧ Dw x.1 i y) w (itr_1 (d := .str "abcdefghij") rfl rfl rfl) rfl rfl rfl rfl rfl ⟨⟨l1, l2⟩, .inr ⟨[], List.nodup_nil, (fun _ h => by cases h), by simp, (fun _ h => by cases h), fun h => by omega⟩⟩ (fun i e y he hy => ?_) (fun y hy => ?_)
    · have hc : ∃ ch : Nat, TJ.cps.toList[i]? = some ch ∧ e = .str ⟨#[ch]⟩ := by
        rw [List.getElem?_map] at he
        cases q : TJ.cps.toList[i]? with
        | none => rw [q] at he; cases he
        | some ch => rw [q] at he; exact ⟨ch, rfl, (Option.some.inj he).symm⟩
      obtain ⟨ch, hch, rfl⟩ := hc
      refine ⟨_, rfl, sat_kil ?_⟩
      have hin := isin_l (d := .str y) (ds := x.1) (.inr ⟨y, rfl, hy.1⟩) fun d hd => .inr (hx2 d hd)
      apply sat_ifs (k := has x.1 (.str y))
      · simp [argsOf, placesOf, putBack, put, putF, putAll, flg, R.view, R.viewR, kilS, SRes.kil, Md.wipe, hin]
      · intro hk
        have hmem : .str y ∈ x.1 := of_decide_eq_true hk
        have := cut7 y
        have hz : szOk y.length = true := szOk_lt (by omega)
        (apply sat_nx; focus ((conv => lhs; simp [argsOf, placesOf, putBack, put, putF, putAll, flg, R.view, R.viewR, kilS, SRes.kil, Md.wipe, cut_s, hz, binop_adds, str1_len, szOk_lt (show (L2.cutS y none (some 7)).length + 1 ≤ 1000000 by omega)]); try rfl))
        refine sat_nop ?_
        exact ⟨_, rfl, by simp only [str_add_len, str1_len]; omega, dw_step hy.2 hmem hch (ls_add _ _)⟩
      · intro hk
        refine sat_nop ?_
        exact ⟨_, rfl, hy.1, .inl (of_decide_eq_false hk)⟩
    · have hl10 : (TJ.cps.toList.map fun c => PyData.str ⟨#[c]⟩).length = 10 := by rw [List.length_map, TJ_len]
      have hy2 : Dw x.1 10 y := by
        have := hy.2
        rw [hl10] at this
        exact this
      have hfresh := dw_end hy2 (by omega)
      have hs := sl_lt (show x.1.length ≤ 1000000 by omega)
      (apply sat_nx; focus ((conv => lhs; simp [argsOf, placesOf, putBack, put, putF, putAll, flg, R.view, R.viewR, kilS, SRes.kil, Md.wipe, hs]); try rfl))
      refine ⟨(_, _), rfl, by simp [hx1], fun d hd => ?_, nodup_snoc' hx3 hfresh⟩
      rcases List.mem_append.mp hd with h | h
      · exact hx2 d h
      · rw [List.mem_singleton.mp h]; exact ⟨y, rfl, hy.1⟩
  · rw [rangeUp_length] at hx
    refine sat_ret (by ((conv => lhs; simp [argsOf, placesOf, putBack, put, putF, putAll, flg, R.view, R.viewR, kilS, SRes.kil, Md.wipe]); try rfl)) ?_
    exact ⟨_, rfl, x.1, rfl, hx⟩
theorem lt_ix2 (i : Int) : ∃ c : Nat, index (.str LT) (.int (i % 26)) = some (.str ⟨#[c]⟩) ∧ LT.cps.toList[(i % 26).toNat]? = some c := by
  obtain ⟨c, e⟩ := lt_at i
  refine ⟨c, by rw [ix_s _ _ LT_sz, e]; rfl, ?_⟩
  have h := atI_nat LT.cps.toList (i % 26).toNat
  rw [Int.toNat_of_nonneg (by omega)] at h
  rw [← h, e]
/-- a word of the second kind -/
def Sw2 (lo sp : Nat) (B : Int) (m : Nat) (d : Da) : Prop := ∃ w : Str, d = .str w ∧ w.length = lo ∧ w.cps.toList[sp]? = LT.cps.toList[((B + 3 * (m : Int)) % 26).toNat]?
theorem sw2_nd {lo sp : Nat} {B : Int} {x : List Da} (h : ∀ m d, x[m]? = some d → Sw2 lo sp B m d) (hl : x.length ≤ 9) : x.Nodup := by
  refine List.pairwise_iff_getElem.mpr fun i j hi hj hij e => ?_
  obtain ⟨w, h1, _, h2⟩ := h i _ (List.getElem?_eq_getElem hi)
  obtain ⟨w', h3, _, h4⟩ := h j _ (List.getElem?_eq_getElem hj)
  rw [e, h3] at h1
  have : w' = w := by simpa using h1
  subst this
  rw [h2] at h4
  have b1 : ((B + 3 * (i : Int)) % 26).toNat < LT.cps.toList.length := by rw [LT_len]; omega
  have := (List.getElem?_inj b1 LT_nd).mp h4
  omega
theorem words_nd (n : Nat) (c k : Int) (hk : 2 ≤ k ∧ k ≤ 9) : Runs (n + 3) i'l_words_2 [.fz (.int c), .fz (.int k)] fun t => ∃ ws, t = .lst ws ∧ ws.length = k.toNat ∧ (∀ d ∈ ws, Wo d) ∧ ws.Nodup := by
  refine runs_of (run'l_words_2 _ _ _) ?_
  (apply sat_if; focus ((conv => lhs; simp [argsOf, placesOf, putBack, put, putF, putAll, flg, R.view, R.viewR, kilS, SRes.kil, Md.wipe]); try rfl)) <;> intro _
  · obtain ⟨_, h1, ws, rfl, h2⟩ := digits_nd n (c / 2) k (by omega)
    (apply sat_ret; focus ((conv => lhs; simp [argsOf, placesOf, putBack, put, putF, putAll, flg, R.view, R.viewR, kilS, SRes.kil, Md.wipe, h1]); try rfl))
    exact ⟨_, rfl, ws, rfl, h2⟩
  · refine sat_nop ?_
    (apply sat_nx; focus ((conv => lhs; simp [argsOf, placesOf, putBack, put, putF, putAll, flg, R.view, R.viewR, kilS, SRes.kil, Md.wipe]); try rfl))
    (apply sat_nx; focus ((conv => lhs; simp [argsOf, placesOf, putBack, put, putF, putAll, flg, R.view, R.viewR, kilS, SRes.kil, Md.wipe]); try rfl))
    generalize c * 69621 % 2147483629 * 48271 % 2147483647 = m
    (apply sat_nx; focus ((conv => lhs; simp [argsOf, placesOf, putBack, put, putF, putAll, flg, R.view, R.viewR, kilS, SRes.kil, Md.wipe]); try rfl))
    (apply sat_nx; focus ((conv => lhs; simp [argsOf, placesOf, putBack, put, putF, putAll, flg, R.view, R.viewR, kilS, SRes.kil, Md.wipe, binop_mod _ _ (show 0 < 1 + m % 7 by omega)]); try rfl))
    have hl : 1 ≤ 1 + m % 7 ∧ 1 + m % 7 ≤ 7 := by omega
    generalize 1 + m % 7 = lo at hl
    have hsp : 0 ≤ m / 7 % lo ∧ m / 7 % lo < lo := ⟨Int.emod_nonneg _ (by omega), Int.emod_lt_of_pos _ (by omega)⟩
    generalize m / 7 % lo = sp at hsp
    (apply sat_nx; focus ((conv => lhs; simp [argsOf, placesOf, putBack, put, putF, putAll, flg, R.view, R.viewR, kilS, SRes.kil, Md.wipe]); try rfl))
    have key := fun (B : Int) (hB : B = m / (49 + 5 * sp) + sp * (m / 49 % 3)) => hB
    refine sat_for' (fun b (x : List Da) => b.set 5 (some (.lst x))) (fun j x => x.length = j ∧ (∀ d ∈ x, Wo7 d) ∧ ∀ i d, x[i]? = some d → Sw2 lo.toNat sp.toNat (m / (49 + 5 * sp) + sp * (m / 49 % 3)) i d) [] (itr_r1 rfl rfl (by omega) (by omega)) rfl rfl rfl rfl rfl ⟨rfl, (fun _ h => by cases h), (fun _ _ h => by simp at h)⟩ (fun j d x hd hx => ?_) (fun x hx => ?_)
    · obtain ⟨rfl, hj⟩ := rng_get hd
      refine ⟨_, rfl, sat_kil ?_⟩
      (apply sat_nx; focus ((conv => lhs; simp [argsOf, placesOf, putBack, put, putF, putAll, flg, R.view, R.viewR, kilS, SRes.kil, Md.wipe]); try rfl))
      refine sat_for' (fun b (y : Str) => b.set 7 (some (.fz (.str y)))) (fun i y => y.length = i ∧ (sp < (i : Int) → y.cps.toList[sp.toNat]? = LT.cps.toList[((m / (49 + 5 * sp) + sp * (m / 49 % 3) + 3 * (j : Int)) % 26).toNat]?)) ("" : Str) (itr_r1 rfl rfl (by omega) (by omega)) rfl rfl rfl rfl rfl ⟨rfl, fun h => by omega⟩ (fun i e y he hy => ?_) (fun y hy => ?_)
      · obtain ⟨rfl, hi⟩ := rng_get he
        obtain ⟨hy, hys⟩ := hy
        have hyl : y.cps.toList.length = i := hy
        refine ⟨_, rfl, sat_kil ?_⟩
        (apply sat_nx; focus ((conv => lhs; simp [argsOf, placesOf, putBack, put, putF, putAll, flg, R.view, R.viewR, kilS, SRes.kil, Md.wipe, binop_fdiv _ _ (show divOk (49 + 5 * (i : Int)) = true by rw [divOk_eq]; simp; omega), binop_mul _ _ (mulL (i := i) (j := m / 49 % 3) (by omega) (by omega)), binop_mul _ _ (mulL (i := 5) (j := i) (by omega) (by omega))]); try rfl))
        apply sat_ifs (k := decide ((i : Int) = sp))
        · simp [argsOf, placesOf, putBack, put, putF, putAll, flg, R.view, R.viewR, kilS, SRes.kil, Md.wipe]
        · intro hq
          have hq : (i : Int) = sp := of_decide_eq_true hq
          (apply sat_nx; focus ((conv => lhs; simp [argsOf, placesOf, putBack, put, putF, putAll, flg, R.view, R.viewR, kilS, SRes.kil, Md.wipe, binop_mul _ _ (mulL (i := 3) (j := j) (by omega) (by omega))]); try rfl))
          refine sat_nop ?_
          obtain ⟨ch, e, ec⟩ := lt_ix2 (m / (49 + 5 * (i : Int)) + i * (m / 49 % 3) + 3 * j)
          (apply sat_nx; focus ((conv => lhs; simp [argsOf, placesOf, putBack, put, putF, putAll, flg, R.view, R.viewR, kilS, SRes.kil, Md.wipe, e, binop_adds, str1_len, szOk_lt (show y.length + 1 ≤ 1000000 by omega)]); try rfl))
          refine ⟨_, rfl, by simp [str_add_len, hy, str1_len], fun _ => ?_⟩
          rw [← hq]
          rw [tl_add, Int.toNat_natCast, List.getElem?_append_right (by omega), hyl, Nat.sub_self, ec]
          rfl
        · intro hq
          have hq : ¬((i : Int) = sp) := of_decide_eq_false hq
          refine sat_nop ?_
          obtain ⟨ch, e⟩ := lt_ix (m / (49 + 5 * (i : Int)) + i * (m / 49 % 3))
          (apply sat_nx; focus ((conv => lhs; simp [argsOf, placesOf, putBack, put, putF, putAll, flg, R.view, R.viewR, kilS, SRes.kil, Md.wipe, e, binop_adds, str1_len, szOk_lt (show y.length + 1 ≤ 1000000 by omega)]); try rfl))
          refine ⟨_, rfl, by simp [str_add_len, hy, str1_len], fun h => ?_⟩
          rw [tl_add, List.getElem?_append_left (by omega)]
          exact hys (by omega)
      · rw [rangeUp_length] at hy
        obtain ⟨hx1, hx2, hx3⟩ := hx
        (apply sat_nx; focus ((conv => lhs; simp [argsOf, placesOf, putBack, put, putF, putAll, flg, R.view, R.viewR, kilS, SRes.kil, Md.wipe, sl_lt (show x.length ≤ 1000000 by omega)]); try rfl))
        refine ⟨_, rfl, by simp [hx1], fun d hd => ?_, fun i d hd => ?_⟩
        · rcases List.mem_append.mp hd with h | h
          · exact hx2 d h
          · rw [List.mem_singleton.mp h]; exact ⟨y, rfl, by omega, by omega⟩
        · by_cases q : i < x.length
          · rw [List.getElem?_append_left q] at hd
            exact hx3 i d hd
          · have := (List.getElem?_eq_some_iff.mp hd).1
            rw [List.length_append] at this
            have hix : i = x.length := by simp at this; omega
            subst hix
            rw [List.getElem?_append_right (Nat.le_refl _), Nat.sub_self] at hd
            have : d = .str y := (Option.some.inj hd).symm
            subst this
            refine ⟨y, rfl, hy.1, ?_⟩
            rw [hx1]
            exact hy.2 (by omega)
    · rw [rangeUp_length] at hx
      obtain ⟨hx1, hx2, hx3⟩ := hx
      have hxn := sw2_nd hx3 (by omega)
      (apply sat_if; focus ((conv => lhs; simp [argsOf, placesOf, putBack, put, putF, putAll, flg, R.view, R.viewR, kilS, SRes.kil, Md.wipe]); try rfl)) <;> intro _
      · obtain ⟨d0, d1, r, rfl⟩ : ∃ d0 d1 r, x = d0 :: d1 :: r := by
          match x, hx1 with
          | [], h => simp at h; omega
          | [_], h => simp at h; omega
          | d0 :: d1 :: r, _ => exact ⟨d0, d1, r, rfl⟩
        obtain ⟨y, rfl, l1, l2⟩ := hx2 d0 List.mem_cons_self
        obtain ⟨y', e0, ly, _⟩ := hx3 0 _ rfl
        have : y' = y := by simpa using e0.symm
        subst this
        obtain ⟨ch, e⟩ := lt_ix (m / 196)
        have ix : L2.ixN (r.length + 1 + 1) 1 = some 1 := by
          unfold L2.ixN
          simp
          omega
        (apply sat_nx; focus ((conv => lhs; simp [argsOf, placesOf, putBack, put, putF, putAll, flg, R.view, R.viewR, kilS, SRes.kil, Md.wipe, e, binop_adds, str1_len, szOk_lt (show y'.length + 1 ≤ 1000000 by omega), ix]); try rfl))
        refine sat_nop ?_
        (apply sat_ret; focus ((conv => lhs; simp [argsOf, placesOf, putBack, put, putF, putAll, flg, R.view, R.viewR, kilS, SRes.kil, Md.wipe]); try rfl))
        refine ⟨_, rfl, _, rfl, by simpa using hx1, fun d hd => ?_, ?_⟩
        · simp only [List.set_cons_succ, List.set_cons_zero, List.mem_cons] at hd
          rcases hd with rfl | rfl | hd
          · exact ⟨y', rfl, l1, by omega⟩
          · exact ⟨_, rfl, by rw [str_add_len]; omega, by rw [str_add_len, str1_len]; omega⟩
          · exact (hx2 d (by simp [hd])).wo
        · have n1 := List.nodup_cons.mp hxn
          have n2 := List.nodup_cons.mp n1.2
          have hlen : ∀ d ∈ r, ∃ w : Str, d = .str w ∧ w.length = lo.toNat := fun d hd => by
            obtain ⟨i, hi, ei⟩ := List.getElem_of_mem hd
            obtain ⟨w, h1, h2, _⟩ := hx3 (i + 2) d (by simp [List.getElem?_eq_getElem hi, ei])
            exact ⟨w, h1, h2⟩
          have hne : ∀ d, (∃ w : Str, d = .str w ∧ w.length = lo.toNat) → d ≠ PyData.str (y' ++ ⟨#[ch]⟩) := fun d ⟨w, h1, h2⟩ h3 => by
            rw [h1] at h3
            have : w = y' ++ ⟨#[ch]⟩ := by simpa using h3
            rw [this, str_add_len, str1_len] at h2
            omega
          refine List.nodup_cons.mpr ⟨fun h => ?_, List.nodup_cons.mpr ⟨fun h => hne _ (hlen _ h) rfl, n2.2⟩⟩
          rcases List.mem_cons.mp h with q | q
          · exact hne _ ⟨y', rfl, ly⟩ q
          · exact n1.1 (List.mem_cons_of_mem _ q)
      · refine sat_nop ?_
        (apply sat_ret; focus ((conv => lhs; simp [argsOf, placesOf, putBack, put, putF, putAll, flg, R.view, R.viewR, kilS, SRes.kil, Md.wipe]); try rfl))
        exact ⟨_, rfl, x, rfl, hx1, fun d hd => (hx2 d hd).wo, hxn⟩
end Md

/-! ring -/
namespace Md
open PySem (Str PyData)
def pr (p : Nat × Nat) : Da := .tuple [.int (p.1 : Int), .int (p.2 : Int)]
section
variable {tbs ns g as : List Da}
/-- all pairs, as numbers -/
noncomputable def Pp (tbs g as : List Da) : List (Nat × Nat) := (List.range as.length).flatMap fun c => (Yw tbs g as c).map fun j => (c, j)
theorem pw_pp : Pw tbs g as = (Pp tbs g as).map pr := by
  unfold Pw Pp
  rw [List.map_flatMap]
  congr 1
  funext c
  rw [List.map_map]
  rfl
theorem pp_mem {a b : Nat} : (a, b) ∈ Pp tbs g as ↔ a < as.length ∧ b < as.length ∧ Sw.Sy as.length (KN tbs g as) (VN g as) a b := by
  unfold Pp
  rw [List.mem_flatMap]
  constructor
  · rintro ⟨c, hc, h⟩
    obtain ⟨j, hj, e⟩ := List.mem_map.mp h
    cases e
    have := yw_mem.mp hj
    exact ⟨List.mem_range.mp hc, this.1, this.2⟩
  · rintro ⟨hc, hj, h⟩
    exact ⟨a, List.mem_range.mpr hc, List.mem_map.mpr ⟨b, yw_mem.mpr ⟨hj, h⟩, rfl⟩⟩
def Lx (p q : Nat × Nat) : Prop := p.1 < q.1 ∨ (p.1 = q.1 ∧ p.2 < q.2)
theorem pp_ord : (Pp tbs g as).Pairwise Lx := by
  unfold Pp
  rw [List.pairwise_flatMap]
  refine ⟨fun c _ => List.pairwise_map.mpr ((range_filt _ _).imp fun h => .inr ⟨rfl, h⟩), List.pairwise_lt_range.imp fun {a b} h x hx y hy => ?_⟩
  obtain ⟨i, _, rfl⟩ := List.mem_map.mp hx
  obtain ⟨j, _, rfl⟩ := List.mem_map.mp hy
  exact .inl h
theorem ord_first {n l : Nat} {ps : List (Nat × Nat)} (h : ps.Pairwise Lx) (hn : ∀ p ∈ ps, p.2 < n) (q : Nat × Nat → Bool) (hq : ∀ p, q p = true → p.1 = l) : (ps.filter q).length ≤ n := by
  have h1 : ((ps.filter q).map (·.2)).Pairwise (· < ·) := List.pairwise_map.mpr ((h.sublist List.filter_sublist).imp_of_mem fun {a b} ha hb hab => by
    have e1 := hq a (List.mem_filter.mp ha).2
    have e2 := hq b (List.mem_filter.mp hb).2
    rcases hab with h | h
    · omega
    · exact h.2)
  have h2 : ((ps.filter q).map (·.2)).Nodup := h1.imp fun h => by omega
  have := Sw.road_len h2 fun a ha => by
    obtain ⟨p, hp, rfl⟩ := List.mem_map.mp ha
    exact hn p (List.mem_filter.mp hp).1
  rwa [List.length_map] at this
end
end Md
/-! ### roads found -/
namespace Sw
section
variable {n : Nat} {E : Nat → Nat → Prop}
structure Rd (n : Nat) (E : Nat → Nat → Prop) (rs : List (List Nat)) (k : Nat) : Prop where
  ok : ∀ r ∈ rs, r ≠ [] ∧ Road n E r
  one : ∀ a, a < n → [a] ∈ rs
  dn : ∀ (m : Nat) (r : List Nat), m < k → rs[m]? = some r → ¬IsR n E r ∧ ∀ a b, r.getLast? = some a → E a b → b ∉ r → r ++ [b] ∈ rs
theorem Rd.all {rs : List (List Nat)} {k : Nat} (h : Rd n E rs k) (hE : ∀ a b, E a b → a < n ∧ b < n) (hk : rs.length ≤ k) : ¬∃ r, IsR n E r := by
  have key : ∀ (m : Nat) (r : List Nat), r.length = m → r ≠ [] → Road n E r → r ∈ rs := by
    intro m
    induction m with
    | zero => intro r h1 h2; exact absurd (List.length_eq_zero_iff.mp h1) h2
    | succ m ih =>
      intro r h1 h2 h3
      obtain ⟨r', b, rfl⟩ : ∃ r' b, r = r' ++ [b] := ⟨r.dropLast, r.getLast h2, (List.dropLast_concat_getLast h2).symm⟩
      by_cases e : r' = []
      · subst e
        exact h.one b (h3.lt b (by simp))
      · have hm := ih r' (by simpa using h1) e h3.init
        obtain ⟨i, hi, ei⟩ := List.getElem_of_mem hm
        have hg : r'.getLast? = some (r'.getLast e) := List.getLast?_eq_some_getLast e
        have hl := h3.last hg
        exact (h.dn i r' (by omega) (by rw [List.getElem?_eq_getElem hi, ei])).2 _ _ hg hl.1 hl.2
  rintro ⟨r, hr⟩
  have hne := (ring_next hr).1
  obtain ⟨a, b, h1, h2, h3, h4⟩ := hr
  have hm := key r.length r rfl hne h3
  obtain ⟨i, hi, ei⟩ := List.getElem_of_mem hm
  exact (h.dn i r (by omega) (by rw [List.getElem?_eq_getElem hi, ei])).1 ⟨a, b, h1, h2, h3, h4⟩
def wt (r : List Nat) : Nat := 5 ^ (4 - r.length)
def sm (rs : List (List Nat)) : Nat := (rs.map wt).sum
theorem sm_app (a b : List (List Nat)) : sm (a ++ b) = sm a + sm b := by simp [sm]
theorem sm_le {rs : List (List Nat)} {w : Nat} (h : ∀ r ∈ rs, wt r ≤ w) : sm rs ≤ rs.length * w := by
  induction rs with
  | nil => simp [sm]
  | cons r rs ih =>
    have h1 := ih fun r hr => h r (List.mem_cons_of_mem _ hr)
    have h2 := h r List.mem_cons_self
    show wt r + sm rs ≤ (rs.length + 1) * w
    rw [Nat.succ_mul]; omega
theorem le_sm : ∀ x : List (List Nat), x.length ≤ sm x
  | [] => by simp [sm]
  | y :: x => by
    have ih := le_sm x
    have : 0 < wt y := Nat.pow_pos (by decide)
    show x.length + 1 ≤ wt y + sm x
    omega
theorem sm_new {r : List Nat} {bs : List Nat} (hr : r.length ≤ 4) (hb : bs.length ≤ 4) (hl : bs ≠ [] → r.length + 1 ≤ 4) : sm (bs.map fun b => r ++ [b]) < wt r := by
  by_cases e : bs = []
  · subst e
    exact Nat.pow_pos (by decide)
  · have h := hl e
    have h1 : sm (bs.map fun b => r ++ [b]) ≤ (bs.map fun b => r ++ [b]).length * 5 ^ (4 - (r.length + 1)) := sm_le fun x hx => by
      obtain ⟨b, _, rfl⟩ := List.mem_map.mp hx
      unfold wt
      rw [List.length_append]; exact Nat.le_refl _
    rw [List.length_map] at h1
    have h2 : bs.length * 5 ^ (4 - (r.length + 1)) ≤ 4 * 5 ^ (4 - (r.length + 1)) := Nat.mul_le_mul_right _ hb
    have h3 : wt r = 5 * 5 ^ (4 - (r.length + 1)) := by
      unfold wt
      rw [show 4 - r.length = (4 - (r.length + 1)) + 1 by omega, Nat.pow_succ]; omega
    have h4 : 0 < 5 ^ (4 - (r.length + 1)) := Nat.pow_pos (by decide)
    omega
end
end Sw
namespace Md
open PySem (Str PyData)
def Rl (rs : List (List Nat)) : List Da := rs.map fun r => .list (Ns r)
theorem atI_last {xs : List Da} {d : Da} (h : xs.getLast? = some d) : L2.atI xs (-1) = some d := by
  have hne : xs ≠ [] := fun e => by subst e; simp at h
  have hl := List.length_pos_iff.mpr hne
  unfold L2.atI L2.ixN
  simp only [show ¬(0 : Int) ≤ -1 by decide, if_false]
  rw [List.getLast?_eq_getElem?] at h
  have e : (-1 + (xs.length : Int)).toNat = xs.length - 1 := by omega
  simp [show (0 : Int) ≤ -1 + (xs.length : Int) by omega, show (1 : Int) ≤ (xs.length : Int) by omega, e, h]
section
variable {tbs ns g as : List Da}
/-- c sways j, both of the question -/
def Ey (tbs g as : List Da) (a b : Nat) : Prop := a < as.length ∧ b < as.length ∧ Sw.Sy as.length (KN tbs g as) (VN g as) a b
theorem ring_ok (n : Nat) (ha : ∀ a ∈ as, At tbs ns a) (hg : ∀ d ∈ g, Wo d) (la : as.length ≤ 4) (ln : ns.length ≤ 500) (nd : (as.map Tn).Nodup) :
    Runs (n + 6) i'ring [.fz (.tuple tbs), .fz (.tuple [.tuple g, .tuple as])] fun t => (t = .fz .none ∧ ¬∃ r, Sw.IsR as.length (Ey tbs g as) r) ∨ ∃ r, t = .fz (.list (Ns r)) ∧ Sw.IsR as.length (Ey tbs g as) r := by
  refine runs_of (run'ring _ _ _) ?_
  have hs := sways_ok n ha hg (by omega) ln nd
  have pord := pp_ord (tbs := tbs) (g := g) (as := as)
  have pmem := fun a b => pp_mem (tbs := tbs) (g := g) (as := as) (a := a) (b := b)
  rw [pw_pp] at hs
  have hE : ∀ a b, Ey tbs g as a b → a < as.length ∧ b < as.length := fun a b h => ⟨h.1, h.2.1⟩
  have pmem : ∀ a b, (a, b) ∈ Pp tbs g as ↔ Ey tbs g as a b := pmem
  generalize Ey tbs g as = E at *
  generalize Pp tbs g as = ps at *
  (apply sat_nx; focus ((conv => lhs; simp [argsOf, placesOf, putBack, put, putF, putAll, flg, R.view, R.viewR, kilS, SRes.kil, Md.wipe, hs]); try rfl))
  apply sat_nx
  focus
    ((conv => lhs; simp [argsOf, placesOf, putBack, put, putF, putAll, flg, R.view, R.viewR, kilS, SRes.kil, Md.wipe]); try rfl)
    (unfold c'ring'0; rw [lc1r (as.length : Int) (fun j => .list [.int (j : Int)]) ?hi ?hv ?h0 ?h1 ?hl ?hp ?hb]; (case hi => (first | rfl | ((conv => lhs; simp [argsOf, placesOf, putBack, put, putF, putAll, flg, R.view, R.viewR, kilS, SRes.kil, Md.wipe]); try rfl))); (case hv => (first | rfl | simp)); (case h0 => omega); (case h1 => omega); (case hl => rfl); (case hp => rfl))
    case hb =>
      intro j hj
      exact ⟨_, _, rfl, rfl, by ((conv => lhs; simp [argsOf, placesOf, putBack, put, putF, putAll, flg, R.view, R.viewR, kilS, SRes.kil, Md.wipe]); try rfl), rfl⟩
    ((conv => lhs; simp [argsOf, placesOf, putBack, put, putF, putAll, flg, R.view, R.viewR, kilS, SRes.kil, Md.wipe]); try rfl)
  (apply sat_nx; focus ((conv => lhs; simp [argsOf, placesOf, putBack, put, putF, putAll, flg, R.view, R.viewR, kilS, SRes.kil, Md.wipe]); try rfl))
  have e0 : (List.range as.length).map (fun (j : Nat) => PyData.list [.int (j : Int)]) = Rl ((List.range as.length).map fun j => [j]) := by
    unfold Rl
    rw [List.map_map]
    rfl
  rw [e0]
  refine sat_whl (fun b (x : List (List Nat) × Nat) => (b.set 3 (some (.lst (Rl x.1)))).set 4 (some (.fz (.int (x.2 : Int))))) (fun x => Sw.Rd as.length E x.1 x.2 ∧ x.2 ≤ x.1.length ∧ x.2 + Sw.sm (x.1.drop x.2) ≤ 500) (fun x => Sw.sm (x.1.drop x.2)) ((List.range as.length).map (fun j => [j]), 0) rfl ?_ ?_ (fun x hx => ?_)
  · refine ⟨⟨fun r hr => ?_, fun a ha => List.mem_map.mpr ⟨a, List.mem_range.mpr ha, rfl⟩, fun m r h => by omega⟩, Nat.zero_le _, ?_⟩
    · obtain ⟨j, hj, rfl⟩ := List.mem_map.mp hr
      exact ⟨by simp, List.mem_range.mp hj⟩
    · have := Sw.sm_le (rs := (List.range as.length).map fun j => [j]) (w := 125) fun r hr => by
        obtain ⟨j, hj, rfl⟩ := List.mem_map.mp hr
        show 5 ^ (4 - 1) ≤ 125
        decide
      rw [List.length_map, List.length_range] at this
      show 0 + Sw.sm (((List.range as.length).map fun j => [j]).drop 0) ≤ 500
      rw [List.drop_zero]
      omega
  · have := Sw.sm_le (rs := (List.range as.length).map fun j => [j]) (w := 125) fun r hr => by
      obtain ⟨j, hj, rfl⟩ := List.mem_map.mp hr
      show 5 ^ (4 - 1) ≤ 125
      decide
    rw [List.length_map, List.length_range] at this
    show Sw.sm (((List.range as.length).map fun j => [j]).drop 0) < 100000
    rw [List.drop_zero]
    omega
  · obtain ⟨rs, k⟩ := x
    obtain ⟨rd, hk, hsz⟩ := hx
    have hsz : k + Sw.sm (rs.drop k) ≤ 500 := hsz
    have hk : k ≤ rs.length := hk
    have hrl : rs.length ≤ 500 := by
      have := Sw.le_sm (rs.drop k)
      rw [List.length_drop] at this
      omega
    have lrl : (Rl rs).length = rs.length := by simp [Rl]
    refine ⟨decide (k < rs.length), _, by ((conv => lhs; simp [argsOf, placesOf, putBack, put, putF, putAll, flg, R.view, R.viewR, kilS, SRes.kil, Md.wipe, lrl]); try rfl), fun hq => ?_, fun hq => ?_⟩
    · have hq : k < rs.length := by simpa using hq
      have hrk : rs[k]? = some rs[k] := List.getElem?_eq_getElem hq
      have hrm : rs[k] ∈ rs := List.getElem_mem hq
      have hdrop : rs.drop k = rs[k] :: rs.drop (k + 1) := List.drop_eq_getElem_cons hq
      generalize rs[k] = r at *
      obtain ⟨rne, rr⟩ := rd.ok r hrm
      have e1 : L2.atI (Rl rs) (k : Int) = some (.list (Ns r)) := by rw [atI_nat]; simp [Rl, hrk]
      obtain ⟨la', hla⟩ : ∃ a, r.getLast? = some a := ⟨r.getLast rne, List.getLast?_eq_some_getLast rne⟩
      obtain ⟨fi, hfi⟩ : ∃ a, r.head? = some a := ⟨r.head rne, List.head?_eq_some_head rne⟩
      have e2 : L2.atI (Ns r) (-1) = some (.int (la' : Int)) := atI_last (by simp [Ns, hla])
      have e3 : L2.atI (Ns r) 0 = some (.int (fi : Int)) := by
        have := ns_at (f := r) (k := 0) (i := fi) (by rw [← List.head?_eq_getElem?]; exact hfi)
        exact this
      have rl : r.length ≤ 4 := Nat.le_trans (Sw.road_len rr.nodup rr.lt) la
      refine sat_kil ?_
      (apply sat_nx; focus ((conv => lhs; simp [argsOf, placesOf, putBack, put, putF, putAll, flg, R.view, R.viewR, kilS, SRes.kil, Md.wipe, e1]); try rfl))
      have hwt : Sw.sm (rs.drop k) = Sw.wt r + Sw.sm (rs.drop (k + 1)) := by rw [hdrop]; rfl
      let q : Nat × Nat → Bool := fun p => decide (p.1 = la') && !decide (p.2 ∈ r)
      have hq4 : ∀ ps' : List (Nat × Nat), ps'.Sublist ps → (ps'.filter q).length ≤ 4 := fun ps' hsub => by
        have h1 := ord_first (n := as.length) (l := la') (pord.sublist hsub) (fun p hp => ((hE p.1 p.2 ((pmem p.1 p.2).mp (hsub.subset hp)))).2) q (fun p hp => by
          have := (Bool.and_eq_true_iff.mp hp).1
          simpa using this)
        omega
      refine sat_for (fun b (x : List (List Nat)) => b.set 3 (some (.lst (Rl (rs ++ x))))) (fun j x => x = ((ps.take j).filter q).map (fun p => r ++ [p.2]) ∧ ∀ p ∈ ps.take j, ¬(p.1 = la' ∧ p.2 = fi)) [] (itr_1 (d := .list (ps.map pr)) (r := .p 2) rfl rfl rfl) rfl rfl (by simp) ⟨by simp, fun _ h => nomatch h⟩ (fun j d x hd hx => ?_) (fun x hx => ?_)
      · obtain ⟨hx, hno⟩ := hx
        have hj := (List.getElem?_eq_some_iff.mp hd).1
        rw [List.length_map] at hj
        have ed : d = pr ps[j] := by
          rw [List.getElem?_map, List.getElem?_eq_getElem hj] at hd
          exact (Option.some.inj hd).symm
        subst ed
        have hpm : ps[j] ∈ ps := List.getElem_mem hj
        have et : ps.take (j + 1) = ps.take j ++ [ps[j]] := by rw [List.take_add_one, List.getElem?_eq_getElem hj]; rfl
        have hx4 : x.length ≤ 4 := by rw [hx, List.length_map]; exact hq4 _ (List.take_sublist _ _)
        rw [et]
        generalize ps[j] = p at *
        obtain ⟨a, b⟩ := p
        have hab := (pmem a b).mp hpm
        refine ⟨_, rfl, sat_kil ?_⟩
        have hnot := notin_l (d := .int (b : Int)) (ds := Ns r) (.inl ⟨_, rfl⟩) (ns_vl r)
        rw [ns_has] at hnot
        apply sat_ifs (k := decide (a = la') && decide (b = fi))
        · by_cases ea : a = la'
          · subst ea
            simp [argsOf, placesOf, putBack, put, putF, putAll, flg, R.view, R.viewR, kilS, SRes.kil, Md.wipe, e2, e3, pr]
            try omega
          · have ea' : ¬((a : Int) = (la' : Int)) := by omega
            simp [argsOf, placesOf, putBack, put, putF, putAll, flg, R.view, R.viewR, kilS, SRes.kil, Md.wipe, e2, e3, pr, ea, ea']
        · intro hk
          simp only [Bool.and_eq_true, decide_eq_true_eq] at hk
          obtain ⟨rfl, rfl⟩ := hk
          (apply sat_ret; focus ((conv => lhs; simp [argsOf, placesOf, putBack, put, putF, putAll, flg, R.view, R.viewR, kilS, SRes.kil, Md.wipe]); try rfl))
          exact ⟨_, rfl, _, rfl, _, rfl, .inr ⟨r, rfl, b, a, hfi, hla, rr, hab⟩⟩
        · intro hk
          refine sat_nop ?_
          have hk : ¬(a = la' ∧ b = fi) := fun ⟨h1, h2⟩ => by simp [h1, h2] at hk
          apply sat_ifs (k := q (a, b))
          · by_cases ea : a = la'
            · subst ea
              simp [argsOf, placesOf, putBack, put, putF, putAll, flg, R.view, R.viewR, kilS, SRes.kil, Md.wipe, e2, e3, pr, hnot, q]
            · have ea' : ¬((a : Int) = (la' : Int)) := by omega
              simp [argsOf, placesOf, putBack, put, putF, putAll, flg, R.view, R.viewR, kilS, SRes.kil, Md.wipe, e2, e3, pr, ea, ea', hnot, q]
          · intro hk2
            have lns := ns_len r
            have hlr : (Rl (rs ++ x)).length = rs.length + x.length := by simp [Rl]
            (apply sat_nx; focus ((conv => lhs; simp [argsOf, placesOf, putBack, put, putF, putAll, flg, R.view, R.viewR, kilS, SRes.kil, Md.wipe, binop_addl (Ns r) [.int (b : Int)] (szOk_lt (by rw [lns]; show r.length + 1 ≤ 1000000; omega)), sl_lt (show (Rl (rs ++ x)).length ≤ 1000000 by rw [hlr]; omega), pr]); try rfl))
            refine sat_nop ?_
            refine ⟨x ++ [r ++ [b]], ?_, ?_, ?_⟩
            · have : Rl (rs ++ (x ++ [r ++ [b]])) = Rl (rs ++ x) ++ [.list (Ns r ++ [.int (b : Int)])] := by simp [Rl, Ns]
              rw [this]; rfl
            · rw [List.filter_append, List.map_append, ← hx]
              simp [List.filter_cons, hk2]
            · intro p hp
              rcases List.mem_append.mp hp with h | h
              · exact hno p h
              · rw [List.mem_singleton.mp h]; exact hk
          · intro hk2
            refine sat_nop ?_
            refine ⟨x, rfl, ?_, ?_⟩
            · rw [List.filter_append, List.map_append, ← hx]
              simp [List.filter_cons, hk2]
            · intro p hp
              rcases List.mem_append.mp hp with h | h
              · exact hno p h
              · rw [List.mem_singleton.mp h]; exact hk
      · rw [List.length_map, List.take_length] at hx
        obtain ⟨hx, hno⟩ := hx
        have hmem : ∀ b, r ++ [b] ∈ x ↔ E la' b ∧ b ∉ r := fun b => by
          rw [hx, List.mem_map]
          constructor
          · rintro ⟨⟨a, c⟩, hp, e⟩
            obtain ⟨h1, h2⟩ := List.mem_filter.mp hp
            have e : c = b := by simpa using e
            subst e
            have h3 := Bool.and_eq_true_iff.mp h2
            have h4 : a = la' := by simpa using h3.1
            subst h4
            exact ⟨(pmem a c).mp h1, by simpa using h3.2⟩
          · rintro ⟨h1, h2⟩
            exact ⟨(la', b), List.mem_filter.mpr ⟨(pmem _ _).mpr h1, by simp [q, h2]⟩, rfl⟩
        have hx4 : x.length ≤ 4 := by rw [hx, List.length_map]; exact hq4 _ (List.Sublist.refl _)
        have hform : x = ((ps.filter q).map (·.2)).map fun b => r ++ [b] := by rw [hx, List.map_map]; rfl
        have hroad : ∀ y ∈ x, y ≠ [] ∧ Sw.Road as.length E y ∧ y.length = r.length + 1 := fun y hy => by
          have hy' := hy
          rw [hform] at hy'
          obtain ⟨b, _, rfl⟩ := List.mem_map.mp hy'
          obtain ⟨h1, h2⟩ := (hmem b).mp hy
          exact ⟨by simp, rr.snoc hla h1 h2 (hE _ _ h1).2, by simp⟩
        have hsm : Sw.sm x < Sw.wt r := by
          rw [hform]
          refine Sw.sm_new rl (by rw [List.length_map]; exact hq4 _ (List.Sublist.refl _)) fun hne => ?_
          obtain ⟨b, hb⟩ := List.exists_mem_of_ne_nil _ hne
          have hy : r ++ [b] ∈ x := by rw [hform]; exact List.mem_map.mpr ⟨b, hb, rfl⟩
          obtain ⟨_, h2, h3⟩ := hroad _ hy
          have := Sw.road_len h2.nodup h2.lt
          omega
        have hdr : (rs ++ x).drop (k + 1) = rs.drop (k + 1) ++ x := by rw [List.drop_append_of_le_length (by omega)]
        refine ⟨_, rfl, ?_⟩
        (apply sat_nx; focus ((conv => lhs; simp [argsOf, placesOf, putBack, put, putF, putAll, flg, R.view, R.viewR, kilS, SRes.kil, Md.wipe]); try rfl))
        refine ⟨(rs ++ x, k + 1), rfl, ⟨⟨fun y hy => ?_, fun a ha => List.mem_append_left _ (rd.one a ha), fun m y hm hy => ?_⟩, ?_, ?_⟩, ?_⟩
        · rcases List.mem_append.mp hy with h | h
          · exact rd.ok y h
          · exact ⟨(hroad y h).1, (hroad y h).2.1⟩
        · have hml : m < rs.length := by omega
          rw [List.getElem?_append_left hml] at hy
          by_cases e : m = k
          · subst e
            have e : y = r := Option.some.inj (hy.symm.trans hrk)
            subst e
            refine ⟨fun ⟨a, b, h1, h2, h3, h4⟩ => ?_, fun a b h1 h2 h3 => ?_⟩
            · have ea : a = fi := Option.some.inj (h1.symm.trans hfi)
              have eb : b = la' := Option.some.inj (h2.symm.trans hla)
              subst ea eb
              exact hno (b, a) ((pmem _ _).mpr h4) ⟨rfl, rfl⟩
            · have ea : a = la' := Option.some.inj (h1.symm.trans hla)
              subst ea
              exact List.mem_append_right _ ((hmem b).mpr ⟨h2, h3⟩)
          · obtain ⟨h1, h2⟩ := rd.dn m y (by omega) hy
            exact ⟨h1, fun a b g1 g2 g3 => List.mem_append_left _ (h2 a b g1 g2 g3)⟩
        · show k + 1 ≤ (rs ++ x).length
          rw [List.length_append]; omega
        · show (k + 1) + Sw.sm ((rs ++ x).drop (k + 1)) ≤ 500
          rw [hdr, Sw.sm_app]
          omega
        · show Sw.sm ((rs ++ x).drop (k + 1)) < Sw.sm (rs.drop k)
          rw [hdr, Sw.sm_app, hwt]
          omega
    · have hq : rs.length ≤ k := by simpa using hq
      have hall := rd.all hE hq
      (apply sat_ret; focus ((conv => lhs; simp [argsOf, placesOf, putBack, put, putF, putAll, flg, R.view, R.viewR, kilS, SRes.kil, Md.wipe]); try rfl))
      exact ⟨_, rfl, .inl ⟨rfl, hall⟩⟩
end
end Md

/-! _law_same of one thing with itself; the law's end -/
namespace Md
open PySem (Str PyData)
/-- things of some depth -/
def Sm : Nat → Da → Prop
  | _, .none => True
  | _, .str _ => True
  | _, .int _ => True
  | k + 1, .tuple ds => ∀ d ∈ ds, Sm k d
  | k + 1, .list ds => ∀ d ∈ ds, Sm k d
  | _, _ => False
theorem zipW_at {xs : List Da} {j : Nat} {x : Da} (h : (zipW xs xs)[j]? = some x) : ∃ a ∈ xs, x = .tuple [a, a] := by
  rw [zipW, List.getElem?_zipWith] at h
  cases hx : xs[j]? with
  | none => rw [hx] at h; simp at h
  | some a => rw [hx] at h; exact ⟨a, List.mem_of_getElem? hx, (Option.some.inj h).symm⟩
theorem isN_str (x : Str) : Md.compare .isN (.str x) .none = some false := rfl
theorem isN_int (x : Int) : Md.compare .isN (.int x) .none = some false := rfl
theorem isN_none : Md.compare .isN .none .none = some true := rfl
theorem isN_list (x : List Da) : Md.compare .isN (.list x) .none = some false := rfl
theorem isN_tuple (x : List Da) : Md.compare .isN (.tuple x) .none = some false := rfl
theorem nd_none : notD .none = true := rfl
theorem nd_str (x : Str) : notD (.str x) = true := rfl
theorem nd_int (x : Int) : notD (.int x) = true := rfl
theorem nd_list (x : List Da) : notD (.list x) = true := rfl
theorem nd_tuple (x : List Da) : notD (.tuple x) = true := rfl
theorem kd_ss (x : Str) : isKd Pg0 .str (.str x) = true := rfl
theorem kd_si (x : Int) : isKd Pg0 .str (.int x) = false := rfl
theorem kd_ii (x : Int) : isKd Pg0 .int (.int x) = true := rfl
theorem kd_bi (x : Int) : isKd Pg0 .bool (.int x) = false := rfl
theorem kd_sl (x : List Da) : isKd Pg0 .str (.list x) = false := rfl
theorem kd_il (x : List Da) : isKd Pg0 .int (.list x) = false := rfl
theorem kd_ll (x : List Da) : isKd Pg0 .list (.list x) = true := rfl
theorem kd_tl (x : List Da) : isKd Pg0 .tuple (.list x) = false := rfl
theorem kd_st (x : List Da) : isKd Pg0 .str (.tuple x) = false := rfl
theorem kd_it (x : List Da) : isKd Pg0 .int (.tuple x) = false := rfl
theorem kd_lt (x : List Da) : isKd Pg0 .list (.tuple x) = false := rfl
theorem kd_tt (x : List Da) : isKd Pg0 .tuple (.tuple x) = true := rfl
theorem same_fz (n : Nat) : ∀ (k : Nat) (d : Da), Sm k d → run Pg0 DG (n + k + 1) i'l_same_2 [.fz d, .fz d] = .ok (.fz (.bool true)) [.fz d, .fz d] := by
  intro k
  induction k with
  | zero =>
    intro d h
    refine run_eq (run'l_same_2 _ _ _) ?_
    cases d with
    | none => (apply sat_ift; focus ((conv => lhs; simp [argsOf, placesOf, putBack, put, putF, putAll, flg, R.view, R.viewR, kilS, SRes.kil, Md.wipe, isN_none]); try rfl)); (apply sat_ret; focus ((conv => lhs; simp [argsOf, placesOf, putBack, put, putF, putAll, flg, R.view, R.viewR, kilS, SRes.kil, Md.wipe, isN_none]); try rfl)); rfl
    | str x => (apply sat_iff; (focus ((conv => lhs; simp [argsOf, placesOf, putBack, put, putF, putAll, flg, R.view, R.viewR, kilS, SRes.kil, Md.wipe, isN_str]); try rfl)); refine sat_nop ?_); (apply sat_ift; focus ((conv => lhs; simp [argsOf, placesOf, putBack, put, putF, putAll, flg, R.view, R.viewR, kilS, SRes.kil, Md.wipe, nd_str, kd_ss]); try rfl)); (apply sat_ret; focus ((conv => lhs; simp [argsOf, placesOf, putBack, put, putF, putAll, flg, R.view, R.viewR, kilS, SRes.kil, Md.wipe, nd_str, kd_ss]); try rfl)); rfl
    | int x => (apply sat_iff; (focus ((conv => lhs; simp [argsOf, placesOf, putBack, put, putF, putAll, flg, R.view, R.viewR, kilS, SRes.kil, Md.wipe, isN_int]); try rfl)); refine sat_nop ?_); (apply sat_iff; (focus ((conv => lhs; simp [argsOf, placesOf, putBack, put, putF, putAll, flg, R.view, R.viewR, kilS, SRes.kil, Md.wipe, nd_int, kd_si]); try rfl)); refine sat_nop ?_); (apply sat_ift; focus ((conv => lhs; simp [argsOf, placesOf, putBack, put, putF, putAll, flg, R.view, R.viewR, kilS, SRes.kil, Md.wipe, nd_int, kd_ii]); try rfl)); (apply sat_ret; focus ((conv => lhs; simp [argsOf, placesOf, putBack, put, putF, putAll, flg, R.view, R.viewR, kilS, SRes.kil, Md.wipe, nd_int, kd_ii, kd_bi]); try rfl)); rfl
    | _ => exact h.elim
  | succ k ih =>
    intro d h
    refine run_eq (run'l_same_2 _ _ _) ?_
    cases d with
    | none => (apply sat_ift; focus ((conv => lhs; simp [argsOf, placesOf, putBack, put, putF, putAll, flg, R.view, R.viewR, kilS, SRes.kil, Md.wipe, isN_none]); try rfl)); (apply sat_ret; focus ((conv => lhs; simp [argsOf, placesOf, putBack, put, putF, putAll, flg, R.view, R.viewR, kilS, SRes.kil, Md.wipe, isN_none]); try rfl)); rfl
    | str x => (apply sat_iff; (focus ((conv => lhs; simp [argsOf, placesOf, putBack, put, putF, putAll, flg, R.view, R.viewR, kilS, SRes.kil, Md.wipe, isN_str]); try rfl)); refine sat_nop ?_); (apply sat_ift; focus ((conv => lhs; simp [argsOf, placesOf, putBack, put, putF, putAll, flg, R.view, R.viewR, kilS, SRes.kil, Md.wipe, nd_str, kd_ss]); try rfl)); (apply sat_ret; focus ((conv => lhs; simp [argsOf, placesOf, putBack, put, putF, putAll, flg, R.view, R.viewR, kilS, SRes.kil, Md.wipe, nd_str, kd_ss]); try rfl)); rfl
    | int x => (apply sat_iff; (focus ((conv => lhs; simp [argsOf, placesOf, putBack, put, putF, putAll, flg, R.view, R.viewR, kilS, SRes.kil, Md.wipe, isN_int]); try rfl)); refine sat_nop ?_); (apply sat_iff; (focus ((conv => lhs; simp [argsOf, placesOf, putBack, put, putF, putAll, flg, R.view, R.viewR, kilS, SRes.kil, Md.wipe, nd_int, kd_si]); try rfl)); refine sat_nop ?_); (apply sat_ift; focus ((conv => lhs; simp [argsOf, placesOf, putBack, put, putF, putAll, flg, R.view, R.viewR, kilS, SRes.kil, Md.wipe, nd_int, kd_ii]); try rfl)); (apply sat_ret; focus ((conv => lhs; simp [argsOf, placesOf, putBack, put, putF, putAll, flg, R.view, R.viewR, kilS, SRes.kil, Md.wipe, nd_int, kd_ii, kd_bi]); try rfl)); rfl
    | tuple q =>
      (apply sat_iff; (focus ((conv => lhs; simp [argsOf, placesOf, putBack, put, putF, putAll, flg, R.view, R.viewR, kilS, SRes.kil, Md.wipe, isN_tuple]); try rfl)); refine sat_nop ?_); (apply sat_iff; (focus ((conv => lhs; simp [argsOf, placesOf, putBack, put, putF, putAll, flg, R.view, R.viewR, kilS, SRes.kil, Md.wipe, nd_tuple, kd_st]); try rfl)); refine sat_nop ?_); (apply sat_iff; (focus ((conv => lhs; simp [argsOf, placesOf, putBack, put, putF, putAll, flg, R.view, R.viewR, kilS, SRes.kil, Md.wipe, nd_tuple, kd_it]); try rfl)); refine sat_nop ?_); (apply sat_iff; (focus ((conv => lhs; simp [argsOf, placesOf, putBack, put, putF, putAll, flg, R.view, R.viewR, kilS, SRes.kil, Md.wipe, nd_tuple, kd_lt]); try rfl)); refine sat_nop ?_); (apply sat_iff; (focus ((conv => lhs; simp [argsOf, placesOf, putBack, put, putF, putAll, flg, R.view, R.viewR, kilS, SRes.kil, Md.wipe, nd_tuple, kd_tt]); try rfl)); refine sat_nop ?_); (apply sat_iff; (focus ((conv => lhs; simp [argsOf, placesOf, putBack, put, putF, putAll, flg, R.view, R.viewR, kilS, SRes.kil, Md.wipe]); try rfl)); refine sat_nop ?_)
      refine sat_for' (fun b (_ : Unit) => b) (fun _ _ => True) () (itr_2 (d := .tuple q) (e := .tuple q) (ws := zipW q q) rfl rfl rfl rfl rfl) rfl rfl rfl rfl rfl trivial (fun j d x hd _ => ?_) (fun x _ => ?_)
      · obtain ⟨a, ma, rfl⟩ := zipW_at hd
        have : run Pg0 DG (n + (k + 1)) i'l_same_2 [.fz a, .fz a] = .ok (.fz (.bool true)) [.fz a, .fz a] := ih a (h a ma)
        refine ⟨_, rfl, sat_kil ?_⟩
        (apply sat_iff; (focus ((conv => lhs; simp [argsOf, placesOf, putBack, put, putF, putAll, flg, R.view, R.viewR, kilS, SRes.kil, Md.wipe, this]); try rfl)); refine sat_nop ?_)
        exact ⟨(), rfl, trivial⟩
      · (apply sat_ret; focus ((conv => lhs; simp [argsOf, placesOf, putBack, put, putF, putAll, flg, R.view, R.viewR, kilS, SRes.kil, Md.wipe]); try rfl))
        rfl
    | list q =>
      (apply sat_iff; (focus ((conv => lhs; simp [argsOf, placesOf, putBack, put, putF, putAll, flg, R.view, R.viewR, kilS, SRes.kil, Md.wipe, isN_list]); try rfl)); refine sat_nop ?_); (apply sat_iff; (focus ((conv => lhs; simp [argsOf, placesOf, putBack, put, putF, putAll, flg, R.view, R.viewR, kilS, SRes.kil, Md.wipe, nd_list, kd_sl]); try rfl)); refine sat_nop ?_); (apply sat_iff; (focus ((conv => lhs; simp [argsOf, placesOf, putBack, put, putF, putAll, flg, R.view, R.viewR, kilS, SRes.kil, Md.wipe, nd_list, kd_il]); try rfl)); refine sat_nop ?_); (apply sat_iff; (focus ((conv => lhs; simp [argsOf, placesOf, putBack, put, putF, putAll, flg, R.view, R.viewR, kilS, SRes.kil, Md.wipe, nd_list, kd_ll]); try rfl)); refine sat_nop ?_); (apply sat_iff; (focus ((conv => lhs; simp [argsOf, placesOf, putBack, put, putF, putAll, flg, R.view, R.viewR, kilS, SRes.kil, Md.wipe, nd_list, kd_tl]); try rfl)); refine sat_nop ?_); (apply sat_iff; (focus ((conv => lhs; simp [argsOf, placesOf, putBack, put, putF, putAll, flg, R.view, R.viewR, kilS, SRes.kil, Md.wipe]); try rfl)); refine sat_nop ?_)
      refine sat_for' (fun b (_ : Unit) => b) (fun _ _ => True) () (itr_2 (d := .list q) (e := .list q) (ws := zipW q q) rfl rfl rfl rfl rfl) rfl rfl rfl rfl rfl trivial (fun j d x hd _ => ?_) (fun x _ => ?_)
      · obtain ⟨a, ma, rfl⟩ := zipW_at hd
        have : run Pg0 DG (n + (k + 1)) i'l_same_2 [.fz a, .fz a] = .ok (.fz (.bool true)) [.fz a, .fz a] := ih a (h a ma)
        refine ⟨_, rfl, sat_kil ?_⟩
        (apply sat_iff; (focus ((conv => lhs; simp [argsOf, placesOf, putBack, put, putF, putAll, flg, R.view, R.viewR, kilS, SRes.kil, Md.wipe, this]); try rfl)); refine sat_nop ?_)
        exact ⟨(), rfl, trivial⟩
      · (apply sat_ret; focus ((conv => lhs; simp [argsOf, placesOf, putBack, put, putF, putAll, flg, R.view, R.viewR, kilS, SRes.kil, Md.wipe]); try rfl))
        rfl
    | _ => exact h.elim
theorem same_lst (n k : Nat) (q : List Da) (h : ∀ d ∈ q, Sm k d) : run Pg0 DG (n + k + 2) i'l_same_2 [.lst q, .lst q] = .ok (.fz (.bool true)) [.lst q, .lst q] := by
  refine run_eq (run'l_same_2 _ _ _) ?_
  (apply sat_iff; (focus ((conv => lhs; simp [argsOf, placesOf, putBack, put, putF, putAll, flg, R.view, R.viewR, kilS, SRes.kil, Md.wipe, isN_list]); try rfl)); refine sat_nop ?_); (apply sat_iff; (focus ((conv => lhs; simp [argsOf, placesOf, putBack, put, putF, putAll, flg, R.view, R.viewR, kilS, SRes.kil, Md.wipe, nd_list, kd_sl]); try rfl)); refine sat_nop ?_); (apply sat_iff; (focus ((conv => lhs; simp [argsOf, placesOf, putBack, put, putF, putAll, flg, R.view, R.viewR, kilS, SRes.kil, Md.wipe, nd_list, kd_il]); try rfl)); refine sat_nop ?_); (apply sat_iff; (focus ((conv => lhs; simp [argsOf, placesOf, putBack, put, putF, putAll, flg, R.view, R.viewR, kilS, SRes.kil, Md.wipe, nd_list, kd_ll]); try rfl)); refine sat_nop ?_); (apply sat_iff; (focus ((conv => lhs; simp [argsOf, placesOf, putBack, put, putF, putAll, flg, R.view, R.viewR, kilS, SRes.kil, Md.wipe, nd_list, kd_tl]); try rfl)); refine sat_nop ?_); (apply sat_iff; (focus ((conv => lhs; simp [argsOf, placesOf, putBack, put, putF, putAll, flg, R.view, R.viewR, kilS, SRes.kil, Md.wipe]); try rfl)); refine sat_nop ?_)
  refine sat_for (fun b (_ : Unit) => b) (fun _ _ => True) () (itr_2 (r1 := .p 0) (r2 := .p 1) (d := .list q) (e := .list q) (ws := zipW q q) rfl rfl rfl rfl rfl) rfl rfl rfl trivial (fun j d x hd _ => ?_) (fun x _ => ?_)
  · obtain ⟨a, ma, rfl⟩ := zipW_at hd
    have := same_fz n k a (h a ma)
    refine ⟨_, rfl, sat_kil ?_⟩
    (apply sat_iff; (focus ((conv => lhs; simp [argsOf, placesOf, putBack, put, putF, putAll, flg, R.view, R.viewR, kilS, SRes.kil, Md.wipe, this]); try rfl)); refine sat_nop ?_)
    exact ⟨(), rfl, trivial⟩
  · refine ⟨_, rfl, ?_⟩
    (apply sat_ret; focus ((conv => lhs; simp [argsOf, placesOf, putBack, put, putF, putAll, flg, R.view, R.viewR, kilS, SRes.kil, Md.wipe]); try rfl))
    rfl
theorem same_mix (n k : Nat) (q : List Da) (h : ∀ d ∈ q, Sm k d) : run Pg0 DG (n + k + 2) i'l_same_2 [.fz (.list q), .lst q] = .ok (.fz (.bool true)) [.fz (.list q), .lst q] := by
  refine run_eq (run'l_same_2 _ _ _) ?_
  (apply sat_iff; (focus ((conv => lhs; simp [argsOf, placesOf, putBack, put, putF, putAll, flg, R.view, R.viewR, kilS, SRes.kil, Md.wipe, isN_list]); try rfl)); refine sat_nop ?_); (apply sat_iff; (focus ((conv => lhs; simp [argsOf, placesOf, putBack, put, putF, putAll, flg, R.view, R.viewR, kilS, SRes.kil, Md.wipe, nd_list, kd_sl]); try rfl)); refine sat_nop ?_); (apply sat_iff; (focus ((conv => lhs; simp [argsOf, placesOf, putBack, put, putF, putAll, flg, R.view, R.viewR, kilS, SRes.kil, Md.wipe, nd_list, kd_il]); try rfl)); refine sat_nop ?_); (apply sat_iff; (focus ((conv => lhs; simp [argsOf, placesOf, putBack, put, putF, putAll, flg, R.view, R.viewR, kilS, SRes.kil, Md.wipe, nd_list, kd_ll]); try rfl)); refine sat_nop ?_); (apply sat_iff; (focus ((conv => lhs; simp [argsOf, placesOf, putBack, put, putF, putAll, flg, R.view, R.viewR, kilS, SRes.kil, Md.wipe, nd_list, kd_tl]); try rfl)); refine sat_nop ?_); (apply sat_iff; (focus ((conv => lhs; simp [argsOf, placesOf, putBack, put, putF, putAll, flg, R.view, R.viewR, kilS, SRes.kil, Md.wipe]); try rfl)); refine sat_nop ?_)
  refine sat_for (fun b (_ : Unit) => b) (fun _ _ => True) () (itr_2 (r1 := .t (.fz (.list q))) (r2 := .p 1) (d := .list q) (e := .list q) (ws := zipW q q) rfl rfl rfl rfl rfl) rfl rfl rfl trivial (fun j d x hd _ => ?_) (fun x _ => ?_)
  · obtain ⟨a, ma, rfl⟩ := zipW_at hd
    have := same_fz n k a (h a ma)
    refine ⟨_, rfl, sat_kil ?_⟩
    (apply sat_iff; (focus ((conv => lhs; simp [argsOf, placesOf, putBack, put, putF, putAll, flg, R.view, R.viewR, kilS, SRes.kil, Md.wipe, this]); try rfl)); refine sat_nop ?_)
    exact ⟨(), rfl, trivial⟩
  · refine ⟨_, rfl, ?_⟩
    (apply sat_ret; focus ((conv => lhs; simp [argsOf, placesOf, putBack, put, putF, putAll, flg, R.view, R.viewR, kilS, SRes.kil, Md.wipe]); try rfl))
    rfl
theorem Sm.wo {d : Da} (h : Wo d) (k : Nat) : Sm k d := by
  obtain ⟨x, rfl, _⟩ := h
  cases k <;> trivial
/-- a law, from its run -/
theorem law_ok [Wd] {n i m : Nat} {K : PySem.W.Frag} {H : L2.Hp} {a : PySem.Addr} {ns : List Int} (hr : ∀ ns : List Int, ns.length ≤ m → ∃ ts', run Pg0 DG n i [.ro (ns.map .int)] = .ok (.fz (.bool true)) ts')
    (hS : L2.SqL K H a (ns.map L2.V.int)) (hl : ns.length ≤ m) : spF K (run Pg0 DG n) i 1 [.ref a] H (fun v _ => v = .bl true) fun _ _ _ => False := by
  obtain ⟨_, h⟩ := hr ns hl
  exact law_sp hS h
end Md

/-! equality of plain things -/
namespace Md
open PySem (Str PyData)
theorem Sm.fit : ∀ (k : Nat) (d : Da), Sm k d → ∀ m, k ≤ m → fits m d = true := by
  intro k
  induction k with
  | zero =>
    intro d h m _
    cases d with
    | none => simp
    | str x => simp
    | int x => simp
    | _ => exact h.elim
  | succ k ih =>
    intro d h m hm
    obtain ⟨m, rfl⟩ : ∃ j, m = j + 1 := ⟨m - 1, by omega⟩
    cases d with
    | none => simp
    | str x => simp
    | int x => simp
    | tuple q => rw [fits_tuple]; exact (fitsAll_iff _ _).mpr fun d hd => ih d (h d hd) m (by omega)
    | list q => rw [fits_list]; exact (fitsAll_iff _ _).mpr fun d hd => ih d (h d hd) m (by omega)
    | _ => exact h.elim
theorem eqvAll_of {S : Da → Prop} (h : ∀ d e, S d → S e → (PyData.eqv d e = true ↔ d = e)) : ∀ xs ys : List Da, (∀ d ∈ xs, S d) → (∀ d ∈ ys, S d) → (PyData.eqvAll xs ys = true ↔ xs = ys)
  | [], [], _, _ => by simp [PyData.eqvAll]
  | [], _ :: _, _, _ => by simp [PyData.eqvAll]
  | _ :: _, [], _, _ => by simp [PyData.eqvAll]
  | x :: xs, y :: ys, h1, h2 => by
    have a := h x y (h1 x List.mem_cons_self) (h2 y List.mem_cons_self)
    have b := eqvAll_of h xs ys (fun d hd => h1 d (List.mem_cons_of_mem _ hd)) fun d hd => h2 d (List.mem_cons_of_mem _ hd)
    rw [PyData.eqvAll, Bool.and_eq_true, a, b, List.cons.injEq]
theorem Sm.eqv : ∀ (k : Nat) (d e : Da), Sm k d → Sm k e → (PyData.eqv d e = true ↔ d = e) := by
  intro k
  induction k with
  | zero =>
    intro d e h1 h2
    cases d <;> cases e <;> first | exact h1.elim | exact h2.elim | simp [PyData.eqv]
  | succ k ih =>
    intro d e h1 h2
    cases d with
    | tuple xs =>
      cases e with
      | tuple ys => rw [PyData.eqv, eqvAll_of ih xs ys h1 h2, PyData.tuple.injEq]
      | _ => first | exact h2.elim | simp [PyData.eqv]
    | list xs =>
      cases e with
      | list ys => rw [PyData.eqv, eqvAll_of ih xs ys h1 h2, PyData.list.injEq]
      | _ => first | exact h2.elim | simp [PyData.eqv]
    | _ => cases e <;> first | exact h1.elim | exact h2.elim | simp [PyData.eqv]
theorem sm_eq {k : Nat} {d e : Da} (h1 : Sm k d) (h2 : Sm k e) (hk : k ≤ 60) : Md.compare .eq d e = some (decide (d = e)) := by
  rw [cmp_eq, h1.fit k d 64 (by omega), h2.fit k e 64 (by omega)]
  have := Sm.eqv k d e h1 h2
  simp only [Bool.and_self, if_true]
  congr 1
  rw [Bool.eq_iff_iff, this, decide_eq_true_iff]
theorem sm_ne {k : Nat} {d e : Da} (h1 : Sm k d) (h2 : Sm k e) (hk : k ≤ 60) : Md.compare .ne d e = some (!decide (d = e)) := by
  rw [cmp_ne, h1.fit k d 64 (by omega), h2.fit k e 64 (by omega)]
  have := Sm.eqv k d e h1 h2
  simp only [Bool.and_self, if_true]
  congr 2
  rw [Bool.eq_iff_iff, this, decide_eq_true_iff]
theorem sm_any {k : Nat} {d : Da} {ds : List Da} (hd : Sm k d) (h : ∀ d ∈ ds, Sm k d) : (ds.any fun y => PyData.eqv y d) = has ds d := by
  unfold has
  rw [Bool.eq_iff_iff, List.any_eq_true, decide_eq_true_iff]
  exact ⟨fun ⟨y, hy, e⟩ => by rw [← (Sm.eqv k y d (h y hy) hd).mp e]; exact hy, fun hm => ⟨d, hm, (Sm.eqv k d d hd hd).mpr rfl⟩⟩
theorem sm_fitAll {k : Nat} {ds : List Da} (h : ∀ d ∈ ds, Sm k d) (m : Nat) (hk : k ≤ m) : fitsAll m ds = true := (fitsAll_iff _ _).mpr fun d hd => (h d hd).fit k d m hk
theorem sm_isin {k : Nat} {d : Da} {ds : List Da} (hd : Sm k d) (h : ∀ d ∈ ds, Sm k d) (hk : k ≤ 60) : Md.compare .isin d (.list ds) = some (has ds d) := by
  rw [← sm_any hd h]
  have f := hd.fit k d 64 (by omega)
  have g := sm_fitAll h 63 (by omega)
  have e : Md.compare .isin d (.list ds) = if fits 64 d && fitsAll 63 ds then some (ds.any fun y => PyData.eqv y d) else none := by cases d <;> rfl
  rw [e, f, g]; rfl
theorem sm_notin {k : Nat} {d : Da} {ds : List Da} (hd : Sm k d) (h : ∀ d ∈ ds, Sm k d) (hk : k ≤ 60) : Md.compare .notin d (.list ds) = some (!has ds d) := by
  rw [← sm_any hd h]
  have f := hd.fit k d 64 (by omega)
  have g := sm_fitAll h 63 (by omega)
  have e : Md.compare .notin d (.list ds) = if fits 64 d && fitsAll 63 ds then some (!ds.any fun y => PyData.eqv y d) else none := by cases d <;> rfl
  rw [e, f, g]; rfl
theorem sm_isint {k : Nat} {d : Da} {ds : List Da} (hd : Sm k d) (h : ∀ d ∈ ds, Sm k d) (hk : k ≤ 60) : Md.compare .isin d (.tuple ds) = some (has ds d) := by
  rw [← sm_any hd h]
  have f := hd.fit k d 64 (by omega)
  have g := sm_fitAll h 63 (by omega)
  have e : Md.compare .isin d (.tuple ds) = if fits 64 d && fitsAll 63 ds then some (ds.any fun y => PyData.eqv y d) else none := by cases d <;> rfl
  rw [e, f, g]; rfl
theorem sm_notint {k : Nat} {d : Da} {ds : List Da} (hd : Sm k d) (h : ∀ d ∈ ds, Sm k d) (hk : k ≤ 60) : Md.compare .notin d (.tuple ds) = some (!has ds d) := by
  rw [← sm_any hd h]
  have f := hd.fit k d 64 (by omega)
  have g := sm_fitAll h 63 (by omega)
  have e : Md.compare .notin d (.tuple ds) = if fits 64 d && fitsAll 63 ds then some (!ds.any fun y => PyData.eqv y d) else none := by cases d <;> rfl
  rw [e, f, g]; rfl
theorem Sm.up {k : Nat} {d : Da} (h : Sm 0 d) : Sm k d := by
  cases k with
  | zero => exact h
  | succ k => cases d <;> first | trivial | exact h.elim
theorem sm_vl {d : Da} (h : Vl d) (k : Nat) : Sm k d := by
  refine Sm.up ?_
  rcases h with ⟨i, rfl⟩ | ⟨x, rfl, _⟩ <;> trivial
theorem sm_list {k : Nat} {ds : List Da} (h : ∀ d ∈ ds, Sm k d) : Sm (k + 1) (.list ds) := h
theorem sm_tuple {k : Nat} {ds : List Da} (h : ∀ d ∈ ds, Sm k d) : Sm (k + 1) (.tuple ds) := h
end Md

/-! questions with values for head names, questions turned -/
namespace Md
open PySem (Str PyData)
/-- a term, its name given a value -/
noncomputable def vt (g : List Da) (v : Da) : Da → Da
  | .tuple [.str s, x] => if s = "var" ∧ x ∈ g then .tuple [.str "is", v] else .tuple [.str s, x]
  | d => d
noncomputable def va (g : List Da) (v : Da) : Da → Da
  | .tuple [t, .tuple ts] => .tuple [t, .tuple (ts.map (vt g v))]
  | d => d
section
variable {tbs ns g as : List Da} {v : Da}
theorem vt_tw {d : Da} (hv : Vl v) (h : Tw ns d) : Tw ns (vt g v d) := by
  rcases h with ⟨x, hx, wx, rfl⟩ | ⟨u, hu, rfl⟩
  · by_cases q : x ∈ g
    · have : vt g v (.tuple [.str "var", x]) = .tuple [.str "is", v] := by simp [vt, q]
      rw [this]; exact .inr ⟨v, hv, rfl⟩
    · have : vt g v (.tuple [.str "var", x]) = .tuple [.str "var", x] := by simp [vt, q]
      rw [this]; exact .inl ⟨x, hx, wx, rfl⟩
  · have h2 : ¬((("is" : Str)) = "var") := by decide
    have : vt g v (.tuple [.str "is", u]) = .tuple [.str "is", u] := by simp [vt, h2]
    rw [this]; exact .inr ⟨u, hu, rfl⟩
theorem va_at {a : Da} (hv : Vl v) (h : At tbs ns a) : At tbs ns (va g v a) ∧ Tn (va g v a) = Tn a := by
  obtain ⟨t, w, k, ts, rfl, ht, t0, k0, kw, lw, w4, hts⟩ := h
  refine ⟨⟨t, w, k, ts.map (vt g v), rfl, ht, t0, k0, kw, by rw [List.length_map]; exact lw, w4, fun d hd => ?_⟩, rfl⟩
  obtain ⟨e, he, rfl⟩ := List.mem_map.mp hd
  exact vt_tw hv (hts e he)
theorem nms_uniq {ts ts' g g' ns ns' : List Da} (h1 : ∀ d ∈ ts, Tw ns d) (h2 : ∀ d ∈ ts', Tw ns' d) (h : ∀ d, (.tuple [.str "var", d] ∈ ts ∧ d ∉ g) ↔ (.tuple [.str "var", d] ∈ ts' ∧ d ∉ g')) : Nms ts g = Nms ts' g' := by
  obtain ⟨a1, a2, a3⟩ := nms_spec (g := g) h1
  obtain ⟨b1, b2, b3⟩ := nms_spec (g := g') h2
  have hw := wds_wo (g := g) h1
  have hw' := wds_wo (g := g') h2
  obtain ⟨c1, c2⟩ := once_wo fun d hd => (hw d hd).2
  obtain ⟨e1, e2⟩ := once_wo fun d hd => (hw' d hd).2
  unfold Nms
  refine srt_wo (perm_of c1 e1 fun d => ?_) fun d hd => (hw' d ((e2 d).mp hd)).2
  rw [c2 d, e2 d, wds_mem h1 d, wds_mem h2 d]
  exact h d
theorem vt_var {ts : List Da} (hts : ∀ d ∈ ts, Tw ns d) (d : Da) : (.tuple [.str "var", d] ∈ ts.map (vt g v) ∧ d ∉ []) ↔ (.tuple [.str "var", d] ∈ ts ∧ d ∉ g) := by
  rw [List.mem_map]
  constructor
  · rintro ⟨⟨e, he, h⟩, _⟩
    rcases hts e he with ⟨x, hx, wx, rfl⟩ | ⟨u, hu, rfl⟩
    · by_cases q : x ∈ g
      · have : vt g v (.tuple [.str "var", x]) = .tuple [.str "is", v] := by simp [vt, q]
        rw [this] at h
        simp at h
        exact absurd h.1 (by decide)
      · have : vt g v (.tuple [.str "var", x]) = .tuple [.str "var", x] := by simp [vt, q]
        rw [this] at h
        simp at h
        subst h
        exact ⟨he, q⟩
    · have h2 : ¬((("is" : Str)) = "var") := by decide
      have : vt g v (.tuple [.str "is", u]) = .tuple [.str "is", u] := by simp [vt, h2]
      rw [this] at h
      simp at h
      exact absurd h.1 (by decide)
  · rintro ⟨h1, h2⟩
    exact ⟨⟨_, h1, by simp [vt, h2]⟩, by simp⟩
theorem va_kn {a : Da} (hv : Vl v) (h : At tbs ns a) : Kn tbs [] (va g v a) = Kn tbs g a ∧ An [] (va g v a) = An g a := by
  obtain ⟨t, w, k, ts, rfl, ht, t0, k0, kw, lw, w4, hts⟩ := h
  have e : va g v (.tuple [.int t, .tuple ts]) = .tuple [.int t, .tuple (ts.map (vt g v))] := rfl
  rw [e]
  have e1 : Kn tbs [] (.tuple [.int t, .tuple (ts.map (vt g v))]) = Nms ((ts.map (vt g v)).take k.toNat) [] := by simp only [Kn, ht]
  have e2 : Kn tbs g (.tuple [.int t, .tuple ts]) = Nms (ts.take k.toNat) g := by simp only [Kn, ht]
  rw [e1, e2]
  have htk : ∀ d ∈ ts.take k.toNat, Tw ns d := fun d hd => hts d (List.mem_of_mem_take hd)
  have hm : ∀ l : List Da, (∀ d ∈ l, Tw ns d) → ∀ d ∈ l.map (vt g v), Tw ns d := fun l hl d hd => by
    obtain ⟨e, he, rfl⟩ := List.mem_map.mp hd
    exact vt_tw hv (hl e he)
  refine ⟨?_, nms_uniq (hm ts hts) hts fun d => vt_var hts d⟩
  rw [← List.map_take]
  exact nms_uniq (hm _ htk) htk fun d => vt_var htk d
theorem va_kv (hv : Vl v) (ha : ∀ a ∈ as, At tbs ns a) : KN tbs [] (as.map (va g v)) = KN tbs g as ∧ VN [] (as.map (va g v)) = VN g as := by
  refine ⟨funext fun i => ?_, funext fun i => ?_⟩
  · unfold KN
    rw [List.getElem?_map]
    cases e : as[i]? with
    | none => rfl
    | some a => exact (va_kn hv (ha a (List.mem_of_getElem? e))).1
  · unfold VN
    rw [List.getElem?_map]
    cases e : as[i]? with
    | none => rfl
    | some a => exact (va_kn hv (ha a (List.mem_of_getElem? e))).2
theorem va_all (hv : Vl v) (ha : ∀ a ∈ as, At tbs ns a) : (∀ c, Kw tbs [] (as.map (va g v)) c = Kw tbs g as c) ∧ Pw tbs [] (as.map (va g v)) = Pw tbs g as ∧ Ey tbs [] (as.map (va g v)) = Ey tbs g as := by
  obtain ⟨h1, h2⟩ := va_kv (g := g) hv ha
  refine ⟨fun c => ?_, ?_, ?_⟩
  · unfold Kw; rw [h1, h2, List.length_map]
  · unfold Pw Yw; rw [h1, h2, List.length_map]
  · unfold Ey; rw [h1, h2, List.length_map]
theorem valued_ok (n : Nat) (hv : Vl v) (ha : ∀ a ∈ as, At tbs ns a) (hg : ∀ d ∈ g, Wo d) (la : as.length ≤ 1000) :
    run Pg0 DG (n + 1) i'l_valued [.fz (.tuple [.tuple g, .tuple as]), .fz v] = .ok (.fz (.tuple [.tuple [], .tuple (as.map (va g v))])) [.fz (.tuple [.tuple g, .tuple as]), .fz v] := by
  refine run_eq (run'l_valued _ _ _) ?_
  (apply sat_nx; focus ((conv => lhs; simp [argsOf, placesOf, putBack, put, putF, putAll, flg, R.view, R.viewR, kilS, SRes.kil, Md.wipe]); try rfl))
  refine sat_for' (fun b (x : List Da) => b.set 2 (some (.lst x))) (fun j x => x = (as.take j).map (va g v)) [] (itr_1 (d := .tuple as) (r := .t (.fz (.tuple as))) (by ((conv => lhs; simp [argsOf, placesOf, putBack, put, putF, putAll, flg, R.view, R.viewR, kilS, SRes.kil, Md.wipe]); try rfl)) rfl rfl) rfl rfl rfl rfl rfl rfl (fun j a x hd hx => ?_) (fun x hx => ?_)
  · have hj := (List.getElem?_eq_some_iff.mp hd).1
    have et : as.take (j + 1) = as.take j ++ [a] := by rw [List.take_add_one, hd]; rfl
    have lx : x.length ≤ 1000000 := by rw [hx, List.length_map, List.length_take]; omega
    obtain ⟨t, w, k, ts, rfl, ht, t0, k0, kw, lw, w4, hts⟩ := ha a (List.mem_of_getElem? hd)
    refine ⟨_, rfl, sat_kil ?_⟩
    (apply sat_nx; focus ((conv => lhs; simp [argsOf, placesOf, putBack, put, putF, putAll, flg, R.view, R.viewR, kilS, SRes.kil, Md.wipe]); try rfl))
    refine sat_for' (fun b (y : List Da) => b.set 5 (some (.lst y))) (fun i y => y = (ts.take i).map (vt g v)) [] (itr_1 (d := .tuple ts) rfl rfl rfl) rfl rfl rfl rfl rfl rfl (fun i d y hd hy => ?_) (fun y hy => ?_)
    · have hi := (List.getElem?_eq_some_iff.mp hd).1
      have et : ts.take (i + 1) = ts.take i ++ [d] := by rw [List.take_add_one, hd]; rfl
      have ly : y.length ≤ 1000000 := by rw [hy, List.length_map, List.length_take]; omega
      have hs := sl_lt ly
      refine ⟨_, rfl, sat_kil ?_⟩
      have fin : ∀ e, e = vt g v d → y ++ [e] = (ts.take (i + 1)).map (vt g v) := fun e he => by rw [et, List.map_append, ← hy, he]; rfl
      rcases hts d (List.mem_of_getElem? hd) with ⟨x, hx, wx, rfl⟩ | ⟨u, hu, rfl⟩
      · have hin := isin_t (ds := g) (.inr wx) (fun d hd => .inr (hg d hd))
        by_cases q : x ∈ g
        · have hq : has g x = true := by simp [has, q]
          rw [hq] at hin
          (apply sat_ift; focus ((conv => lhs; simp [argsOf, placesOf, putBack, put, putF, putAll, flg, R.view, R.viewR, kilS, SRes.kil, Md.wipe, hin]); try rfl))
          (apply sat_nx; focus ((conv => lhs; simp [argsOf, placesOf, putBack, put, putF, putAll, flg, R.view, R.viewR, kilS, SRes.kil, Md.wipe, hs]); try rfl))
          refine sat_nop ?_
          exact ⟨_, rfl, fin _ (by simp [vt, q])⟩
        · have hq : has g x = false := by simp [has, q]
          rw [hq] at hin
          apply sat_iff
          · ((conv => lhs; simp [argsOf, placesOf, putBack, put, putF, putAll, flg, R.view, R.viewR, kilS, SRes.kil, Md.wipe, hin]); try rfl)
          · (apply sat_nx; focus ((conv => lhs; simp [argsOf, placesOf, putBack, put, putF, putAll, flg, R.view, R.viewR, kilS, SRes.kil, Md.wipe, hs]); try rfl))
            refine sat_nop ?_
            exact ⟨_, rfl, fin _ (by simp [vt, q])⟩
      · have h2 : ¬((("is" : Str)) = "var") := by decide
        apply sat_iff
        · ((conv => lhs; simp [argsOf, placesOf, putBack, put, putF, putAll, flg, R.view, R.viewR, kilS, SRes.kil, Md.wipe, h2]); try rfl)
        · (apply sat_nx; focus ((conv => lhs; simp [argsOf, placesOf, putBack, put, putF, putAll, flg, R.view, R.viewR, kilS, SRes.kil, Md.wipe, hs]); try rfl))
          refine sat_nop ?_
          exact ⟨_, rfl, fin _ (by simp [vt, h2])⟩
    · rw [List.take_length] at hy
      (apply sat_nx; focus ((conv => lhs; simp [argsOf, placesOf, putBack, put, putF, putAll, flg, R.view, R.viewR, kilS, SRes.kil, Md.wipe, sl_lt lx]); try rfl))
      refine ⟨_, rfl, ?_⟩
      rw [et, List.map_append, ← hx, hy]
      rfl
  · rw [List.take_length] at hx
    (apply sat_ret; focus ((conv => lhs; simp [argsOf, placesOf, putBack, put, putF, putAll, flg, R.view, R.viewR, kilS, SRes.kil, Md.wipe]); try rfl))
    rw [hx]
    rfl
end
/-! ### turned -/
theorem od_ns {m : Nat} {x : List Da} (h : Od m x) : ∃ f : List Nat, x = Ns f ∧ f.Nodup ∧ f.length = m ∧ ∀ i ∈ f, i < m := by
  obtain ⟨h1, h2, h3⟩ := h
  have key : ∀ x : List Da, (∀ d ∈ x, ∃ i : Nat, d = .int (i : Int) ∧ i < m) → ∃ f : List Nat, x = Ns f ∧ ∀ i ∈ f, i < m := by
    intro x
    induction x with
    | nil => exact fun _ => ⟨[], rfl, fun _ h => by cases h⟩
    | cons d x ih =>
      intro h
      obtain ⟨f, rfl, hf⟩ := ih fun d hd => h d (List.mem_cons_of_mem _ hd)
      obtain ⟨i, rfl, hi⟩ := h d List.mem_cons_self
      refine ⟨i :: f, rfl, fun j hj => ?_⟩
      rcases List.mem_cons.mp hj with e | e
      · rw [e]; exact hi
      · exact hf j e
  obtain ⟨f, rfl, hf⟩ := key x h3
  refine ⟨f, rfl, ?_, by rw [ns_len] at h1; exact h1, hf⟩
  exact List.Pairwise.of_map (f := fun (i : Nat) => PyData.int (i : Int)) (R := fun a b => a ≠ b) (S := fun a b => a ≠ b) (fun a b hab e => hab (by rw [e])) h2
/-- where the order is all -/
theorem ord_all {n : Nat} {f : List Nat} (nd : f.Nodup) (hl : f.length = n) (hf : ∀ i ∈ f, i < n) (i : Nat) (hi : i < n) : i ∈ f := Classical.byContradiction fun q => by
  have h1 := List.Nodup.length_le_of_subset (l₂ := (List.range n).filter fun j => !decide (j = i)) nd fun j hj => List.mem_filter.mpr ⟨List.mem_range.mpr (hf j hj), by
    have : j ≠ i := fun e => q (e ▸ hj)
    simp [this]⟩
  have h2 := Sw.filter_lt (p := fun j => !decide (j = i)) (q := fun _ => true) (List.range n) (fun _ _ _ => rfl) ⟨i, List.mem_range.mpr hi, rfl, by simp⟩
  rw [List.filter_eq_self.mpr (fun _ _ => rfl), List.length_range] at h2
  omega
section
variable {tbs ns g as : List Da} {f : List Nat}
/-- the atoms in another order -/
def tas (as : List Da) (f : List Nat) : List Da := f.map fun i => as[i]?.getD .none
def sg (f : List Nat) (i : Nat) : Nat := f[i]?.getD 0
structure Ord (n : Nat) (f : List Nat) : Prop where
  nd : f.Nodup
  len : f.length = n
  lt : ∀ i ∈ f, i < n
theorem Ord.sg {n : Nat} (h : Ord n f) {i : Nat} (hi : i < n) : f[i]? = some (sg f i) ∧ Md.sg f i < n ∧ f.idxOf (Md.sg f i) = i := by
  have hl : i < f.length := by rw [h.len]; exact hi
  have e : f[i]? = some f[i] := List.getElem?_eq_getElem hl
  have e2 : Md.sg f i = f[i] := by simp [Md.sg, e]
  rw [e2]
  exact ⟨e, h.lt _ (List.getElem_mem hl), h.nd.idxOf_getElem i hl⟩
theorem Ord.ix {n : Nat} (h : Ord n f) {i : Nat} (hi : i < n) : f.idxOf i < n ∧ Md.sg f (f.idxOf i) = i := by
  have hm := ord_all h.nd h.len h.lt i hi
  have hl : f.idxOf i < f.length := List.idxOf_lt_length_iff.mpr hm
  refine ⟨by rw [← h.len]; exact hl, ?_⟩
  simp [Md.sg, List.getElem?_eq_getElem hl]
theorem tas_at (h : Ord as.length f) {i : Nat} (hi : i < as.length) : (tas as f)[i]? = as[sg f i]? := by
  obtain ⟨h1, h2, _⟩ := h.sg hi
  unfold tas
  rw [List.getElem?_map, h1]
  simp [List.getElem?_eq_getElem h2]
theorem tas_len (h : Ord as.length f) : (tas as f).length = as.length := by unfold tas; rw [List.length_map, h.len]
theorem tas_mem (h : Ord as.length f) {a : Da} (ha : a ∈ tas as f) : a ∈ as := by
  obtain ⟨i, hi, e⟩ := List.getElem_of_mem ha
  rw [tas_len h] at hi
  have := tas_at h hi
  rw [List.getElem?_eq_getElem (by rw [tas_len h]; exact hi), e] at this
  exact List.mem_of_getElem? this.symm
theorem tas_kv (h : Ord as.length f) {i : Nat} (hi : i < as.length) : KN tbs g (tas as f) i = KN tbs g as (sg f i) ∧ VN g (tas as f) i = VN g as (sg f i) := by
  have e := tas_at h hi
  unfold KN VN
  rw [e]
  exact ⟨rfl, rfl⟩
theorem tas_cl (h : Ord as.length f) {c : Nat} (hc : c < as.length) (d : Da) : Sw.Cl as.length (KN tbs g (tas as f)) (VN g (tas as f)) c d ↔ Sw.Cl as.length (KN tbs g as) (VN g as) (sg f c) d := by
  constructor
  · exact fun q => Sw.Cl.map (s := sg f) (t := f.idxOf) (fun i hi => (h.sg hi).2) (fun i hi => h.ix hi) (fun i d hi => by rw [(tas_kv (g := g) (tbs := tbs) h hi).1]) (fun i d hi => by rw [(tas_kv (g := g) (tbs := tbs) h hi).2]) hc q
  · intro q
    have := Sw.Cl.map (K := KN tbs g (tas as f)) (V := VN g (tas as f)) (s := f.idxOf) (t := sg f) (fun i hi => h.ix hi) (fun i hi => (h.sg hi).2) (fun i d hi => by rw [(tas_kv (g := g) (tbs := tbs) h (h.ix hi).1).1, (h.ix hi).2]) (fun i d hi => by rw [(tas_kv (g := g) (tbs := tbs) h (h.ix hi).1).2, (h.ix hi).2]) (h.sg hc).2.1 q
    rw [(h.sg hc).2.2] at this
    exact this
theorem sg_inj (h : Ord as.length f) {i j : Nat} (hi : i < as.length) (hj : j < as.length) (e : sg f i = sg f j) : i = j := by
  have := (h.sg hi).2.2
  rw [e, (h.sg hj).2.2] at this
  exact this.symm
theorem tas_sy (h : Ord as.length f) {c j : Nat} (hc : c < as.length) (hj : j < as.length) : Sw.Sy as.length (KN tbs g (tas as f)) (VN g (tas as f)) c j ↔ Sw.Sy as.length (KN tbs g as) (VN g as) (sg f c) (sg f j) := by
  constructor
  · rintro ⟨h1, h2⟩
    refine ⟨fun e => h1 (sg_inj h hj hc e), ?_⟩
    exact Sw.Rc.map (s := sg f) (t := f.idxOf) (fun i hi => (h.sg hi).2) (fun i hi => h.ix hi) (fun i d hi => by rw [(tas_kv (g := g) (tbs := tbs) h hi).1]) (fun i d hi => by rw [(tas_kv (g := g) (tbs := tbs) h hi).2]) hc (fun d q => (tas_cl h hc d).mpr q) h2
  · rintro ⟨h1, h2⟩
    refine ⟨fun e => h1 (by rw [e]), ?_⟩
    have := Sw.Rc.map (K := KN tbs g (tas as f)) (V := VN g (tas as f)) (s := f.idxOf) (t := sg f) (fun i hi => h.ix hi) (fun i hi => (h.sg hi).2) (fun i d hi => by rw [(tas_kv (g := g) (tbs := tbs) h (h.ix hi).1).1, (h.ix hi).2]) (fun i d hi => by rw [(tas_kv (g := g) (tbs := tbs) h (h.ix hi).1).2, (h.ix hi).2]) (h.sg hc).2.1 (fun d q => (tas_cl h hc d).mp (by rw [(h.sg hc).2.2] at q; exact q)) h2
    rw [(h.sg hc).2.2, (h.sg hj).2.2] at this
    exact this
theorem tas_ey (h : Ord as.length f) {c j : Nat} (hc : c < as.length) (hj : j < as.length) : Ey tbs g (tas as f) c j ↔ Ey tbs g as (sg f c) (sg f j) := by
  unfold Ey
  rw [tas_len h, tas_sy h hc hj]
  exact ⟨fun q => ⟨(h.sg hc).2.1, (h.sg hj).2.1, q.2.2⟩, fun q => ⟨hc, hj, q.2.2⟩⟩
theorem tas_ring (h : Ord as.length f) : (∃ r, Sw.IsR as.length (Ey tbs g (tas as f)) r) ↔ ∃ r, Sw.IsR as.length (Ey tbs g as) r := by
  constructor
  · rintro ⟨r, hr⟩
    exact ⟨_, hr.map (s := sg f) (fun a b ha hb e => sg_inj h ha hb e) (fun a ha => (h.sg ha).2.1) fun a b ha hb q => (tas_ey h ha hb).mp q⟩
  · rintro ⟨r, hr⟩
    refine ⟨_, hr.map (s := f.idxOf) (fun a b ha hb e => ?_) (fun a ha => (h.ix ha).1) fun a b ha hb q => (tas_ey h (h.ix ha).1 (h.ix hb).1).mpr (by rw [(h.ix ha).2, (h.ix hb).2]; exact q)⟩
    rw [← (h.ix ha).2, e, (h.ix hb).2]
theorem tas_kw (n : Nat) (h : Ord as.length f) (ha : ∀ a ∈ as, At tbs ns a) (hg : ∀ d ∈ g, Wo d) (la : as.length ≤ 1000) (ln : ns.length ≤ 500) {c : Nat} (hc : c < as.length) : Kw tbs g (tas as f) c = Kw tbs g as (sg f c) := by
  obtain ⟨_, _, _, l, el, ik⟩ := known_to_ok n (fun a q => ha a (tas_mem h q)) hg (by rw [tas_len h]; exact la) ln (by rw [tas_len h]; exact hc) (g := g)
  rw [tas_len h] at ik
  have ik2 : Sw.IsK as.length (KN tbs g as) (VN g as) (sg f c) l := ⟨ik.1, fun d => (ik.2 d).trans (tas_cl h hc d)⟩
  rw [el, Kw_of ik2 fun d hd => (cl_wo ha ((ik2.2 d).mp hd)).2]
/-! pairs in order -/
theorem pr_le {p q : Nat × Nat} : PySem.W.dataLe false id (pr p) (pr q) = true ↔ ¬Lx q p := by
  rw [PySem.W.dataLe_eq]
  show (!PySem.W.dataLt (pr q) (pr p)) = true ↔ _
  unfold pr
  rw [PySem.W.dataLt_ii]
  unfold Lx
  simp only [Bool.not_eq_true', decide_eq_false_iff_not]
  constructor
  · intro h h2; exact h (by omega)
  · intro h h2; exact h (by omega)
theorem sorted_pr (ps : List (Nat × Nat)) : call1 .sorted (.list (ps.map pr)) = some (.lst (srt (ps.map pr))) := by
  have h1 : alikeB (ps.map pr) = true := by
    refine List.all_eq_true.mpr fun d hd => List.all_eq_true.mpr fun e he => ?_
    obtain ⟨x, _, rfl⟩ := List.mem_map.mp hd
    obtain ⟨y, _, rfl⟩ := List.mem_map.mp he
    simp [pr, PySem.W.alike, PySem.W.alikeAll]
  have h2 : sortB (ps.map pr) = true := by
    unfold sortB
    rw [Bool.or_eq_true, Bool.or_eq_true]
    exact .inl (.inl (List.all_eq_true.mpr fun d hd => by obtain ⟨x, _, rfl⟩ := List.mem_map.mp hd; rfl))
  have h3 : fitsAll 64 (ps.map pr) = true := (fitsAll_iff _ _).mpr fun d hd => by
    obtain ⟨x, _, rfl⟩ := List.mem_map.mp hd
    simp [pr, fitsAll]
  show (if (alikeB (ps.map pr) && sortB (ps.map pr) && fitsAll 64 (ps.map pr)) = true then some (T.lst (srt (ps.map pr))) else none) = _
  rw [h1, h2, h3]
  rfl
theorem srt_pr {ps qs : List (Nat × Nat)} (p : ps.Perm qs) (hs : qs.Pairwise Lx) : srt (ps.map pr) = qs.map pr := by
  refine srt_uniq (p.map _) (fun a ha b hb h1 h2 => ?_) (List.pairwise_map.mpr (hs.imp fun {a b} h => pr_le.mpr fun h' => by unfold Lx at h h'; omega))
  obtain ⟨⟨a1, a2⟩, _, rfl⟩ := List.mem_map.mp ha
  obtain ⟨⟨b1, b2⟩, _, rfl⟩ := List.mem_map.mp hb
  have h1 := pr_le.mp h1
  have h2 := pr_le.mp h2
  unfold Lx at h1 h2
  have e1 : a1 = b1 := by simp only at h1 h2; omega
  have e2 : a2 = b2 := by simp only at h1 h2; omega
  rw [e1, e2]
theorem lx_nd {ps : List (Nat × Nat)} (h : ps.Pairwise Lx) : ps.Nodup := h.imp fun {a b} h e => by subst e; unfold Lx at h; omega
theorem tas_pairs (h : Ord as.length f) : srt (((Pp tbs g (tas as f)).map fun p => (sg f p.1, sg f p.2)).map pr) = Pw tbs g as := by
  rw [pw_pp]
  refine srt_pr ((List.perm_ext_iff_of_nodup ?_ (lx_nd pp_ord)).mpr fun p => ?_) pp_ord
  · refine List.pairwise_map.mpr ((lx_nd pp_ord).imp_of_mem fun {a b} ha hb hab e => hab ?_)
    obtain ⟨a1, a2⟩ := a
    obtain ⟨b1, b2⟩ := b
    have ha := pp_mem.mp ha
    have hb := pp_mem.mp hb
    rw [tas_len h] at ha hb
    simp only [Prod.mk.injEq] at e
    rw [sg_inj h ha.1 hb.1 e.1, sg_inj h ha.2.1 hb.2.1 e.2]
  · obtain ⟨p1, p2⟩ := p
    rw [List.mem_map]
    constructor
    · rintro ⟨⟨a, b⟩, hab, e⟩
      cases e
      have hab' := pp_mem.mp hab
      rw [tas_len h] at hab'
      exact pp_mem.mpr ((tas_ey h hab'.1 hab'.2.1).mp (pp_mem.mp hab))
    · intro hp
      have hp := pp_mem.mp hp
      refine ⟨(f.idxOf p1, f.idxOf p2), pp_mem.mpr ((tas_ey h (h.ix hp.1).1 (h.ix hp.2.1).1).mpr ?_), ?_⟩
      · rw [(h.ix hp.1).2, (h.ix hp.2.1).2]; exact hp
      · simp only [(h.ix hp.1).2, (h.ix hp.2.1).2]
theorem turned_ok (n : Nat) {c : Int} {x : Da} (la : 1 ≤ as.length) (la' : as.length ≤ 1000) :
    Runs (n + 1) i'l_turned_2 [.fz (.tuple [x, .tuple as]), .fz (.int c)] fun t => ∃ f, t = .fz (.tuple [.list (Ns f), .tuple [x, .tuple (tas as f)]]) ∧ Ord as.length f := by
  refine runs_of (run'l_turned_2 _ _ _) ?_
  (apply sat_nx; focus ((conv => lhs; simp [argsOf, placesOf, putBack, put, putF, putAll, flg, R.view, R.viewR, kilS, SRes.kil, Md.wipe]); try rfl))
  have lp : (0 : Int) < as.length := by omega
  have od := od_mk c as.length (by omega)
  apply sat_nx
  focus
    ((conv => lhs; simp [argsOf, placesOf, putBack, put, putF, putAll, flg, R.view, R.viewR, kilS, SRes.kil, Md.wipe]); try rfl)
    (unfold c'l_turned_2'1; rw [lc1r (as.length : Int) (fun (j : Nat) => .int ((c + (j : Int)) % (as.length : Int))) ?hi ?hv ?h0 ?h1 ?hl ?hp ?hb]; (case hi => (first | rfl | ((conv => lhs; simp [argsOf, placesOf, putBack, put, putF, putAll, flg, R.view, R.viewR, kilS, SRes.kil, Md.wipe]); try rfl))); (case hv => (first | rfl | simp)); (case h0 => omega); (case h1 => omega); (case hl => rfl); (case hp => rfl))
    case hb =>
      intro j hj
      exact ⟨_, _, rfl, rfl, by ((conv => lhs; simp [argsOf, placesOf, putBack, put, putF, putAll, flg, R.view, R.viewR, kilS, SRes.kil, Md.wipe, binop_mod _ _ lp]); try rfl), rfl⟩
    ((conv => lhs; simp [argsOf, placesOf, putBack, put, putF, putAll, flg, R.view, R.viewR, kilS, SRes.kil, Md.wipe]); try rfl)
  try rw [Int.toNat_natCast]
  generalize (List.range as.length).map (fun (j : Nat) => PyData.int ((c + (j : Int)) % (as.length : Int))) = od0 at od
  refine sat_join (fun b (x : List Da) => b.set 3 (some (.lst x))) (fun x => Od as.length x) (by ((conv => lhs; simp [argsOf, placesOf, putBack, put, putF, putAll, flg, R.view, R.viewR, kilS, SRes.kil, Md.wipe]); try rfl)) (fun _ => ?_) (fun _ => ?_) (fun z hz => ?_)
  · (apply sat_nx; focus ((conv => lhs; simp [argsOf, placesOf, putBack, put, putF, putAll, flg, R.view, R.viewR, kilS, SRes.kil, Md.wipe]); try rfl))
    exact ⟨_, rfl, od.rev⟩
  · exact ⟨_, rfl, od⟩
  · obtain ⟨f, rfl, f1, f2, f3⟩ := od_ns hz
    have lz := ns_len f
    apply sat_ret
    focus
      ((conv => lhs; simp [argsOf, placesOf, putBack, put, putF, putAll, flg, R.view, R.viewR, kilS, SRes.kil, Md.wipe, R.take]); try rfl)
      (unfold c'l_turned_2'0; rw [lc1m (fun d => match d with | .int i => as[i.toNat]?.getD .none | _ => .none) (Ns f) ?hi ?hv ?hw ?hl ?hp ?hz ?hb]; (case hi => (first | rfl | ((conv => lhs; simp [argsOf, placesOf, putBack, put, putF, putAll, flg, R.view, R.viewR, kilS, SRes.kil, Md.wipe]); try rfl))); (case hv => (first | rfl | simp)); (case hw => (first | rfl | ((conv => lhs; simp [argsOf, placesOf, putBack, put, putF, putAll, flg, R.view, R.viewR, kilS, SRes.kil, Md.wipe]); try rfl))); (case hl => rfl); (case hp => rfl))
      case hz => omega
      case hb =>
        intro d hd
        obtain ⟨i, hi, rfl⟩ := List.mem_map.mp hd
        have hi := f3 i hi
        have e := atI_at hi
        refine ⟨_, .fz as[i], rfl, rfl, by ((conv => lhs; simp [argsOf, placesOf, putBack, put, putF, putAll, flg, R.view, R.viewR, kilS, SRes.kil, Md.wipe, e]); try rfl), ?_⟩
        show as[i] = as[(i : Int).toNat]?.getD .none
        rw [Int.toNat_natCast, List.getElem?_eq_getElem hi]; rfl
      ((conv => lhs; simp [argsOf, placesOf, putBack, put, putF, putAll, flg, R.view, R.viewR, kilS, SRes.kil, Md.wipe]); try rfl)
    refine ⟨_, rfl, f, ?_, ⟨f1, f2, f3⟩⟩
    show T.fz _ = T.fz _
    congr 5
    unfold Ns tas
    rw [List.map_map]
    rfl
end
end Md

/-! the walks of k65 -/
namespace Md
open PySem (Str PyData)
theorem sat_whls {P : Pg} {np : Nat → Bool} {cb : Nat → List T → FRes} {Q : SRes → Prop} {c : E} {rest body : S} {sl : Sl} {α : Type} {m : Nat} (I : Sl → α → Sl) (J : α → Prop) (mu : α → Nat) (x0 : α) (h0 : sl = I sl x0) (j0 : J x0) (hm : mu x0 < m)
    (hb : ∀ x, J x → ∃ kb, testOf (ev P np cb c (I sl x)) = .ok kb (I sl x) ∧ (kb = true → Sat (LQ [] Q (fun s => ∃ x', s = I sl x' ∧ J x' ∧ mu x' < mu x) (fun s => Sat Q (exec P np cb rest s))) (exec P np cb body (I sl x))) ∧ (kb = false → Sat Q (exec P np cb rest (I sl x)))) :
    Sat Q (exec P np cb (.seq (.whl m c body) rest) sl) := sat_whl I J mu x0 h0 j0 hm fun x hx => by
  obtain ⟨kb, h1, h2, h3⟩ := hb x hx
  exact ⟨kb, _, h1, h2, h3⟩
theorem sat_joins {P : Pg} {np : Nat → Bool} {cb : Nat → List T → FRes} {Q : SRes → Prop} {c : E} {s t rest : S} {sl : Sl} {α : Type} (I : Sl → α → Sl) (J : α → Prop) (k : Bool) (h : testOf (ev P np cb c sl) = .ok k sl) (ht : k = true → Sat (JQ Q fun s => ∃ x, s = I sl x ∧ J x) (exec P np cb s sl)) (hf : k = false → Sat (JQ Q fun s => ∃ x, s = I sl x ∧ J x) (exec P np cb t sl))
    (hk : ∀ x, J x → Sat Q (exec P np cb rest (I sl x))) : Sat Q (exec P np cb (.seq (.ifs c s t) rest) sl) := sat_join I J h ht hf hk
theorem sset_ok2 {P : Pg} {np : Nat → Bool} {cb : Nat → List T → FRes} {a : E} {x0 : Option T} {s0 : Sl} {r : R} {q : List Da} (h : ev P np cb a (x0 :: s0) = .ok r (x0 :: s0)) (hv : r.settle.view (x0 :: s0) = some (.list q)) (hw : ∀ d ∈ q, Wo d) (lw : q.length < 4000) :
    ev P np cb (.sset a) (x0 :: s0) = .ok (.t (.lst (srt (onceD q)))) (x0 :: s0) := by
  have hk : q.all kOk = true := List.all_eq_true.mpr fun d hd => wo_kOk (hw d hd)
  have ha := wo_alike hw
  rw [ev_sset, h]
  simp only [bind_ok, hv, hk, ha, lw, decide_true, Bool.and_self, if_true]
def Wd' (ws : List Da) (i : Nat) : Da := ws[i]?.getD .none
theorem wd_at {ws : List Da} {i : Nat} (h : i < ws.length) : L2.atI ws (i : Int) = some (Wd' ws i) ∧ Wd' ws i ∈ ws := by
  have e : Wd' ws i = ws[i] := by simp [Wd', List.getElem?_eq_getElem h]
  rw [e]
  exact ⟨atI_at h, List.getElem_mem h⟩
theorem wd_inj {ws : List Da} (nd : ws.Nodup) {i j : Nat} (hi : i < ws.length) (hj : j < ws.length) (e : Wd' ws i = Wd' ws j) : i = j := by
  have e1 : Wd' ws i = ws[i] := by simp [Wd', List.getElem?_eq_getElem hi]
  have e2 : Wd' ws j = ws[j] := by simp [Wd', List.getElem?_eq_getElem hj]
  rw [e1, e2] at e
  exact (List.getElem_inj nd).mp e
theorem next_ok (n : Nat) (N k : Nat) (c : Bool) : run Pg0 DG (n + 1) i'l_next [.fz (.int (N : Int)), .fz (.bool c), .fz (.int (k : Int))] = .ok (.fz (.int (Sw.nxr N c k : Int))) [.fz (.int (N : Int)), .fz (.bool c), .fz (.int (k : Int))] := by
  refine run_eq (run'l_next _ _ _ _) ?_
  by_cases q : (c && k + 1 == N) = true
  · have e : Sw.nxr N c k = 0 := by unfold Sw.nxr; rw [if_pos q]
    rw [Bool.and_eq_true] at q
    obtain ⟨rfl, q⟩ := q
    have q : ((k : Int) + 1 = (N : Int)) := by have : k + 1 = N := by simpa using q
                                               omega
    rw [e]
    (apply sat_ift; focus ((conv => lhs; simp [argsOf, placesOf, putBack, put, putF, putAll, flg, R.view, R.viewR, kilS, SRes.kil, Md.wipe, q]); try rfl))
    (apply sat_ret; focus ((conv => lhs; simp [argsOf, placesOf, putBack, put, putF, putAll, flg, R.view, R.viewR, kilS, SRes.kil, Md.wipe]); try rfl))
    rfl
  · have e : Sw.nxr N c k = k + 1 := by unfold Sw.nxr; rw [if_neg q]
    rw [e]
    apply sat_ifs (k := false)
    · cases c with
      | false => simp [argsOf, placesOf, putBack, put, putF, putAll, flg, R.view, R.viewR, kilS, SRes.kil, Md.wipe]
      | true =>
        have q : ¬((k : Int) + 1 = (N : Int)) := by
          have : ¬(k + 1 = N) := by simpa using q
          omega
        simp [argsOf, placesOf, putBack, put, putF, putAll, flg, R.view, R.viewR, kilS, SRes.kil, Md.wipe, q]
    · exact fun h => nomatch h
    · intro _
      refine sat_nop ?_
      (apply sat_ret; focus ((conv => lhs; simp [argsOf, placesOf, putBack, put, putF, putAll, flg, R.view, R.viewR, kilS, SRes.kil, Md.wipe]); try rfl))
      rfl
def fxD : Option Nat → Da
  | none => .none
  | some f => .int (f : Int)
theorem cmp_fx (k : Nat) (fx : Option Nat) : Md.compare .ne (.int (k : Int)) (fxD fx) = some (!decide (fx = some k)) := by
  cases fx with
  | none => rfl
  | some f =>
    show Md.compare .ne (.int (k : Int)) (.int (f : Int)) = _
    rw [cmp_nei]
    congr 2
    exact decide_eq_decide.mpr ⟨fun h => by congr 1; omega, fun h => by cases h; rfl⟩
theorem fx_notN (fx : Option Nat) : Md.compare .notN (fxD fx) .none = some (decide (fx ≠ none)) := by cases fx <;> rfl
/-- the names told by numbers -/
def Wm (ws : List Da) (l : List Nat) : List Da := l.map (Wd' ws)
theorem wm_snoc (ws : List Da) (l : List Nat) (i : Nat) : Wm ws (l ++ [i]) = Wm ws l ++ [Wd' ws i] := by simp [Wm]
theorem lnames_ok (n : Nat) {ws : List Da} (hw : ∀ d ∈ ws, Wo d) (nd : ws.Nodup) (l5 : ws.length = 5) {N k : Nat} {c : Bool} {fx : Option Nat} (hN : N ≤ 4) (hk : k < N) (hfx : ∀ f, fx = some f → f ≤ N)
    (hd : Sw.wd N c k 6 (fx.getD k) = true) (hall : ∀ d ∈ Sw.nmr N c fx k, d < 5) :
    run Pg0 DG (n + 2) i'l_names_3 [.lst ws, .fz (.int (N : Int)), .fz (.bool c), .fz (fxD fx), .fz (.int (k : Int))] = .ok (.lst (srt (onceD (Wm ws (Sw.nmr N c fx k))))) [.lst ws, .fz (.int (N : Int)), .fz (.bool c), .fz (fxD fx), .fz (.int (k : Int))] := by
  refine run_eq (run'l_names_3 _ _ _ _ _ _) ?_
  have nxb : ∀ h, h < N → Sw.nxr N c h ≤ N := fun h hh => by unfold Sw.nxr; split <;> omega
  have wk1 := wd_at (ws := ws) (i := k) (by omega)
  unfold Sw.nmr at hall ⊢
  (apply sat_nx; focus ((conv => lhs; simp [argsOf, placesOf, putBack, put, putF, putAll, flg, R.view, R.viewR, kilS, SRes.kil, Md.wipe]); try rfl))
  refine sat_join (fun b (x : List Nat) => b.set 5 (some (.lst (Wm ws x)))) (fun x => x = if fx = some k then [] else [k]) (by ((conv => lhs; simp [argsOf, placesOf, putBack, put, putF, putAll, flg, R.view, R.viewR, kilS, SRes.kil, Md.wipe, cmp_fx]); try rfl)) (fun q => ?_) (fun q => ?_) (fun x hx => ?_)
  · have q : ¬fx = some k := by simpa using q
    (apply sat_nx; focus ((conv => lhs; simp [argsOf, placesOf, putBack, put, putF, putAll, flg, R.view, R.viewR, kilS, SRes.kil, Md.wipe, wk1.1]); try rfl))
    exact ⟨[k], rfl, by rw [if_neg q]⟩
  · have q : fx = some k := by simpa using q
    exact ⟨[], rfl, by rw [if_pos q]⟩
  subst hx
  have l0 : (if fx = some k then [] else [k]).length ≤ 1 := by split <;> simp
  generalize (if fx = some k then [] else [k]) = f0 at *
  (apply sat_nx; focus ((conv => lhs; simp [argsOf, placesOf, putBack, put, putF, putAll, flg, R.view, R.viewR, kilS, SRes.kil, Md.wipe]); try rfl))
  refine sat_join (fun b (x : Nat) => b.set 6 (some (.fz (.int (x : Int))))) (fun x => x = fx.getD k) (by ((conv => lhs; simp [argsOf, placesOf, putBack, put, putF, putAll, flg, R.view, R.viewR, kilS, SRes.kil, Md.wipe, fx_notN]); try rfl)) (fun q => ?_) (fun q => ?_) (fun x hx => ?_)
  · cases fx with
    | none => simp at q
    | some f =>
      (apply sat_nx; focus ((conv => lhs; simp [argsOf, placesOf, putBack, put, putF, putAll, flg, R.view, R.viewR, kilS, SRes.kil, Md.wipe]); try rfl))
      exact ⟨f, rfl, rfl⟩
  · cases fx with
    | none => exact ⟨k, rfl, rfl⟩
    | some f => simp at q
  subst hx
  have hst : fx.getD k ≤ N := by
    cases fx with
    | none => exact Nat.le_of_lt hk
    | some f => exact hfx f rfl
  generalize fx.getD k = st at *
  have htl : f0.length + 6 ≤ 7 := by omega
  generalize htot : f0 ++ Sw.wk N c k 6 st = tot at *
  refine sat_whls (fun b (x : List Nat × Nat × Nat) => (b.set 5 (some (.lst (Wm ws x.1)))).set 6 (some (.fz (.int (x.2.1 : Int))))) (fun x => x.1 ++ Sw.wk N c k x.2.2 x.2.1 = tot ∧ Sw.wd N c k x.2.2 x.2.1 = true ∧ x.2.1 ≤ N ∧ x.1.length + x.2.2 ≤ f0.length + 6) (fun x => x.2.2) (f0, st, 6) rfl ⟨htot, hd, hst, Nat.le_refl _⟩ (by show 6 < 100000; decide) (fun x hx => ?_)
  obtain ⟨acc, here, m⟩ := x
  obtain ⟨h1, h2, h3, h4⟩ := hx
  have h1 : acc ++ Sw.wk N c k m here = tot := h1
  have h2 : Sw.wd N c k m here = true := h2
  have h3 : here ≤ N := h3
  have h4 : acc.length + m ≤ f0.length + 6 := h4
  refine ⟨Sw.cw N k here, ?_, fun hq => ?_, fun hq => ?_⟩
  · unfold Sw.cw
    by_cases e : here = k
    · subst e
      simp [argsOf, placesOf, putBack, put, putF, putAll, flg, R.view, R.viewR, kilS, SRes.kil, Md.wipe]
    · have e' : ¬((here : Int) = (k : Int)) := by omega
      simp [argsOf, placesOf, putBack, put, putF, putAll, flg, R.view, R.viewR, kilS, SRes.kil, Md.wipe, e', e]
  · have hq : Sw.cw N k here = true := hq
    cases m with
    | zero =>
      unfold Sw.wd at h2
      rw [hq] at h2
      cases h2
    | succ m =>
      unfold Sw.wd at h2
      rw [if_pos hq] at h2
      unfold Sw.wk at h1
      rw [if_pos hq] at h1
      have hlt : here < N := by
        unfold Sw.cw at hq
        rw [Bool.and_eq_true] at hq
        exact of_decide_eq_true hq.2
      have hn := nxb here hlt
      have w1 := wd_at (ws := ws) (i := Sw.nxr N c here) (by omega)
      have hs : (Wm ws acc).length < PySem.sizeLine := sl_lt (by unfold Wm; rw [List.length_map]; omega)
      refine sat_kil ?_
      (apply sat_nx; focus ((conv => lhs; simp [argsOf, placesOf, putBack, put, putF, putAll, flg, R.view, R.viewR, kilS, SRes.kil, Md.wipe, next_ok n N here c]); try rfl))
      (apply sat_nx; focus ((conv => lhs; simp [argsOf, placesOf, putBack, put, putF, putAll, flg, R.view, R.viewR, kilS, SRes.kil, Md.wipe, w1.1, hs]); try rfl))
      refine ⟨(acc ++ [Sw.nxr N c here], Sw.nxr N c here, m), ?_, ⟨?_, h2, hn, ?_⟩, Nat.lt_succ_self m⟩
      · rw [wm_snoc]; rfl
      · show (acc ++ [Sw.nxr N c here]) ++ Sw.wk N c k m (Sw.nxr N c here) = _
        rw [← h1, List.append_assoc]; rfl
      · show (acc ++ [Sw.nxr N c here]).length + m ≤ _
        rw [List.length_append]; simp; omega
  · have hq : Sw.cw N k here = false := hq
    have e : acc = tot := by
      rw [← h1]
      cases m with
      | zero => simp [Sw.wk]
      | succ m => simp [Sw.wk, hq]
    rw [← e] at hall ⊢
    have wl : ∀ d ∈ Wm ws acc, Wo d := fun d hd => by
      obtain ⟨i, hi, rfl⟩ := List.mem_map.mp hd
      exact hw _ (wd_at (by have := hall i hi; omega)).2
    apply sat_ret
    focus
      refine sset_ok2 (q := Wm ws acc) (r := .p 5) (by rfl) (by rfl) wl (by unfold Wm; rw [List.length_map]; omega)
    rfl
theorem behind_ok (n : Nat) {N k : Nat} {c : Bool} {fx : Option Nat} (hd : Sw.bd N c fx k 6 (Sw.nxr N c k) = true) :
    run Pg0 DG (n + 2) i'l_behind [.fz (.int (N : Int)), .fz (.bool c), .fz (fxD fx), .fz (.int (k : Int))] = .ok (.lst (Ns (Sw.bk N c fx k 6 (Sw.nxr N c k)))) [.fz (.int (N : Int)), .fz (.bool c), .fz (fxD fx), .fz (.int (k : Int))] := by
  refine run_eq (run'l_behind _ _ _ _ _) ?_
  (apply sat_nx; focus ((conv => lhs; simp [argsOf, placesOf, putBack, put, putF, putAll, flg, R.view, R.viewR, kilS, SRes.kil, Md.wipe]); try rfl))
  (apply sat_nx; focus ((conv => lhs; simp [argsOf, placesOf, putBack, put, putF, putAll, flg, R.view, R.viewR, kilS, SRes.kil, Md.wipe, next_ok n N k c]); try rfl))
  generalize Sw.nxr N c k = st at *
  generalize htot : Sw.bk N c fx k 6 st = tot at *
  refine sat_whls (fun b (x : List Nat × Nat × Nat) => (b.set 4 (some (.lst (Ns x.1)))).set 5 (some (.fz (.int (x.2.1 : Int))))) (fun x => x.1 ++ Sw.bk N c fx k x.2.2 x.2.1 = tot ∧ Sw.bd N c fx k x.2.2 x.2.1 = true ∧ x.1.length + x.2.2 ≤ 6) (fun x => x.2.2) ([], st, 6) rfl ⟨htot, hd, Nat.le_refl _⟩ (by show 6 < 100000; decide) (fun x hx => ?_)
  obtain ⟨acc, here, m⟩ := x
  obtain ⟨h1, h2, h4⟩ := hx
  have h1 : acc ++ Sw.bk N c fx k m here = tot := h1
  have h2 : Sw.bd N c fx k m here = true := h2
  have h4 : acc.length + m ≤ 6 := h4
  have hfx := cmp_fx here fx
  refine ⟨Sw.cb N fx k here, ?_, fun hq => ?_, fun hq => ?_⟩
  · unfold Sw.cb
    by_cases e : here = k
    · subst e
      simp [argsOf, placesOf, putBack, put, putF, putAll, flg, R.view, R.viewR, kilS, SRes.kil, Md.wipe]
    · have e' : ¬((here : Int) = (k : Int)) := by omega
      by_cases e2 : here < N
      · simp [argsOf, placesOf, putBack, put, putF, putAll, flg, R.view, R.viewR, kilS, SRes.kil, Md.wipe, e', e, e2, hfx]
      · simp [argsOf, placesOf, putBack, put, putF, putAll, flg, R.view, R.viewR, kilS, SRes.kil, Md.wipe, e', e, e2, hfx]
  · have hq : Sw.cb N fx k here = true := hq
    cases m with
    | zero =>
      unfold Sw.bd at h2
      rw [hq] at h2
      cases h2
    | succ m =>
      unfold Sw.bd at h2
      rw [if_pos hq] at h2
      unfold Sw.bk at h1
      rw [if_pos hq] at h1
      have hs : (Ns acc).length < PySem.sizeLine := sl_lt (by rw [ns_len]; omega)
      refine sat_kil ?_
      (apply sat_nx; focus ((conv => lhs; simp [argsOf, placesOf, putBack, put, putF, putAll, flg, R.view, R.viewR, kilS, SRes.kil, Md.wipe, hs]); try rfl))
      (apply sat_nx; focus ((conv => lhs; simp [argsOf, placesOf, putBack, put, putF, putAll, flg, R.view, R.viewR, kilS, SRes.kil, Md.wipe, next_ok n N here c]); try rfl))
      refine ⟨(acc ++ [here], Sw.nxr N c here, m), ?_, ⟨?_, h2, ?_⟩, Nat.lt_succ_self m⟩
      · rw [ns_snoc]; rfl
      · show (acc ++ [here]) ++ Sw.bk N c fx k m (Sw.nxr N c here) = _
        rw [← h1, List.append_assoc]; rfl
      · show (acc ++ [here]).length + m ≤ _
        rw [List.length_append]; simp; omega
  · have hq : Sw.cb N fx k here = false := hq
    have e : acc = tot := by
      rw [← h1]
      cases m with
      | zero => simp [Sw.bk]
      | succ m => simp [Sw.bk, hq]
    rw [← e]
    (apply sat_ret; focus ((conv => lhs; simp [argsOf, placesOf, putBack, put, putF, putAll, flg, R.view, R.viewR, kilS, SRes.kil, Md.wipe]); try rfl))
    rfl
end Md

/-! the row of k65 -/
namespace Md
open PySem (Str PyData)
def vw (x : Da) : Da := .tuple [.str "var", x]
/-- the k-th atom of a row -/
def Ra (tbs ws : List Da) (N : Nat) (c : Bool) (k : Nat) (a : Da) : Prop := At tbs ws a ∧ ∃ (t w : Int) (ts : List Da), a = .tuple [.int t, .tuple ts] ∧ L2.atI tbs t = some (.tuple [.int w, .int 1]) ∧
  (∀ d, vw d ∈ ts.take 1 ↔ d = Wd' ws k) ∧ ∀ d, vw d ∈ ts ↔ d = Wd' ws k ∨ d = Wd' ws (Sw.nxr N c k)
theorem ra_kn {tbs ws g : List Da} {N k : Nat} {c : Bool} {a : Da} (h : Ra tbs ws N c k a) : (∀ d, d ∈ Kn tbs g a ↔ d = Wd' ws k ∧ d ∉ g) ∧ ∀ d, d ∈ An g a ↔ (d = Wd' ws k ∨ d = Wd' ws (Sw.nxr N c k)) ∧ d ∉ g := by
  obtain ⟨⟨t', w', k', ts', e', ht', _, _, _, _, _, hts⟩, t, w, ts, rfl, ht, h1, h2⟩ := h
  simp only [PyData.tuple.injEq, List.cons.injEq, PyData.int.injEq, and_true] at e'
  obtain ⟨rfl, rfl⟩ := e'
  have ek : Kn tbs g (.tuple [.int t, .tuple ts]) = Nms (ts.take 1) g := by simp only [Kn, ht]; rfl
  rw [ek]
  refine ⟨fun d => ?_, fun d => ?_⟩
  · rw [(nms_spec (g := g) fun d hd => hts d (List.mem_of_mem_take hd)).2.1 d]
    exact and_congr_left fun _ => h1 d
  · show d ∈ Nms ts g ↔ _
    rw [(nms_spec (g := g) hts).2.1 d]
    exact and_congr_left fun _ => h2 d
theorem p8 : binop .pow (.int 10) (.int 8) = some (.int 100000000) := by rw [binop_pow _ _ (by rw [powOk_eq]; decide +kernel)]; rfl
theorem row_ok (n : Nat) {ns : List Int} {ws : List Da} (hw : ∀ d ∈ ws, Wo d) (l5 : ws.length = 5) {N : Nat} {c : Bool} (h1 : 1 ≤ N) (h4 : N ≤ 4) :
    Runs (n + 3) i'l_row_5 [.ro (ns.map .int), .lst ws, .fz (.int (N : Int)), .fz (.bool c)] fun t => ∃ tbs as, t = .fz (.tuple [.tuple tbs, .list as]) ∧ as.length = N ∧ (as.map Tn).Nodup ∧ ∀ k a, as[k]? = some a → Ra tbs ws N c k a := by
  refine runs_of (run'l_row_5 _ _ _ _ _) ?_
  have hc : ∀ k : Int, 0 ≤ k → run Pg0 DG (n + 2) i'l_cell_at [.ro (ns.map .int), .fz (.int k)] = .ok (.fz (.int (cl ns k.toNat))) [.ro (ns.map .int), .fz (.int k)] := fun k hk => cell_eq (n + 1) ns k hk
  (apply sat_nx; focus ((conv => lhs; simp [argsOf, placesOf, putBack, put, putF, putAll, flg, R.view, R.viewR, kilS, SRes.kil, Md.wipe]); try rfl)); (apply sat_nx; focus ((conv => lhs; simp [argsOf, placesOf, putBack, put, putF, putAll, flg, R.view, R.viewR, kilS, SRes.kil, Md.wipe]); try rfl))
  have lp : (0 : Int) < N := by omega
  have od := od_mk (cl ns 1 / 8) N (by omega)
  apply sat_nx
  focus
    ((conv => lhs; simp [argsOf, placesOf, putBack, put, putF, putAll, flg, R.view, R.viewR, kilS, SRes.kil, Md.wipe]); try rfl)
    (unfold c'l_row_5'1; rw [lc1r (N : Int) (fun (j : Nat) => .int ((cl ns 1 / 8 + (j : Int)) % (N : Int))) ?hi ?hv ?h0 ?h1 ?hl ?hp ?hb]; (case hi => (first | rfl | ((conv => lhs; simp [argsOf, placesOf, putBack, put, putF, putAll, flg, R.view, R.viewR, kilS, SRes.kil, Md.wipe]); try rfl))); (case hv => (first | rfl | simp)); (case h0 => omega); (case h1 => omega); (case hl => rfl); (case hp => rfl))
    case hb =>
      intro j hj
      exact ⟨_, _, rfl, rfl, by ((conv => lhs; simp [argsOf, placesOf, putBack, put, putF, putAll, flg, R.view, R.viewR, kilS, SRes.kil, Md.wipe, hc 1 (by decide), binop_mod _ _ lp]); try rfl), rfl⟩
    ((conv => lhs; simp [argsOf, placesOf, putBack, put, putF, putAll, flg, R.view, R.viewR, kilS, SRes.kil, Md.wipe]); try rfl)
  try rw [Int.toNat_natCast]
  generalize (List.range N).map (fun (j : Nat) => PyData.int ((cl ns 1 / 8 + (j : Int)) % (N : Int))) = od0 at od
  obtain ⟨ox, onx, oix⟩ := od
  refine sat_for' (fun b (x : List Da) => b.set 4 (some (.lst x))) (fun j x => x.length = j ∧ ∀ d ∈ x, ∃ w : Int, d = .tuple [.int w, .int 1] ∧ 2 ≤ w ∧ w ≤ 4) [] (itr_r1 (k := N) (r := .t (.fz (.int N))) rfl rfl (by omega) (by omega)) rfl rfl rfl rfl rfl ⟨rfl, fun _ h => by cases h⟩ (fun j d x hd hx => ?_) (fun tbs hx => ?_)
  · obtain ⟨rfl, hj⟩ := rng_get hd
    obtain ⟨_, hds, ds, rfl, ld, wd⟩ := drawn_ok (n + 1) (cl ns (4 + j)) 6 (by decide)
    have ld : ds.length = 6 := ld
    have ej : (4 + (j : Int)).toNat = 4 + j := by omega
    obtain ⟨_, m0, e0⟩ := atI_ex (xs := ds) (i := 0) (by decide) (by rw [ld]; decide)
    obtain ⟨i0, rfl⟩ := wd _ m0
    refine ⟨_, rfl, sat_kil ?_⟩
    (apply sat_nx; focus ((conv => lhs; simp [argsOf, placesOf, putBack, put, putF, putAll, flg, R.view, R.viewR, kilS, SRes.kil, Md.wipe, hc (4 + (j : Int)) (by omega), ej, hds]); try rfl))
    (apply sat_nx; focus ((conv => lhs; simp [argsOf, placesOf, putBack, put, putF, putAll, flg, R.view, R.viewR, kilS, SRes.kil, Md.wipe, e0, sl_lt (show x.length ≤ 1000000 by omega)]); try rfl))
    refine ⟨_, rfl, by simp [hx.1], fun d hd => ?_⟩
    rcases List.mem_append.mp hd with h | h
    · exact hx.2 d h
    · rw [List.mem_singleton.mp h]; exact ⟨_, rfl, by omega, by omega⟩
  · rw [rangeUp_length, Int.toNat_natCast] at hx
    obtain ⟨lt, wt⟩ := hx
    refine sat_for' (fun b (x : List Da) => b.set 5 (some (.lst x))) (fun j y => y.map Tn = od0.take j ∧ ∀ k a, y[k]? = some a → Ra tbs ws N c k a) [] (itr_r1 (k := N) (r := .t (.fz (.int N))) rfl rfl (by omega) (by omega)) rfl rfl rfl rfl rfl ⟨by simp, fun _ _ h => by simp at h⟩ (fun j d y hd hy => ?_) (fun as hy => ?_)
    · obtain ⟨rfl, hj⟩ := rng_get hd
      have hj : j < N := by omega
      have jx : j < od0.length := by omega
      obtain ⟨i, hi, li⟩ := oix od0[j] (List.getElem_mem jx)
      have ex : L2.atI od0 (j : Int) = some (.int (i : Int)) := by rw [atI_nat, List.getElem?_eq_getElem jx, hi]
      have lit : i < tbs.length := by omega
      obtain ⟨w, ew, w2, w4⟩ := wt tbs[i] (List.getElem_mem lit)
      have et : L2.atI tbs (i : Int) = some (.tuple [.int w, .int 1]) := by rw [atI_at lit, ew]
      obtain ⟨_, hds, ds, rfl, ld, wd⟩ := drawn_ok (n + 1) (cl ns (4 + j)) 6 (by decide)
      have ld : ds.length = 6 := ld
      have ej : (4 + (j : Int)).toNat = 4 + j := by omega
      have ll : y.length = j := by
        have := congrArg List.length hy.1
        rw [List.length_map, List.length_take] at this
        omega
      have wj := wd_at (ws := ws) (i := j) (by omega)
      have nxb : Sw.nxr N c j < 5 := by unfold Sw.nxr; split <;> omega
      have wn := wd_at (ws := ws) (i := Sw.nxr N c j) (by omega)
      refine ⟨_, rfl, sat_kil ?_⟩
      (apply sat_nx; focus ((conv => lhs; simp [argsOf, placesOf, putBack, put, putF, putAll, flg, R.view, R.viewR, kilS, SRes.kil, Md.wipe, hc (4 + (j : Int)) (by omega), ej, hds]); try rfl))
      (apply sat_nx; focus ((conv => lhs; simp [argsOf, placesOf, putBack, put, putF, putAll, flg, R.view, R.viewR, kilS, SRes.kil, Md.wipe]); try rfl))
      refine sat_joins (fun b (z : Nat) => b.set 9 (some (.fz (.int (z : Int))))) (fun z => z = Sw.nxr N c j) (c && decide ((j : Int) + 1 = (N : Int))) ?_ (fun q => ?_) (fun q => ?_) (fun z hz => ?_)
      rotate_left
      · rw [Bool.and_eq_true] at q
        obtain ⟨rfl, q⟩ := q
        have q : j + 1 = N := by have : (j : Int) + 1 = (N : Int) := by simpa using q
                                 omega
        (apply sat_nx; focus ((conv => lhs; simp [argsOf, placesOf, putBack, put, putF, putAll, flg, R.view, R.viewR, kilS, SRes.kil, Md.wipe]); try rfl))
        exact ⟨0, rfl, by simp [Sw.nxr, q]⟩
      · refine ⟨j + 1, rfl, ?_⟩
        unfold Sw.nxr
        rw [if_neg]
        intro q'
        rw [Bool.and_eq_true] at q'
        have : j + 1 = N := by simpa using q'.2
        have : (j : Int) + 1 = (N : Int) := by omega
        simp [q'.1, this] at q
      · subst hz
        (apply sat_nx; focus ((conv => lhs; simp [argsOf, placesOf, putBack, put, putF, putAll, flg, R.view, R.viewR, kilS, SRes.kil, Md.wipe, wj.1, wn.1]); try rfl))
        let tf : Da → Da := fun d => match d with
          | .int m => if m % 2 = 1 then vw (Wd' ws j) else .tuple [.str "is", .int (m / 2 % 100000000)]
          | _ => .none
        have hcut : cutL ds (some 1) (some 3) = (ds.drop 1).take 2 := by
          unfold cutL
          simp [ld, HT.sIx]
        have l2 : ((ds.drop 1).take 2).length = 2 := by rw [List.length_take, List.length_drop, ld]; rfl
        have wd2 : ∀ d ∈ (ds.drop 1).take 2, Nu d := fun d hd => wd d (List.mem_of_mem_drop (List.mem_of_mem_take hd))
        generalize (ds.drop 1).take 2 = dq at *
        apply sat_nx
        focus
          ((conv => lhs; simp [argsOf, placesOf, putBack, put, putF, putAll, flg, R.view, R.viewR, kilS, SRes.kil, Md.wipe]); try rfl)
          (unfold c'l_row_5'0; rw [lc1m tf dq ?hi ?hv ?hw ?hl ?hp ?hz ?hb]; (case hi => (first | rfl | ((conv => lhs; simp [argsOf, placesOf, putBack, put, putF, putAll, flg, R.view, R.viewR, kilS, SRes.kil, Md.wipe, hcut]); try rfl))); (case hv => (first | rfl | simp)); (case hw => (first | rfl | ((conv => lhs; simp [argsOf, placesOf, putBack, put, putF, putAll, flg, R.view, R.viewR, kilS, SRes.kil, Md.wipe, hcut]); try rfl))); (case hl => rfl); (case hp => rfl))
          case hz => omega
          case hb =>
            intro d hd
            obtain ⟨m, rfl⟩ := wd2 d hd
            have hm : m % 2 = 0 ∨ m % 2 = 1 := by omega
            rcases hm with hm | hm
            · exact ⟨_, .fz (.tuple [.str "is", .int (m / 2 % 100000000)]), rfl, rfl, by ((conv => lhs; simp [argsOf, placesOf, putBack, put, putF, putAll, flg, R.view, R.viewR, kilS, SRes.kil, Md.wipe, wj.1, p8, hm]); try rfl), by simp [tf, hm]⟩
            · exact ⟨_, .fz (vw (Wd' ws j)), rfl, rfl, by ((conv => lhs; simp [argsOf, placesOf, putBack, put, putF, putAll, flg, R.view, R.viewR, kilS, SRes.kil, Md.wipe, wj.1, p8, hm, vw]); try rfl), by simp [tf, hm]⟩
          ((conv => lhs; simp [argsOf, placesOf, putBack, put, putF, putAll, flg, R.view, R.viewR, kilS, SRes.kil, Md.wipe, binop_addl [.tuple [.str "var", Wd' ws j], .tuple [.str "var", Wd' ws (Sw.nxr N c j)]] (dq.map tf) (szOk_lt (by simp [l2]))]); try rfl)
        have e4 := fun q => cutL_take q w (by omega)
        (apply sat_nx; focus ((conv => lhs; simp [argsOf, placesOf, putBack, put, putF, putAll, flg, R.view, R.viewR, kilS, SRes.kil, Md.wipe, ex, et, e4, sl_lt (show y.length ≤ 1000000 by omega)]); try rfl))
        obtain ⟨a1, a2, rfl⟩ : ∃ a1 a2, dq = [a1, a2] := by
          match dq, l2 with
          | [a1, a2], _ => exact ⟨a1, a2, rfl⟩
        have htw : ∀ d, Nu d → Tw ws (tf d) ∧ ∀ e, vw e = tf d → e = Wd' ws j := fun d hd => by
          obtain ⟨m, rfl⟩ := hd
          by_cases q : m % 2 = 1
          · have e : tf (.int m) = vw (Wd' ws j) := by simp [tf, q]
            rw [e]
            exact ⟨.inl ⟨_, wj.2, hw _ wj.2, rfl⟩, fun e he => by simpa [vw] using he⟩
          · have e : tf (.int m) = .tuple [.str "is", .int (m / 2 % 100000000)] := by simp [tf, q]
            rw [e]
            refine ⟨.inr ⟨_, .inl ⟨_, rfl⟩, rfl⟩, fun e he => ?_⟩
            have : (("var" : Str)) = "is" := by
              simp only [vw, PyData.tuple.injEq, List.cons.injEq, PyData.str.injEq] at he
              exact he.1
            exact absurd this (by decide)
        have t1 := htw a1 (wd2 a1 (by simp))
        have t2 := htw a2 (wd2 a2 (by simp))
        have key : Ra tbs ws N c j (.tuple [.int (i : Int), .tuple (([PyData.tuple [.str "var", Wd' ws j], PyData.tuple [.str "var", Wd' ws (Sw.nxr N c j)]] ++ [a1, a2].map tf).take w.toNat)]) := by
          have hts : ∀ d ∈ ([PyData.tuple [.str "var", Wd' ws j], PyData.tuple [.str "var", Wd' ws (Sw.nxr N c j)]] ++ [a1, a2].map tf).take w.toNat, Tw ws d := fun d hd => by
            have hd := List.mem_of_mem_take hd
            simp only [List.map_cons, List.map_nil, List.cons_append, List.nil_append, List.mem_cons, List.not_mem_nil, or_false] at hd
            rcases hd with rfl | rfl | rfl | rfl
            · exact .inl ⟨_, wj.2, hw _ wj.2, rfl⟩
            · exact .inl ⟨_, wn.2, hw _ wn.2, rfl⟩
            · exact t1.1
            · exact t2.1
          have hw' : w.toNat = 2 ∨ w.toNat = 3 ∨ w.toNat = 4 := by omega
          refine ⟨⟨i, w, 1, _, rfl, et, by omega, by decide, by omega, ?_, w4, hts⟩, i, w, _, rfl, et, fun d => ?_, fun d => ?_⟩
          · rw [List.length_take]
            simp
            omega
          · rcases hw' with h | h | h <;> rw [h] <;> simp [vw]
          · constructor
            · intro hd
              have hd := List.mem_of_mem_take hd
              simp only [List.map_cons, List.map_nil, List.cons_append, List.nil_append, List.mem_cons, List.not_mem_nil, or_false] at hd
              rcases hd with h | h | h | h
              · exact .inl (by simpa [vw] using h)
              · exact .inr (by simpa [vw] using h)
              · exact .inl (t1.2 d h)
              · exact .inl (t2.2 d h)
            · intro hd
              have h2 : ∀ e ∈ [vw (Wd' ws j), vw (Wd' ws (Sw.nxr N c j))], e ∈ ([PyData.tuple [.str "var", Wd' ws j], PyData.tuple [.str "var", Wd' ws (Sw.nxr N c j)]] ++ [a1, a2].map tf).take w.toNat := fun e he => by
                rcases hw' with h | h | h <;> rw [h] <;> (simp only [List.mem_cons, List.not_mem_nil, or_false] at he; rcases he with rfl | rfl <;> simp [vw])
              rcases hd with rfl | rfl
              · exact h2 _ (by simp)
              · exact h2 _ (by simp)
        refine ⟨_, rfl, ?_, fun k a ha => ?_⟩
        · rw [List.map_append, hy.1, List.take_add_one, List.getElem?_eq_getElem jx, hi]; rfl
        · by_cases q : k < y.length
          · rw [List.getElem?_append_left q] at ha
            exact hy.2 k a ha
          · have hk := (List.getElem?_eq_some_iff.mp ha).1
            rw [List.length_append] at hk
            have : k = y.length := by simp at hk; omega
            subst this
            rw [List.getElem?_append_right (Nat.le_refl _), Nat.sub_self] at ha
            have ha := (Option.some.inj ha).symm
            subst ha
            rw [ll]
            simpa using key
      · cases c with
        | false => simp [argsOf, placesOf, putBack, put, putF, putAll, flg, R.view, R.viewR, kilS, SRes.kil, Md.wipe]
        | true => simp [argsOf, placesOf, putBack, put, putF, putAll, flg, R.view, R.viewR, kilS, SRes.kil, Md.wipe]
    · rw [rangeUp_length, Int.toNat_natCast] at hy
      obtain ⟨y1, y2⟩ := hy
      rw [List.take_of_length_le (by omega)] at y1
      (apply sat_ret; focus ((conv => lhs; simp [argsOf, placesOf, putBack, put, putF, putAll, flg, R.view, R.viewR, kilS, SRes.kil, Md.wipe, R.take]); try rfl))
      refine ⟨_, rfl, tbs, as, rfl, ?_, by rw [y1]; exact onx, y2⟩
      rw [← List.length_map (f := Tn), y1, ox]
end Md

namespace Md
open PySem (Str PyData)

theorem ne_self' {k : Nat} {ds : List Da} (h : Sm k (.list ds)) (hk : k ≤ 60 := by decide) : Md.compare .ne (.list ds) (.list ds) = some false := by rw [sm_ne h h hk]; simp
theorem words_sm' {q : List Da} (h : ∀ d ∈ q, Wo d) : Sm 1 (.list q) := fun d hd => Sm.wo (h d hd) 0
/-- the head told by a name's number -/
def hdD (ws : List Da) : Option Nat → List Da
  | none => []
  | some f => [Wd' ws f]
theorem hd_out {ws : List Da} (nd : ws.Nodup) (l5 : ws.length = 5) {fx : Option Nat} (hf : ∀ f, fx = some f → f < 5) {i : Nat} (hi : i < 5) : Wd' ws i ∉ hdD ws fx ↔ fx ≠ some i := by
  cases fx with
  | none => simp [hdD]
  | some f =>
    have := hf f rfl
    simp only [hdD, List.mem_singleton, ne_eq, Option.some.injEq]
    constructor
    · intro h e; exact h (by rw [e])
    · intro h e; exact h (wd_inj nd (by omega) (by omega) e).symm
theorem kr_nd (n : Nat) (fx : Option Nat) (t i : Nat) : (Sw.kr n fx t i).Nodup := by unfold Sw.kr; split <;> simp
theorem vr_nd (n : Nat) (c : Bool) (fx : Option Nat) (t i : Nat) : (Sw.vr n c fx t i).Nodup := by
  unfold Sw.vr
  split
  · exact kr_nd n fx t i
  · rename_i h
    unfold Sw.kr
    split <;> split <;> simp
    omega
theorem kr_lt {n : Nat} (hn : n ≤ 4) (h0 : 1 ≤ n) (fx : Option Nat) (t i : Nat) : ∀ j ∈ Sw.kr n fx t i, j < 5 := fun j hj => by
  have := Nat.mod_lt (t + i) (show n > 0 by omega)
  unfold Sw.kr at hj
  split at hj
  · cases hj
  · rw [List.mem_singleton.mp hj]; omega
theorem nxr_lt {n : Nat} (hn : n ≤ 4) (c : Bool) {k : Nat} (hk : k < n) : Sw.nxr n c k < 5 := by unfold Sw.nxr; split <;> omega
theorem vr_lt {n : Nat} (hn : n ≤ 4) (h0 : 1 ≤ n) (c : Bool) (fx : Option Nat) (t i : Nat) : ∀ j ∈ Sw.vr n c fx t i, j < 5 := fun j hj => by
  have h1 := Nat.mod_lt (t + i) (show n > 0 by omega)
  have h2 := nxr_lt hn c h1
  unfold Sw.vr at hj
  split at hj
  · exact kr_lt hn h0 fx t i j hj
  · rcases List.mem_append.mp hj with h | h
    · exact kr_lt hn h0 fx t i j h
    · split at h
      · cases h
      · rw [List.mem_singleton.mp h]; exact h2
/-- what is counted out -/
structure Ck (n : Nat) (c : Bool) (fx : Option Nat) (t : Nat) : Prop where
  nm : ∀ k, k < n → ∀ d, d ∈ Sw.clo n (Sw.kr n fx t) (Sw.vr n c fx t) k ↔ d ∈ Sw.nmr n c fx ((t + k) % n)
  lt : ∀ k, k < n → ∀ d ∈ Sw.nmr n c fx ((t + k) % n), d < 5
  wd : ∀ k, k < n → Sw.wd n c ((t + k) % n) 6 (fx.getD ((t + k) % n)) = true
  bd : ∀ k, k < n → Sw.bd n c fx ((t + k) % n) 6 (Sw.nxr n c ((t + k) % n)) = true
  nd : (Sw.due n c fx t).Nodup
  du : ∀ a b, (a, b) ∈ Sw.due n c fx t ↔ a < n ∧ b < n ∧ Sw.swr n c fx t a b = true
  mu : (∃ a b, a < n ∧ b < n ∧ Sw.swr n c fx t a b = true ∧ Sw.swr n c fx t b a = true) ↔ c = true ∧ n ≠ 1 ∧ fx = none
theorem ck_of {n : Nat} {c : Bool} {fx : Option Nat} {t : Nat} (h0 : 1 ≤ n) (h4 : n ≤ 4) (hf : fx ∈ Sw.fxs n c) (ht : t < n) : Ck n c fx t := by
  have h := Sw.chk_all
  unfold Sw.chkAll at h
  have hn : n ∈ [1, 2, 3, 4] := by
    have : n = 1 ∨ n = 2 ∨ n = 3 ∨ n = 4 := by omega
    rcases this with rfl | rfl | rfl | rfl <;> simp
  have hc : c ∈ [true, false] := by cases c <;> simp
  have h := List.all_eq_true.mp (List.all_eq_true.mp (List.all_eq_true.mp (List.all_eq_true.mp h n hn) c hc) fx hf) t (List.mem_range.mpr ht)
  unfold Sw.chk at h
  simp only [Bool.and_eq_true] at h
  obtain ⟨⟨⟨⟨h1, h2⟩, h3⟩, h4'⟩, h5⟩ := h
  have h1 := fun k hk => List.all_eq_true.mp h1 k (List.mem_range.mpr hk)
  simp only [Bool.and_eq_true] at h1
  refine ⟨fun k hk d => ⟨fun hd => ?_, fun hd => ?_⟩, fun k hk d hd => ?_, fun k hk => (h1 k hk).2.1.1.1.1, fun k hk => (h1 k hk).2.1.1.1.2, of_decide_eq_true h2, fun a b => ⟨fun hab => ?_, fun hab => ?_⟩, ?_⟩
  · exact of_decide_eq_true (List.all_eq_true.mp (h1 k hk).1.1.1 d hd)
  · exact of_decide_eq_true (List.all_eq_true.mp (h1 k hk).1.1.2 d hd)
  · exact of_decide_eq_true (List.all_eq_true.mp (h1 k hk).1.2 d hd)
  · have := List.all_eq_true.mp h3 (a, b) hab
    simp only [Bool.and_eq_true] at this
    exact ⟨of_decide_eq_true this.1.1, of_decide_eq_true this.1.2, this.2⟩
  · have := List.all_eq_true.mp (List.all_eq_true.mp h4' a (List.mem_range.mpr hab.1)) b (List.mem_range.mpr hab.2.1)
    rw [hab.2.2] at this
    simpa using this
  · have h5 := eq_of_beq h5
    constructor
    · rintro ⟨a, b, ha, hb, s1, s2⟩
      have : ((List.range n).any fun c' => (List.range n).any fun j => Sw.swr n c fx t c' j && Sw.swr n c fx t j c') = true := List.any_eq_true.mpr ⟨a, List.mem_range.mpr ha, List.any_eq_true.mpr ⟨b, List.mem_range.mpr hb, by rw [s1, s2]; rfl⟩⟩
      rw [this] at h5
      have h5 := h5.symm
      simp only [Bool.and_eq_true, decide_eq_true_eq] at h5
      exact ⟨h5.1.1, h5.1.2, h5.2⟩
    · rintro ⟨rfl, q1, rfl⟩
      simp only [decide_true, Bool.and_true, q1, ne_eq, not_false_eq_true, decide_true] at h5
      obtain ⟨a, ha, h6⟩ := List.any_eq_true.mp h5
      obtain ⟨b, hb, h7⟩ := List.any_eq_true.mp h6
      rw [Bool.and_eq_true] at h7
      exact ⟨a, b, List.mem_range.mp ha, List.mem_range.mp hb, h7.1, h7.2⟩
/-- turned about -/
theorem turned_at {as : List Da} {t k : Nat} (ht : t < as.length) (hk : k < as.length) : (as.drop t ++ as.take t)[k]? = as[(t + k) % as.length]? := by
  by_cases q : t + k < as.length
  · rw [List.getElem?_append_left (by rw [List.length_drop]; omega), List.getElem?_drop, Nat.mod_eq_of_lt q]
  · rw [List.getElem?_append_right (by rw [List.length_drop]; omega), List.length_drop, List.getElem?_take_of_lt (by omega)]
    congr 1
    rw [Nat.mod_eq_sub_mod (by omega), Nat.mod_eq_of_lt (by omega)]
    omega
section
variable {tbs ws as : List Da} {n : Nat} {c : Bool} {fx : Option Nat} {t : Nat}
theorem row_kv (nd : ws.Nodup) (l5 : ws.length = 5) (hf : ∀ f, fx = some f → f < 5) (h0 : 1 ≤ n) (h4 : n ≤ 4) (hr : ∀ k a, as[k]? = some a → Ra tbs ws n c ((t + k) % n) a) (ll : as.length = n) (i : Nat) (hi : i < n) :
    (∀ d, d ∈ KN tbs (hdD ws fx) as i ↔ ∃ j ∈ Sw.kr n fx t i, d = Wd' ws j) ∧ ∀ d, d ∈ VN (hdD ws fx) as i ↔ ∃ j ∈ Sw.vr n c fx t i, d = Wd' ws j := by
  have hil : i < as.length := by omega
  have ra := hr i as[i] (List.getElem?_eq_getElem hil)
  obtain ⟨k1, k2⟩ := ra_kn (g := hdD ws fx) ra
  rw [kn_at hil, vn_at hil]
  have hs := Nat.mod_lt (t + i) (show n > 0 by omega)
  have hx := nxr_lt h4 c hs
  have ho := fun j hj => hd_out nd l5 hf (i := j) hj
  have kk : ∀ d, (d = Wd' ws ((t + i) % n) ∧ d ∉ hdD ws fx) ↔ ∃ j ∈ Sw.kr n fx t i, d = Wd' ws j := fun d => by
    unfold Sw.kr
    constructor
    · rintro ⟨rfl, h⟩
      have := (ho _ (by omega)).mp h
      rw [if_neg this]
      exact ⟨_, List.mem_singleton.mpr rfl, rfl⟩
    · rintro ⟨j, hj, rfl⟩
      split at hj
      · cases hj
      · rename_i hne
        rw [List.mem_singleton.mp hj]
        exact ⟨rfl, (ho _ (by omega)).mpr hne⟩
  refine ⟨fun d => (k1 d).trans (kk d), fun d => (k2 d).trans ?_⟩
  unfold Sw.vr
  constructor
  · rintro ⟨h1 | h1, h2⟩
    · obtain ⟨j, hj, e⟩ := (kk d).mp ⟨h1, h2⟩
      split
      · exact ⟨j, hj, e⟩
      · exact ⟨j, List.mem_append_left _ hj, e⟩
    · subst h1
      have hne := (ho _ hx).mp h2
      split
      · rename_i he
        exact (kk _).mp ⟨by rw [he], h2⟩
      · refine ⟨_, List.mem_append_right _ ?_, rfl⟩
        first | exact List.mem_singleton.mpr rfl | (rw [if_neg hne]; exact List.mem_singleton.mpr rfl)
  · rintro ⟨j, hj, rfl⟩
    split at hj
    · have := (kk _).mpr ⟨j, hj, rfl⟩
      exact ⟨.inl this.1, this.2⟩
    · rcases List.mem_append.mp hj with h | h
      · have := (kk _).mpr ⟨j, h, rfl⟩
        exact ⟨.inl this.1, this.2⟩
      · split at h
        · cases h
        · rename_i hne
          rw [List.mem_singleton.mp h]
          exact ⟨.inr rfl, (ho _ hx).mpr hne⟩
theorem row_sy (ck : Ck n c fx t) (nd : ws.Nodup) (l5 : ws.length = 5) (hf : ∀ f, fx = some f → f < 5) (h0 : 1 ≤ n) (h4 : n ≤ 4) (hr : ∀ k a, as[k]? = some a → Ra tbs ws n c ((t + k) % n) a) (ll : as.length = n) (a b : Nat) :
    Ey tbs (hdD ws fx) as a b ↔ a < n ∧ b < n ∧ Sw.swr n c fx t a b = true := by
  unfold Ey
  rw [ll]
  refine and_congr_right fun ha => and_congr_right fun hb => ?_
  have hkv := row_kv nd l5 hf h0 h4 hr ll
  have h1 := Sw.rc_emb (W := Wd' ws) (m := 5) (fun i j hi hj e => wd_inj nd (by omega) (by omega) e) (fun i _ => kr_lt h4 h0 fx t i) (fun i _ => vr_lt h4 h0 c fx t i) (fun i hi => (hkv i hi).1) (fun i hi => (hkv i hi).2) ha b
  have h2 := Sw.rcf_ok (kr_nd n fx t) (vr_nd n c fx t) ha b
  unfold Sw.Sy Sw.swr
  rw [Bool.and_eq_true, decide_eq_true_iff, decide_eq_true_iff, h1, h2]
theorem row_known (ck : Ck n c fx t) (hw : ∀ d ∈ ws, Wo d) (nd : ws.Nodup) (l5 : ws.length = 5) (hf : ∀ f, fx = some f → f < 5) (h0 : 1 ≤ n) (h4 : n ≤ 4) (hr : ∀ k a, as[k]? = some a → Ra tbs ws n c ((t + k) % n) a) (ll : as.length = n) (wa : ∀ a ∈ as, At tbs ws a) (hg : ∀ d ∈ hdD ws fx, Wo d) {k : Nat} (hk : k < n) :
    Kw tbs (hdD ws fx) as k = srt (onceD (Wm ws (Sw.nmr n c fx ((t + k) % n)))) := by
  obtain ⟨_, _, _, f, ef, ik⟩ := known_to_ok 0 wa hg (by omega) (by omega) (show k < as.length by omega)
  rw [ll] at ik
  have hkv := row_kv nd l5 hf h0 h4 hr ll
  have h1 := Sw.cl_emb (W := Wd' ws) (m := 5) (fun i j hi hj e => wd_inj nd (by omega) (by omega) e) (fun i _ => kr_lt h4 h0 fx t i) (fun i _ => vr_lt h4 h0 c fx t i) (fun i hi => (hkv i hi).1) (fun i hi => (hkv i hi).2) hk
  have h2 := Sw.clo_ok (kr_nd n fx t) (vr_nd n c fx t) hk
  have wl : ∀ d ∈ Wm ws (Sw.nmr n c fx ((t + k) % n)), Wo d := fun d hd => by
    obtain ⟨i, hi, rfl⟩ := List.mem_map.mp hd
    exact hw _ (wd_at (by have := ck.lt k hk i hi; omega)).2
  obtain ⟨o1, o2⟩ := once_wo wl
  rw [ef]
  refine srt_wo (perm_of ik.1 o1 fun d => ?_) fun d hd => wl d ((o2 d).mp hd)
  rw [ik.2 d, h1 d, o2 d]
  unfold Wm
  rw [List.mem_map]
  constructor
  · rintro ⟨j, rfl, hj⟩
    exact ⟨j, (ck.nm k hk j).mp ((h2 j).mpr hj), rfl⟩
  · rintro ⟨j, hj, rfl⟩
    exact ⟨j, rfl, (h2 j).mp ((ck.nm k hk j).mpr hj)⟩
end
theorem due_len (n : Nat) (c : Bool) (fx : Option Nat) (t : Nat) (k : Nat) : ((List.range k).flatMap fun k => (Sw.bk n c fx ((t + k) % n) 6 (Sw.nxr n c ((t + k) % n))).map fun th => (k, (th + n - t) % n)).length ≤ 6 * k := by
  have hb : ∀ (m k here : Nat), (Sw.bk n c fx k m here).length ≤ m := by
    intro m
    induction m with
    | zero => intro k h; simp [Sw.bk]
    | succ m ih =>
      intro k h
      unfold Sw.bk
      split
      · have := ih k (Sw.nxr n c h)
        simp
        omega
      · simp
  induction k with
  | zero => simp
  | succ k ih =>
    rw [List.range_succ, List.flatMap_append, List.length_append]
    have := hb 6 ((t + k) % n) (Sw.nxr n c ((t + k) % n))
    simp
    simp at ih
    omega
set_option maxHeartbeats 0 in
theorem run_law_k65 (ns : List Int) (hl : ns.length ≤ 63) : ∃ ts', run Pg0 DG 60 i'law_k65 [.ro (ns.map .int)] = .ok (.fz (.bool true)) ts' := by
  suffices h : Runs 60 i'law_k65 [.ro (ns.map .int)] fun t => t = .fz (.bool true) by
    obtain ⟨_, h, rfl⟩ := h
    exact ⟨_, h⟩
  refine runs_of (run'law_k65 59 _) ?_
  have hc : ∀ k : Int, 0 ≤ k → run Pg0 DG 59 i'l_cell_at [.ro (ns.map .int), .fz (.int k)] = .ok (.fz (.int (cl ns k.toNat))) [.ro (ns.map .int), .fz (.int k)] := fun k hk => cell_eq 58 ns k hk
  obtain ⟨_, hw, ws, rfl, lw, ww, wnd⟩ := words_nd 56 (cl ns 0) 5 (by decide)
  have lw : ws.length = 5 := lw
  (apply sat_nx; focus ((conv => lhs; simp [argsOf, placesOf, putBack, put, putF, putAll, flg, R.view, R.viewR, kilS, SRes.kil, Md.wipe, hc 0 (by decide), hw]); try rfl))
  (apply sat_nx; focus ((conv => lhs; simp [argsOf, placesOf, putBack, put, putF, putAll, flg, R.view, R.viewR, kilS, SRes.kil, Md.wipe, hc 1 (by decide)]); try rfl))
  obtain ⟨N, hN, N1, N4⟩ : ∃ N : Nat, 1 + cl ns 1 % 4 = (N : Int) ∧ 1 ≤ N ∧ N ≤ 4 := ⟨(1 + cl ns 1 % 4).toNat, by omega, by omega, by omega⟩
  rw [hN]
  (apply sat_nx; focus ((conv => lhs; simp [argsOf, placesOf, putBack, put, putF, putAll, flg, R.view, R.viewR, kilS, SRes.kil, Md.wipe, hc 1 (by decide)]); try rfl))
  generalize decide (cl ns 1 / 4 % 2 = 1) = c
  obtain ⟨_, hrow, tbs, as, rfl, la, ant, hra⟩ := row_ok 56 (ns := ns) ww lw (c := c) N1 N4
  (apply sat_nx; focus ((conv => lhs; simp [argsOf, placesOf, putBack, put, putF, putAll, flg, R.view, R.viewR, kilS, SRes.kil, Md.wipe, hrow]); try rfl))
  (apply sat_nx; focus ((conv => lhs; simp [argsOf, placesOf, putBack, put, putF, putAll, flg, R.view, R.viewR, kilS, SRes.kil, Md.wipe]); try rfl))
  (apply sat_nx; focus ((conv => lhs; simp [argsOf, placesOf, putBack, put, putF, putAll, flg, R.view, R.viewR, kilS, SRes.kil, Md.wipe]); try rfl))
  refine sat_joins (fun b (x : Option Nat) => (b.set 4 (some (.fz (fxD x)))).set 5 (some (.fz (.tuple (hdD ws x))))) (fun x => x ∈ Sw.fxs N c) (decide (cl ns 2 % 3 = 1)) ?_ (fun _ => ?_) (fun _ => ?_) (fun fx hfx => ?_)
  · simp [argsOf, placesOf, putBack, put, putF, putAll, flg, R.view, R.viewR, kilS, SRes.kil, Md.wipe, hc 2 (by decide)]
  · have lp : (0 : Int) < (N : Int) + 1 - (if c = true then 1 else 0) := by split <;> omega
    (apply sat_nx; focus ((conv => lhs; simp [argsOf, placesOf, putBack, put, putF, putAll, flg, R.view, R.viewR, kilS, SRes.kil, Md.wipe, hc 2 (by decide), binop_mod _ _ lp]); try rfl))
    have b1 := Int.emod_nonneg (cl ns 2 / 3) (show ((N : Int) + 1 - (if c = true then 1 else 0)) ≠ 0 by omega)
    have b2 := Int.emod_lt_of_pos (cl ns 2 / 3) lp
    obtain ⟨f, hf⟩ := Int.eq_ofNat_of_zero_le b1
    rw [hf] at b2
    have hf5 : f < 5 := by split at b2 <;> omega
    have wf := wd_at (ws := ws) (i := f) (by omega)
    rw [hf]
    (apply sat_nx; focus ((conv => lhs; simp [argsOf, placesOf, putBack, put, putF, putAll, flg, R.view, R.viewR, kilS, SRes.kil, Md.wipe, wf.1]); try rfl))
    refine ⟨some f, rfl, ?_⟩
    unfold Sw.fxs
    refine List.mem_cons_of_mem _ (List.mem_map.mpr ⟨f, List.mem_range.mpr ?_, rfl⟩)
    cases c <;> simp at b2 ⊢ <;> omega
  · exact ⟨none, rfl, List.mem_cons_self⟩
  have hf5 : ∀ f, fx = some f → f ≤ N := fun f e => by
    subst e
    unfold Sw.fxs at hfx
    rcases List.mem_cons.mp hfx with h | h
    · cases h
    · obtain ⟨f', h1, h2⟩ := List.mem_map.mp h
      cases h2
      have := List.mem_range.mp h1
      split at this <;> omega
  have hf5' : ∀ f, fx = some f → f < 5 := fun f e => by have := hf5 f e; omega
  have lN : (0 : Int) < N := by omega
  (apply sat_nx; focus ((conv => lhs; simp [argsOf, placesOf, putBack, put, putF, putAll, flg, R.view, R.viewR, kilS, SRes.kil, Md.wipe, hc 3 (by decide), binop_mod _ _ lN]); try rfl))
  obtain ⟨t, ht, tN⟩ : ∃ t : Nat, cl ns 3 % (N : Int) = (t : Int) ∧ t < N := by
    have b1 := Int.emod_nonneg (cl ns 3) (show (N : Int) ≠ 0 by omega)
    have b2 := Int.emod_lt_of_pos (cl ns 3) lN
    exact ⟨(cl ns 3 % (N : Int)).toNat, by omega, by omega⟩
  rw [ht]
  have ck := ck_of N1 N4 hfx tN
  have q1 : cutL as (some (t : Int)) none = as.drop t := by rw [cutL_drop _ _ (by omega)]; rfl
  have q2 : cutL as none (some (t : Int)) = as.take t := by rw [cutL_take _ _ (by omega)]; rfl
  (apply sat_nx; focus ((conv => lhs; simp [argsOf, placesOf, putBack, put, putF, putAll, flg, R.view, R.viewR, kilS, SRes.kil, Md.wipe, q1, q2, binop_addl (as.drop t) (as.take t) (szOk_lt (by rw [List.length_drop, List.length_take]; omega))]); try rfl))
  have tl : (as.drop t ++ as.take t).length = N := by rw [List.length_append, List.length_drop, List.length_take]; omega
  have hr : ∀ k a, (as.drop t ++ as.take t)[k]? = some a → Ra tbs ws N c ((t + k) % N) a := fun k a h => by
    have hk := (List.getElem?_eq_some_iff.mp h).1
    rw [tl] at hk
    rw [turned_at (by omega) (by omega), la] at h
    exact hra _ a h
  have wa : ∀ a ∈ as.drop t ++ as.take t, At tbs ws a := fun a ha => by
    obtain ⟨k, hk, e⟩ := List.getElem_of_mem ha
    exact (hr k a (by rw [List.getElem?_eq_getElem hk, e])).1
  have tnd : ((as.drop t ++ as.take t).map Tn).Nodup := by
    have p : (as.drop t ++ as.take t).Perm as := by
      have := List.perm_append_comm (l₁ := as.drop t) (l₂ := as.take t)
      rwa [List.take_append_drop] at this
    exact (p.map Tn).nodup_iff.mpr ant
  generalize as.drop t ++ as.take t = as' at *
  have hg : ∀ d ∈ hdD ws fx, Wo d := fun d hd => by
    cases fx with
    | none => cases hd
    | some f =>
      have := hf5' f rfl
      rw [List.mem_singleton.mp hd]
      exact ww _ (wd_at (by omega)).2
  (apply sat_nx; focus ((conv => lhs; simp [argsOf, placesOf, putBack, put, putF, putAll, flg, R.view, R.viewR, kilS, SRes.kil, Md.wipe]); try rfl))
  refine sat_for' (fun b (x : List Da) => b.set 8 (some (.lst x))) (fun k x => x = ((List.range k).flatMap fun k => (Sw.bk N c fx ((t + k) % N) 6 (Sw.nxr N c ((t + k) % N))).map fun th => (k, (th + N - t) % N)).map pr) [] (itr_r1 (k := N) (r := .t (.fz (.int N))) rfl rfl (by omega) (by omega)) rfl rfl rfl rfl rfl rfl (fun k d x hd hx => ?_) (fun x hx => ?_)
  · obtain ⟨rfl, hk⟩ := rng_get hd
    have hk : k < N := by omega
    have h1 := known_ok 55 wa hg (by omega) (by omega) tnd (c := k) (by omega)
    obtain ⟨sp, hsp⟩ : ∃ sp : Nat, sp = (t + k) % N := ⟨_, rfl⟩
    have hs : ((t : Int) + (k : Int)) % (N : Int) = (sp : Int) := by rw [hsp, Int.natCast_emod, Int.natCast_add]
    have hsl := Nat.mod_lt (t + k) (show N > 0 by omega)
    have h2 := lnames_ok 57 ww wnd lw N4 hsl hf5 (ck.wd k hk) (ck.lt k hk)
    rw [← row_known ck ww wnd lw hf5' N1 N4 hr tl wa hg hk] at h2
    have hne := ne_self' (words_sm' (kw_mem 0 wa hg (by omega) (by omega) (show k < as'.length by omega)).2)
    have h3 := behind_ok 57 (fx := fx) (ck.bd k hk)
    have hx6 := due_len N c fx t k
    have lx : x.length ≤ 6 * k := by rw [hx, List.length_map]; exact hx6
    have hbl : (Sw.bk N c fx ((t + k) % N) 6 (Sw.nxr N c ((t + k) % N))).length ≤ 6 := by
      have := due_len N c fx t (k + 1)
      have hbb : ∀ (m k here : Nat), (Sw.bk N c fx k m here).length ≤ m := by
        intro m
        induction m with
        | zero => intro k h; simp [Sw.bk]
        | succ m ih =>
          intro k h
          unfold Sw.bk
          split
          · have := ih k (Sw.nxr N c h)
            simp
            omega
          · simp
      exact hbb 6 _ _
    have hbn : ∀ (m here : Nat), here ≤ N → ∀ b ∈ Sw.bk N c fx ((t + k) % N) m here, b < N := by
      intro m
      induction m with
      | zero => intro h _ b hb; simp [Sw.bk] at hb
      | succ m ih =>
        intro h hh b hb
        unfold Sw.bk at hb
        split at hb
        · rename_i hq
          have hlt : h < N := by
            unfold Sw.cb at hq
            rw [Bool.and_eq_true, Bool.and_eq_true] at hq
            exact of_decide_eq_true hq.2.1
          rcases List.mem_cons.mp hb with e | e
          · rw [e]; exact hlt
          · exact ih (Sw.nxr N c h) (by unfold Sw.nxr; split <;> omega) b e
        · cases hb
    have hbn := hbn 6 (Sw.nxr N c ((t + k) % N)) (by unfold Sw.nxr; split <;> omega)
    generalize Kw tbs (hdD ws fx) as' k = kw at *
    rw [← hsp] at h2 h3
    refine ⟨_, rfl, sat_kil ?_⟩
    (apply sat_nx; focus ((conv => lhs; simp [argsOf, placesOf, putBack, put, putF, putAll, flg, R.view, R.viewR, kilS, SRes.kil, Md.wipe, binop_mod _ _ lN, hs]); try rfl))
    (apply sat_iff; (focus ((conv => lhs; simp [argsOf, placesOf, putBack, put, putF, putAll, flg, R.view, R.viewR, kilS, SRes.kil, Md.wipe, h1, h2, hne]); try rfl)); refine sat_nop ?_)
    let el : Da → Da := fun d => match d with
      | .int th => .tuple [.int (k : Int), .int ((th - (t : Int)) % (N : Int))]
      | _ => .none
    rw [hsp] at h3
    have ebk : (Ns (Sw.bk N c fx ((t + k) % N) 6 (Sw.nxr N c ((t + k) % N)))).map el = ((Sw.bk N c fx ((t + k) % N) 6 (Sw.nxr N c ((t + k) % N))).map fun th => (k, (th + N - t) % N)).map pr := by
      unfold Ns
      rw [List.map_map, List.map_map]
      refine List.map_congr_left fun th hth => ?_
      have hth := hbn th hth
      show PyData.tuple [.int (k : Int), .int (((th : Int) - (t : Int)) % (N : Int))] = pr (k, (th + N - t) % N)
      unfold pr
      have : ((th : Int) - (t : Int)) % (N : Int) = (((th + N - t) % N : Nat) : Int) := by
        rw [Int.natCast_emod, show ((th + N - t : Nat) : Int) = ((th : Int) - t) + N by omega, Int.add_emod_right]
      rw [this]
    have lbn := ns_len (Sw.bk N c fx ((t + k) % N) 6 (Sw.nxr N c ((t + k) % N)))
    generalize hB : Sw.bk N c fx ((t + k) % N) 6 (Sw.nxr N c ((t + k) % N)) = B at *
    have h3' := h3
    rw [← hsp] at h3'
    apply sat_nx
    focus
      ((conv => lhs; simp [argsOf, placesOf, putBack, put, putF, putAll, flg, R.view, R.viewR, kilS, SRes.kil, Md.wipe]); try rfl)
      (unfold c'law_k65'0; rw [lc1m el (Ns B) ?hi ?hv ?hw ?hl ?hp ?hz ?hb]; (case hi => (first | rfl | ((conv => lhs; simp [argsOf, placesOf, putBack, put, putF, putAll, flg, R.view, R.viewR, kilS, SRes.kil, Md.wipe, h3']); try rfl))); (case hv => (first | rfl | simp)); (case hw => (first | rfl | ((conv => lhs; simp [argsOf, placesOf, putBack, put, putF, putAll, flg, R.view, R.viewR, kilS, SRes.kil, Md.wipe, h3']); try rfl))); (case hl => rfl); (case hp => rfl))
      case hz => omega
      case hb =>
        intro d hd
        obtain ⟨th, _, rfl⟩ := List.mem_map.mp hd
        exact ⟨_, .fz (.tuple [.int (k : Int), .int (((th : Int) - (t : Int)) % (N : Int))]), rfl, rfl, by ((conv => lhs; simp [argsOf, placesOf, putBack, put, putF, putAll, flg, R.view, R.viewR, kilS, SRes.kil, Md.wipe, binop_mod _ _ lN]); try rfl), rfl⟩
      rw [ebk, List.map_map]
      ((conv => lhs; simp [argsOf, placesOf, putBack, put, putF, putAll, flg, R.view, R.viewR, kilS, SRes.kil, Md.wipe, binop_addl x (B.map (pr ∘ fun th => (k, (th + N - t) % N))) (szOk_lt (by rw [List.length_map]; omega))]); try rfl)
    refine ⟨_, rfl, ?_⟩
    rw [List.range_succ, List.flatMap_append, List.map_append, ← hx]
    simp [hB]
  · rw [rangeUp_length, Int.toNat_natCast] at hx
    have hx : x = (Sw.due N c fx t).map pr := hx
    subst hx
    have h1 := sways_ok 54 wa hg (by omega) (by omega) tnd
    have hsy := row_sy ck wnd lw hf5' N1 N4 hr tl
    have hperm : (Sw.due N c fx t).Perm (Pp tbs (hdD ws fx) as') := (List.perm_ext_iff_of_nodup ck.nd (lx_nd pp_ord)).mpr fun ⟨a, b⟩ => by
      rw [ck.du a b, pp_mem]
      exact (hsy a b).symm
    have hso := sorted_pr (Sw.due N c fx t)
    rw [srt_pr hperm pp_ord, ← pw_pp] at hso
    have hne : Md.compare .ne (.list (Pw tbs (hdD ws fx) as')) (.list (Pw tbs (hdD ws fx) as')) = some false := ne_self' (k := 2) fun d hd => by
      obtain ⟨a, b, rfl, _⟩ := pw_mem.mp hd
      intro d hd
      simp only [List.mem_cons, List.not_mem_nil, or_false] at hd
      rcases hd with rfl | rfl <;> trivial
    (apply sat_iff; (focus ((conv => lhs; simp [argsOf, placesOf, putBack, put, putF, putAll, flg, R.view, R.viewR, kilS, SRes.kil, Md.wipe, h1, hso, hne]); try rfl)); refine sat_nop ?_)
    have hkv := kv_sub (g := hdD ws fx) wa
    have hlt : ∀ a b, Ey tbs (hdD ws fx) as' a b → a < as'.length ∧ b < as'.length ∧ a ≠ b := fun a b h => ⟨h.1, h.2.1, fun e => h.2.2.1 e.symm⟩
    have htr : ∀ a b c', Ey tbs (hdD ws fx) as' a b → Ey tbs (hdD ws fx) as' b c' → c' ≠ a → Ey tbs (hdD ws fx) as' a c' ∨ Ey tbs (hdD ws fx) as' b a := fun a b c' hab hbc hca => by
      rcases Sw.trans hab.1 hkv hab.2.2 hbc.2.2 hca with h | h
      · exact .inl ⟨hab.1, hbc.2.1, h⟩
      · exact .inr ⟨hab.2.1, hab.1, h⟩
    have hmu : (∃ r, Sw.IsR as'.length (Ey tbs (hdD ws fx) as') r) ↔ c = true ∧ N ≠ 1 ∧ fx = none := by
      rw [← ck.mu]
      constructor
      · rintro ⟨r, hr⟩
        obtain ⟨a, b, hab, hba⟩ := Sw.two_ring hlt htr r.length r (Nat.le_refl _) hr
        have h1 := (hsy a b).mp hab
        have h2 := (hsy b a).mp hba
        exact ⟨a, b, h1.1, h1.2.1, h1.2.2, h2.2.2⟩
      · rintro ⟨a, b, ha, hb, s1, s2⟩
        have h1 := (hsy a b).mpr ⟨ha, hb, s1⟩
        have h2 := (hsy b a).mpr ⟨hb, ha, s2⟩
        refine ⟨[a, b], a, b, rfl, rfl, ⟨h1.1, ?_, h1, h1.2.1⟩, h2⟩
        simp only [List.mem_singleton]
        exact (hlt a b h1).2.2
    obtain ⟨_, hri, q⟩ := ring_ok 53 wa hg (by omega) (by omega) tnd
    have fnn := fx_notN fx
    rcases q with ⟨rfl, hno⟩ | ⟨r, rfl, hir⟩
    · rw [hmu] at hno
      cases c with
      | false =>
        (apply sat_ret; focus ((conv => lhs; simp [argsOf, placesOf, putBack, put, putF, putAll, flg, R.view, R.viewR, kilS, SRes.kil, Md.wipe, hri, isN_none]); try rfl))
        exact ⟨_, rfl, rfl⟩
      | true =>
        by_cases e1 : (N : Int) = 1
        · (apply sat_ret; focus ((conv => lhs; simp [argsOf, placesOf, putBack, put, putF, putAll, flg, R.view, R.viewR, kilS, SRes.kil, Md.wipe, hri, isN_none, e1]); try rfl))
          exact ⟨_, rfl, rfl⟩
        · have e2 : fx ≠ none := fun e => hno ⟨rfl, by omega, e⟩
          (apply sat_ret; focus ((conv => lhs; simp [argsOf, placesOf, putBack, put, putF, putAll, flg, R.view, R.viewR, kilS, SRes.kil, Md.wipe, hri, isN_none, e1, fnn, e2]); try rfl))
          exact ⟨_, rfl, rfl⟩
    · obtain ⟨rfl, e1, rfl⟩ := hmu.mp ⟨r, hir⟩
      have e1 : ¬((N : Int) = 1) := by omega
      (apply sat_ret; focus ((conv => lhs; simp [argsOf, placesOf, putBack, put, putF, putAll, flg, R.view, R.viewR, kilS, SRes.kil, Md.wipe, hri, isN_list, e1, fnn]); try rfl))
      exact ⟨_, rfl, rfl⟩
end Md

namespace K65
open PySem PySem.Spec Md
def topS (i : Nat) : Stmt := PySem.Challenge.pw_mendsure_k65_atoms_in_a_row.main.body.getD i (.Pass ⟨0, 0, 0, 0⟩)
def d0 : Df := ⟨"names_in", topS 4, ["terms", "given", "term"], F'names_in⟩
def d1 : Df := ⟨"key_names", topS 5, ["tables", "atom", "given"], F'key_names⟩
def d2 : Df := ⟨"known_to", topS 6, ["tables", "atoms", "given", "number", "found", "grown", "other", "atom", "lacks", "name"], F'known_to⟩
def d3 : Df := ⟨"share", topS 7, ["atom", "other", "given", "known_names", "there", "name"], F'share⟩
def d4 : Df := ⟨"swayed", topS 8, ["tables", "atoms", "given", "number", "mine", "found", "at", "other"], F'swayed⟩
def d5 : Df := ⟨"check_double", topS 9, ["question", "seen", "number", "atom"], F'check_double⟩
def d6 : Df := ⟨"known", topS 10, ["tables", "question", "atom"], F'known⟩
def d7 : Df := ⟨"sways", topS 11, ["tables", "question", "pairs", "number", "other"], F'sways⟩
def d8 : Df := ⟨"ring", topS 12, ["tables", "question", "pairs", "roads", "at", "road", "number", "one", "other"], F'ring⟩
def d9 : Df := ⟨"_law_cell_at", topS 14, ["_law_script", "_law_k"], F'l_cell_at⟩
def d10 : Df := ⟨"_law_name_in", topS 15, ["_law_rest", "_law_letters", "_law_many", "_law_name", "_law_k"], F'l_name_in⟩
def d11 : Df := ⟨"_law_words_by_digits", topS 16, ["_law_rest", "_law_many", "_law_words_here", "_law_k", "_law_letter", "_law_word"], F'l_words_by_digits⟩
def d12 : Df := ⟨"_law_words", topS 17, ["_law_cell", "_law_many", "_law_letters", "_law_long", "_law_spot", "_law_words_here", "_law_k", "_law_word", "_law_j", "_law_sign"], F'l_words_2⟩
def d13 : Df := ⟨"_law_drawn", topS 18, ["_law_cell", "_law_many", "_law_some", "_law_number", "_law_k", "_law_rest"], F'l_drawn_2⟩
def d14 : Df := ⟨"_law_row", topS 19, ["_law_script", "_law_words_here", "_law_many", "_law_closed", "_law_tables", "_law_atoms", "_law_order", "_law_k", "_law_numbers", "_law_there", "_law_terms", "_law_number"], F'l_row_5⟩
def d15 : Df := ⟨"_law_next", topS 20, ["_law_many", "_law_closed", "_law_k"], F'l_next⟩
def d16 : Df := ⟨"_law_names", topS 21, ["_law_words_here", "_law_many", "_law_closed", "_law_fixed", "_law_k", "_law_found", "_law_here"], F'l_names_3⟩
def d17 : Df := ⟨"_law_behind", topS 22, ["_law_many", "_law_closed", "_law_fixed", "_law_k", "_law_found", "_law_here"], F'l_behind⟩
def d18 : Df := ⟨"law", topS 23, ["_law_script", "_law_words_here", "_law_many", "_law_closed", "_law_fixed", "_law_head", "_law_turn", "_law_question", "_law_due", "_law_k", "_law_tables", "_law_atoms", "_law_spot", "_law_there"], F'law_k65⟩
def defs : List (Nat × Df) := [(294, d0), (295, d1), (296, d2), (297, d3), (298, d4), (299, d5), (300, d6), (301, d7), (302, d8), (16, d9), (303, d10), (304, d11), (305, d12), (306, d13), (331, d14), (332, d15), (333, d16), (334, d17), (335, d18)]
def bl : List Str := ["sorted", "set", "enumerate", "all", "any", "range", "len", "tuple", "int"]
def gs : List Str := []
theorem ck0 : CkD bl gs (fnT defs) Pg0 d0 ∧ DG 294 = some d0.fd := ⟨⟨by kernel_rfl, rfl, by decide, fun np => by kernel_rfl⟩, at'names_in⟩
theorem ck1 : CkD bl gs (fnT defs) Pg0 d1 ∧ DG 295 = some d1.fd := ⟨⟨by kernel_rfl, rfl, by decide, fun np => by kernel_rfl⟩, at'key_names⟩
theorem ck2 : CkD bl gs (fnT defs) Pg0 d2 ∧ DG 296 = some d2.fd := ⟨⟨by kernel_rfl, rfl, by decide, fun np => by kernel_rfl⟩, at'known_to⟩
theorem ck3 : CkD bl gs (fnT defs) Pg0 d3 ∧ DG 297 = some d3.fd := ⟨⟨by kernel_rfl, rfl, by decide, fun np => by kernel_rfl⟩, at'share⟩
theorem ck4 : CkD bl gs (fnT defs) Pg0 d4 ∧ DG 298 = some d4.fd := ⟨⟨by kernel_rfl, rfl, by decide, fun np => by kernel_rfl⟩, at'swayed⟩
theorem ck5 : CkD bl gs (fnT defs) Pg0 d5 ∧ DG 299 = some d5.fd := ⟨⟨by kernel_rfl, rfl, by decide, fun np => by kernel_rfl⟩, at'check_double⟩
theorem ck6 : CkD bl gs (fnT defs) Pg0 d6 ∧ DG 300 = some d6.fd := ⟨⟨by kernel_rfl, rfl, by decide, fun np => by kernel_rfl⟩, at'known⟩
theorem ck7 : CkD bl gs (fnT defs) Pg0 d7 ∧ DG 301 = some d7.fd := ⟨⟨by kernel_rfl, rfl, by decide, fun np => by kernel_rfl⟩, at'sways⟩
theorem ck8 : CkD bl gs (fnT defs) Pg0 d8 ∧ DG 302 = some d8.fd := ⟨⟨by kernel_rfl, rfl, by decide, fun np => by kernel_rfl⟩, at'ring⟩
theorem ck9 : CkD bl gs (fnT defs) Pg0 d9 ∧ DG 16 = some d9.fd := ⟨⟨by kernel_rfl, rfl, by decide, fun np => by kernel_rfl⟩, at'l_cell_at⟩
theorem ck10 : CkD bl gs (fnT defs) Pg0 d10 ∧ DG 303 = some d10.fd := ⟨⟨by kernel_rfl, rfl, by decide, fun np => by kernel_rfl⟩, at'l_name_in⟩
theorem ck11 : CkD bl gs (fnT defs) Pg0 d11 ∧ DG 304 = some d11.fd := ⟨⟨by kernel_rfl, rfl, by decide, fun np => by kernel_rfl⟩, at'l_words_by_digits⟩
theorem ck12 : CkD bl gs (fnT defs) Pg0 d12 ∧ DG 305 = some d12.fd := ⟨⟨by kernel_rfl, rfl, by decide, fun np => by kernel_rfl⟩, at'l_words_2⟩
theorem ck13 : CkD bl gs (fnT defs) Pg0 d13 ∧ DG 306 = some d13.fd := ⟨⟨by kernel_rfl, rfl, by decide, fun np => by kernel_rfl⟩, at'l_drawn_2⟩
theorem ck14 : CkD bl gs (fnT defs) Pg0 d14 ∧ DG 331 = some d14.fd := ⟨⟨by kernel_rfl, rfl, by decide, fun np => by kernel_rfl⟩, at'l_row_5⟩
theorem ck15 : CkD bl gs (fnT defs) Pg0 d15 ∧ DG 332 = some d15.fd := ⟨⟨by kernel_rfl, rfl, by decide, fun np => by kernel_rfl⟩, at'l_next⟩
theorem ck16 : CkD bl gs (fnT defs) Pg0 d16 ∧ DG 333 = some d16.fd := ⟨⟨by kernel_rfl, rfl, by decide, fun np => by kernel_rfl⟩, at'l_names_3⟩
theorem ck17 : CkD bl gs (fnT defs) Pg0 d17 ∧ DG 334 = some d17.fd := ⟨⟨by kernel_rfl, rfl, by decide, fun np => by kernel_rfl⟩, at'l_behind⟩
theorem ck18 : CkD bl gs (fnT defs) Pg0 d18 ∧ DG 335 = some d18.fd := ⟨⟨by kernel_rfl, rfl, by decide, fun np => by kernel_rfl⟩, at'law_k65⟩
theorem all_mk {l : PySem.W.OpenLaw} {w : World} {K : PySem.W.Frag} {h : Heap} {mg : Str → Option Value} {fa : Addr} (X : K.In h) (G : h.Ns mainGlobals mg) (hfa : mg "law" = some (.ref fa))
    {f0 : Addr} {od0 an0 : Option Addr} {sl0 : Array (Option Value)} {oc0 kV0 dc0 pm0 cd0 ct0 : Value}
    {f1 : Addr} {od1 an1 : Option Addr} {sl1 : Array (Option Value)} {oc1 kV1 dc1 pm1 cd1 ct1 : Value}
    {f2 : Addr} {od2 an2 : Option Addr} {sl2 : Array (Option Value)} {oc2 kV2 dc2 pm2 cd2 ct2 : Value}
    {f3 : Addr} {od3 an3 : Option Addr} {sl3 : Array (Option Value)} {oc3 kV3 dc3 pm3 cd3 ct3 : Value}
    {f4 : Addr} {od4 an4 : Option Addr} {sl4 : Array (Option Value)} {oc4 kV4 dc4 pm4 cd4 ct4 : Value}
    {f5 : Addr} {od5 an5 : Option Addr} {sl5 : Array (Option Value)} {oc5 kV5 dc5 pm5 cd5 ct5 : Value}
    {f6 : Addr} {od6 an6 : Option Addr} {sl6 : Array (Option Value)} {oc6 kV6 dc6 pm6 cd6 ct6 : Value}
    {f7 : Addr} {od7 an7 : Option Addr} {sl7 : Array (Option Value)} {oc7 kV7 dc7 pm7 cd7 ct7 : Value}
    {f8 : Addr} {od8 an8 : Option Addr} {sl8 : Array (Option Value)} {oc8 kV8 dc8 pm8 cd8 ct8 : Value}
    {f9 : Addr} {od9 an9 : Option Addr} {sl9 : Array (Option Value)} {oc9 kV9 dc9 pm9 cd9 ct9 : Value}
    {f10 : Addr} {od10 an10 : Option Addr} {sl10 : Array (Option Value)} {oc10 kV10 dc10 pm10 cd10 ct10 : Value}
    {f11 : Addr} {od11 an11 : Option Addr} {sl11 : Array (Option Value)} {oc11 kV11 dc11 pm11 cd11 ct11 : Value}
    {f12 : Addr} {od12 an12 : Option Addr} {sl12 : Array (Option Value)} {oc12 kV12 dc12 pm12 cd12 ct12 : Value}
    {f13 : Addr} {od13 an13 : Option Addr} {sl13 : Array (Option Value)} {oc13 kV13 dc13 pm13 cd13 ct13 : Value}
    {f14 : Addr} {od14 an14 : Option Addr} {sl14 : Array (Option Value)} {oc14 kV14 dc14 pm14 cd14 ct14 : Value}
    {f15 : Addr} {od15 an15 : Option Addr} {sl15 : Array (Option Value)} {oc15 kV15 dc15 pm15 cd15 ct15 : Value}
    {f16 : Addr} {od16 an16 : Option Addr} {sl16 : Array (Option Value)} {oc16 kV16 dc16 pm16 cd16 ct16 : Value}
    {f17 : Addr} {od17 an17 : Option Addr} {sl17 : Array (Option Value)} {oc17 kV17 dc17 pm17 cd17 ct17 : Value}
    {f18 : Addr} {od18 an18 : Option Addr} {sl18 : Array (Option Value)} {oc18 kV18 dc18 pm18 cd18 ct18 : Value}
    (a0 : PySem.W.nsIn K mainGlobals "names_in" = some (some (.ref f0))) (l0 : K.lookup f0 = some ⟨oc0, od0, .func (PySem.W.fnOf "names_in" "names_in" (L2.defArgs d0.st) (L2.defBody d0.st) (L2.defScope d0.st) .none kV0 dc0 pm0 an0 cd0 ct0), sl0⟩) (c0 : PySem.W.codeIn K cd0 "names_in" = true) (k0 : PySem.W.keepIn K (.ref f0) = true)
    (a1 : PySem.W.nsIn K mainGlobals "key_names" = some (some (.ref f1))) (l1 : K.lookup f1 = some ⟨oc1, od1, .func (PySem.W.fnOf "key_names" "key_names" (L2.defArgs d1.st) (L2.defBody d1.st) (L2.defScope d1.st) .none kV1 dc1 pm1 an1 cd1 ct1), sl1⟩) (c1 : PySem.W.codeIn K cd1 "key_names" = true) (k1 : PySem.W.keepIn K (.ref f1) = true)
    (a2 : PySem.W.nsIn K mainGlobals "known_to" = some (some (.ref f2))) (l2 : K.lookup f2 = some ⟨oc2, od2, .func (PySem.W.fnOf "known_to" "known_to" (L2.defArgs d2.st) (L2.defBody d2.st) (L2.defScope d2.st) .none kV2 dc2 pm2 an2 cd2 ct2), sl2⟩) (c2 : PySem.W.codeIn K cd2 "known_to" = true) (k2 : PySem.W.keepIn K (.ref f2) = true)
    (a3 : PySem.W.nsIn K mainGlobals "share" = some (some (.ref f3))) (l3 : K.lookup f3 = some ⟨oc3, od3, .func (PySem.W.fnOf "share" "share" (L2.defArgs d3.st) (L2.defBody d3.st) (L2.defScope d3.st) .none kV3 dc3 pm3 an3 cd3 ct3), sl3⟩) (c3 : PySem.W.codeIn K cd3 "share" = true) (k3 : PySem.W.keepIn K (.ref f3) = true)
    (a4 : PySem.W.nsIn K mainGlobals "swayed" = some (some (.ref f4))) (l4 : K.lookup f4 = some ⟨oc4, od4, .func (PySem.W.fnOf "swayed" "swayed" (L2.defArgs d4.st) (L2.defBody d4.st) (L2.defScope d4.st) .none kV4 dc4 pm4 an4 cd4 ct4), sl4⟩) (c4 : PySem.W.codeIn K cd4 "swayed" = true) (k4 : PySem.W.keepIn K (.ref f4) = true)
    (a5 : PySem.W.nsIn K mainGlobals "check_double" = some (some (.ref f5))) (l5 : K.lookup f5 = some ⟨oc5, od5, .func (PySem.W.fnOf "check_double" "check_double" (L2.defArgs d5.st) (L2.defBody d5.st) (L2.defScope d5.st) .none kV5 dc5 pm5 an5 cd5 ct5), sl5⟩) (c5 : PySem.W.codeIn K cd5 "check_double" = true) (k5 : PySem.W.keepIn K (.ref f5) = true)
    (a6 : PySem.W.nsIn K mainGlobals "known" = some (some (.ref f6))) (l6 : K.lookup f6 = some ⟨oc6, od6, .func (PySem.W.fnOf "known" "known" (L2.defArgs d6.st) (L2.defBody d6.st) (L2.defScope d6.st) .none kV6 dc6 pm6 an6 cd6 ct6), sl6⟩) (c6 : PySem.W.codeIn K cd6 "known" = true) (k6 : PySem.W.keepIn K (.ref f6) = true)
    (a7 : PySem.W.nsIn K mainGlobals "sways" = some (some (.ref f7))) (l7 : K.lookup f7 = some ⟨oc7, od7, .func (PySem.W.fnOf "sways" "sways" (L2.defArgs d7.st) (L2.defBody d7.st) (L2.defScope d7.st) .none kV7 dc7 pm7 an7 cd7 ct7), sl7⟩) (c7 : PySem.W.codeIn K cd7 "sways" = true) (k7 : PySem.W.keepIn K (.ref f7) = true)
    (a8 : PySem.W.nsIn K mainGlobals "ring" = some (some (.ref f8))) (l8 : K.lookup f8 = some ⟨oc8, od8, .func (PySem.W.fnOf "ring" "ring" (L2.defArgs d8.st) (L2.defBody d8.st) (L2.defScope d8.st) .none kV8 dc8 pm8 an8 cd8 ct8), sl8⟩) (c8 : PySem.W.codeIn K cd8 "ring" = true) (k8 : PySem.W.keepIn K (.ref f8) = true)
    (a9 : PySem.W.nsIn K mainGlobals "_law_cell_at" = some (some (.ref f9))) (l9 : K.lookup f9 = some ⟨oc9, od9, .func (PySem.W.fnOf "_law_cell_at" "_law_cell_at" (L2.defArgs d9.st) (L2.defBody d9.st) (L2.defScope d9.st) .none kV9 dc9 pm9 an9 cd9 ct9), sl9⟩) (c9 : PySem.W.codeIn K cd9 "_law_cell_at" = true) (k9 : PySem.W.keepIn K (.ref f9) = true)
    (a10 : PySem.W.nsIn K mainGlobals "_law_name_in" = some (some (.ref f10))) (l10 : K.lookup f10 = some ⟨oc10, od10, .func (PySem.W.fnOf "_law_name_in" "_law_name_in" (L2.defArgs d10.st) (L2.defBody d10.st) (L2.defScope d10.st) .none kV10 dc10 pm10 an10 cd10 ct10), sl10⟩) (c10 : PySem.W.codeIn K cd10 "_law_name_in" = true) (k10 : PySem.W.keepIn K (.ref f10) = true)
    (a11 : PySem.W.nsIn K mainGlobals "_law_words_by_digits" = some (some (.ref f11))) (l11 : K.lookup f11 = some ⟨oc11, od11, .func (PySem.W.fnOf "_law_words_by_digits" "_law_words_by_digits" (L2.defArgs d11.st) (L2.defBody d11.st) (L2.defScope d11.st) .none kV11 dc11 pm11 an11 cd11 ct11), sl11⟩) (c11 : PySem.W.codeIn K cd11 "_law_words_by_digits" = true) (k11 : PySem.W.keepIn K (.ref f11) = true)
    (a12 : PySem.W.nsIn K mainGlobals "_law_words" = some (some (.ref f12))) (l12 : K.lookup f12 = some ⟨oc12, od12, .func (PySem.W.fnOf "_law_words" "_law_words" (L2.defArgs d12.st) (L2.defBody d12.st) (L2.defScope d12.st) .none kV12 dc12 pm12 an12 cd12 ct12), sl12⟩) (c12 : PySem.W.codeIn K cd12 "_law_words" = true) (k12 : PySem.W.keepIn K (.ref f12) = true)
    (a13 : PySem.W.nsIn K mainGlobals "_law_drawn" = some (some (.ref f13))) (l13 : K.lookup f13 = some ⟨oc13, od13, .func (PySem.W.fnOf "_law_drawn" "_law_drawn" (L2.defArgs d13.st) (L2.defBody d13.st) (L2.defScope d13.st) .none kV13 dc13 pm13 an13 cd13 ct13), sl13⟩) (c13 : PySem.W.codeIn K cd13 "_law_drawn" = true) (k13 : PySem.W.keepIn K (.ref f13) = true)
    (a14 : PySem.W.nsIn K mainGlobals "_law_row" = some (some (.ref f14))) (l14 : K.lookup f14 = some ⟨oc14, od14, .func (PySem.W.fnOf "_law_row" "_law_row" (L2.defArgs d14.st) (L2.defBody d14.st) (L2.defScope d14.st) .none kV14 dc14 pm14 an14 cd14 ct14), sl14⟩) (c14 : PySem.W.codeIn K cd14 "_law_row" = true) (k14 : PySem.W.keepIn K (.ref f14) = true)
    (a15 : PySem.W.nsIn K mainGlobals "_law_next" = some (some (.ref f15))) (l15 : K.lookup f15 = some ⟨oc15, od15, .func (PySem.W.fnOf "_law_next" "_law_next" (L2.defArgs d15.st) (L2.defBody d15.st) (L2.defScope d15.st) .none kV15 dc15 pm15 an15 cd15 ct15), sl15⟩) (c15 : PySem.W.codeIn K cd15 "_law_next" = true) (k15 : PySem.W.keepIn K (.ref f15) = true)
    (a16 : PySem.W.nsIn K mainGlobals "_law_names" = some (some (.ref f16))) (l16 : K.lookup f16 = some ⟨oc16, od16, .func (PySem.W.fnOf "_law_names" "_law_names" (L2.defArgs d16.st) (L2.defBody d16.st) (L2.defScope d16.st) .none kV16 dc16 pm16 an16 cd16 ct16), sl16⟩) (c16 : PySem.W.codeIn K cd16 "_law_names" = true) (k16 : PySem.W.keepIn K (.ref f16) = true)
    (a17 : PySem.W.nsIn K mainGlobals "_law_behind" = some (some (.ref f17))) (l17 : K.lookup f17 = some ⟨oc17, od17, .func (PySem.W.fnOf "_law_behind" "_law_behind" (L2.defArgs d17.st) (L2.defBody d17.st) (L2.defScope d17.st) .none kV17 dc17 pm17 an17 cd17 ct17), sl17⟩) (c17 : PySem.W.codeIn K cd17 "_law_behind" = true) (k17 : PySem.W.keepIn K (.ref f17) = true)
    (a18 : PySem.W.nsIn K mainGlobals "law" = some (some (.ref f18))) (l18 : K.lookup f18 = some ⟨oc18, od18, .func (PySem.W.fnOf "law" "law" (L2.defArgs d18.st) (L2.defBody d18.st) (L2.defScope d18.st) .none kV18 dc18 pm18 an18 cd18 ct18), sl18⟩) (c18 : PySem.W.codeIn K cd18 "law" = true) (k18 : PySem.W.keepIn K (.ref f18) = true)
    (z0 : PySem.W.nsIn K mainGlobals "sorted" = some none)
    (z1 : PySem.W.nsIn K mainGlobals "set" = some none)
    (z2 : PySem.W.nsIn K mainGlobals "enumerate" = some none)
    (z3 : PySem.W.nsIn K mainGlobals "all" = some none)
    (z4 : PySem.W.nsIn K mainGlobals "any" = some none)
    (z5 : PySem.W.nsIn K mainGlobals "range" = some none)
    (z6 : PySem.W.nsIn K mainGlobals "len" = some none)
    (z7 : PySem.W.nsIn K mainGlobals "tuple" = some none)
    (z8 : PySem.W.nsIn K mainGlobals "int" = some none) :
    ∃ fd : FuncData, (∀ (s : Shared) (v : Value), BindsTo s fd ⟨[v], []⟩ [("_law_script", v)]) ∧ ∀ base : Heap, K.In base → base.Ns mainGlobals mg → L2.FnOk l.prog w K mg base (L2.CX l.prog w) 60 fa fd ["_law_script"] (@Md.spF ⟨w⟩ K (Md.run Pg0 DG 60) 335 1) := by
  have e := hfa.symm.trans (PySem.W.mg_of X G a18)
  cases e
  have F0 : FdOk K mg d0 _ _ := ⟨L2.fun_mk (st := d0.st) l0 c0 k0, PySem.W.mg_of X G a0, (L2.fun_mk (st := d0.st) l0 c0 k0).binds (ps := d0.ps) fun _ _ _ _ _ _ us hl => match us, hl with | [_, _], _ => rfl⟩
  have F1 : FdOk K mg d1 _ _ := ⟨L2.fun_mk (st := d1.st) l1 c1 k1, PySem.W.mg_of X G a1, (L2.fun_mk (st := d1.st) l1 c1 k1).binds (ps := d1.ps) fun _ _ _ _ _ _ us hl => match us, hl with | [_, _, _], _ => rfl⟩
  have F2 : FdOk K mg d2 _ _ := ⟨L2.fun_mk (st := d2.st) l2 c2 k2, PySem.W.mg_of X G a2, (L2.fun_mk (st := d2.st) l2 c2 k2).binds (ps := d2.ps) fun _ _ _ _ _ _ us hl => match us, hl with | [_, _, _, _], _ => rfl⟩
  have F3 : FdOk K mg d3 _ _ := ⟨L2.fun_mk (st := d3.st) l3 c3 k3, PySem.W.mg_of X G a3, (L2.fun_mk (st := d3.st) l3 c3 k3).binds (ps := d3.ps) fun _ _ _ _ _ _ us hl => match us, hl with | [_, _, _, _], _ => rfl⟩
  have F4 : FdOk K mg d4 _ _ := ⟨L2.fun_mk (st := d4.st) l4 c4 k4, PySem.W.mg_of X G a4, (L2.fun_mk (st := d4.st) l4 c4 k4).binds (ps := d4.ps) fun _ _ _ _ _ _ us hl => match us, hl with | [_, _, _, _], _ => rfl⟩
  have F5 : FdOk K mg d5 _ _ := ⟨L2.fun_mk (st := d5.st) l5 c5 k5, PySem.W.mg_of X G a5, (L2.fun_mk (st := d5.st) l5 c5 k5).binds (ps := d5.ps) fun _ _ _ _ _ _ us hl => match us, hl with | [_], _ => rfl⟩
  have F6 : FdOk K mg d6 _ _ := ⟨L2.fun_mk (st := d6.st) l6 c6 k6, PySem.W.mg_of X G a6, (L2.fun_mk (st := d6.st) l6 c6 k6).binds (ps := d6.ps) fun _ _ _ _ _ _ us hl => match us, hl with | [_, _, _], _ => rfl⟩
  have F7 : FdOk K mg d7 _ _ := ⟨L2.fun_mk (st := d7.st) l7 c7 k7, PySem.W.mg_of X G a7, (L2.fun_mk (st := d7.st) l7 c7 k7).binds (ps := d7.ps) fun _ _ _ _ _ _ us hl => match us, hl with | [_, _], _ => rfl⟩
  have F8 : FdOk K mg d8 _ _ := ⟨L2.fun_mk (st := d8.st) l8 c8 k8, PySem.W.mg_of X G a8, (L2.fun_mk (st := d8.st) l8 c8 k8).binds (ps := d8.ps) fun _ _ _ _ _ _ us hl => match us, hl with | [_, _], _ => rfl⟩
  have F9 : FdOk K mg d9 _ _ := ⟨L2.fun_mk (st := d9.st) l9 c9 k9, PySem.W.mg_of X G a9, (L2.fun_mk (st := d9.st) l9 c9 k9).binds (ps := d9.ps) fun _ _ _ _ _ _ us hl => match us, hl with | [_, _], _ => rfl⟩
  have F10 : FdOk K mg d10 _ _ := ⟨L2.fun_mk (st := d10.st) l10 c10 k10, PySem.W.mg_of X G a10, (L2.fun_mk (st := d10.st) l10 c10 k10).binds (ps := d10.ps) fun _ _ _ _ _ _ us hl => match us, hl with | [_], _ => rfl⟩
  have F11 : FdOk K mg d11 _ _ := ⟨L2.fun_mk (st := d11.st) l11 c11 k11, PySem.W.mg_of X G a11, (L2.fun_mk (st := d11.st) l11 c11 k11).binds (ps := d11.ps) fun _ _ _ _ _ _ us hl => match us, hl with | [_, _], _ => rfl⟩
  have F12 : FdOk K mg d12 _ _ := ⟨L2.fun_mk (st := d12.st) l12 c12 k12, PySem.W.mg_of X G a12, (L2.fun_mk (st := d12.st) l12 c12 k12).binds (ps := d12.ps) fun _ _ _ _ _ _ us hl => match us, hl with | [_, _], _ => rfl⟩
  have F13 : FdOk K mg d13 _ _ := ⟨L2.fun_mk (st := d13.st) l13 c13 k13, PySem.W.mg_of X G a13, (L2.fun_mk (st := d13.st) l13 c13 k13).binds (ps := d13.ps) fun _ _ _ _ _ _ us hl => match us, hl with | [_, _], _ => rfl⟩
  have F14 : FdOk K mg d14 _ _ := ⟨L2.fun_mk (st := d14.st) l14 c14 k14, PySem.W.mg_of X G a14, (L2.fun_mk (st := d14.st) l14 c14 k14).binds (ps := d14.ps) fun _ _ _ _ _ _ us hl => match us, hl with | [_, _, _, _], _ => rfl⟩
  have F15 : FdOk K mg d15 _ _ := ⟨L2.fun_mk (st := d15.st) l15 c15 k15, PySem.W.mg_of X G a15, (L2.fun_mk (st := d15.st) l15 c15 k15).binds (ps := d15.ps) fun _ _ _ _ _ _ us hl => match us, hl with | [_, _, _], _ => rfl⟩
  have F16 : FdOk K mg d16 _ _ := ⟨L2.fun_mk (st := d16.st) l16 c16 k16, PySem.W.mg_of X G a16, (L2.fun_mk (st := d16.st) l16 c16 k16).binds (ps := d16.ps) fun _ _ _ _ _ _ us hl => match us, hl with | [_, _, _, _, _], _ => rfl⟩
  have F17 : FdOk K mg d17 _ _ := ⟨L2.fun_mk (st := d17.st) l17 c17 k17, PySem.W.mg_of X G a17, (L2.fun_mk (st := d17.st) l17 c17 k17).binds (ps := d17.ps) fun _ _ _ _ _ _ us hl => match us, hl with | [_, _, _, _], _ => rfl⟩
  have F18 : FdOk K mg d18 _ _ := ⟨L2.fun_mk (st := d18.st) l18 c18 k18, PySem.W.mg_of X G a18, (L2.fun_mk (st := d18.st) l18 c18 k18).binds (ps := d18.ps) fun _ _ _ _ _ _ us hl => match us, hl with | [_], _ => rfl⟩
  letI : Wd := ⟨w⟩
  have M : Mn K mg bl gs Pg0 := by
    refine ⟨(List.forall_mem_cons.2 ⟨PySem.W.mg_none_of X G z0, (List.forall_mem_cons.2 ⟨PySem.W.mg_none_of X G z1, (List.forall_mem_cons.2 ⟨PySem.W.mg_none_of X G z2, (List.forall_mem_cons.2 ⟨PySem.W.mg_none_of X G z3, (List.forall_mem_cons.2 ⟨PySem.W.mg_none_of X G z4, (List.forall_mem_cons.2 ⟨PySem.W.mg_none_of X G z5, (List.forall_mem_cons.2 ⟨PySem.W.mg_none_of X G z6, (List.forall_mem_cons.2 ⟨PySem.W.mg_none_of X G z7, (List.forall_mem_cons.2 ⟨PySem.W.mg_none_of X G z8, (fun _ h => nomatch h)⟩)⟩)⟩)⟩)⟩)⟩)⟩)⟩)⟩), ?_⟩
    intro x v hm hx
    exact nomatch hm
  exact ⟨_, fun s v => .of_eq rfl, fun base _ _ => Md.run_ok (hw := rfl) M (List.forall_mem_cons.2 ⟨ck0, (List.forall_mem_cons.2 ⟨ck1, (List.forall_mem_cons.2 ⟨ck2, (List.forall_mem_cons.2 ⟨ck3, (List.forall_mem_cons.2 ⟨ck4, (List.forall_mem_cons.2 ⟨ck5, (List.forall_mem_cons.2 ⟨ck6, (List.forall_mem_cons.2 ⟨ck7, (List.forall_mem_cons.2 ⟨ck8, (List.forall_mem_cons.2 ⟨ck9, (List.forall_mem_cons.2 ⟨ck10, (List.forall_mem_cons.2 ⟨ck11, (List.forall_mem_cons.2 ⟨ck12, (List.forall_mem_cons.2 ⟨ck13, (List.forall_mem_cons.2 ⟨ck14, (List.forall_mem_cons.2 ⟨ck15, (List.forall_mem_cons.2 ⟨ck16, (List.forall_mem_cons.2 ⟨ck17, (List.forall_mem_cons.2 ⟨ck18, (fun _ h => nomatch h)⟩)⟩)⟩)⟩)⟩)⟩)⟩)⟩)⟩)⟩)⟩)⟩)⟩)⟩)⟩)⟩)⟩)⟩)⟩)
    (List.forall_mem_cons.2 ⟨⟨_, _, F0⟩, (List.forall_mem_cons.2 ⟨⟨_, _, F1⟩, (List.forall_mem_cons.2 ⟨⟨_, _, F2⟩, (List.forall_mem_cons.2 ⟨⟨_, _, F3⟩, (List.forall_mem_cons.2 ⟨⟨_, _, F4⟩, (List.forall_mem_cons.2 ⟨⟨_, _, F5⟩, (List.forall_mem_cons.2 ⟨⟨_, _, F6⟩, (List.forall_mem_cons.2 ⟨⟨_, _, F7⟩, (List.forall_mem_cons.2 ⟨⟨_, _, F8⟩, (List.forall_mem_cons.2 ⟨⟨_, _, F9⟩, (List.forall_mem_cons.2 ⟨⟨_, _, F10⟩, (List.forall_mem_cons.2 ⟨⟨_, _, F11⟩, (List.forall_mem_cons.2 ⟨⟨_, _, F12⟩, (List.forall_mem_cons.2 ⟨⟨_, _, F13⟩, (List.forall_mem_cons.2 ⟨⟨_, _, F14⟩, (List.forall_mem_cons.2 ⟨⟨_, _, F15⟩, (List.forall_mem_cons.2 ⟨⟨_, _, F16⟩, (List.forall_mem_cons.2 ⟨⟨_, _, F17⟩, (List.forall_mem_cons.2 ⟨⟨_, _, F18⟩, (fun _ h => nomatch h)⟩)⟩)⟩)⟩)⟩)⟩)⟩)⟩)⟩)⟩)⟩)⟩)⟩)⟩)⟩)⟩)⟩)⟩)⟩) 60 335 d18 _ _ rfl F18⟩
end K65

open PySem PySem.W
open PyProof.Rows
set_option maxHeartbeats 0 in
theorem PySem.Challenge.cw_mendsure_k65_atoms_in_a_row_holds : PySem.Challenge.rw_mendsure_k65_atoms_in_a_row.Holds := by
  w_on; o_law; k_head; (case hw => w_witness2)
  k_fill
  refine L2.walk_of (l := PySem.Challenge.rw_mendsure_k65_atoms_in_a_row) (n := 63) (k := 60) (x := "_law_script") (CX := fun w => L2.CX (PySem.Challenge.rw_mendsure_k65_atoms_in_a_row).prog w) (sp := fun w => @Md.spF ⟨w⟩ _ (Md.run Md.Pg0 Md.DG 60) 335 1) rfl (by decide) rfl ⟨rfl, by decide, by decide⟩ (fun w h Y => PySem.W.kIn_of Y) ?F (fun w _ a ns hl _ hS => (letI : Md.Wd := ⟨w⟩; Md.law_ok Md.run_law_k65 hS hl)) (fun w _ _ _ _ h => (letI : Md.Wd := ⟨w⟩; Md.cx_no h))
  case F =>
    intro w mg fa h KX G hmg
    refine' K65.all_mk KX G hmg ?a0 ?l0 ?c0 ?k0 ?a1 ?l1 ?c1 ?k1 ?a2 ?l2 ?c2 ?k2 ?a3 ?l3 ?c3 ?k3 ?a4 ?l4 ?c4 ?k4 ?a5 ?l5 ?c5 ?k5 ?a6 ?l6 ?c6 ?k6 ?a7 ?l7 ?c7 ?k7 ?a8 ?l8 ?c8 ?k8 ?a9 ?l9 ?c9 ?k9 ?a10 ?l10 ?c10 ?k10 ?a11 ?l11 ?c11 ?k11 ?a12 ?l12 ?c12 ?k12 ?a13 ?l13 ?c13 ?k13 ?a14 ?l14 ?c14 ?k14 ?a15 ?l15 ?c15 ?k15 ?a16 ?l16 ?c16 ?k16 ?a17 ?l17 ?c17 ?k17 ?a18 ?l18 ?c18 ?k18 ?z0 ?z1 ?z2 ?z3 ?z4 ?z5 ?z6 ?z7 ?z8
    (case a0 => k_is); (case l0 => k_is); (case c0 => k_is); (case k0 => k_is); (case a1 => k_is); (case l1 => k_is); (case c1 => k_is); (case k1 => k_is); (case a2 => k_is); (case l2 => k_is); (case c2 => k_is); (case k2 => k_is); (case a3 => k_is); (case l3 => k_is); (case c3 => k_is); (case k3 => k_is); (case a4 => k_is); (case l4 => k_is); (case c4 => k_is); (case k4 => k_is); (case a5 => k_is); (case l5 => k_is); (case c5 => k_is); (case k5 => k_is); (case a6 => k_is); (case l6 => k_is); (case c6 => k_is); (case k6 => k_is); (case a7 => k_is); (case l7 => k_is); (case c7 => k_is); (case k7 => k_is); (case a8 => k_is); (case l8 => k_is); (case c8 => k_is); (case k8 => k_is); (case a9 => k_is); (case l9 => k_is); (case c9 => k_is); (case k9 => k_is); (case a10 => k_is); (case l10 => k_is); (case c10 => k_is); (case k10 => k_is); (case a11 => k_is); (case l11 => k_is); (case c11 => k_is); (case k11 => k_is); (case a12 => k_is); (case l12 => k_is); (case c12 => k_is); (case k12 => k_is); (case a13 => k_is); (case l13 => k_is); (case c13 => k_is); (case k13 => k_is); (case a14 => k_is); (case l14 => k_is); (case c14 => k_is); (case k14 => k_is); (case a15 => k_is); (case l15 => k_is); (case c15 => k_is); (case k15 => k_is); (case a16 => k_is); (case l16 => k_is); (case c16 => k_is); (case k16 => k_is); (case a17 => k_is); (case l17 => k_is); (case c17 => k_is); (case k17 => k_is); (case a18 => k_is); (case l18 => k_is); (case c18 => k_is); (case k18 => k_is); (case z0 => k_is); (case z1 => k_is); (case z2 => k_is); (case z3 => k_is); (case z4 => k_is); (case z5 => k_is); (case z6 => k_is); (case z7 => k_is); (case z8 => k_is)

