import PyProof.Rows.All
import Wide.All
import OpenK.AllK
import Wide.FinOn
import PySem.Challenge.RW_kitsleft_k01_kinds_told
import HandS.Base
import HandS.Call
import HandS.List
import KE.LtData
import KE.DataCmp
import PyProof.ReprReads
import PyProof.StrBlockL
import HandS.Dict
import HandS.Comp
import HandS.Exc
import HandS.Words
import HandS.WordsExc
import HandS.Flow
import HandS.TupAny
import HandS.Deep
import PyProof.StrLawsIn
import HandS.Conv
import HandS.IsInst
import HandS.Text
import HandS.WordsDict
import KE.SortData
import PyProof.ListStr
import PyProof.StrLawsRepr
import PyProof.ReprRoads
import PyProof.ReprText
import HandS.Walk
import HandS.Zip
import HandS.Iter
import HandS.Style
import KE.KRevSl
import HandS.Defaults
import HandS.Head0
import HandS.Head1
import HandS.Head2
import HandS.HeadEnd
import HandS.HeadHook1
import HandS.HeadHook2
import HandS.Ends
set_option Elab.async false
set_option autoImplicit false
set_option linter.all false
set_option maxRecDepth 100000
set_option maxHeartbeats 0
/-! Ev: a small evaluator over plain values. Values, the store, the program form, what it computes. -/
namespace Ev
open PySem

/-- a value: data (never changed), an object of the store, a tuple or an unchanging list with such inside -/
inductive T where
  | d (x : PyData)
  | ref (n : Nat)
  | tup (xs : List T)
  | lst (xs : List T)
  /-- the script, as it was handed in -/
  | scr (ns : List Int)
  deriving Inhabited

abbrev Ky := Sum Int Str

/-- what stands in the store -/
inductive O where
  | lst (xs : List T)
  | dct (kvs : List (Ky × T))

abbrev Sto := List (Option O)
abbrev Env := List (Option T)

structure Ex where
  cls : Nat
  fs : List (Str × T)

inductive R (α : Type) where
  | ok (a : α) (st : Sto)
  | exn (e : Ex) (st : Sto)
  | bad
abbrev M (α : Type) := Sto → R α

def R.bind {α β : Type} (r : R α) (f : α → Sto → R β) : R β :=
  match r with
  | .ok a st => f a st
  | .exn e st => .exn e st
  | .bad => .bad
@[simp] theorem R.bind_ok {α β : Type} (a : α) (st : Sto) (f : α → Sto → R β) : (R.ok a st).bind f = f a st := rfl
@[simp] theorem R.bind_exn {α β : Type} (e : Ex) (st : Sto) (f : α → Sto → R β) : (R.exn e st : R α).bind f = .exn e st := rfl
@[simp] theorem R.bind_bad {α β : Type} (f : α → Sto → R β) : (R.bad : R α).bind f = .bad := rfl

/-- an exception is not let out -/
def noX {α : Type} : R α → R α
  | .exn _ _ => .bad
  | r => r
@[simp] theorem noX_ok {α : Type} (a : α) (st : Sto) : noX (.ok a st) = .ok a st := rfl
@[simp] theorem noX_exn {α : Type} (e : Ex) (st : Sto) : noX (.exn e st : R α) = .bad := rfl
@[simp] theorem noX_bad {α : Type} : noX (.bad : R α) = .bad := rfl

/-- behind a statement -/
inductive SR where
  | nx (ρ : Env) (st : Sto)
  | rt (v : T) (st : Sto)
  | bk (ρ : Env) (st : Sto)
  | ct (ρ : Env) (st : Sto)
  | exn (e : Ex) (ρ : Env) (st : Sto)
  | bad
def R.toS {α : Type} (r : R α) (ρ : Env) (f : α → Sto → SR) : SR :=
  match r with
  | .ok a st => f a st
  | .exn e st => .exn e ρ st
  | .bad => .bad
@[simp] theorem R.toS_ok {α : Type} (a : α) (st : Sto) (ρ : Env) (f : α → Sto → SR) : (R.ok a st).toS ρ f = f a st := rfl
@[simp] theorem R.toS_exn {α : Type} (e : Ex) (st : Sto) (ρ : Env) (f : α → Sto → SR) : (R.exn e st : R α).toS ρ f = .exn e ρ st := rfl
@[simp] theorem R.toS_bad {α : Type} (ρ : Env) (f : α → Sto → SR) : (R.bad : R α).toS ρ f = .bad := rfl

/-! ### values -/
def allD : List T → Option (List PyData)
  | [] => some []
  | .d x :: r => match allD r with
    | some ds => some (x :: ds)
    | none => none
  | _ :: _ => none
@[simp] theorem allD_nil : allD [] = some [] := rfl
theorem allD_map (ds : List PyData) : allD (ds.map T.d) = some ds := by
  induction ds with
  | nil => rfl
  | cons x r ih => simp [allD, ih]
@[simp] theorem allD_cons (x : PyData) (r : List T) : allD (.d x :: r) = (allD r).map (x :: ·) := by
  simp only [allD]; cases allD r <;> rfl
@[simp] theorem allD_ref (n : Nat) (r : List T) : allD (.ref n :: r) = none := rfl
@[simp] theorem allD_tup (n : List T) (r : List T) : allD (.tup n :: r) = none := rfl
@[simp] theorem allD_lst (n : List T) (r : List T) : allD (.lst n :: r) = none := rfl
@[simp] theorem allD_scr (n : List Int) (r : List T) : allD (.scr n :: r) = none := rfl
theorem allD_some : ∀ {xs : List T} {ds : List PyData}, allD xs = some ds → xs = ds.map T.d
  | [], ds, h => by simp [allD] at h; subst h; rfl
  | .d x :: r, ds, h => by
    simp only [allD_cons, Option.map_eq_some_iff] at h
    obtain ⟨es, h1, rfl⟩ := h
    rw [allD_some h1]; rfl
  | .ref _ :: _, _, h => by cases h
  | .tup _ :: _, _, h => by cases h
  | .lst _ :: _, _, h => by cases h
  | .scr _ :: _, _, h => by cases h

def mkTup (xs : List T) : T := match allD xs with
  | some ds => .d (.tuple ds)
  | none => .tup xs
def mkLst (xs : List T) : T := match allD xs with
  | some ds => .d (.list ds)
  | none => .lst xs
@[simp] theorem mkTup_map (ds : List PyData) : mkTup (ds.map T.d) = .d (.tuple ds) := by simp [mkTup, allD_map]
@[simp] theorem mkLst_map (ds : List PyData) : mkLst (ds.map T.d) = .d (.list ds) := by simp [mkLst, allD_map]

/-- the items of a list -/
def lstOf (st : Sto) : T → Option (List T)
  | .d (.list xs) => some (xs.map .d)
  | .lst xs => some xs
  | .ref n => match st[n]? with
    | some (some (.lst xs)) => some xs
    | _ => none
  | _ => none
/-- the items of a tuple -/
def tupOf : T → Option (List T)
  | .d (.tuple xs) => some (xs.map .d)
  | .tup xs => some xs
  | _ => none
def seqOf (st : Sto) (v : T) : Option (List T) := match tupOf v with
  | some xs => some xs
  | none => lstOf st v
@[simp] theorem tupOf_tuple (xs : List PyData) : tupOf (.d (.tuple xs)) = some (xs.map .d) := rfl
@[simp] theorem lstOf_list (st : Sto) (xs : List PyData) : lstOf st (.d (.list xs)) = some (xs.map .d) := rfl
@[simp] theorem seqOf_tuple (st : Sto) (xs : List PyData) : seqOf st (.d (.tuple xs)) = some (xs.map .d) := rfl
@[simp] theorem seqOf_list (st : Sto) (xs : List PyData) : seqOf st (.d (.list xs)) = some (xs.map .d) := rfl
@[simp] theorem seqOf_tup (st : Sto) (xs : List T) : seqOf st (.tup xs) = some xs := rfl
@[simp] theorem seqOf_lst (st : Sto) (xs : List T) : seqOf st (.lst xs) = some xs := rfl
@[simp] theorem lstOf_lst (st : Sto) (xs : List T) : lstOf st (.lst xs) = some xs := rfl

def mapO {α β : Type} (f : α → Option β) : List α → Option (List β)
  | [] => some []
  | x :: r => match f x with
    | none => none
    | some y => match mapO f r with
      | none => none
      | some ys => some (y :: ys)

/-- the whole as data, as it stands now -/
def viewD (st : Sto) : Nat → T → Option PyData
  | 0, _ => none
  | n + 1, v => match v with
    | .d x => some x
    | .ref r => (match st[r]? with
      | some (some (.lst xs)) => (mapO (viewD st n) xs).map .list
      | _ => none)
    | .tup xs => (mapO (viewD st n) xs).map .tuple
    | .lst xs => (mapO (viewD st n) xs).map .list
    | .scr _ => none
@[simp] theorem viewD_d (st : Sto) (n : Nat) (x : PyData) : viewD st (n + 1) (.d x) = some x := rfl
theorem mapO_viewD (st : Sto) (n : Nat) (ds : List PyData) : mapO (viewD st (n + 1)) (ds.map T.d) = some ds := by
  induction ds with
  | nil => rfl
  | cons x r ih => simp [mapO, ih]

def kyD : Ky → PyData
  | .inl i => .int i
  | .inr x => .str x
def toKy : T → Option Ky
  | .d (.int i) => some (.inl i)
  | .d (.str x) => some (.inr x)
  | _ => none
@[simp] theorem toKy_int (i : Int) : toKy (.d (.int i)) = some (.inl i) := rfl
@[simp] theorem toKy_str (x : Str) : toKy (.d (.str x)) = some (.inr x) := rfl

def natsEq : List Nat → List Nat → Bool
  | [], [] => true
  | a :: x, b :: y => Nat.beq a b && natsEq x y
  | _, _ => false
theorem natsEq_iff : ∀ x y : List Nat, natsEq x y = decide (x = y)
  | [], [] => rfl
  | [], _ :: _ => by simp [natsEq]
  | _ :: _, [] => by simp [natsEq]
  | a :: x, b :: y => by
    rw [natsEq, natsEq_iff x y]
    by_cases h : a = b
    · subst h; simp
    · have : Nat.beq a b = false := by
        cases q : Nat.beq a b with
        | false => rfl
        | true => exact absurd (Nat.eq_of_beq_eq_true q) h
      simp [this, h]
def strEq (x y : Str) : Bool := natsEq x.cps.toList y.cps.toList
theorem strEq_iff (x y : Str) : strEq x y = decide (x = y) := by
  obtain ⟨⟨x⟩⟩ := x
  obtain ⟨⟨y⟩⟩ := y
  simp [strEq, natsEq_iff]
def kyEq : Ky → Ky → Bool
  | .inl i, .inl j => decide (i = j)
  | .inr x, .inr y => strEq x y
  | _, _ => false
theorem kyEq_iff (x y : Ky) : kyEq x y = decide (x = y) := by
  cases x <;> cases y <;> simp [kyEq, strEq_iff]

def truth (st : Sto) : T → Option Bool
  | .d .none => some false
  | .d (.bool b) => some b
  | .d (.int i) => some (i != 0)
  | .d (.str x) => if x.length ≤ sizeLine then some (!x.cps.isEmpty) else none
  | v => match seqOf st v with
    | some xs => some (!xs.isEmpty)
    | none => none
@[simp] theorem truth_bool (st : Sto) (b : Bool) : truth st (.d (.bool b)) = some b := rfl

def isNone : T → Bool
  | .d .none => true
  | _ => false
/-- is None, is not None -/
def isNT (neg : Bool) (x : T) : T := .d (.bool (xor neg (isNone x)))
/-- and, or: the first part a bool -/
def andM (x : T) (k : Sto → R T) : M T := fun st => match x with
  | .d (.bool true) => k st
  | .d (.bool false) => .ok (.d (.bool false)) st
  | _ => .bad
def orM (x : T) (k : Sto → R T) : M T := fun st => match x with
  | .d (.bool false) => k st
  | .d (.bool true) => .ok (.d (.bool true)) st
  | _ => .bad

/-! ### operators -/
inductive Op where
  | add | sub | mul | fdiv | mod | pow | eq | ne | lt | le | gt | ge | isin | notin
  deriving DecidableEq

def mulOk (i j : Int) : Bool := (decide (-(2 ^ 64) < i) && decide (i < 2 ^ 64)) || (decide (-(2 ^ 64) < j) && decide (j < 2 ^ 64))

/-- what can be compared by == -/
def shapedB (x : PyData) : Bool := SeqAt.shaped x
def ordOk (x y : PyData) : Bool := W.alike x y && (match x with | .none => false | _ => true) && (shapedB x && shapedB y)
/-- the order of texts -/
def ltL : List Nat → List Nat → Bool
  | [], [] => false
  | [], _ :: _ => true
  | _ :: _, [] => false
  | a :: x, b :: y => Nat.blt a b || (Nat.beq a b && ltL x y)
theorem ltL_iff : ∀ x y : List Nat, ltL x y = decide (x < y)
  | [], [] => by simp [ltL]
  | [], _ :: _ => by simp [ltL]
  | _ :: _, [] => by simp [ltL]
  | a :: x, b :: y => by
    have h1 : Nat.blt a b = decide (a < b) := by
      cases e : Nat.blt a b with
      | false => exact (decide_eq_false (fun z => by have := Nat.ble_eq_true_of_le z; rw [show Nat.ble (a + 1) b = Nat.blt a b from rfl, e] at this; cases this)).symm
      | true => exact (decide_eq_true (Nat.le_of_ble_eq_true e)).symm
    have h2 : Nat.beq a b = decide (a = b) := by
      by_cases h : a = b
      · subst h; simp
      · rw [decide_eq_false h]
        cases q : Nat.beq a b with
        | false => rfl
        | true => exact absurd (Nat.eq_of_beq_eq_true q) h
    rw [ltL, ltL_iff x y, h1, h2, Bool.eq_iff_iff]
    simp [List.cons_lt_cons_iff]
def strLt (x y : Str) : Bool := ltL x.cps.toList y.cps.toList

/-- is x a part of y -/
def preL : List Nat → List Nat → Bool
  | [], _ => true
  | _ :: _, [] => false
  | a :: x, b :: y => a == b && preL x y
def subL (x : List Nat) : List Nat → Bool
  | [] => preL x []
  | b :: y => preL x (b :: y) || subL x y

def eqD (neg : Bool) (st : Sto) (a b : T) : R T := match a, b with
  | .d (.str x), .d (.str y) => .ok (.d (.bool (xor neg (strEq x y)))) st
  | a, b => match viewD st 9 a, viewD st 9 b with
  | some x, some y => if shapedB x && shapedB y then .ok (.d (.bool (xor neg (PyData.eqv x y)))) st else .bad
  | _, _ => .bad
def ordD (f : PyData → PyData → Bool) (st : Sto) (a b : T) : R T := match viewD st 9 a, viewD st 9 b with
  | some x, some y => if ordOk x y then .ok (.d (.bool (f x y))) st else .bad
  | _, _ => .bad
def inD (neg : Bool) (st : Sto) (a b : T) : R T := match viewD st 9 a, viewD st 9 b with
  | some x, some y => (match x, y with
    | .str u, .str z => .ok (.d (.bool (xor neg (subL u.cps.toList z.cps.toList)))) st
    | x, .list ys => if shapedB x && shapedB (.list ys) then .ok (.d (.bool (xor neg (ys.any fun z => PyData.eqv z x)))) st else .bad
    | x, .tuple ys => if shapedB x && shapedB (.tuple ys) then .ok (.d (.bool (xor neg (ys.any fun z => PyData.eqv z x)))) st else .bad
    | _, _ => .bad)
  | _, _ => .bad

def addT (st : Sto) (a b : T) : R T := match tupOf a, tupOf b with
  | some xs, some ys => if xs.length + ys.length ≤ sizeLine then .ok (mkTup (xs ++ ys)) st else .bad
  | _, _ => match lstOf st a, lstOf st b with
    | some xs, some ys => if xs.length + ys.length ≤ sizeLine then .ok (mkLst (xs ++ ys)) st else .bad
    | _, _ => .bad

def bin (o : Op) (a b : T) : M T := fun st => match o with
  | .add => (match a, b with
    | .d (.int i), .d (.int j) => .ok (.d (.int (i + j))) st
    | .d (.str x), .d (.str y) => if x.length + y.length ≤ sizeLine then .ok (.d (.str (x ++ y))) st else .bad
    | a, b => addT st a b)
  | .sub => (match a, b with
    | .d (.int i), .d (.int j) => .ok (.d (.int (i - j))) st
    | _, _ => .bad)
  | .mul => (match a, b with
    | .d (.int i), .d (.int j) => if mulOk i j then .ok (.d (.int (i * j))) st else .bad
    | _, _ => .bad)
  | .fdiv => (match a, b with
    | .d (.int i), .d (.int j) => if 0 < j ∧ j < 1073741824 then .ok (.d (.int (i / j))) st else .bad
    | _, _ => .bad)
  | .mod => (match a, b with
    | .d (.int i), .d (.int j) => if 0 < j then .ok (.d (.int (i % j))) st else .bad
    | _, _ => .bad)
  | .pow => (match a, b with
    | .d (.int i), .d (.int j) => if 0 ≤ j ∧ j ≤ 1000000 ∧ i.natAbs < 2 ^ 64 then .ok (.d (.int (i ^ j.toNat))) st else .bad
    | _, _ => .bad)
  | .eq => eqD false st a b
  | .ne => eqD true st a b
  | .lt => (match a, b with
    | .d (.int i), .d (.int j) => .ok (.d (.bool (decide (i < j)))) st
    | .d (.str x), .d (.str y) => .ok (.d (.bool (strLt x y))) st
    | a, b => ordD (fun x y => W.dataLt x y) st a b)
  | .gt => (match a, b with
    | .d (.int i), .d (.int j) => .ok (.d (.bool (decide (j < i)))) st
    | .d (.str x), .d (.str y) => .ok (.d (.bool (strLt y x))) st
    | a, b => ordD (fun x y => W.dataLt y x) st a b)
  | .le => (match a, b with
    | .d (.int i), .d (.int j) => .ok (.d (.bool (decide (i ≤ j)))) st
    | .d (.str x), .d (.str y) => .ok (.d (.bool (!strLt y x))) st
    | a, b => ordD (fun x y => !W.dataLt y x) st a b)
  | .ge => (match a, b with
    | .d (.int i), .d (.int j) => .ok (.d (.bool (decide (j ≤ i)))) st
    | .d (.str x), .d (.str y) => .ok (.d (.bool (!strLt x y))) st
    | a, b => ordD (fun x y => !W.dataLt x y) st a b)
  | .isin => inD false st a b
  | .notin => inD true st a b

/-- a op b op' c, behind a op b -/
def chM (o : Op) (y : T) (k : Sto → R T) (t : T) : M T := fun st => match t with
  | .d (.bool true) => (k st).bind fun z st => bin o y z st
  | .d (.bool false) => .ok (.d (.bool false)) st
  | _ => .bad

/-! ### subscripts -/
def ixN (n : Nat) (i : Int) : Option Nat := if 0 ≤ i then (if i < n then some i.toNat else none) else if -(n : Int) ≤ i then some (i + n).toNat else none
def atI {α : Type} (xs : List α) (i : Int) : Option α := match ixN xs.length i with
  | some j => xs[j]?
  | none => none
def sIx (n d : Nat) : Option Int → Nat
  | none => d
  | some v => if v < 0 then (v + (n : Int)).toNat else min v.toNat n
def cutL {α : Type} (xs : List α) (lo hi : Option Int) : List α := (xs.drop (sIx xs.length 0 lo)).take (sIx xs.length xs.length hi - sIx xs.length 0 lo)

def dGet {α : Type} (k : Ky) : List (Ky × α) → Option α
  | [] => none
  | (q, v) :: r => if kyEq q k then some v else dGet k r
def dPut {α : Type} (k : Ky) (v : α) (l : List (Ky × α)) : List (Ky × α) :=
  if l.any (fun q => kyEq q.1 k) then l.map (fun q => if kyEq q.1 k then (q.1, v) else q) else l ++ [(k, v)]

/-- a frozen dict's pairs -/
def toKvs : List (PyData × PyData) → Option (List (Ky × T))
  | [] => some []
  | (k, v) :: r => match toKy (.d k), toKvs r with
    | some q, some qs => some ((q, .d v) :: qs)
    | _, _ => none
def dctOf (st : Sto) : T → Option (List (Ky × T))
  | .d (.dict kvs) => toKvs kvs
  | .ref n => match st[n]? with
    | some (some (.dct kvs)) => some kvs
    | _ => none
  | _ => none

def idx (a i : T) : M T := fun st => match a, i with
  | .d (.str z), .d (.int k) => (match atI z.cps.toList k with
    | some c => if z.length ≤ sizeLine then .ok (.d (.str ⟨#[c]⟩)) st else .bad
    | none => .bad)
  | a, i => match dctOf st a, toKy i with
    | some kvs, some k => (match dGet k kvs with
      | some v => .ok v st
      | none => .bad)
    | _, _ => match seqOf st a, i with
      | some xs, .d (.int k) => (match atI xs k with
        | some v => .ok v st
        | none => .bad)
      | _, _ => .bad

/-- a[lo:hi] -/
def slc (a : T) (lo hi : Option Int) : M T := fun st => match a with
  | .d (.str z) => if z.length ≤ sizeLine then .ok (.d (.str ⟨(cutL z.cps.toList lo hi).toArray⟩)) st else .bad
  | .scr ns => .ok (.d (.list ((cutL ns lo hi).map .int))) st
  | a => match tupOf a with
    | some xs => .ok (mkTup (cutL xs lo hi)) st
    | none => match lstOf st a with
      | some xs => .ok (mkLst (cutL xs lo hi)) st
      | none => .bad
def intM (x : T) : M (Option Int) := fun st => match x with
  | .d (.int i) => .ok (some i) st
  | _ => .bad
/-- a[::-1] -/
def rev (a : T) : M T := fun st => match tupOf a with
  | some xs => .ok (mkTup xs.reverse) st
  | none => match lstOf st a with
    | some xs => .ok (mkLst xs.reverse) st
    | none => .bad

/-! ### built-in functions -/
inductive Bf where
  | len | int | tuple | all | any | sum | repr | str
  deriving DecidableEq
inductive Bf2 where
  | min | max
  deriving DecidableEq
inductive Ty where
  | int | bool | str | tuple | list | dict
  deriving DecidableEq

def insL {α : Type} (le : α → α → Bool) (x : α) : List α → List α
  | [] => [x]
  | y :: r => if le x y then x :: y :: r else y :: insL le x r
/-- sorted, stable -/
def sortL {α : Type} (le : α → α → Bool) : List α → List α
  | [] => []
  | x :: r => insL le x (sortL le r)

mutual
/-- a bound of the length of what repr says -/
def wt : PyData → Nat
  | .none => 4
  | .bool _ => 5
  | .int _ => 1930
  | .str x => 10 * x.length + 2
  | .list xs => wts xs + 2
  | .tuple xs => wts xs + 3
  | .dict _ => 0
def wts : List PyData → Nat
  | [] => 0
  | x :: r => wt x + 2 + wts r
end
def reprOk (x : PyData) : Bool := x.canLay0 && x.showable && decide (x.depth ≤ 64) && decide (wt x ≤ sizeLine)

/-- what can be sorted -/
def sortOk (ds : List PyData) : Bool := (ds.all fun x => ds.all fun y => W.alike x y) &&
  ((ds.all fun x => match x with | .tuple (_ :: _) => true | _ => false) || (ds.all fun x => match x with | .none => false | .tuple _ => false | _ => true)) && ds.all shapedB
def leD (x y : PyData) : Bool := !W.dataLt y x
def boolsOf : List T → Option (List Bool)
  | [] => some []
  | .d (.bool b) :: r => (boolsOf r).map (b :: ·)
  | _ :: _ => none
def intsOf : List T → Option (List Int)
  | [] => some []
  | .d (.int b) :: r => (intsOf r).map (b :: ·)
  | _ :: _ => none

def lenT (st : Sto) (v : T) : Option Nat := match v with
  | .d (.str z) => if z.length ≤ sizeLine then some z.length else none
  | v => match seqOf st v with
    | some xs => some xs.length
    | none => match dctOf st v with
      | some kvs => some kvs.length
      | none => none

def bfLen (v : T) : M T := fun st => match lenT st v with
  | some n => .ok (.d (.int n)) st
  | none => .bad
def bfInt (v : T) : M T := fun st => match v with
  | .d (.int i) => .ok (.d (.int i)) st
  | .d (.bool b) => .ok (.d (.int (if b then 1 else 0))) st
  | _ => .bad
def bfTuple (v : T) : M T := fun st => match seqOf st v with
  | some xs => .ok (mkTup xs) st
  | none => .bad
def bfAll (v : T) : M T := fun st => match lstOf st v with
  | some xs => (match boolsOf xs with
    | some bs => .ok (.d (.bool (bs.all id))) st
    | none => .bad)
  | none => .bad
def bfAny (v : T) : M T := fun st => match lstOf st v with
  | some xs => (match boolsOf xs with
    | some bs => .ok (.d (.bool (bs.any id))) st
    | none => .bad)
  | none => .bad
def bfSum (v : T) : M T := fun st => match lstOf st v with
  | some xs => (match intsOf xs with
    | some bs => .ok (.d (.int bs.sum)) st
    | none => .bad)
  | none => .bad
def bfRepr (v : T) : M T := fun st => match viewD st 9 v with
  | some x => if reprOk x then .ok (.d (.str x.shown)) st else .bad
  | none => .bad
def bfStr (v : T) : M T := fun st => match v with
  | .d (.int i) => if i.natAbs.log2 < 1920 then .ok (.d (.str (toString i : String))) st else .bad
  | _ => .bad
def bf (f : Bf) (v : T) : M T := match f with
  | .len => bfLen v
  | .int => bfInt v
  | .tuple => bfTuple v
  | .all => bfAll v
  | .any => bfAny v
  | .sum => bfSum v
  | .repr => bfRepr v
  | .str => bfStr v
def bf2 (f : Bf2) (x y : T) : M T := fun st => match x, y with
  | .d (.int i), .d (.int j) => (match f with
    | .min => .ok (.d (.int (if j < i then j else i))) st
    | .max => .ok (.d (.int (if j > i then j else i))) st)
  | _, _ => .bad

def isTy (st : Sto) (t : Ty) : T → Option Bool
  | .d .none => some false
  | .d (.bool _) => some (t == .bool || t == .int)
  | .d (.int _) => some (t == .int)
  | .d (.str _) => some (t == .str)
  | .d (.list _) => some (t == .list)
  | .d (.tuple _) => some (t == .tuple)
  | .d (.dict _) => some (t == .dict)
  | .tup _ => some (t == .tuple)
  | .lst _ => some (t == .list)
  | .scr _ => none
  | .ref n => match st[n]? with
    | some (some (.lst _)) => some (t == .list)
    | some (some (.dct _)) => some (t == .dict)
    | _ => none

/-! ### methods -/
inductive Mt where
  | append | popAt | join
  deriving DecidableEq
inductive Mt0 where
  | pop
  deriving DecidableEq

def strsOf : List T → Option (List Str)
  | [] => some []
  | .d (.str b) :: r => (strsOf r).map (b :: ·)
  | _ :: _ => none

def mtAppend (o v : T) : M T := fun st => match o with
  | .ref n => (match st[n]? with
    | some (some (.lst xs)) => if xs.length < sizeLine then .ok (.d .none) (st.set n (some (.lst (xs ++ [v])))) else .bad
    | _ => .bad)
  | _ => .bad
def mtPop (o : T) : M T := fun st => match o with
  | .ref n => (match st[n]? with
    | some (some (.lst xs)) => (match xs[xs.length - 1]? with
      | some v => .ok v (st.set n (some (.lst xs.dropLast)))
      | none => .bad)
    | _ => .bad)
  | _ => .bad
def mtPopAt (o i : T) : M T := fun st => match o, i with
  | .ref n, .d (.int i) => (match st[n]? with
    | some (some (.lst xs)) => (match ixN xs.length i with
      | some k => (match xs[k]? with
        | some v => if -(2 ^ 63) ≤ i ∧ i < 2 ^ 63 then .ok v (st.set n (some (.lst (xs.eraseIdx k)))) else .bad
        | none => .bad)
      | none => .bad)
    | _ => .bad)
  | _, _ => .bad
def mtJoin (o v : T) : M T := fun st => match o with
  | .d (.str z) => (match lstOf st v with
    | some xs => (match strsOf xs with
      | some ys => if (ys.map (·.length)).sum + ys.length * z.length ≤ 16777216 then .ok (.d (.str (Txt.join z ys))) st else .bad
      | none => .bad)
    | none => .bad)
  | _ => .bad
/-- what the method is asked of -/
def isLstRef (st : Sto) : T → Bool
  | .ref n => (match st[n]? with
    | some (some (.lst _)) => true
    | _ => false)
  | _ => false
def isStrT : T → Bool
  | .d (.str _) => true
  | _ => false
def recvOk (m : Mt) (st : Sto) (o : T) : Bool := match m with
  | .append => isLstRef st o
  | .popAt => isLstRef st o
  | .join => isStrT o
def recvOk0 (m : Mt0) (st : Sto) (o : T) : Bool := match m with
  | .pop => isLstRef st o
def mt (m : Mt) (o v : T) : M T := match m with
  | .append => mtAppend o v
  | .popAt => mtPopAt o v
  | .join => mtJoin o v
def mt0 (m : Mt0) (o : T) : M T := match m with
  | .pop => mtPop o

/-! ### the program form -/
mutual
inductive E where
  | var (i : Nat)
  | cint (i : Int)
  | cstr (x : Str)
  | cbl (b : Bool)
  | cnon
  | gint (x : Str) (i : Int)
  | gstr (x z : Str)
  | bin (o : Op) (a b : E)
  | neg (a : E)
  | not (a : E)
  | chain (o p : Op) (a b c : E)
  | isN (neg : Bool) (a : E)
  | and (a b : E)
  | or (a b : E)
  | ite (c a b : E)
  | tup (es : List E)
  | mk (mu : Bool) (l : L)
  | cmp (mu : Bool) (elt : E) (tg : Tg) (it : It) (ifs : List E) (own : List Nat)
  | dsp (mu : Bool) (ks : List Ky) (es : List E)
  | idx (a i : E)
  | slc (a lo hi : E)
  | rev (a : E)
  | call (g : Nat) (es : List E)
  | callK (g : Nat) (es ws : List E) (ks : List Str) (perm : List Nat)
  | bf (f : Bf) (a : E)
  | bf2 (f : Bf2) (a b : E)
  | isI (a : E) (t : Ty)
  | mt (m : Mt) (o a : E)
  | mt0 (m : Mt0) (o : E)
/-- makers of a new list -/
inductive L where
  | disp (es : List E)
  | cat (a b : E)
  | of (e : E)
  | sorted (e : E)
inductive It where
  | seq (e : E)
  | rng (a : E)
  | rng2 (a b : E)
  | zip (a b : E)
  | enm (a : E)
inductive Tg where
  | nm (i : Nat)
  | tup (ts : List Tg)
  | sub (o i : E)
end
mutual
inductive S where
  | asg (t : Tg) (e : E)
  | par (i j : Nat) (a b : E)
  | ex (e : E)
  | ret (e : E)
  | retN
  | ite (c : E) (a b : List S)
  | for_ (t : Tg) (it : It) (b : List S)
  | while_ (c : E) (b : List S)
  | aug (i : Nat) (o : Op) (e : E)
  | pass
  | brk
  | cont
end

/-! ### loops -/
def forL (f : T → Env → Sto → SR) : List T → Env → Sto → SR
  | [], ρ, st => .nx ρ st
  | x :: r, ρ, st => match f x ρ st with
    | .nx ρ' st' => forL f r ρ' st'
    | .ct ρ' st' => forL f r ρ' st'
    | .bk ρ' st' => .nx ρ' st'
    | s => s
def whileL (c : Env → M Bool) (f : Env → Sto → SR) : Nat → Env → Sto → SR
  | 0, _, _ => .bad
  | n + 1, ρ, st => (c ρ st).toS ρ fun b st => if b then (match f ρ st with
      | .nx ρ' st' => whileL c f n ρ' st'
      | .ct ρ' st' => whileL c f n ρ' st'
      | .bk ρ' st' => .nx ρ' st'
      | s => s) else .nx ρ st
/-- a comprehension's turns: the new list stands at c -/
def compL (f : T → M (Option T)) (c : Nat) : List T → M Unit
  | [], st => .ok () st
  | x :: r, st => (f x st).bind fun v st => match v with
    | some y => (match st[c]? with
      | some (some (.lst acc)) => if acc.length < sizeLine then compL f c r (st.set c (some (.lst (acc ++ [y])))) else .bad
      | _ => .bad)
    | none => compL f c r st
/-- behind the turns: it goes on as an object, or it is never changed again -/
def compEnd (mu : Bool) (c : Nat) : M T := fun st => if mu then .ok (.ref c) st else match st[c]? with
  | some (some (.lst acc)) => .ok (mkLst acc) (st.set c none)
  | _ => .bad
def wipeE (ρ : Env) : List Nat → Env
  | [] => ρ
  | v :: vs => (wipeE ρ vs).set v none

def zipT : List T → List T → List T
  | x :: r, y :: q => mkTup [x, y] :: zipT r q
  | _, _ => []
def enmT (n : Nat) : List T → List T
  | [] => []
  | x :: r => mkTup [.d (.int n), x] :: enmT (n + 1) r
def rngT (lo : Int) : Nat → List T
  | 0 => []
  | n + 1 => .d (.int lo) :: rngT (lo + 1) n
def small62 (i : Int) : Bool := decide (-(2 ^ 62) ≤ i) && decide (i < 2 ^ 62)

/-- a test's truth -/
def truthM (v : T) : M Bool := fun st => match truth st v with
  | some b => .ok b st
  | none => .bad

/-- x[y] = v -/
def setIt (x y v : T) : M Unit := fun st => match x with
  | .ref n => (match st[n]? with
    | some (some (.dct kvs)) => (match toKy y with
      | some k => if kvs.length < sizeLine then .ok () (st.set n (some (.dct (dPut k v kvs)))) else .bad
      | none => .bad)
    | some (some (.lst xs)) => (match y with
      | .d (.int i) => (match ixN xs.length i with
        | some j => .ok () (st.set n (some (.lst (xs.set j v))))
        | none => .bad)
      | _ => .bad)
    | _ => .bad)
  | _ => .bad

/-- items of an unchanging thing that is walked -/
def itemsOf : T → Option (List T)
  | .d (.str z) => some (z.cps.toList.map fun c => .d (.str ⟨#[c]⟩))
  | .d (.list xs) => some (xs.map .d)
  | .d (.tuple xs) => some (xs.map .d)
  | .tup xs => some xs
  | .lst xs => some xs
  | _ => none
/-- .. of a list -/
def frzOf : T → Option (List T)
  | .d (.list xs) => some (xs.map .d)
  | .lst xs => some xs
  | _ => none
/-- the items that list(x) copies -/
def ofM (x : T) : M (List T) := fun st => match x with
  | .d (.str z) => if z.length ≤ sizeLine then .ok (z.cps.toList.map fun c => .d (.str ⟨#[c]⟩)) st else .bad
  | x => match seqOf st x with
    | some xs => .ok xs st
    | none => .bad
def sortM (x : T) : M (List T) := fun st => match lstOf st x with
  | some xs => (match allD xs with
    | some ds => if sortOk ds then .ok ((sortL leD ds).map .d) st else .bad
    | none => .bad)
  | none => .bad
def catM (x y : T) : M (List T) := fun st => match lstOf st x, lstOf st y with
  | some xs, some ys => if xs.length + ys.length ≤ sizeLine then .ok (xs ++ ys) st else .bad
  | _, _ => .bad
def tupM (xs : List T) : M T := fun st => if xs.length ≤ sizeLine then .ok (mkTup xs) st else .bad
def lstM (xs : List T) : M (List T) := fun st => if xs.length ≤ sizeLine then .ok xs st else .bad
def newM (xs : List T) : M T := fun st => .ok (.ref st.length) (st ++ [some (.lst xs)])
def frzM (xs : List T) : M T := fun st => .ok (mkLst xs) st
def negM (x : T) : M T := fun st => match x with
  | .d (.int i) => .ok (.d (.int (-i))) st
  | _ => .bad
def notM (x : T) : M T := fun st => (truthM x st).bind fun b st => .ok (.d (.bool (!b))) st
def isM (t : Ty) (x : T) : M T := fun st => match isTy st t x with
  | some b => .ok (.d (.bool b)) st
  | none => .bad
/-- a new dict: it stands empty at c while the values are made -/
def dspEnd (mu : Bool) (ks : List Ky) (c : Nat) (xs : List T) : M T := fun st => match st[c]? with
  | some (some (.dct [])) => if mu then .ok (.ref c) (st.set c (some (.dct (ks.zip xs)))) else (match allD xs with
    | some ds => .ok (.d (.dict ((ks.map kyD).zip ds))) (st.set c none)
    | none => .bad)
  | _ => .bad
def rngM (x : T) : M (List T) := fun st => match x with
  | .d (.int n) => if small62 n then .ok (rngT 0 n.toNat) st else .bad
  | _ => .bad
def rng2M (x y : T) : M (List T) := fun st => match x, y with
  | .d (.int i), .d (.int j) => if small62 i && small62 j then .ok (rngT i (j - i).toNat) st else .bad
  | _, _ => .bad
def zipM (x y : T) : M (List T) := fun st => match tupOf x, tupOf y with
  | some xs, some ys => .ok (zipT xs ys) st
  | _, _ => match frzOf x, frzOf y with
    | some xs, some ys => .ok (zipT xs ys) st
    | _, _ => .bad
def enmM (x : T) : M (List T) := fun st => match frzOf x with
  | some xs => .ok (enmT 0 xs) st
  | none => .bad
def seqM (x : T) : M (List T) := fun st => match itemsOf x with
  | some xs => .ok xs st
  | none => .bad
/-- expressions and targets, one step deeper -/
structure Se where
  e : E → Env → M T
  tg : Tg → T → Env → M Env
def evEsW (f : E → Env → M T) : List E → Env → M (List T)
  | [], _ => .ok []
  | e :: es, ρ => fun st => (f e ρ st).bind fun x st => (evEsW f es ρ st).bind fun xs st => .ok (x :: xs) st
/-- a bound of a slice; cnon: left out -/
def evPtW (f : E → Env → M T) (e : E) (ρ : Env) : M (Option Int) := fun st => match e with
  | .cnon => .ok none st
  | e => (f e ρ st).bind fun x st => intM x st
def evIfsW (f : E → Env → M T) : List E → Env → M Bool
  | [], _ => .ok true
  | e :: es, ρ => fun st => (f e ρ st).bind fun x st => (truthM x st).bind fun b st => if b then evIfsW f es ρ st else .ok false st
def evItW (f : E → Env → M T) : It → Env → M (List T)
  | .seq e, ρ => fun st => (f e ρ st).bind fun x st => seqM x st
  | .rng a, ρ => fun st => (f a ρ st).bind fun x st => rngM x st
  | .rng2 a b, ρ => fun st => (f a ρ st).bind fun x st => (f b ρ st).bind fun y st => rng2M x y st
  | .zip a b, ρ => fun st => (f a ρ st).bind fun x st => (f b ρ st).bind fun y st => zipM x y st
  | .enm a, ρ => fun st => (f a ρ st).bind fun x st => enmM x st
def evLW (r : Se) : L → Env → M (List T)
  | .disp es, ρ => fun st => (evEsW r.e es ρ st).bind fun xs st => lstM xs st
  | .cat a b, ρ => fun st => (r.e a ρ st).bind fun x st => (r.e b ρ st).bind fun y st => catM x y st
  | .of e, ρ => fun st => (r.e e ρ st).bind fun x st => ofM x st
  | .sorted e, ρ => fun st => (r.e e ρ st).bind fun x st => sortM x st
def permL {α : Type} (p : List Nat) (l : List α) : List α := p.filterMap fun i => l[i]?
def cmpF (ft : T → Env → M Env) (fc : Env → M Bool) (fe : Env → M T) (ρ' : Env) (x : T) : M (Option T) := fun st =>
  noX ((ft x ρ' st).bind fun ρ1 st => (fc ρ1 st).bind fun b st => if b then (fe ρ1 st).bind fun y st => .ok (some y) st else .ok none st)
def cmpM (mu : Bool) (fi : Env → M (List T)) (ft : Tg → T → Env → M Env) (fc : Env → M Bool) (fe : Env → M T) (tg : Tg) (own : List Nat) (ρ : Env) : M T := fun st =>
  (fi ρ st).bind fun xs st => (compL (cmpF (ft tg) fc fe (wipeE ρ own)) st.length xs (st ++ [some (.lst [])])).bind fun _ st2 => compEnd mu st.length st2
def stepE (C : Nat → List T → M T) (r : Se) (x : E) (ρ : Env) : M T := fun st => match x with
  | .var i => (match ρ[i]? with
    | some (some v) => .ok v st
    | _ => .bad)
  | .cint i => .ok (.d (.int i)) st
  | .cstr x => .ok (.d (.str x)) st
  | .cbl b => .ok (.d (.bool b)) st
  | .cnon => .ok (.d .none) st
  | .gint _ i => .ok (.d (.int i)) st
  | .gstr _ z => .ok (.d (.str z)) st
  | .bin o a b => (r.e a ρ st).bind fun x st => (r.e b ρ st).bind fun y st => bin o x y st
  | .neg a => (r.e a ρ st).bind fun x st => negM x st
  | .not a => (r.e a ρ st).bind fun x st => notM x st
  | .chain o p a b c => (r.e a ρ st).bind fun x st => (r.e b ρ st).bind fun y st => (bin o x y st).bind fun t st => chM p y (r.e c ρ) t st
  | .isN neg a => (r.e a ρ st).bind fun x st => .ok (isNT neg x) st
  | .and a b => (r.e a ρ st).bind fun x st => andM x (r.e b ρ) st
  | .or a b => (r.e a ρ st).bind fun x st => orM x (r.e b ρ) st
  | .ite c a b => (r.e c ρ st).bind fun x st => (truthM x st).bind fun t st => if t then r.e a ρ st else r.e b ρ st
  | .tup es => (evEsW r.e es ρ st).bind fun xs st => tupM xs st
  | .mk mu l => (evLW r l ρ st).bind fun xs st => if mu then newM xs st else frzM xs st
  | .cmp mu elt tg it ifs own => cmpM mu (evItW r.e it) r.tg (evIfsW r.e ifs) (r.e elt) tg own ρ st
  | .dsp mu ks es => (evEsW r.e es ρ (st ++ [some (.dct [])])).bind fun xs st2 => dspEnd mu ks st.length xs st2
  | .idx a i => (r.e a ρ st).bind fun x st => (r.e i ρ st).bind fun y st => idx x y st
  | .slc a lo hi => (r.e a ρ st).bind fun x st => (evPtW r.e lo ρ st).bind fun y st => (evPtW r.e hi ρ st).bind fun z st => slc x y z st
  | .rev a => (r.e a ρ st).bind fun x st => rev x st
  | .call g es => (evEsW r.e es ρ st).bind fun xs st => C g xs st
  | .callK g es ws _ perm => (evEsW r.e es ρ st).bind fun xs st => (evEsW r.e ws ρ st).bind fun ys st => C g (permL perm (xs ++ ys)) st
  | .bf f a => (r.e a ρ st).bind fun x st => bf f x st
  | .bf2 f a b => (r.e a ρ st).bind fun x st => (r.e b ρ st).bind fun y st => bf2 f x y st
  | .isI a t => (r.e a ρ st).bind fun x st => isM t x st
  | .mt m o a => (r.e o ρ st).bind fun x st => if recvOk m st x then (r.e a ρ st).bind fun y st => mt m x y st else .bad
  | .mt0 m o => (r.e o ρ st).bind fun x st => if recvOk0 m st x then mt0 m x st else .bad
def asgTsW (f : Tg → T → Env → M Env) : List Tg → List T → Env → M Env
  | [], [], ρ => .ok ρ
  | t :: ts, v :: vs, ρ => fun st => (f t v ρ st).bind fun ρ st => asgTsW f ts vs ρ st
  | _, _, _ => fun _ => .bad
def stepTg (r : Se) (t : Tg) (v : T) (ρ : Env) : M Env := fun st => match t with
  | .nm i => .ok (ρ.set i (some v)) st
  | .tup ts => (match tupOf v with
    | some xs => noX (asgTsW r.tg ts xs ρ st)
    | none => .bad)
  | .sub o i => (r.e o ρ st).bind fun x st => (r.e i ρ st).bind fun y st => (setIt x y v st).bind fun _ st => .ok ρ st
def seN (C : Nat → List T → M T) : Nat → Se
  | 0 => ⟨fun _ _ _ => .bad, fun _ _ _ _ => .bad⟩
  | n + 1 => ⟨stepE C (seN C n), stepTg (seN C n)⟩

def evSsW (f : S → Env → Sto → SR) : List S → Env → Sto → SR
  | [], ρ, st => .nx ρ st
  | s :: r, ρ, st => match f s ρ st with
    | .nx ρ' st' => evSsW f r ρ' st'
    | x => x
def stepS (r : Se) (wf : Nat) (f : S → Env → Sto → SR) (x : S) (ρ : Env) (st : Sto) : SR := match x with
  | .asg t e => (r.e e ρ st).toS ρ fun v st => (r.tg t v ρ st).toS ρ fun ρ' st => .nx ρ' st
  | .par i j a b => (r.e a ρ st).toS ρ fun x st => (r.e b ρ st).toS ρ fun y st => .nx ((ρ.set i (some x)).set j (some y)) st
  | .ex e => (r.e e ρ st).toS ρ fun _ st => .nx ρ st
  | .ret e => (r.e e ρ st).toS ρ fun v st => .rt v st
  | .retN => .rt (.d .none) st
  | .ite c a b => (r.e c ρ st).toS ρ fun x st => (truthM x st).toS ρ fun t st => if t then evSsW f a ρ st else evSsW f b ρ st
  | .for_ t it b => (evItW r.e it ρ st).toS ρ fun xs st => forL (fun x ρ st => (r.tg t x ρ st).toS ρ fun ρ st => evSsW f b ρ st) xs ρ st
  | .while_ c b => whileL (fun ρ st => (r.e c ρ st).bind fun x st => truthM x st) (fun ρ st => evSsW f b ρ st) wf ρ st
  | .aug i o e => (match ρ[i]? with
    | some (some x) => (r.e e ρ st).toS ρ fun y st => (bin o x y st).toS ρ fun z st => .nx (ρ.set i (some z)) st
    | _ => .bad)
  | .pass => .nx ρ st
  | .brk => .bk ρ st
  | .cont => .ct ρ st
def svN (r : Se) (wf : Nat) : Nat → S → Env → Sto → SR
  | 0, _, _, _ => .bad
  | n + 1, x, ρ, st => stepS r wf (svN r wf n) x ρ st
/-- how deep the text of a def may be nested -/
def deep : Nat := 40

/-! ### defs -/
structure Fn where
  np : Nat
  n : Nat
  keep : Bool
  body : List S

/-- what leaves a def: nothing of its own store is named behind it -/
def fz (n₀ : Nat) (st : Sto) : Nat → T → Option T
  | 0, _ => none
  | k + 1, v => match v with
    | .d x => some (.d x)
    | .ref r => if r < n₀ then some (.ref r) else (match st[r]? with
      | some (some (.lst xs)) => (mapO (fz n₀ st k) xs).map mkLst
      | some (some (.dct kvs)) => (match mapO (fun p : Ky × T => match fz n₀ st k p.2 with
          | some (.d x) => some (kyD p.1, x)
          | _ => none) kvs with
        | some ps => some (.d (.dict ps))
        | none => none)
      | _ => none)
    | .tup xs => (mapO (fz n₀ st k) xs).map mkTup
    | .lst xs => (mapO (fz n₀ st k) xs).map mkLst
    | .scr ns => some (.scr ns)
def fzO (n₀ : Nat) (st : Sto) : Option O → Option (Option O)
  | none => some none
  | some (.lst xs) => (mapO (fz n₀ st 9) xs).map fun ys => some (.lst ys)
  | some (.dct kvs) => (mapO (fun p : Ky × T => (fz n₀ st 9 p.2).map fun v => (p.1, v)) kvs).map fun ys => some (.dct ys)
def leave (n₀ : Nat) (v : T) (st : Sto) : R T := match fz n₀ st 9 v, mapO (fzO n₀ st) (st.take n₀) with
  | some v', some st' => .ok v' st'
  | _, _ => .bad
def leaveX (n₀ : Nat) (e : Ex) (st : Sto) : R T := match mapO (fun p : Str × T => (fz n₀ st 9 p.2).map fun v => (p.1, v)) e.fs, mapO (fzO n₀ st) (st.take n₀) with
  | some fs, some st' => .exn ⟨e.cls, fs⟩ st'
  | _, _ => .bad

def endF (keep : Bool) (n₀ : Nat) : SR → R T
  | .rt v st => if keep then .ok v st else leave n₀ v st
  | .nx _ st => if keep then .ok (.d .none) st else leave n₀ (.d .none) st
  | .exn e _ st => if keep then .exn e st else leaveX n₀ e st
  | _ => .bad
def startE (f : Fn) (vs : List T) : Env := vs.map some ++ List.replicate (f.n - vs.length) none
def runF (C : Nat → List T → M T) (wf : Nat) (f : Fn) (vs : List T) : M T := fun st =>
  if vs.length = f.np then endF f.keep st.length (evSsW (svN (seN C deep) wf deep) f.body (startE f vs) st) else .bad
def callF (Γ : Nat → Option Fn) (wf : Nat) : Nat → Nat → List T → M T
  | 0, _, _ => fun _ => .bad
  | k + 1, g, vs => match Γ g with
    | some f => runF (callF Γ wf k) wf f vs
    | none => fun _ => .bad
end Ev

/-! Ev1: how plain values stand in the abstract heap of the hand layer. -/
namespace Ev
open PySem PySem.Spec PyProof.Rows L2

/-- the address of a living object of the store -/
def Live (m : List Addr) (st : Sto) (a : Addr) : Prop := ∃ (n : Nat) (o : O), m[n]? = some a ∧ st[n]? = some (some o)

/-- a constant of the written part: a list, a tuple -/
def KLst (K : W.Frag) (a : Addr) (xs : List V) : Prop :=
  ∃ (o : Obj) (its : Array Value) (n : Nat), K.lookup a = some o ∧ o.cls = .type "list" ∧ o.dict = none ∧ o.data = .seq its n ∧ its.size ≤ sizeLine ∧ Vals xs its.toList
def KTup (K : W.Frag) (a : Addr) (xs : List V) : Prop :=
  ∃ (o : Obj) (its : Array Value) (n : Nat), K.lookup a = some o ∧ o.cls = .type "tuple" ∧ o.data = .seq its n ∧ its.size ≤ sizeLine ∧ Vals xs its.toList

structure Wd where
  m : List Addr
  st : Sto
  H : Hp
abbrev Wd.lv (w : Wd) : Addr → Prop := Live w.m w.st

/-- a list, a tuple that nobody changes -/
def SqF (lv : Addr → Prop) (H : Hp) (a : Addr) (xs : List V) : Prop := Rd H a (.lst xs) ∧ ¬ lv a
section
variable (K : W.Frag)
def TpF (lv : Addr → Prop) (H : Hp) (a : Addr) (xs : List V) : Prop := (Rd H a (.tup xs) ∧ ¬ lv a) ∨ KTup K a xs
mutual
inductive RD (lv : Addr → Prop) (H : Hp) : V → PyData → Prop
  | non : RD lv H .non .none
  | bl (b : Bool) : RD lv H (.bl b) (.bool b)
  | int (i : Int) : RD lv H (.int i) (.int i)
  | str (x : Str) : RD lv H (.str x) (.str x)
  | lst {a : Addr} {xs : List V} {ds : List PyData} : SqF lv H a xs → RDs lv H xs ds → RD lv H (.ref a) (.list ds)
  | tup {a : Addr} {xs : List V} {ds : List PyData} : TpF K lv H a xs → RDs lv H xs ds → RD lv H (.ref a) (.tuple ds)
  | dct {a : Addr} {kvs : List (Key × V)} {ds : List (PyData × PyData)} : H a = some (.dK kvs) → ¬ lv a → RDk lv H kvs ds → RD lv H (.ref a) (.dict ds)
inductive RDs (lv : Addr → Prop) (H : Hp) : List V → List PyData → Prop
  | nil : RDs lv H [] []
  | cons {v : V} {vs : List V} {d : PyData} {ds : List PyData} : RD lv H v d → RDs lv H vs ds → RDs lv H (v :: vs) (d :: ds)
inductive RDk (lv : Addr → Prop) (H : Hp) : List (Key × V) → List (PyData × PyData) → Prop
  | nil : RDk lv H [] []
  | cons {k : Key} {v : V} {vs : List (Key × V)} {d : PyData} {ds : List (PyData × PyData)} : RD lv H v d → RDk lv H vs ds → RDk lv H ((k, v) :: vs) ((kyD k, d) :: ds)
end
mutual
inductive RT (lv : Addr → Prop) (m : List Addr) (H : Hp) : V → T → Prop
  | d {v : V} {x : PyData} : RD K lv H v x → RT lv m H v (.d x)
  | ref {n : Nat} {a : Addr} : m[n]? = some a → RT lv m H (.ref a) (.ref n)
  | tup {a : Addr} {xs : List V} {ts : List T} : TpF K lv H a xs → RTs lv m H xs ts → RT lv m H (.ref a) (.tup ts)
  | lst {a : Addr} {xs : List V} {ts : List T} : SqF lv H a xs → RTs lv m H xs ts → RT lv m H (.ref a) (.lst ts)
  | scr {a : Addr} {ns : List Int} : SqF lv H a (ns.map V.int) ∨ KLst K a (ns.map V.int) → RT lv m H (.ref a) (.scr ns)
inductive RTs (lv : Addr → Prop) (m : List Addr) (H : Hp) : List V → List T → Prop
  | nil : RTs lv m H [] []
  | cons {v : V} {vs : List V} {t : T} {ts : List T} : RT lv m H v t → RTs lv m H vs ts → RTs lv m H (v :: vs) (t :: ts)
end
end

section
variable {K : W.Frag}
abbrev Wd.R (K : W.Frag) (w : Wd) : V → T → Prop := RT K w.lv w.m w.H
abbrev Wd.Rs (K : W.Frag) (w : Wd) : List V → List T → Prop := RTs K w.lv w.m w.H

theorem SqF.seq {lv : Addr → Prop} {H : Hp} {a : Addr} {xs : List V} (h : SqF lv H a xs) : SqL K H a xs := .inl h.1
theorem TpF.seq {lv : Addr → Prop} {H : Hp} {a : Addr} {xs : List V} (h : TpF K lv H a xs) : SqT K H a xs := h.imp (fun h => h.1) id

/-! ### lists of related values -/
theorem RTs.length {lv : Addr → Prop} {m : List Addr} {H : Hp} : ∀ {vs : List V} {ts : List T}, RTs K lv m H vs ts → vs.length = ts.length
  | _, _, .nil => rfl
  | _, _, .cons _ r => congrArg Nat.succ r.length
theorem RDs.length {lv : Addr → Prop} {H : Hp} : ∀ {vs : List V} {ts : List PyData}, RDs K lv H vs ts → vs.length = ts.length
  | _, _, .nil => rfl
  | _, _, .cons _ r => congrArg Nat.succ r.length
theorem RTs.get {lv : Addr → Prop} {m : List Addr} {H : Hp} : ∀ {vs : List V} {ts : List T} {i : Nat} {t : T}, RTs K lv m H vs ts → ts[i]? = some t → ∃ v, vs[i]? = some v ∧ RT K lv m H v t
  | _, _, _, _, .nil, e => by simp at e
  | _, _, 0, _, .cons r _, e => by simp at e; subst e; exact ⟨_, rfl, r⟩
  | _, _, i + 1, t, .cons _ rs, e => by
    obtain ⟨v, h1, h2⟩ := rs.get (i := i) (t := t) (by simpa using e)
    exact ⟨v, by simpa using h1, h2⟩
theorem RTs.append {lv : Addr → Prop} {m : List Addr} {H : Hp} : ∀ {vs us : List V} {ts ss : List T}, RTs K lv m H vs ts → RTs K lv m H us ss → RTs K lv m H (vs ++ us) (ts ++ ss)
  | _, _, _, _, .nil, q => q
  | _, _, _, _, .cons r rs, q => .cons r (rs.append q)
theorem RTs.take {lv : Addr → Prop} {m : List Addr} {H : Hp} : ∀ (n : Nat) {vs : List V} {ts : List T}, RTs K lv m H vs ts → RTs K lv m H (vs.take n) (ts.take n)
  | 0, _, _, _ => .nil
  | _ + 1, _, _, .nil => .nil
  | n + 1, _, _, .cons r rs => .cons r (rs.take n)
theorem RTs.drop {lv : Addr → Prop} {m : List Addr} {H : Hp} : ∀ (n : Nat) {vs : List V} {ts : List T}, RTs K lv m H vs ts → RTs K lv m H (vs.drop n) (ts.drop n)
  | 0, _, _, r => r
  | _ + 1, _, _, .nil => .nil
  | n + 1, _, _, .cons _ rs => rs.drop n
theorem RTs.set {lv : Addr → Prop} {m : List Addr} {H : Hp} {v : V} {t : T} (r : RT K lv m H v t) : ∀ (n : Nat) {vs : List V} {ts : List T}, RTs K lv m H vs ts → RTs K lv m H (vs.set n v) (ts.set n t)
  | _, _, _, .nil => .nil
  | 0, _, _, .cons _ rs => .cons r rs
  | n + 1, _, _, .cons q rs => .cons q (RTs.set r n rs)
theorem RTs.eraseIdx {lv : Addr → Prop} {m : List Addr} {H : Hp} : ∀ (n : Nat) {vs : List V} {ts : List T}, RTs K lv m H vs ts → RTs K lv m H (vs.eraseIdx n) (ts.eraseIdx n)
  | _, _, _, .nil => .nil
  | 0, _, _, .cons _ rs => rs
  | n + 1, _, _, .cons q rs => .cons q (rs.eraseIdx n)
theorem RTs.reverse {lv : Addr → Prop} {m : List Addr} {H : Hp} : ∀ {vs : List V} {ts : List T}, RTs K lv m H vs ts → RTs K lv m H vs.reverse ts.reverse
  | _, _, .nil => .nil
  | _, _, .cons r rs => by
    rw [List.reverse_cons, List.reverse_cons]
    exact rs.reverse.append (.cons r .nil)
theorem RDs.rts {lv : Addr → Prop} {m : List Addr} {H : Hp} : ∀ {vs : List V} {ds : List PyData}, RDs K lv H vs ds → RTs K lv m H vs (ds.map T.d)
  | _, _, .nil => .nil
  | _, _, .cons r rs => .cons (.d r) rs.rts
theorem RTs.rds {lv : Addr → Prop} {m : List Addr} {H : Hp} : ∀ {vs : List V} {ds : List PyData}, RTs K lv m H vs (ds.map T.d) → RDs K lv H vs ds
  | [], [], _ => .nil
  | [], _ :: _, h => by cases h
  | _ :: _, [], h => by cases h
  | v :: vs, d :: ds, h => by
    rw [List.map_cons] at h
    cases h with
    | cons r rs =>
      cases r with
      | d r => exact .cons r rs.rds

/-- a tuple, an unchanging list of related items -/
theorem mkTup_ok {lv : Addr → Prop} {m : List Addr} {H : Hp} {a : Addr} {vs : List V} {ts : List T} (h : TpF K lv H a vs) (r : RTs K lv m H vs ts) : RT K lv m H (.ref a) (mkTup ts) := by
  unfold mkTup
  cases e : allD ts with
  | none => exact .tup h r
  | some ds =>
    have e' := allD_some e
    subst e'
    exact .d (.tup h r.rds)
theorem mkLst_ok {lv : Addr → Prop} {m : List Addr} {H : Hp} {a : Addr} {vs : List V} {ts : List T} (h : SqF lv H a vs) (r : RTs K lv m H vs ts) : RT K lv m H (.ref a) (mkLst ts) := by
  unfold mkLst
  cases e : allD ts with
  | none => exact .lst h r
  | some ds =>
    have e' := allD_some e
    subst e'
    exact .d (.lst h r.rds)

/-! ### the store -/
def KvR (K : W.Frag) (w : Wd) : List (Key × V) → List (Ky × T) → Prop := Paired fun (p : Key × V) (q : Ky × T) => p.1 = q.1 ∧ w.R K p.2 q.2
def OR (K : W.Frag) (w : Wd) (a : Addr) : O → Prop
  | .lst ts => ∃ vs, w.H a = some (.lst vs) ∧ w.Rs K vs ts
  | .dct kvs => ∃ ks, w.H a = some (.dK ks) ∧ KvR K w ks kvs

structure Sim (K : W.Frag) (w : Wd) : Prop where
  len : w.m.length = w.st.length
  nd : w.m.Nodup
  trk : ∀ a ∈ w.m, w.H a ≠ none
  obj : ∀ (n : Nat) (a : Addr) (o : O), w.m[n]? = some a → w.st[n]? = some (some o) → OR K w a o

/-- a later world -/
structure Ext (w w' : Wd) : Prop where
  pre : w.m <+: w'.m
  new : ∀ (n : Nat) (a : Addr), w.m.length ≤ n → w'.m[n]? = some a → w.H a = none
  lvs : ∀ a, w'.lv a → w.lv a ∨ w.H a = none
  keep : ∀ (a : Addr) (o : HO), w.H a = some o → ¬ w.lv a → w'.H a = some o
  trk : ∀ a, w.H a ≠ none → w'.H a ≠ none

theorem Ext.refl (w : Wd) : Ext w w :=
  ⟨List.prefix_refl _, fun n a h e => absurd (List.getElem?_eq_some_iff.mp e).1 (by omega), fun _ h => .inl h, fun _ _ h _ => h, fun _ h => h⟩
theorem Ext.trans {w w1 w2 : Wd} (a : Ext w w1) (b : Ext w1 w2) : Ext w w2 where
  pre := a.pre.trans b.pre
  new := fun n x h e => by
    by_cases hn : n < w1.m.length
    · obtain ⟨l, hl⟩ := b.pre
      rw [← hl, List.getElem?_append_left hn] at e
      exact a.new n x h e
    · have q := b.new n x (by omega) e
      cases z : w.H x with
      | none => rfl
      | some o => exact absurd q (a.trk x (by rw [z]; exact fun y => nomatch y))
  lvs := fun x h => by
    rcases b.lvs x h with q | q
    · exact a.lvs x q
    · right
      cases z : w.H x with
      | none => rfl
      | some o => exact absurd q (a.trk x (by rw [z]; exact fun y => nomatch y))
  keep := fun x o h n => b.keep x o (a.keep x o h n) fun q => by
    rcases a.lvs x q with z | z
    · exact n z
    · rw [h] at z; cases z
  trk := fun x h => b.trk x (a.trk x h)

theorem Ext.get {w w' : Wd} (e : Ext w w') {n : Nat} {a : Addr} (h : w.m[n]? = some a) : w'.m[n]? = some a := by
  obtain ⟨l, hl⟩ := e.pre
  rw [← hl, List.getElem?_append_left (List.getElem?_eq_some_iff.mp h).1]
  exact h
theorem Ext.rd {w w' : Wd} (e : Ext w w') {a : Addr} {o : HO} (h : Rd w.H a o) (n : ¬ w.lv a) : Rd w'.H a o ∧ ¬ w'.lv a := by
  have hn : w.H a ≠ none := by
    rcases h with h | ⟨o', h⟩ <;> (rw [h]; exact fun y => nomatch y)
  refine ⟨?_, fun q => (e.lvs a q).elim n hn⟩
  rcases h with h | ⟨o', h⟩
  · exact .inl (e.keep a _ h n)
  · exact .inr ⟨o', e.keep a _ h n⟩
theorem Ext.sq {w w' : Wd} (e : Ext w w') {a : Addr} {xs : List V} (h : SqF w.lv w.H a xs) : SqF w'.lv w'.H a xs := e.rd h.1 h.2
theorem Ext.tp {w w' : Wd} (e : Ext w w') {a : Addr} {xs : List V} (h : TpF K w.lv w.H a xs) : TpF K w'.lv w'.H a xs := h.imp (fun h => e.rd h.1 h.2) id
mutual
theorem Ext.d {w w' : Wd} (e : Ext w w') : ∀ {v : V} {x : PyData}, RD K w.lv w.H v x → RD K w'.lv w'.H v x
  | _, _, .non => .non
  | _, _, .bl b => .bl b
  | _, _, .int i => .int i
  | _, _, .str x => .str x
  | _, _, .lst h r => .lst (e.sq h) (e.ds r)
  | _, _, .tup h r => .tup (e.tp h) (e.ds r)
  | _, _, .dct (a := a) h n r => .dct (e.keep a _ h n) (fun q => (e.lvs a q).elim n (by rw [h]; exact fun y => nomatch y)) (e.dk r)
theorem Ext.ds {w w' : Wd} (e : Ext w w') : ∀ {v : List V} {x : List PyData}, RDs K w.lv w.H v x → RDs K w'.lv w'.H v x
  | _, _, .nil => .nil
  | _, _, .cons r rs => .cons (e.d r) (e.ds rs)
theorem Ext.dk {w w' : Wd} (e : Ext w w') : ∀ {v : List (Key × V)} {x : List (PyData × PyData)}, RDk K w.lv w.H v x → RDk K w'.lv w'.H v x
  | _, _, .nil => .nil
  | _, _, .cons r rs => .cons (e.d r) (e.dk rs)
end
mutual
theorem Ext.t {w w' : Wd} (e : Ext w w') : ∀ {v : V} {x : T}, w.R K v x → w'.R K v x
  | _, _, .d r => .d (e.d r)
  | _, _, .ref h => .ref (e.get h)
  | _, _, .tup h r => .tup (e.tp h) (e.ts r)
  | _, _, .lst h r => .lst (e.sq h) (e.ts r)
  | _, _, .scr h => .scr (h.imp e.sq id)
theorem Ext.ts {w w' : Wd} (e : Ext w w') : ∀ {v : List V} {x : List T}, w.Rs K v x → w'.Rs K v x
  | _, _, .nil => .nil
  | _, _, .cons r rs => .cons (e.t r) (e.ts rs)
end

/-- the slots -/
structure EnvR (K : W.Frag) (w : Wd) (σ : L2.St) (ρ : Env) : Prop where
  len : σ.length = ρ.length
  at_ : ∀ (i : Nat) (t : T), ρ[i]? = some (some t) → ∃ v, σ[i]? = some (some v) ∧ w.R K v t
theorem EnvR.ext {w w' : Wd} {σ : L2.St} {ρ : Env} (h : EnvR K w σ ρ) (e : Ext w w') : EnvR K w' σ ρ :=
  ⟨h.len, fun i t q => let ⟨v, a, b⟩ := h.at_ i t q; ⟨v, a, e.t b⟩⟩
theorem EnvR.set {w : Wd} {σ : L2.St} {ρ : Env} (h : EnvR K w σ ρ) {i : Nat} {v : V} {t : T} (r : w.R K v t) : EnvR K w (σ.set i (some v)) (ρ.set i (some t)) := by
  refine ⟨by simp [h.len], fun j u q => ?_⟩
  by_cases hj : i = j
  · subst hj
    by_cases hi : i < ρ.length
    · rw [List.getElem?_set_self hi] at q
      cases q
      exact ⟨v, by rw [List.getElem?_set_self (by rw [h.len]; exact hi)], r⟩
    · rw [List.getElem?_eq_none (by simpa using hi)] at q; cases q
  · rw [List.getElem?_set_ne hj] at q
    obtain ⟨v', a, b⟩ := h.at_ j u q
    exact ⟨v', by rw [List.getElem?_set_ne hj]; exact a, b⟩
theorem EnvR.wipe {w : Wd} {σ : L2.St} {ρ : Env} (h : EnvR K w σ ρ) : ∀ vs : List Nat, EnvR K w (L2.wipe σ vs) (wipeE ρ vs)
  | [] => h
  | x :: vs => by
    have ih := EnvR.wipe h vs
    refine ⟨by simp [L2.wipe, wipeE, ih.len], fun j u q => ?_⟩
    simp only [wipeE] at q
    by_cases hj : x = j
    · subst hj
      by_cases hi : x < (wipeE ρ vs).length
      · rw [List.getElem?_set_self hi] at q; cases q
      · rw [List.getElem?_eq_none (by simpa using hi)] at q; cases q
    · rw [List.getElem?_set_ne hj] at q
      obtain ⟨v', a, b⟩ := ih.at_ j u q
      exact ⟨v', by simp only [L2.wipe]; rw [List.getElem?_set_ne hj]; exact a, b⟩

/-! ### new objects -/
/-- an object that nobody changes -/
theorem ext_new {w : Wd} (s : Sim K w) {p : Addr} {o : HO} (hp : w.H p = none) : Ext w ⟨w.m, w.st, upd w.H p o⟩ := by
  refine ⟨List.prefix_refl _, fun n a h e => absurd (List.getElem?_eq_some_iff.mp e).1 (Nat.not_lt.mpr h), fun _ h => .inl h, fun a u h _ => ?_, fun a h => ?_⟩
  · show upd w.H p o a = some u
    rw [upd_ne (ne_of_none h hp)]; exact h
  · show upd w.H p o a ≠ none
    by_cases e : a = p
    · subst e; exact absurd hp h
    · rw [upd_ne e]; exact h
theorem KvR.ext {w w' : Wd} (e : Ext w w') {ks : List (Key × V)} {kvs : List (Ky × T)} (h : KvR K w ks kvs) : KvR K w' ks kvs :=
  Paired.mapP h fun _ _ z => ⟨z.1, e.t z.2⟩
/-- related objects stand as they were -/
theorem OR.ext {w w' : Wd} (e : Ext w w') {a : Addr} {o : O} (h : OR K w a o) (q : ∀ u, w.H a = some u → w'.H a = some u) : OR K w' a o := by
  cases o with
  | lst ts => obtain ⟨vs, h1, h2⟩ := h; exact ⟨vs, q _ h1, e.ts h2⟩
  | dct kvs => obtain ⟨vs, h1, h2⟩ := h; exact ⟨vs, q _ h1, KvR.ext e h2⟩
theorem sim_new {w : Wd} (s : Sim K w) {p : Addr} {o : HO} (hp : w.H p = none) : Sim K ⟨w.m, w.st, upd w.H p o⟩ := by
  have e := ext_new (o := o) s hp
  refine ⟨s.len, s.nd, fun a ha => e.trk a (s.trk a ha), fun n a q h1 h2 => (s.obj n a q h1 h2).ext e fun u hu => ?_⟩
  show upd w.H p o a = some u
  rw [upd_ne (ne_of_none hu hp)]; exact hu
theorem notLive_new {w : Wd} (s : Sim K w) {p : Addr} (hp : w.H p = none) : ¬ w.lv p := fun ⟨n, o, h1, h2⟩ => s.trk p (List.mem_of_getElem? h1) hp

/-- a new object of the store -/
theorem ext_alloc {w : Wd} (s : Sim K w) {p : Addr} {o : HO} {q : O} (hp : w.H p = none) : Ext w ⟨w.m ++ [p], w.st ++ [some q], upd w.H p o⟩ := by
  have e0 := ext_new (o := o) s hp
  refine ⟨List.prefix_append _ _, fun n a h e => ?_, fun a ⟨n, u, h1, h2⟩ => ?_, e0.keep, e0.trk⟩
  · have e : (w.m ++ [p])[n]? = some a := e
    by_cases hn : n = w.m.length
    · subst hn
      rw [List.getElem?_append_right (Nat.le_refl _)] at e
      simp at e; subst e; exact hp
    · rw [List.getElem?_eq_none (by simp; omega)] at e; cases e
  · have h1 : (w.m ++ [p])[n]? = some a := h1
    have h2 : (w.st ++ [some q])[n]? = some (some u) := h2
    by_cases hn : n < w.m.length
    · left
      rw [List.getElem?_append_left hn] at h1
      rw [List.getElem?_append_left (by rw [← s.len]; exact hn)] at h2
      exact ⟨n, u, h1, h2⟩
    · right
      rw [List.getElem?_append_right (by omega)] at h1
      have : n - w.m.length = 0 := by
        have := (List.getElem?_eq_some_iff.mp h1).1
        simp at this; omega
      rw [this] at h1; simp at h1; subst h1; exact hp
theorem sim_alloc {w : Wd} (s : Sim K w) {p : Addr} {o : HO} {q : O} (hp : w.H p = none) (h : OR K ⟨w.m ++ [p], w.st ++ [some q], upd w.H p o⟩ p q) : Sim K ⟨w.m ++ [p], w.st ++ [some q], upd w.H p o⟩ := by
  have e := ext_alloc (q := q) (o := o) s hp
  refine ⟨by simp [s.len], ?_, fun a ha => ?_, fun n a u h1 h2 => ?_⟩
  · show (w.m ++ [p]).Nodup
    rw [List.nodup_append]
    refine ⟨s.nd, by simp, fun a ha b hb => ?_⟩
    have : b = p := by simpa using hb
    subst this
    rintro rfl
    exact s.trk _ ha hp
  · rcases List.mem_append.mp ha with z | z
    · exact e.trk a (s.trk a z)
    · have : a = p := by simpa using z
      subst this
      show upd w.H a o a ≠ none
      rw [upd_same]; exact fun y => nomatch y
  · have h1 : (w.m ++ [p])[n]? = some a := h1
    have h2 : (w.st ++ [some q])[n]? = some (some u) := h2
    by_cases hn : n < w.m.length
    · rw [List.getElem?_append_left hn] at h1
      rw [List.getElem?_append_left (by rw [← s.len]; exact hn)] at h2
      refine (s.obj n a u h1 h2).ext e fun v hv => ?_
      show upd w.H p o a = some v
      rw [upd_ne (ne_of_none hv hp)]; exact hv
    · have hx : n = w.m.length := by
        have := (List.getElem?_eq_some_iff.mp h1).1
        simp at this; omega
      subst hx
      rw [List.getElem?_append_right (Nat.le_refl _)] at h1
      rw [List.getElem?_append_right (by rw [s.len]; exact Nat.le_refl _), ← s.len] at h2
      simp at h1 h2
      subst h1; subst h2
      exact h

/-- an object of the store is changed -/
theorem live_set {w : Wd} {n : Nat} {a : Addr} {q : O} (s : Sim K w) (hm : w.m[n]? = some a) (hs : ∃ u, w.st[n]? = some (some u)) (b : Addr) : Live w.m (w.st.set n (some q)) b → w.lv b := by
  rintro ⟨k, u, h1, h2⟩
  by_cases hk : n = k
  · subst hk
    obtain ⟨u', hu⟩ := hs
    exact ⟨n, u', h1, hu⟩
  · rw [List.getElem?_set_ne hk] at h2
    exact ⟨k, u, h1, h2⟩
theorem ext_set {w : Wd} {n : Nat} {a : Addr} {o : HO} {q : O} (s : Sim K w) (hm : w.m[n]? = some a) (hs : ∃ u, w.st[n]? = some (some u)) : Ext w ⟨w.m, w.st.set n (some q), upd w.H a o⟩ := by
  have la : w.lv a := let ⟨u, hu⟩ := hs; ⟨n, u, hm, hu⟩
  refine ⟨List.prefix_refl _, fun k b h e => absurd (List.getElem?_eq_some_iff.mp e).1 (Nat.not_lt.mpr h), fun b h => .inl (live_set s hm hs b h), fun b u h nl => ?_, fun b h => ?_⟩
  · show upd w.H a o b = some u
    rw [upd_ne (fun e => nl (by rw [e]; exact la))]; exact h
  · show upd w.H a o b ≠ none
    by_cases e : b = a
    · subst e; rw [upd_same]; exact fun y => nomatch y
    · rw [upd_ne e]; exact h
theorem sim_set {w : Wd} {n : Nat} {a : Addr} {o : HO} {q : O} (s : Sim K w) (hm : w.m[n]? = some a) (hs : ∃ u, w.st[n]? = some (some u)) (h : OR K ⟨w.m, w.st.set n (some q), upd w.H a o⟩ a q) : Sim K ⟨w.m, w.st.set n (some q), upd w.H a o⟩ := by
  have e := ext_set (q := q) (o := o) s hm hs
  refine ⟨by simp [s.len], s.nd, fun b hb => e.trk b (s.trk b hb), fun k b u h1 h2 => ?_⟩
  have h1 : w.m[k]? = some b := h1
  have h2 : (w.st.set n (some q))[k]? = some (some u) := h2
  by_cases hk : n = k
  · subst hk
    rw [hm] at h1; cases h1
    rw [List.getElem?_set_self (by rw [← s.len]; exact (List.getElem?_eq_some_iff.mp hm).1)] at h2
    cases h2
    exact h
  · rw [List.getElem?_set_ne hk] at h2
    refine (s.obj k b u h1 h2).ext e fun v hv => ?_
    show upd w.H a o b = some v
    rw [upd_ne]
    · exact hv
    · rintro rfl
      exact hk ((List.getElem?_inj (List.getElem?_eq_some_iff.mp hm).1 s.nd).mp (hm.trans h1.symm))
end
end Ev

/-! Ev2: readings by the evaluator; names, constants, operators, tests. -/
namespace Ev
open PySem PySem.Spec PyProof.Rows L2

section
variable (K : PySem.W.Frag) (cA : Nat → Addr) (W : WX)
def XOk (e : Ex) (w : Wd) (st' : Sto) (σ : L2.St) : Prop := ∀ (m' : List Addr) (H' : Hp) (dx : Addr) (fs : List (Str × V)),
  Ext w ⟨m', st', H'⟩ → Sim K ⟨m', st', H'⟩ → H' dx = some (.xd fs) → Paired (fun (p : Str × V) (q : Str × T) => p.1 = q.1 ∧ RT K (Live m' st') m' H' p.2 q.2) fs e.fs → W (.ref (cA e.cls)) (some dx) σ H'
/-- what is wanted of an end -/
def OkG {α β : Type} (Rel : Wd → β → α → Prop) (σ : L2.St) (w : Wd) (r : R α) (Q : β → Hp → Prop) : Prop := match r with
  | .ok a st' => ∀ (b : β) (H' : Hp) (m' : List Addr), Ext w ⟨m', st', H'⟩ → Sim K ⟨m', st', H'⟩ → Rel ⟨m', st', H'⟩ b a → Q b H'
  | .exn e st' => XOk K cA W e w st' σ
  | .bad => False
abbrev RelT : Wd → V → T → Prop := fun w v t => w.R K v t
abbrev RelTs : Wd → List V → List T → Prop := fun w v t => w.Rs K v t
abbrev RelB : Wd → Bool → Bool → Prop := fun _ a b => a = b
/-- at the slots -/
def At (σ : L2.St) (H : Hp) (P : Wd → Env → Prop) : Prop := ∃ (m : List Addr) (ρ : Env) (st : Sto), Sim K ⟨m, st, H⟩ ∧ EnvR K ⟨m, st, H⟩ σ ρ ∧ P ⟨m, st, H⟩ ρ
def rdE (f : Env → M T) : TE := fun σ H Q => At K σ H fun w ρ => OkG K cA W (RelT K) σ w (f ρ w.st) Q
def rdA (f : Env → M (List T)) : TA := fun σ H Q => At K σ H fun w ρ => OkG K cA W (RelTs K) σ w (f ρ w.st) Q
def rdT (f : Env → M Bool) : TT := fun σ H Q => At K σ H fun w ρ => OkG K cA W RelB σ w (f ρ w.st) Q
end

section
variable {K : PySem.W.Frag} {cA : Nat → Addr} {W : WX}
theorem XOk.ext {e : Ex} {w w1 : Wd} {st' : Sto} {σ : L2.St} (x : Ext w w1) (h : XOk K cA W e w st' σ) : XOk K cA W e w1 st' σ :=
  fun m' H' dx fs e1 s1 hx hf => h m' H' dx fs (x.trans e1) s1 hx hf
theorem OkG.ext {α β : Type} {Rel : Wd → β → α → Prop} {σ : L2.St} {w w1 : Wd} {r : R α} {Q : β → Hp → Prop} (x : Ext w w1) (h : OkG K cA W Rel σ w r Q) : OkG K cA W Rel σ w1 r Q := by
  cases r with
  | ok a st => exact fun b H' m' e s q => h b H' m' (x.trans e) s q
  | exn e st => exact XOk.ext x h
  | bad => exact h
theorem OkG.mono {α β : Type} {Rel : Wd → β → α → Prop} {σ : L2.St} {w : Wd} {r : R α} {Q Q' : β → Hp → Prop} (h : OkG K cA W Rel σ w r Q) (k : ∀ b H', Q b H' → Q' b H') : OkG K cA W Rel σ w r Q' := by
  cases r with
  | ok a st => exact fun b H' m' e s q => k _ _ (h b H' m' e s q)
  | exn e st => exact h
  | bad => exact h
/-- one step, then another -/
theorem OkG.bind {α β γ δ : Type} {Rel1 : Wd → γ → δ → Prop} {Rel : Wd → β → α → Prop} {σ : L2.St} {w : Wd} {r : R δ} {g : δ → Sto → R α} {Q : β → Hp → Prop} {Q1 : γ → Hp → Prop}
    (h : OkG K cA W Rel σ w (r.bind g) Q)
    (k : ∀ (b : γ) (a : δ) (w1 : Wd), Ext w w1 → Sim K w1 → Rel1 w1 b a → OkG K cA W Rel σ w1 (g a w1.st) Q → Q1 b w1.H) : OkG K cA W Rel1 σ w r Q1 := by
  cases r with
  | ok a st => exact fun b H' m' e s q => k b a ⟨m', st, H'⟩ e s q (OkG.ext e h)
  | exn e st => exact h
  | bad => exact h
theorem OkG.ok {α β : Type} {Rel : Wd → β → α → Prop} {σ : L2.St} {w : Wd} {a : α} {Q : β → Hp → Prop} {b : β} (h : OkG K cA W Rel σ w (.ok a w.st) Q) (s : Sim K w) (r : Rel w b a) : Q b w.H := h b w.H w.m (Ext.refl w) s r
/-- the end at a later world -/
theorem OkG.at_ {α β : Type} {Rel : Wd → β → α → Prop} {σ : L2.St} {w : Wd} {a : α} {st' : Sto} {Q : β → Hp → Prop} {b : β} {m' : List Addr} {H' : Hp} (h : OkG K cA W Rel σ w (.ok a st') Q) (e : Ext w ⟨m', st', H'⟩) (s : Sim K ⟨m', st', H'⟩) (r : Rel ⟨m', st', H'⟩ b a) : Q b H' := h b H' m' e s r

theorem PE_imp {X : Cx} {e : Expr} {t t' : TE} (h : PE X e t) (k : ∀ σ H Q, t' σ H Q → t σ H Q) : PE X e t' := ⟨fun pins s σ H Q I q => h.run pins s σ H Q I (k σ H Q q)⟩
theorem PA_imp {X : Cx} {e : List Expr} {t t' : TA} (h : PA X e t) (k : ∀ σ H Q, t' σ H Q → t σ H Q) : PA X e t' := ⟨fun pos pins s σ H Q I q => h.run pos pins s σ H Q I (k σ H Q q)⟩
theorem PT_imp {X : Cx} {e : Expr} {t t' : TT} (h : PT X e t) (k : ∀ σ H Q, t' σ H Q → t σ H Q) : PT X e t' := ⟨fun pins s σ H Q I q => h.run pins s σ H Q I (k σ H Q q)⟩
theorem PW_imp {X : Cx} {e : Expr} {t t' : TT} (h : PW X e t) (k : ∀ σ H Q, t' σ H Q → t σ H Q) : PW X e t' := ⟨fun wh pins s σ H Q I q => h.run wh pins s σ H Q I (k σ H Q q)⟩
theorem PI_imp {X : Cx} {tg e : Expr} {t t' : TI} (h : PI X tg e t) (k : ∀ σ H Q, t' σ H Q → t σ H Q) : PI X tg e t' := ⟨fun pins s σ H Q I q => h.run pins s σ H Q I (k σ H Q q)⟩
theorem PS_imp {X : Cx} {e : Stmt} {t t' : TS} (h : PS X e t) (k : ∀ D σ H, t' D σ H → t D σ H) : PS X e t' := ⟨fun pins s σ H D I q => h.run pins s σ H D I (k D σ H q)⟩
theorem PSs_imp {X : Cx} {e : List Stmt} {t t' : TS} (h : PSs X e t) (k : ∀ D σ H, t' D σ H → t D σ H) : PSs X e t' := ⟨fun pins s σ H D I q => h.run pins s σ H D I (k D σ H q)⟩
theorem PG_imp {X : Cx} {e : Expr} {t t' : TG} (h : PG X e t) (k : ∀ v σ H Q, t' v σ H Q → t v σ H Q) : PG X e t' := ⟨fun pins s σ H v u Q I r q => h.run pins s σ H v u Q I r (k v σ H Q q)⟩

/-! ### reading parts in a row -/
theorem At.bind {α β γ δ : Type} {Rel1 : Wd → γ → δ → Prop} {Rel : Wd → β → α → Prop} {σ : L2.St} {H : Hp} {f : Env → M δ} {g : Env → δ → Sto → R α} {Q : β → Hp → Prop} {Q1 : γ → Hp → Prop}
    (h : At K σ H fun w ρ => OkG K cA W Rel σ w ((f ρ w.st).bind (g ρ)) Q)
    (k : ∀ (b : γ) (a : δ) (w1 : Wd) (ρ : Env), Sim K w1 → EnvR K w1 σ ρ → Rel1 w1 b a → OkG K cA W Rel σ w1 (g ρ a w1.st) Q → Q1 b w1.H) :
    At K σ H fun w ρ => OkG K cA W Rel1 σ w (f ρ w.st) Q1 := by
  obtain ⟨m, ρ, st, s, ev, h⟩ := h
  exact ⟨m, ρ, st, s, ev, OkG.bind h fun b a w1 e s1 r q => k b a w1 ρ s1 (ev.ext e) r q⟩
theorem At.mk {P : Wd → Env → Prop} {σ : L2.St} {w : Wd} {ρ : Env} (s : Sim K w) (ev : EnvR K w σ ρ) (h : P w ρ) : At K σ w.H P := ⟨w.m, ρ, w.st, s, ev, h⟩

theorem rd_mono {f : Env → M T} {σ : L2.St} {H : Hp} {Q Q' : VK} (h : rdE K cA W f σ H Q) (k : ∀ v H', Q v H' → Q' v H') : rdE K cA W f σ H Q' := let ⟨m, ρ, st, s, ev, q⟩ := h; ⟨m, ρ, st, s, ev, q.mono k⟩
/-- a two-place operation by values -/
def OpOk (K : PySem.W.Frag) (o : T → T → M T) (r : R2) : Prop :=
  ∀ (cA : Nat → Addr) (W : WX) (σ : L2.St) (w : Wd) (a b : T) (x y : V) (Q : VK), Sim K w → w.R K x a → w.R K y b → OkG K cA W (RelT K) σ w (o a b w.st) Q → r x y w.H Q
def UnOk (K : PySem.W.Frag) (o : T → M T) (r : V → Hp → VK → Prop) : Prop :=
  ∀ (cA : Nat → Addr) (W : WX) (σ : L2.St) (w : Wd) (a : T) (x : V) (Q : VK), Sim K w → w.R K x a → OkG K cA W (RelT K) σ w (o a w.st) Q → r x w.H Q
def ClOk (K : PySem.W.Frag) (o : List T → M T) (r : List V → Hp → VK → Prop) : Prop :=
  ∀ (cA : Nat → Addr) (W : WX) (σ : L2.St) (w : Wd) (as : List T) (xs : List V) (Q : VK), Sim K w → w.Rs K xs as → OkG K cA W (RelT K) σ w (o as w.st) Q → r xs w.H Q

theorem rd_op {X : Cx} {e : Expr} {o : T → T → M T} {r : R2} {fa fb : Env → M T} (h : PE X e (tOp r (rdE K cA W fa) (rdE K cA W fb))) (ho : OpOk K o r) :
    PE X e (rdE K cA W fun ρ st => (fa ρ st).bind fun x st => (fb ρ st).bind fun y st => o x y st) := by
  refine PE_imp h fun σ H Q q => ?_
  refine At.bind (Rel1 := RelT K) (g := fun ρ x st => (fb ρ st).bind fun y st => o x y st) q fun b a w1 ρ s1 ev1 r1 q1 => ?_
  refine At.mk s1 ev1 (OkG.bind (Rel1 := RelT K) q1 fun b2 a2 w2 e2 s2 r2 q2 => ?_)
  exact ho _ _ _ _ _ _ _ _ _ s2 (e2.t r1) r2 q2
theorem rd_un {X : Cx} {e : Expr} {o : T → M T} {r : V → Hp → VK → Prop} {fa : Env → M T} (h : PE X e (tUn r (rdE K cA W fa))) (ho : UnOk K o r) :
    PE X e (rdE K cA W fun ρ st => (fa ρ st).bind fun x st => o x st) := by
  refine PE_imp h fun σ H Q q => ?_
  exact At.bind (Rel1 := RelT K) (g := fun ρ x st => o x st) q fun b a w1 ρ s1 ev1 r1 q1 => ho _ _ _ _ _ _ _ s1 r1 q1
theorem rd_cb {X : Cx} {e : Expr} {o : List T → M T} {r : List V → Hp → VK → Prop} {fa : Env → M (List T)} (h : PE X e (tCB r (rdA K cA W fa))) (ho : ClOk K o r) :
    PE X e (rdE K cA W fun ρ st => (fa ρ st).bind fun x st => o x st) := by
  refine PE_imp h fun σ H Q q => ?_
  exact At.bind (Rel1 := RelTs K) (g := fun ρ x st => o x st) q fun b a w1 ρ s1 ev1 r1 q1 => ho _ _ _ _ _ _ _ s1 r1 q1

/-! ### arguments -/
theorem rd_nil {X : Cx} : PA X [] (rdA K cA W fun _ st => .ok [] st) :=
  PA_imp pa_nil fun σ H Q ⟨m, ρ, st, s, ev, h⟩ => h [] H m (Ext.refl _) s .nil
theorem rd_cons {X : Cx} {e : Expr} {es : List Expr} {f : Env → M T} {g : Env → M (List T)} (h1 : PE X e (rdE K cA W f)) (h2 : PA X es (rdA K cA W g)) (hs : starEach (e :: es) X.env = (false, eval e X.env) :: starEach es X.env) :
    PA X (e :: es) (rdA K cA W fun ρ st => (f ρ st).bind fun x st => (g ρ st).bind fun xs st => .ok (x :: xs) st) := by
  refine PA_imp (pa_cons h1 h2 hs) fun σ H Q q => ?_
  refine At.bind (Rel1 := RelT K) (g := fun ρ x st => (g ρ st).bind fun xs st => .ok (x :: xs) st) q fun b a w1 ρ s1 ev1 r1 q1 => ?_
  refine At.mk s1 ev1 (OkG.bind (Rel1 := RelTs K) q1 fun b2 a2 w2 e2 s2 r2 q2 => ?_)
  exact q2.ok s2 (.cons (e2.t r1) r2)

/-! ### names, constants -/
theorem rd_var {X : Cx} {i : Nat} {x : Str} {pos : Pos} (h : PE X (.Name x pos) (tVar i)) : PE X (.Name x pos) (rdE K cA W fun ρ st => match ρ[i]? with
    | some (some v) => .ok v st
    | _ => .bad) := by
  refine PE_imp h fun σ H Q ⟨m, ρ, st, s, ev, q⟩ => ?_
  cases e : ρ[i]? with
  | none => simp only [e] at q; exact q.elim
  | some o =>
    cases o with
    | none => simp only [e] at q; exact q.elim
    | some t =>
      simp only [e] at q
      obtain ⟨v, h1, h2⟩ := ev.at_ i t e
      exact ⟨v, h1, q v H m (Ext.refl _) s h2⟩
theorem rd_con {X : Cx} {e : Expr} {v : V} {t : T} (h : PE X e (tC v)) (r : ∀ w : Wd, w.R K v t) : PE X e (rdE K cA W fun _ st => .ok t st) :=
  PE_imp h fun σ H Q ⟨m, ρ, st, s, ev, q⟩ => q v H m (Ext.refl _) s (r _)

/-! ### operators over ints and texts -/
theorem RT.int_inv {lv : Addr → Prop} {m : List Addr} {H : Hp} {v : V} {i : Int} (h : RT K lv m H v (.d (.int i))) : v = .int i := by
  cases h with | d h => cases h; rfl
theorem RT.str_inv {lv : Addr → Prop} {m : List Addr} {H : Hp} {v : V} {i : Str} (h : RT K lv m H v (.d (.str i))) : v = .str i := by
  cases h with | d h => cases h; rfl
theorem RT.bool_inv {lv : Addr → Prop} {m : List Addr} {H : Hp} {v : V} {i : Bool} (h : RT K lv m H v (.d (.bool i))) : v = .bl i := by
  cases h with | d h => cases h; rfl
theorem RT.none_inv {lv : Addr → Prop} {m : List Addr} {H : Hp} {v : V} (h : RT K lv m H v (.d .none)) : v = .non := by
  cases h with | d h => cases h; rfl
theorem rInt {w : Wd} (i : Int) : w.R K (.int i) (.d (.int i)) := .d (.int i)
theorem rBl {w : Wd} (i : Bool) : w.R K (.bl i) (.d (.bool i)) := .d (.bl i)
theorem rStr {w : Wd} (i : Str) : w.R K (.str i) (.d (.str i)) := .d (.str i)

/-- a lists' reading: shared shapes -/
theorem lstOf_inv {w : Wd} (s : Sim K w) {v : V} {t : T} {xs : List T} (r : w.R K v t) (h : lstOf w.st t = some xs) : ∃ a vs, v = .ref a ∧ Rd w.H a (.lst vs) ∧ w.Rs K vs xs := by
  cases t with
  | d x =>
    cases r with
    | d r =>
      cases x with
      | list ds =>
        simp only [lstOf, Option.some.injEq] at h
        subst h
        cases r with
        | lst h1 h2 => exact ⟨_, _, rfl, h1.1, h2.rts⟩
      | _ => cases h
  | ref n =>
    cases r with
    | ref hm =>
      simp only [lstOf] at h
      split at h
      · rename_i ys e
        cases h
        obtain ⟨vs, h1, h2⟩ := s.obj n _ _ hm e
        exact ⟨_, vs, rfl, Rd.of h1, h2⟩
      · cases h
  | tup ts => cases h
  | lst ts =>
    simp only [lstOf, Option.some.injEq] at h
    subst h
    cases r with
    | lst h1 h2 => exact ⟨_, _, rfl, h1.1, h2⟩
  | scr ns => cases h
theorem tupOf_inv {w : Wd} {v : V} {t : T} {xs : List T} (r : w.R K v t) (h : tupOf t = some xs) : ∃ a vs, v = .ref a ∧ TpF K w.lv w.H a vs ∧ w.Rs K vs xs := by
  cases t with
  | d x =>
    cases r with
    | d r =>
      cases x with
      | tuple ds =>
        simp only [tupOf, Option.some.injEq] at h
        subst h
        cases r with
        | tup h1 h2 => exact ⟨_, _, rfl, h1, h2.rts⟩
      | _ => cases h
  | ref n => cases h
  | tup ts =>
    simp only [tupOf, Option.some.injEq] at h
    subst h
    cases r with
    | tup h1 h2 => exact ⟨_, _, rfl, h1, h2⟩
  | lst ts => cases h
  | scr ns => cases h
theorem seqOf_inv {w : Wd} (s : Sim K w) {v : V} {t : T} {xs : List T} (r : w.R K v t) (h : seqOf w.st t = some xs) : ∃ a vs, v = .ref a ∧ (SqL K w.H a vs ∨ SqT K w.H a vs) ∧ w.Rs K vs xs := by
  unfold seqOf at h
  cases e : tupOf t with
  | some ys =>
    rw [e] at h; cases h
    obtain ⟨a, vs, h1, h2, h3⟩ := tupOf_inv r e
    exact ⟨a, vs, h1, .inr h2.seq, h3⟩
  | none =>
    rw [e] at h
    obtain ⟨a, vs, h1, h2, h3⟩ := lstOf_inv s r h
    exact ⟨a, vs, h1, .inl (.inl h2), h3⟩

/-! ### data at any depth, as the library has it -/
mutual
theorem RD.dp {lv : Addr → Prop} {H : Hp} : ∀ {v : V} {x : PyData}, RD K lv H v x → x.hasDict = false → Dp K H v x
  | _, _, .non, _ => .non
  | _, _, .bl b, _ => .bl b
  | _, _, .int i, _ => .int i
  | _, _, .str x, _ => .str x
  | _, _, .lst h r, e => .lst h.seq (r.dp (by simpa [PyData.hasDict] using e))
  | _, _, .tup h r, e => .tup h.seq (r.dp (by simpa [PyData.hasDict] using e))
  | _, _, .dct _ _ _, e => by simp [PyData.hasDict] at e
theorem RDs.dp {lv : Addr → Prop} {H : Hp} : ∀ {v : List V} {x : List PyData}, RDs K lv H v x → PyData.hasDictAll x = false → DpAll K H v x
  | _, _, .nil, _ => .nil
  | _, _, .cons r rs, e => by
    simp only [PyData.hasDictAll, Bool.or_eq_false_iff] at e
    exact .cons (r.dp e.1) (rs.dp e.2)
end
theorem mapO_some {α β : Type} {f : α → Option β} : ∀ {xs : List α} {ys : List β}, mapO f xs = some ys → Paired (fun x y => f x = some y) xs ys
  | [], ys, h => by simp only [mapO, Option.some.injEq] at h; subst h; exact .nil
  | x :: r, ys, h => by
    simp only [mapO] at h
    cases e : f x with
    | none => rw [e] at h; cases h
    | some y =>
      rw [e] at h
      cases e2 : mapO f r with
      | none => simp only [e2] at h; cases h
      | some zs =>
        simp only [e2, Option.some.injEq] at h
        subst h
        exact .cons e (mapO_some e2)
theorem viewD_dp {w : Wd} (s : Sim K w) : ∀ (n : Nat) {v : V} {t : T} {x : PyData}, w.R K v t → viewD w.st n t = some x → x.hasDict = false → Dp K w.H v x
  | 0, _, _, _, _, h, _ => by cases h
  | n + 1, v, t, x, r, h, hd => by
    have all : ∀ {vs : List V} {ts : List T} {xs : List PyData}, w.Rs K vs ts → Paired (fun t x => viewD w.st n t = some x) ts xs → PyData.hasDictAll xs = false → DpAll K w.H vs xs := by
      intro vs ts xs hr hp
      induction hp generalizing vs with
      | nil => intro _; cases hr; exact .nil
      | cons e _ ih =>
        intro hd
        simp only [PyData.hasDictAll, Bool.or_eq_false_iff] at hd
        cases hr with
        | cons r rs => exact .cons (viewD_dp s n r e hd.1) (ih rs hd.2)
    cases r with
    | d r =>
      simp only [viewD, Option.some.injEq] at h
      subst h
      exact r.dp hd
    | ref hm =>
      rename_i k a
      simp only [viewD] at h
      split at h
      · rename_i ys e
        obtain ⟨xs, h1, rfl⟩ := Option.map_eq_some_iff.mp h
        obtain ⟨vs, g1, g2⟩ := s.obj _ _ _ hm e
        exact .lst (SqL.of g1) (all g2 (mapO_some h1) (by simpa [PyData.hasDict] using hd))
      · cases h
    | tup h1 h2 =>
      simp only [viewD] at h
      obtain ⟨xs, h3, rfl⟩ := Option.map_eq_some_iff.mp h
      exact .tup h1.seq (all h2 (mapO_some h3) (by simpa [PyData.hasDict] using hd))
    | lst h1 h2 =>
      simp only [viewD] at h
      obtain ⟨xs, h3, rfl⟩ := Option.map_eq_some_iff.mp h
      exact .lst h1.seq (all h2 (mapO_some h3) (by simpa [PyData.hasDict] using hd))
    | scr h1 => cases h
theorem shaped_noDict {x : PyData} (h : shapedB x = true) : x.hasDict = false := by
  have h' : (x.canLay0 && decide (x.depth ≤ 64)) = true := h
  rw [Bool.and_eq_true] at h'
  exact PyData.hasDict_of_canLay x h'.1
end
end Ev

/-! Ev3: the operators over values. -/
namespace Ev
open PySem PySem.Spec PyProof.Rows L2

/-- a pure operation over values, as a reading -/
def rBin (K : PySem.W.Frag) (o : T → T → M T) : R2 := fun x y H Q => ∃ (cA : Nat → Addr) (W : WX) (σ : L2.St) (w : Wd) (a b : T), Sim K w ∧ w.H = H ∧ w.R K x a ∧ w.R K y b ∧ OkG K cA W (RelT K) σ w (o a b w.st) Q
def rUn (K : PySem.W.Frag) (o : T → M T) : V → Hp → VK → Prop := fun x H Q => ∃ (cA : Nat → Addr) (W : WX) (σ : L2.St) (w : Wd) (a : T), Sim K w ∧ w.H = H ∧ w.R K x a ∧ OkG K cA W (RelT K) σ w (o a w.st) Q
def rCl (K : PySem.W.Frag) (o : List T → M T) : List V → Hp → VK → Prop := fun xs H Q => ∃ (cA : Nat → Addr) (W : WX) (σ : L2.St) (w : Wd) (as : List T), Sim K w ∧ w.H = H ∧ w.Rs K xs as ∧ OkG K cA W (RelT K) σ w (o as w.st) Q
theorem opOk_rBin (K : PySem.W.Frag) (o : T → T → M T) : OpOk K o (rBin K o) := fun cA W σ w a b x y Q s ra rb q => ⟨cA, W, σ, w, a, b, s, rfl, ra, rb, q⟩
theorem unOk_rUn (K : PySem.W.Frag) (o : T → M T) : UnOk K o (rUn K o) := fun cA W σ w a x Q s ra q => ⟨cA, W, σ, w, a, s, rfl, ra, q⟩
theorem clOk_rCl (K : PySem.W.Frag) (o : List T → M T) : ClOk K o (rCl K o) := fun cA W σ w as xs Q s ra q => ⟨cA, W, σ, w, as, s, rfl, ra, q⟩

section
variable {X : Cx}
/-- a new unchanging tuple, list at any free place -/
theorem new_tup {K : PySem.W.Frag} {cA : Nat → Addr} {W : WX} {σ : L2.St} {w : Wd} {vs : List V} {ts : List T} {Q : VK} (s : Sim K w) (r : w.Rs K vs ts) (q : OkG K cA W (RelT K) σ w (.ok (mkTup ts) w.st) Q) :
    ∀ p, w.H p = none → Q (.ref p) (upd w.H p (.tup vs)) := fun p hp => by
  have e := ext_new (o := .tup vs) s hp
  exact q.at_ e (sim_new s hp) (mkTup_ok (.inl ⟨Rd.of upd_same, fun z => notLive_new s hp z⟩) (e.ts r))
theorem new_lst {K : PySem.W.Frag} {cA : Nat → Addr} {W : WX} {σ : L2.St} {w : Wd} {vs : List V} {ts : List T} {Q : VK} (s : Sim K w) (r : w.Rs K vs ts) (q : OkG K cA W (RelT K) σ w (.ok (mkLst ts) w.st) Q) :
    ∀ p, w.H p = none → Q (.ref p) (upd w.H p (.lst vs)) := fun p hp => by
  have e := ext_new (o := .lst vs) s hp
  exact q.at_ e (sim_new s hp) (mkLst_ok ⟨Rd.of upd_same, fun z => notLive_new s hp z⟩ (e.ts r))

/-- two lists glued -/
theorem cat_lists {pins : List (Addr × Obj)} {s : Shared} {σ : L2.St} {H : Hp} {a b : Addr} {xs ys : List V} {Q : VK} (I : Inv X pins σ H s) (ha : Rd H a (.lst xs)) (hb : Rd H b (.lst ys)) (hz : xs.length + ys.length ≤ sizeLine)
    (q : ∀ p, H p = none → Q (.ref p) (upd H p (.lst (xs ++ ys)))) : wpAny (model X.prog X.w) X.A (binaryOp .Add (.ref a) (.ref b)) (EP X pins σ Q) X.xe s := by
  obtain ⟨_, its, n, r1, e1⟩ := ha.ok I.hok
  obtain ⟨_, its2, n2, r2, e2⟩ := hb.ok I.hok
  refine PySem.P.add_list e1 e2 ?_ (by rw [List.size_toArray, List.size_toArray, ← r1.length, ← r2.length]; exact hz)
  have ea : its.toArray ++ its2.toArray = (its ++ its2).toArray := by simp
  rw [ea]
  exact ⟨.ref _, _, I.lnew (t' := s.toks) (r1.append r2) (by rw [List.length_append]; exact hz), rfl, q _ I.fresh⟩

theorem opr_add : OpR X (binaryOp .Add) (rBin X.K (bin .add)) := by
  intro pins s σ H x y v u Q I rx ry ⟨cA, W, σ0, w, a, b, sim, eH, ra, rb, q⟩
  subst eH
  have go : ∀ {a b : T}, w.R X.K x a → w.R X.K y b → OkG X.K cA W (RelT X.K) σ0 w (addT w.st a b) Q → wpAny (model X.prog X.w) X.A (binaryOp .Add v u) (EP X pins σ Q) X.xe s := by
    intro a b ra rb q
    unfold addT at q
    split at q
    · rename_i xs ys h1 h2
      split at q
      · rename_i hz
        obtain ⟨p1, vs, rfl, t1, r1⟩ := tupOf_inv ra h1
        obtain ⟨p2, us, rfl, t2, r2⟩ := tupOf_inv rb h2
        have l1 := r1.length
        have l2 := r2.length
        refine op_catA pins s σ w.H _ _ v u Q I rx ry ⟨p1, p2, vs, us, rfl, rfl, t1.seq, t2.seq, by omega, fun e => ?_, fun hn e => ?_, fun hn e => ?_⟩
        · subst e
          have : xs = [] := List.eq_nil_of_length_eq_zero l1.symm
          subst this
          exact q.at_ (Ext.refl w) sim (mkTup_ok t2 r2)
        · subst e
          have : ys = [] := List.eq_nil_of_length_eq_zero l2.symm
          subst this
          rw [List.append_nil] at q
          exact q.at_ (Ext.refl w) sim (mkTup_ok t1 r1)
        · exact new_tup sim (r1.append r2) q
      · exact q.elim
    · split at q
      · rename_i xs ys h1 h2
        split at q
        · rename_i hz
          obtain ⟨p1, vs, rfl, t1, r1⟩ := lstOf_inv sim ra h1
          obtain ⟨p2, us, rfl, t2, r2⟩ := lstOf_inv sim rb h2
          have l1 := r1.length
          have l2 := r2.length
          cases rx
          cases ry
          exact cat_lists I t1 t2 (by omega) (new_lst sim (r1.append r2) q)
        · exact q.elim
      · exact q.elim
  unfold bin at q
  dsimp only at q
  split at q
  · cases ra.int_inv
    cases rb.int_inv
    exact op_add pins s σ w.H _ _ v u Q I rx ry ⟨_, _, rfl, rfl, q.ok sim (rInt _)⟩
  · rename_i x' y'
    split at q
    · rename_i hz
      cases ra.str_inv
      cases rb.str_inv
      exact op_add_str pins s σ w.H _ _ v u Q I rx ry ⟨_, _, rfl, rfl, hz, q.ok sim (rStr _)⟩
    · exact q.elim
  · exact go ra rb q

theorem opr_sub : OpR X (binaryOp .Sub) (rBin X.K (bin .sub)) := by
  intro pins s σ H x y v u Q I rx ry ⟨cA, W, σ0, w, a, b, sim, eH, ra, rb, q⟩
  subst eH
  unfold bin at q
  dsimp only at q
  split at q
  · cases ra.int_inv
    cases rb.int_inv
    exact op_sub pins s σ w.H _ _ v u Q I rx ry ⟨_, _, rfl, rfl, q.ok sim (rInt _)⟩
  · exact q.elim
theorem opr_mul : OpR X (binaryOp .Mult) (rBin X.K (bin .mul)) := by
  intro pins s σ H x y v u Q I rx ry ⟨cA, W, σ0, w, a, b, sim, eH, ra, rb, q⟩
  subst eH
  unfold bin at q
  dsimp only at q
  split at q
  · split at q
    · rename_i hm
      cases ra.int_inv
      cases rb.int_inv
      refine op_mul pins s σ w.H _ _ v u Q I rx ry ⟨_, _, rfl, rfl, ?_, q.ok sim (rInt _)⟩
      unfold mulOk at hm
      simp only [Bool.or_eq_true, Bool.and_eq_true, decide_eq_true_eq] at hm
      exact hm
    · exact q.elim
  · exact q.elim
theorem opr_fdiv : OpR X (binaryOp .FloorDiv) (rBin X.K (bin .fdiv)) := by
  intro pins s σ H x y v u Q I rx ry ⟨cA, W, σ0, w, a, b, sim, eH, ra, rb, q⟩
  subst eH
  unfold bin at q
  dsimp only at q
  split at q
  · split at q
    · rename_i hm
      cases ra.int_inv
      cases rb.int_inv
      exact op_fdiv pins s σ w.H _ _ v u Q I rx ry ⟨_, _, rfl, rfl, hm, q.ok sim (rInt _)⟩
    · exact q.elim
  · exact q.elim
theorem opr_mod : OpR X (binaryOp .Mod) (rBin X.K (bin .mod)) := by
  intro pins s σ H x y v u Q I rx ry ⟨cA, W, σ0, w, a, b, sim, eH, ra, rb, q⟩
  subst eH
  unfold bin at q
  dsimp only at q
  split at q
  · split at q
    · rename_i hm
      cases ra.int_inv
      cases rb.int_inv
      exact op_mod pins s σ w.H _ _ v u Q I rx ry ⟨_, _, rfl, rfl, hm, q.ok sim (rInt _)⟩
    · exact q.elim
  · exact q.elim
theorem opr_pow : OpR X (binaryOp .Pow) (rBin X.K (bin .pow)) := by
  intro pins s σ H x y v u Q I rx ry ⟨cA, W, σ0, w, a, b, sim, eH, ra, rb, q⟩
  subst eH
  unfold bin at q
  dsimp only at q
  split at q
  · split at q
    · rename_i hm
      cases ra.int_inv
      cases rb.int_inv
      exact op_pow pins s σ w.H _ _ v u Q I rx ry ⟨_, _, rfl, rfl, hm, q.ok sim (rInt _)⟩
    · exact q.elim
  · exact q.elim

/-! ### comparisons -/
theorem opr_eqD {neg : Bool} {op : CmpOp} (ho : op = (if neg then .NotEq else .Eq)) (hu : X.A.units + 64 < cLine) : OpR X (compareOp op) (rBin X.K fun a b st => eqD neg st a b) := by
  intro pins s σ H x y v u Q I rx ry ⟨cA, W, σ0, w, a, b, sim, eH, ra, rb, q⟩
  subst eH
  dsimp only at q
  unfold eqD at q
  split at q
  · rename_i x' y'
    cases ra.str_inv
    cases rb.str_inv
    rw [strEq_iff] at q
    have e : decide (V.str x' = V.str y') = decide (x' = y') := by
      by_cases h : x' = y'
      · subst h; simp
      · rw [decide_eq_false h, decide_eq_false (fun z => h (V.str.inj z))]
    cases neg with
    | false =>
      subst ho
      refine op_eq pins s σ w.H _ _ v u Q I rx ry ⟨rfl, ?_⟩
      rw [e]
      simp only [Bool.false_xor] at q
      exact q.ok sim (rBl _)
    | true =>
      subst ho
      refine op_ne pins s σ w.H _ _ v u Q I rx ry ⟨rfl, ?_⟩
      rw [e]
      simp only [Bool.true_xor] at q
      exact q.ok sim (rBl _)
  · split at q
    · rename_i x' y' h1 h2
      split at q
      · rename_i hs
        rw [Bool.and_eq_true] at hs
        have d1 := viewD_dp sim 9 ra h1 (shaped_noDict hs.1)
        have d2 := viewD_dp sim 9 rb h2 (shaped_noDict hs.2)
        cases neg with
        | false =>
          subst ho
          refine op_eqD hu pins s σ w.H _ _ v u Q I rx ry ⟨_, _, d1, d2, hs.1, hs.2, ?_⟩
          simp only [Bool.false_xor] at q
          exact q.ok sim (rBl _)
        | true =>
          subst ho
          refine op_neD hu pins s σ w.H _ _ v u Q I rx ry ⟨_, _, d1, d2, hs.1, hs.2, ?_⟩
          simp only [Bool.true_xor] at q
          exact q.ok sim (rBl _)
      · exact q.elim
    · exact q.elim
theorem opr_eq (hu : X.A.units + 64 < cLine) : OpR X (compareOp .Eq) (rBin X.K (bin .eq)) := opr_eqD (neg := false) rfl hu
theorem opr_ne (hu : X.A.units + 64 < cLine) : OpR X (compareOp .NotEq) (rBin X.K (bin .ne)) := opr_eqD (neg := true) rfl hu

theorem ordOk_split {x y : PyData} (h : ordOk x y = true) : W.alike x y = true ∧ x ≠ .none ∧ shapedB x = true ∧ shapedB y = true := by
  unfold ordOk at h
  simp only [Bool.and_eq_true] at h
  refine ⟨h.1.1, ?_, h.2⟩
  rintro rfl
  exact absurd h.1.2 (by simp)
theorem shaped_depth {x : PyData} (h : shapedB x = true) : x.depth ≤ 64 := by
  have h' : (x.canLay0 && decide (x.depth ≤ 64)) = true := h
  rw [Bool.and_eq_true, decide_eq_true_eq] at h'
  exact h'.2
theorem opr_ord {op : CmpOp} {g : PyData → PyData → Bool} (hu : X.A.units + 64 < cLine)
    (rule : ∀ {s : Shared} {a b : Value} {da db : PyData} {as bs : List Addr} {Q : Value → Shared → Prop}, Reads s.heap a da as → Reads s.heap b db bs → W.alike da db = true → da ≠ .none → X.A.units + min da.depth db.depth < cLine → Q (.bool (g da db)) s →
      wpAny (model X.prog X.w) X.A (compareOp op a b) Q X.xe s) : OpR X (compareOp op) (rBin X.K fun a b st => ordD g st a b) := by
  intro pins s σ H x y v u Q I rx ry ⟨cA, W, σ0, w, a, b, sim, eH, ra, rb, q⟩
  subst eH
  dsimp only at q
  unfold ordD at q
  split at q
  · rename_i x' y' h1 h2
    split at q
    · rename_i hs
      obtain ⟨k1, k2, k3, k4⟩ := ordOk_split hs
      have d1 := viewD_dp sim 9 ra h1 (shaped_noDict k3)
      have d2 := viewD_dp sim 9 rb h2 (shaped_noDict k4)
      obtain ⟨as, r1⟩ := Dp.reads I _ _ _ d1 rx
      obtain ⟨bs, r2⟩ := Dp.reads I _ _ _ d2 ry
      have := shaped_depth k3
      exact rule r1 r2 k1 k2 (by have := Nat.min_le_left x'.depth y'.depth; omega) ⟨.bl _, _, I, rfl, q.ok sim (rBl _)⟩
    · exact q.elim
  · exact q.elim
theorem opr_ordS {op : CmpOp} {o : Op} {g : PyData → PyData → Bool} {gi : Int → Int → Bool} (hu : X.A.units + 64 < cLine)
    (hd : ∀ a b st, (∃ i j, a = .d (.int i) ∧ b = .d (.int j) ∧ bin o a b st = .ok (.d (.bool (gi i j))) st) ∨
      (∃ x y, a = .d (.str x) ∧ b = .d (.str y) ∧ bin o a b st = .ok (.d (.bool (g (.str x) (.str y)))) st) ∨ bin o a b st = ordD g st a b)
    (ri : OpR X (compareOp op) (rI0 fun i j => .bl (gi i j)))
    (rule : ∀ {s : Shared} {a b : Value} {da db : PyData} {as bs : List Addr} {Q : Value → Shared → Prop}, Reads s.heap a da as → Reads s.heap b db bs → W.alike da db = true → da ≠ .none → X.A.units + min da.depth db.depth < cLine → Q (.bool (g da db)) s →
      wpAny (model X.prog X.w) X.A (compareOp op a b) Q X.xe s) : OpR X (compareOp op) (rBin X.K (bin o)) := by
  intro pins s σ H x y v u Q I rx ry ⟨cA, W, σ0, w, a, b, sim, eH, ra, rb, q⟩
  subst eH
  rcases hd a b w.st with ⟨i, j, rfl, rfl, e⟩ | ⟨x', y', rfl, rfl, e⟩ | e
  · rw [e] at q
    cases ra.int_inv
    cases rb.int_inv
    exact ri pins s σ w.H _ _ v u Q I rx ry ⟨_, _, rfl, rfl, q.ok sim (rBl _)⟩
  · rw [e] at q
    cases ra.str_inv
    cases rb.str_inv
    obtain ⟨t, rfl⟩ := rx
    obtain ⟨t', rfl⟩ := ry
    exact rule (Reads.str _ t) (Reads.str _ t') rfl (by intro z; cases z) (by simp [PyData.depth]; omega) ⟨.bl _, _, I, rfl, q.ok sim (rBl _)⟩
  · rw [e] at q
    exact opr_ord hu rule pins s σ w.H x y v u Q I rx ry ⟨cA, W, σ0, w, a, b, sim, rfl, ra, rb, q⟩
theorem strLt_data (x y : Str) : W.dataLt (.str x) (.str y) = strLt x y := by rw [W.dataLt_str, strLt, ltL_iff]
theorem opr_lt (hu : X.A.units + 64 < cLine) : OpR X (compareOp .Lt) (rBin X.K (bin .lt)) :=
  opr_ordS (g := fun x y => W.dataLt x y) (gi := fun i j => decide (i < j)) hu (fun a b st => by
    simp only [bin, strLt_data]
    split <;> first | exact .inl ⟨_, _, rfl, rfl, rfl⟩ | exact .inr (.inl ⟨_, _, rfl, rfl, rfl⟩) | exact .inr (.inr rfl)) op_lt fun r1 r2 a n u q => W.lt_data r1 r2 a n u q
theorem opr_gt (hu : X.A.units + 64 < cLine) : OpR X (compareOp .Gt) (rBin X.K (bin .gt)) :=
  opr_ordS (g := fun x y => W.dataLt y x) (gi := fun i j => decide (j < i)) hu (fun a b st => by
    simp only [bin, strLt_data]
    split <;> first | exact .inl ⟨_, _, rfl, rfl, rfl⟩ | exact .inr (.inl ⟨_, _, rfl, rfl, rfl⟩) | exact .inr (.inr rfl)) op_gt fun r1 r2 a n u q => W.gt_data r1 r2 a n u q
theorem opr_le (hu : X.A.units + 64 < cLine) : OpR X (compareOp .LtE) (rBin X.K (bin .le)) :=
  opr_ordS (g := fun x y => !W.dataLt y x) (gi := fun i j => decide (i ≤ j)) hu (fun a b st => by
    simp only [bin, strLt_data]
    split <;> first | exact .inl ⟨_, _, rfl, rfl, rfl⟩ | exact .inr (.inl ⟨_, _, rfl, rfl, rfl⟩) | exact .inr (.inr rfl)) op_le fun r1 r2 a n u q => W.le_data r1 r2 a n u q
theorem opr_ge (hu : X.A.units + 64 < cLine) : OpR X (compareOp .GtE) (rBin X.K (bin .ge)) :=
  opr_ordS (g := fun x y => !W.dataLt x y) (gi := fun i j => decide (j ≤ i)) hu (fun a b st => by
    simp only [bin, strLt_data]
    split <;> first | exact .inl ⟨_, _, rfl, rfl, rfl⟩ | exact .inr (.inl ⟨_, _, rfl, rfl, rfl⟩) | exact .inr (.inr rfl)) op_ge fun r1 r2 a n u q => W.ge_data r1 r2 a n u q

/-! ### in -/
theorem preL_iff : ∀ x y : List Nat, preL x y = true ↔ y.take x.length = x
  | [], y => by simp [preL]
  | _ :: _, [] => by simp [preL]
  | a :: x, b :: y => by
    rw [preL, Bool.and_eq_true, preL_iff x y, beq_iff_eq, List.length_cons, List.take_succ_cons, List.cons.injEq]
    exact ⟨fun h => ⟨h.1.symm, h.2⟩, fun h => ⟨h.1.symm, h.2⟩⟩
theorem subL_iff (x : List Nat) : ∀ y : List Nat, subL x y = true ↔ ∃ i, i + x.length ≤ y.length ∧ (y.drop i).take x.length = x
  | [] => by
    rw [subL, preL_iff]
    constructor
    · intro h
      refine ⟨0, ?_, by simpa using h⟩
      have := congrArg List.length h
      simp at this
      simp [← this]
    · rintro ⟨i, h1, h2⟩
      simp at h2 ⊢
      exact h2
  | b :: y => by
    rw [subL, Bool.or_eq_true, preL_iff, subL_iff x y]
    constructor
    · rintro (h | ⟨i, h1, h2⟩)
      · refine ⟨0, ?_, by simpa using h⟩
        have := congrArg List.length h
        simp only [List.length_take] at this
        omega
      · exact ⟨i + 1, by simp only [List.length_cons]; omega, by simpa using h2⟩
    · rintro ⟨i, h1, h2⟩
      cases i with
      | zero => exact .inl (by simpa using h2)
      | succ i => exact .inr ⟨i, by simp only [List.length_cons] at h1; omega, by simpa using h2⟩
theorem found_subL (x y : Str) : (!(Builtin.Str.occurrences y x 0 y.length 1).isEmpty) = subL x.cps.toList y.cps.toList := by
  rw [Bool.eq_iff_iff, StrLaws.found_iff, subL_iff]
  have e : ∀ i, Builtin.Str.subAt y x i = ((y.cps.toList.drop i).take x.cps.toList.length == x.cps.toList) := fun i => by
    rw [StrLaws.subAt_eq]; rfl
  constructor
  · rintro ⟨i, h1, h2⟩
    refine ⟨i, by simpa [Str.length] using h1, ?_⟩
    rw [e, beq_iff_eq] at h2
    exact h2
  · rintro ⟨i, h1, h2⟩
    refine ⟨i, by simpa [Str.length] using h1, ?_⟩
    rw [e, beq_iff_eq]
    exact h2
theorem opr_inD {neg : Bool} {op : CmpOp} (ho : op = (if neg then .NotIn else .In)) (hu : X.A.units + 65 < cLine) : OpR X (compareOp op) (rBin X.K fun a b st => inD neg st a b) := by
  intro pins s σ H x y v u Q I rx ry ⟨cA, W, σ0, w, a, b, sim, eH, ra, rb, q⟩
  subst eH
  dsimp only at q
  unfold inD at q
  split at q
  · rename_i x' y' h1 h2
    split at q
    · rename_i z1 z2
      have d1 := viewD_dp sim 9 ra h1 rfl
      have d2 := viewD_dp sim 9 rb h2 rfl
      cases d1
      cases d2
      rw [← found_subL] at q
      cases neg with
      | false =>
        subst ho
        exact op_in_str pins s σ w.H _ _ v u Q I rx ry ⟨_, _, rfl, rfl, by simp only [Bool.false_xor] at q; exact q.ok sim (rBl _)⟩
      | true =>
        subst ho
        exact op_notIn_str pins s σ w.H _ _ v u Q I rx ry ⟨_, _, rfl, rfl, by simp only [Bool.true_xor] at q; exact q.ok sim (rBl _)⟩
    · rename_i xs _
      split at q
      · rename_i hs
        rw [Bool.and_eq_true] at hs
        have d1 := viewD_dp sim 9 ra h1 (shaped_noDict hs.1)
        have d2 := viewD_dp sim 9 rb h2 (shaped_noDict hs.2)
        cases neg with
        | false =>
          subst ho
          exact op_inD hu pins s σ w.H _ _ v u Q I rx ry ⟨_, _, d1, d2, hs.1, hs.2, by simp only [Bool.false_xor] at q; exact q.ok sim (rBl _)⟩
        | true =>
          subst ho
          exact op_notInD hu pins s σ w.H _ _ v u Q I rx ry ⟨_, _, d1, d2, hs.1, hs.2, by simp only [Bool.true_xor] at q; exact q.ok sim (rBl _)⟩
      · exact q.elim
    · rename_i xs
      split at q
      · rename_i hs
        rw [Bool.and_eq_true] at hs
        have d1 := viewD_dp sim 9 ra h1 (shaped_noDict hs.1)
        have d2 := viewD_dp sim 9 rb h2 (shaped_noDict hs.2)
        obtain ⟨as, r1⟩ := Dp.reads I _ _ _ d1 rx
        obtain ⟨bs, r2⟩ := Dp.reads I _ _ _ d2 ry
        have c1 := SeqAt.canLay_of_shaped hs.1
        have c2 : PyData.canLayAll0 xs = true := SeqAt.canLay_of_shaped hs.2
        have hd := shaped_depth hs.1
        have hroom : X.A.units + 1 + min (PyData.depthAll xs) x'.depth < cLine := by
          have := Nat.min_le_right (PyData.depthAll xs) x'.depth
          omega
        cases neg with
        | false =>
          subst ho
          exact SeqAt.in_tuple_reads r2 r1 c2 c1 hroom ⟨.bl _, w.H, I, rfl, by simp only [Bool.false_xor] at q; exact q.ok sim (rBl _)⟩
        | true =>
          subst ho
          exact SeqAt.notIn_tuple_reads r2 r1 c2 c1 hroom ⟨.bl _, w.H, I, rfl, by simp only [Bool.true_xor] at q; exact q.ok sim (rBl _)⟩
      · exact q.elim
    · exact q.elim
  · exact q.elim
theorem opr_in (hu : X.A.units + 65 < cLine) : OpR X (compareOp .In) (rBin X.K (bin .isin)) := opr_inD (neg := false) rfl hu
theorem opr_notin (hu : X.A.units + 65 < cLine) : OpR X (compareOp .NotIn) (rBin X.K (bin .notin)) := opr_inD (neg := true) rfl hu
end
end Ev

/-! Ev4: truth, tests, subscripts, slices, built-in functions. -/
namespace Ev
open PySem PySem.Spec PyProof.Rows L2

section
variable {X : Cx}
theorem isEmpty_len {xs : List V} {ts : List T} (h : xs.length = ts.length) : (!xs.isEmpty) = !ts.isEmpty := by
  cases xs <;> cases ts <;> simp at h <;> rfl
theorem truth_ok {K : PySem.W.Frag} {w : Wd} {t : T} {v : V} {b : Bool} (s : Sim K w) (r : w.R K v t) (h : truth w.st t = some b) : TruV K v w.H b := by
  have seq : ∀ {t : T} {xs : List T}, w.R K v t → seqOf w.st t = some xs → b = !xs.isEmpty → TruV K v w.H b := by
    intro t xs r h e
    obtain ⟨a, vs, rfl, h1, h2⟩ := seqOf_inv s r h
    rcases h1 with h1 | h1
    · exact .inl ⟨vs, h1, by rw [e, isEmpty_len h2.length]⟩
    · exact .inr (.inl ⟨vs, h1, by rw [e, isEmpty_len h2.length]⟩)
  unfold truth at h
  split at h
  · cases r.none_inv; cases h; rfl
  · cases r.bool_inv; cases h; rfl
  · cases r.int_inv; cases h; rfl
  · rename_i x
    cases r.str_inv
    split at h
    · rename_i hz
      cases h
      refine ⟨hz, ?_⟩
      obtain ⟨⟨l⟩⟩ := x
      cases l with
      | nil => rfl
      | cons a l =>
        have : (((⟨⟨a :: l⟩⟩ : Str).length : Int) != 0) = true := by
          simp only [Str.length, List.size_toArray, List.length_cons, bne_iff_ne, ne_eq]
          omega
        rw [this]; rfl
    · cases h
  · split at h
    · rename_i xs e
      cases h
      exact seq r e rfl
    · cases h
/-- truth, as a reading -/
def rTru (K : PySem.W.Frag) : V → Hp → (Bool → Hp → Prop) → Prop := fun x H Q => ∃ k, TruV K x H k ∧ Q k H
theorem truthM_ok {K : PySem.W.Frag} {cA : Nat → Addr} {W : WX} {σ : L2.St} {w : Wd} {t : T} {v : V} {Q : Bool → Hp → Prop} (s : Sim K w) (r : w.R K v t) (q : OkG K cA W RelB σ w (truthM t w.st) Q) : rTru K v w.H Q := by
  unfold truthM at q
  split at q
  · rename_i b e
    exact ⟨b, truth_ok s r e, q.ok s rfl⟩
  · exact q.elim

section
variable {cA : Nat → Addr} {W : WX} {e a b c : Expr} {f g h : Env → M T} {pos : Pos}
/-- any test whose truth is its value's -/
theorem rt_plain (ha : PE X e (rdE X.K cA W f)) (he : ∀ whole, isTrue e X.env whole = (do let v ← whole; standAt e.pos; holding [v] (truthy v))) :
    PT X e (rdT X.K cA W fun ρ st => (f ρ st).bind fun x st => truthM x st) := by
  refine PT_imp (pt_truth ha he) fun σ H Q q => ?_
  exact At.bind (Rel1 := RelT X.K) (g := fun ρ x st => truthM x st) q fun b a w1 ρ s1 ev1 r1 q1 => truthM_ok s1 r1 q1
theorem rt_not (ha : PT X a (rdT X.K cA W fun ρ st => (f ρ st).bind fun x st => truthM x st)) :
    PT X (.UnaryOp .Not a pos) (rdT X.K cA W fun ρ st => ((f ρ st).bind fun x st => notM x st).bind fun x st => truthM x st) := by
  refine PT_imp (pt_not ha) fun σ H Q ⟨m, ρ, st, s, ev, q⟩ => ⟨m, ρ, st, s, ev, ?_⟩
  dsimp only at q ⊢
  cases e1 : f ρ st with
  | bad => rw [e1] at q; exact q
  | exn x st1 => rw [e1] at q; exact q
  | ok x st1 =>
    rw [e1] at q
    simp only [R.bind_ok, notM] at q ⊢
    cases e2 : truthM x st1 with
    | bad => rw [e2] at q; exact q
    | exn x st1 => rw [e2] at q; exact q
    | ok b st2 =>
      rw [e2] at q
      simp only [R.bind_ok, truthM, truth_bool] at q
      rintro b' H' m' e3 s3 rfl
      exact q _ H' m' e3 s3 rfl
theorem re_not (ha : PE X a (rdE X.K cA W f)) : PE X (.UnaryOp .Not a pos) (rdE X.K cA W fun ρ st => (f ρ st).bind fun x st => notM x st) := by
  refine ⟨fun pins s σ H Q I q => ?_⟩
  refine UnaryOp_ (thn (ha.run pins s σ H _ I (At.bind (f := f) (Rel1 := RelT X.K) (Q1 := fun v H1 => rTru X.K v H1 fun b H2 => Q (.bl (!b)) H2) (g := fun ρ x st => (truthM x st).bind fun b st => R.ok (T.d (PyData.bool (!b))) st) q fun b a w1 ρ s1 ev1 r1 q1 => ?_)) fun v s1 ⟨x, H1, I1, r1, q1⟩ => ?_)
  · exact truthM_ok s1 r1 (OkG.bind (Rel1 := RelB) q1 fun b a w2 e2 s2 r2 q2 => by subst r2; exact q2.ok s2 (rBl _))
  · exact not_of (thn (tru_ok pins s1 σ H1 x v _ I1 r1 q1) fun b s2 ⟨H2, I2, q2⟩ => ⟨.bl (!b), H2, I2, rfl, q2⟩)
/-- a if c else b -/
theorem re_ite (hc : PT X c (rdT X.K cA W fun ρ st => (f ρ st).bind fun x st => truthM x st)) (ha : PE X a (rdE X.K cA W g)) (hb : PE X b (rdE X.K cA W h)) :
    PE X (.IfExp c a b pos) (rdE X.K cA W fun ρ st => (f ρ st).bind fun x st => (truthM x st).bind fun t st => if t then g ρ st else h ρ st) := by
  refine PE_imp (pe_ifExp hc ha hb) fun σ H Q q => ?_
  have q' : At X.K σ H fun w ρ => OkG X.K cA W (RelT X.K) σ w (((f ρ w.st).bind fun x st => truthM x st).bind fun t st => if t then g ρ st else h ρ st) Q := by
    obtain ⟨m, ρ, st, s, ev, q⟩ := q
    refine ⟨m, ρ, st, s, ev, ?_⟩
    dsimp only at q ⊢
    cases e1 : f ρ st <;> (rw [e1] at q; exact q)
  refine At.bind (f := fun ρ st => (f ρ st).bind fun x st => truthM x st) (Rel1 := RelB) (g := fun ρ t st => if t then g ρ st else h ρ st) q' fun b a w1 ρ s1 ev1 r1 q1 => ?_
  subst r1
  cases b with
  | true => exact (show rdE X.K cA W g σ w1.H Q from At.mk s1 ev1 q1)
  | false => exact (show rdE X.K cA W h σ w1.H Q from At.mk s1 ev1 q1)
theorem re_and {r : List Expr} (ha : PE X a (rdE X.K cA W f)) (hb : PE X (.BoolOp .And (b :: r) pos) (rdE X.K cA W g)) :
    PE X (.BoolOp .And (a :: b :: r) pos) (rdE X.K cA W fun ρ st => (f ρ st).bind fun x st => andM x (g ρ) st) := by
  refine PE_imp (pe_and ha hb) fun σ H Q q => ?_
  refine At.bind (Rel1 := RelT X.K) (g := fun ρ x st => andM x (g ρ) st) q fun b a w1 ρ s1 ev1 r1 q1 => ?_
  unfold andM at q1
  split at q1
  · cases r1.bool_inv; exact ⟨true, rfl, (show rdE X.K cA W g σ w1.H Q from At.mk s1 ev1 q1)⟩
  · cases r1.bool_inv; exact ⟨false, rfl, q1.ok s1 (rBl _)⟩
  · exact q1.elim
theorem re_or {r : List Expr} (ha : PE X a (rdE X.K cA W f)) (hb : PE X (.BoolOp .Or (b :: r) pos) (rdE X.K cA W g)) :
    PE X (.BoolOp .Or (a :: b :: r) pos) (rdE X.K cA W fun ρ st => (f ρ st).bind fun x st => orM x (g ρ) st) := by
  refine PE_imp (pe_or ha hb) fun σ H Q q => ?_
  refine At.bind (Rel1 := RelT X.K) (g := fun ρ x st => orM x (g ρ) st) q fun b a w1 ρ s1 ev1 r1 q1 => ?_
  unfold orM at q1
  split at q1
  · cases r1.bool_inv; exact ⟨false, rfl, (show rdE X.K cA W g σ w1.H Q from At.mk s1 ev1 q1)⟩
  · cases r1.bool_inv; exact ⟨true, rfl, q1.ok s1 (rBl _)⟩
  · exact q1.elim
theorem rt_and {r : List Expr} (ha : PT X a (rdT X.K cA W fun ρ st => (f ρ st).bind fun x st => truthM x st)) (hb : PW X (.BoolOp .And (b :: r) pos) (rdT X.K cA W fun ρ st => (g ρ st).bind fun x st => truthM x st)) :
    PW X (.BoolOp .And (a :: b :: r) pos) (rdT X.K cA W fun ρ st => ((f ρ st).bind fun x st => andM x (g ρ) st).bind fun x st => truthM x st) := by
  refine PW_imp (pw_and ha hb) fun σ H Q ⟨m, ρ, st, s, ev, q⟩ => ⟨m, ρ, st, s, ev, ?_⟩
  dsimp only at q ⊢
  cases e1 : f ρ st with
  | bad => rw [e1] at q; exact q
  | exn x st1 => rw [e1] at q; exact q
  | ok x st1 =>
    rw [e1] at q
    simp only [R.bind_ok] at q ⊢
    unfold andM at q
    split at q
    · simp only [truthM, truth_bool]
      rintro b' H' m' e3 s3 rfl
      rw [if_pos rfl]
      exact ⟨m', ρ, st1, s3, ev.ext e3, OkG.ext e3 q⟩
    · simp only [truthM, truth_bool]
      rintro b' H' m' e3 s3 rfl
      rw [if_neg (by decide)]
      simp only [R.bind_ok, truthM, truth_bool] at q
      exact q _ H' m' e3 s3 rfl
    · exact q.elim
theorem rt_or {r : List Expr} (ha : PT X a (rdT X.K cA W fun ρ st => (f ρ st).bind fun x st => truthM x st)) (hb : PW X (.BoolOp .Or (b :: r) pos) (rdT X.K cA W fun ρ st => (g ρ st).bind fun x st => truthM x st)) :
    PW X (.BoolOp .Or (a :: b :: r) pos) (rdT X.K cA W fun ρ st => ((f ρ st).bind fun x st => orM x (g ρ) st).bind fun x st => truthM x st) := by
  refine PW_imp (pw_or ha hb) fun σ H Q ⟨m, ρ, st, s, ev, q⟩ => ⟨m, ρ, st, s, ev, ?_⟩
  dsimp only at q ⊢
  cases e1 : f ρ st with
  | bad => rw [e1] at q; exact q
  | exn x st1 => rw [e1] at q; exact q
  | ok x st1 =>
    rw [e1] at q
    simp only [R.bind_ok] at q ⊢
    unfold orM at q
    split at q
    · simp only [truthM, truth_bool]
      rintro b' H' m' e3 s3 rfl
      rw [if_neg (by decide)]
      exact ⟨m', ρ, st1, s3, ev.ext e3, OkG.ext e3 q⟩
    · simp only [truthM, truth_bool]
      rintro b' H' m' e3 s3 rfl
      rw [if_pos rfl]
      simp only [R.bind_ok, truthM, truth_bool] at q
      exact q _ H' m' e3 s3 rfl
    · exact q.elim
/-- a test that is a comparison -/
theorem rt_cmp {op : CmpOp} {o : Op} (ho : OpR X (compareOp op) (rBin X.K (bin o))) (hb1 : ∀ x y st r st', bin o x y st = .ok r st' → ∃ k, r = .d (.bool k))
    (ha : PE X a (rdE X.K cA W f)) (hb : PE X b (rdE X.K cA W g)) (hm : behindInMarks op b = false) :
    PT X (.Compare a [op] [b] pos) (rdT X.K cA W fun ρ st => ((f ρ st).bind fun x st => (g ρ st).bind fun y st => bin o x y st).bind fun x st => truthM x st) := by
  refine PT_imp (pt_cmpR ho ha hb hm) fun σ H Q ⟨m, ρ, st, s, ev, q⟩ => ?_
  have q' : At X.K σ H fun w ρ => OkG X.K cA W RelB σ w ((f ρ w.st).bind fun x st => (g ρ st).bind fun y st => (bin o x y st).bind fun x st => truthM x st) Q := by
    refine ⟨m, ρ, st, s, ev, ?_⟩
    dsimp only at q ⊢
    cases e1 : f ρ st with
    | bad => rw [e1] at q; exact q
    | exn x st1 => rw [e1] at q; exact q
    | ok x st1 =>
      rw [e1] at q
      simp only [R.bind_ok] at q ⊢
      cases e2 : g ρ st1 <;> (rw [e2] at q; exact q)
  refine At.bind (Rel1 := RelT X.K) (g := fun ρ x st => (g ρ st).bind fun y st => (bin o x y st).bind fun x st => truthM x st) q' fun b a w1 ρ s1 ev1 r1 q1 => ?_
  refine At.mk s1 ev1 (OkG.bind (Rel1 := RelT X.K) q1 fun b2 a2 w2 e2 s2 r2 q2 => ?_)
  refine ⟨cA, W, σ, w2, a, a2, s2, rfl, e2.t r1, r2, ?_⟩
  cases e3 : bin o a a2 w2.st with
  | bad => rw [e3] at q2; exact q2
  | exn x st1 => rw [e3] at q2; exact q2
  | ok x st1 =>
    rw [e3] at q2
    obtain ⟨k, rfl⟩ := hb1 _ _ _ _ _ e3
    simp only [R.bind_ok, truthM, truth_bool] at q2
    intro v H' m' e4 s4 r4
    exact ⟨k, r4.bool_inv, q2 _ H' m' e4 s4 rfl⟩
theorem isN_dec {K : PySem.W.Frag} {w : Wd} {v : V} {x : T} (r : w.R K v x) : isNone x = decide (v = .non) := by
  cases r with
  | d r => cases r <;> rfl
  | ref h => rfl
  | tup _ _ => rfl
  | lst _ _ => rfl
  | scr _ => rfl
theorem re_isN {neg : Bool} {op : CmpOp} {j : Nat} {p : Pos} (ho : op = (if neg then .IsNot else .Is)) (ha : PE X a (rdE X.K cA W f)) :
    PE X (.Compare a [op] [.Constant .none j p] pos) (rdE X.K cA W fun ρ st => (f ρ st).bind fun x st => .ok (isNT neg x) st) := by
  cases neg with
  | false =>
    subst ho
    refine PE_imp (pe_cmp (pc_isN ha)) fun σ H Q q => ?_
    refine At.bind (Rel1 := RelT X.K) (g := fun ρ x st => .ok (isNT false x) st) q fun b a w1 ρ s1 ev1 r1 q1 => ?_
    have e : isNT false a = .d (.bool (decide (b = .non))) := by unfold isNT; rw [isN_dec r1, Bool.false_xor]
    rw [e] at q1
    exact q1.ok s1 (rBl _)
  | true =>
    subst ho
    refine PE_imp (pe_cmp (pc_notN ha)) fun σ H Q q => ?_
    refine At.bind (Rel1 := RelT X.K) (g := fun ρ x st => .ok (isNT true x) st) q fun b a w1 ρ s1 ev1 r1 q1 => ?_
    have e : isNT true a = .d (.bool (!decide (b = .non))) := by unfold isNT; rw [isN_dec r1, Bool.true_xor]
    rw [e] at q1
    exact q1.ok s1 (rBl _)
theorem rt_isN {neg : Bool} {op : CmpOp} {j : Nat} {p : Pos} (ho : op = (if neg then .IsNot else .Is)) (ha : PE X a (rdE X.K cA W f)) :
    PT X (.Compare a [op] [.Constant .none j p] pos) (rdT X.K cA W fun ρ st => ((f ρ st).bind fun x st => .ok (isNT neg x) st).bind fun x st => truthM x st) := by
  have key : ∀ {σ H} {Q : Bool → Hp → Prop}, rdT X.K cA W (fun ρ st => ((f ρ st).bind fun x st => .ok (isNT neg x) st).bind fun x st => truthM x st) σ H Q →
      rdE X.K cA W f σ H fun v H1 => Q (xor neg (decide (v = .non))) H1 := by
    intro σ H Q ⟨m, ρ, st, s, ev, q⟩
    have q' : At X.K σ H fun w ρ => OkG X.K cA W RelB σ w ((f ρ w.st).bind fun x st => truthM (isNT neg x) st) Q := by
      refine ⟨m, ρ, st, s, ev, ?_⟩
      dsimp only at q ⊢
      cases e1 : f ρ st <;> (rw [e1] at q; exact q)
    refine At.bind (Rel1 := RelT X.K) (g := fun ρ x st => truthM (isNT neg x) st) q' fun b a w1 ρ s1 ev1 r1 q1 => ?_
    have e : isNT neg a = .d (.bool (xor neg (decide (b = .non)))) := by unfold isNT; rw [isN_dec r1]
    rw [e] at q1
    simp only [truthM, truth_bool] at q1
    exact q1.ok s1 rfl
  cases neg with
  | false =>
    subst ho
    refine PT_imp (pt_cmp (pc_isN ha)) fun σ H Q q => ?_
    obtain ⟨m, ρ, st, s, ev, q⟩ := key q
    exact ⟨m, ρ, st, s, ev, q.mono fun b H' z => ⟨_, rfl, by simpa using z⟩⟩
  | true =>
    subst ho
    refine PT_imp (pt_cmp (pc_notN ha)) fun σ H Q q => ?_
    obtain ⟨m, ρ, st, s, ev, q⟩ := key q
    exact ⟨m, ρ, st, s, ev, q.mono fun b H' z => ⟨_, rfl, by simpa using z⟩⟩
theorem re_chain {op op' : CmpOp} {o o' : Op} (ho : OpR X (compareOp op) (rBin X.K (bin o))) (ho' : OpR X (compareOp op') (rBin X.K (bin o')))
    (ha : PE X a (rdE X.K cA W f)) (hb : PE X b (rdE X.K cA W g)) (hc : PE X c (rdE X.K cA W h)) (hm : lastMarks [op, op'] [b, c] = false) :
    PE X (.Compare a [op, op'] [b, c] pos) (rdE X.K cA W fun ρ st => (f ρ st).bind fun x st => (g ρ st).bind fun y st => (bin o x y st).bind fun t st => chM o' y (h ρ) t st) := by
  refine PE_imp (pe_chain ho ho' ha hb hc hm) fun σ H Q q => ?_
  refine At.bind (Rel1 := RelT X.K) (g := fun ρ x st => (g ρ st).bind fun y st => (bin o x y st).bind fun t st => chM o' y (h ρ) t st) q fun b a w1 ρ s1 ev1 r1 q1 => ?_
  refine At.mk s1 ev1 (OkG.bind (Rel1 := RelT X.K) q1 fun b2 a2 w2 e2 s2 r2 q2 => ?_)
  have ev2 := ev1.ext e2
  refine ⟨cA, W, σ, w2, a, a2, s2, rfl, e2.t r1, r2, OkG.bind (Rel1 := RelT X.K) q2 fun b3 a3 w3 e3 s3 r3 q3 => ?_⟩
  unfold chM at q3
  split at q3
  · cases r3.bool_inv
    refine ⟨true, rfl, ?_⟩
    rw [if_pos rfl]
    refine At.mk s3 (ev2.ext e3) (OkG.bind (Rel1 := RelT X.K) q3 fun b4 a4 w4 e4 s4 r4 q4 => ?_)
    exact ⟨cA, W, σ, w4, a2, a4, s4, rfl, (e3.trans e4).t r2, r4, q4⟩
  · cases r3.bool_inv
    refine ⟨false, rfl, ?_⟩
    rw [if_neg (by decide)]
    exact q3.ok s3 (rBl _)
  · exact q3.elim
theorem rt_chain {op op' : CmpOp} {o o' : Op} (ho : OpR X (compareOp op) (rBin X.K (bin o))) (ho' : OpR X (compareOp op') (rBin X.K (bin o'))) (hb1 : ∀ x y st r st', bin o' x y st = .ok r st' → ∃ k, r = .d (.bool k))
    (ha : PE X a (rdE X.K cA W f)) (hb : PE X b (rdE X.K cA W g)) (hc : PE X c (rdE X.K cA W h)) (hm : lastMarks [op, op'] [b, c] = false) :
    PT X (.Compare a [op, op'] [b, c] pos) (rdT X.K cA W fun ρ st => ((f ρ st).bind fun x st => (g ρ st).bind fun y st => (bin o x y st).bind fun t st => chM o' y (h ρ) t st).bind fun x st => truthM x st) := by
  refine PT_imp (pt_chain ho ho' ha hb hc hm) fun σ H Q ⟨m, ρ, st, s, ev, q⟩ => ?_
  have q' : At X.K σ H fun w ρ => OkG X.K cA W RelB σ w ((f ρ w.st).bind fun x st => (g ρ st).bind fun y st => (bin o x y st).bind fun t st => (chM o' y (h ρ) t st).bind fun x st => truthM x st) Q := by
    refine ⟨m, ρ, st, s, ev, ?_⟩
    dsimp only at q ⊢
    cases e1 : f ρ st with
    | bad => rw [e1] at q; exact q
    | exn x st1 => rw [e1] at q; exact q
    | ok x st1 =>
      rw [e1] at q
      simp only [R.bind_ok] at q ⊢
      cases e2 : g ρ st1 with
      | bad => rw [e2] at q; exact q
      | exn x st1 => rw [e2] at q; exact q
      | ok y st2 =>
        rw [e2] at q
        simp only [R.bind_ok] at q ⊢
        cases e3 : bin o x y st2 <;> (rw [e3] at q; exact q)
  refine At.bind (Rel1 := RelT X.K) (g := fun ρ x st => (g ρ st).bind fun y st => (bin o x y st).bind fun t st => (chM o' y (h ρ) t st).bind fun x st => truthM x st) q' fun b a w1 ρ s1 ev1 r1 q1 => ?_
  refine At.mk s1 ev1 (OkG.bind (Rel1 := RelT X.K) q1 fun b2 a2 w2 e2 s2 r2 q2 => ?_)
  have ev2 := ev1.ext e2
  refine ⟨cA, W, σ, w2, a, a2, s2, rfl, e2.t r1, r2, OkG.bind (Rel1 := RelT X.K) q2 fun b3 a3 w3 e3 s3 r3 q3 => ?_⟩
  unfold chM at q3
  split at q3
  · cases r3.bool_inv
    refine ⟨true, rfl, ?_⟩
    rw [if_pos rfl]
    have q3' : OkG X.K cA W RelB σ w3 ((h ρ w3.st).bind fun z st => (bin o' a2 z st).bind fun x st => truthM x st) Q := by
      cases e1 : h ρ w3.st <;> (rw [e1] at q3; exact q3)
    refine At.mk s3 (ev2.ext e3) (OkG.bind (Rel1 := RelT X.K) q3' fun b4 a4 w4 e4 s4 r4 q4 => ?_)
    refine ⟨cA, W, σ, w4, a2, a4, s4, rfl, (e3.trans e4).t r2, r4, ?_⟩
    cases e5 : bin o' a2 a4 w4.st with
    | bad => rw [e5] at q4; exact q4
    | exn x st1 => rw [e5] at q4; exact q4
    | ok x st1 =>
      rw [e5] at q4
      obtain ⟨k, rfl⟩ := hb1 _ _ _ _ _ e5
      simp only [R.bind_ok, truthM, truth_bool] at q4
      intro v H' m' e6 s6 r6
      exact ⟨k, r6.bool_inv, q4 _ H' m' e6 s6 rfl⟩
  · cases r3.bool_inv
    refine ⟨false, rfl, ?_⟩
    rw [if_neg (by decide)]
    simp only [R.bind_ok, truthM, truth_bool] at q3
    exact ⟨false, rfl, q3.ok s3 rfl⟩
  · exact q3.elim
end
end

theorem bin_bool {o : Op} (ho : o ≠ .add ∧ o ≠ .sub ∧ o ≠ .mul ∧ o ≠ .fdiv ∧ o ≠ .mod ∧ o ≠ .pow) : ∀ x y st r st', bin o x y st = .ok r st' → ∃ k, r = .d (.bool k) := by
  intro x y st r st' h
  obtain ⟨h1, h2, h3, h4, h5, h6⟩ := ho
  have eqd : ∀ neg, eqD neg st x y = .ok r st' → ∃ k, r = .d (.bool k) := by
    intro neg h
    unfold eqD at h
    split at h
    · cases h; exact ⟨_, rfl⟩
    · split at h
      · split at h
        · cases h; exact ⟨_, rfl⟩
        · cases h
      · cases h
  have ord : ∀ g, ordD g st x y = .ok r st' → ∃ k, r = .d (.bool k) := by
    intro g h
    unfold ordD at h
    split at h
    · split at h
      · cases h; exact ⟨_, rfl⟩
      · cases h
    · cases h
  have ind : ∀ neg, inD neg st x y = .ok r st' → ∃ k, r = .d (.bool k) := by
    intro neg h
    unfold inD at h
    split at h
    · split at h
      · cases h; exact ⟨_, rfl⟩
      · split at h
        · cases h; exact ⟨_, rfl⟩
        · cases h
      · split at h
        · cases h; exact ⟨_, rfl⟩
        · cases h
      · cases h
    · cases h
  cases o with
  | add => exact absurd rfl h1
  | sub => exact absurd rfl h2
  | mul => exact absurd rfl h3
  | fdiv => exact absurd rfl h4
  | mod => exact absurd rfl h5
  | pow => exact absurd rfl h6
  | eq => exact eqd _ h
  | ne => exact eqd _ h
  | isin => exact ind _ h
  | notin => exact ind _ h
  | lt =>
    unfold bin at h
    dsimp only at h
    split at h
    · cases h; exact ⟨_, rfl⟩
    · cases h; exact ⟨_, rfl⟩
    · exact ord _ h
  | le =>
    unfold bin at h
    dsimp only at h
    split at h
    · cases h; exact ⟨_, rfl⟩
    · cases h; exact ⟨_, rfl⟩
    · exact ord _ h
  | gt =>
    unfold bin at h
    dsimp only at h
    split at h
    · cases h; exact ⟨_, rfl⟩
    · cases h; exact ⟨_, rfl⟩
    · exact ord _ h
  | ge =>
    unfold bin at h
    dsimp only at h
    split at h
    · cases h; exact ⟨_, rfl⟩
    · cases h; exact ⟨_, rfl⟩
    · exact ord _ h
end Ev

/-! Ev5: subscripts, slices, displays, list makers, built-in functions. -/
namespace Ev
open PySem PySem.Spec PyProof.Rows L2

section
variable {X : Cx}
/-! ### subscripts -/
theorem ixN_same (n : Nat) (i : Int) : Ev.ixN n i = L2.ixN n i := rfl
theorem atI_same {α : Type} {xs : List α} {i : Int} {v : α} (h : Ev.atI xs i = some v) : L2.atI xs i = some v := by
  unfold Ev.atI at h
  unfold L2.atI
  rw [← ixN_same]
  cases e : Ev.ixN xs.length i with
  | none => rw [e] at h; cases h
  | some j => rw [e] at h; exact h
theorem atI_rel {K : PySem.W.Frag} {lv : Addr → Prop} {m : List Addr} {H : Hp} {vs : List V} {ts : List T} {i : Int} {t : T} (r : RTs K lv m H vs ts) (h : Ev.atI ts i = some t) : ∃ v, L2.atI vs i = some v ∧ RT K lv m H v t := by
  unfold Ev.atI at h
  cases e : Ev.ixN ts.length i with
  | none => rw [e] at h; cases h
  | some j =>
    rw [e] at h
    obtain ⟨v, h1, h2⟩ := r.get h
    refine ⟨v, ?_, h2⟩
    unfold L2.atI
    rw [← ixN_same, r.length, e]
    exact h1
theorem dGet_rel {K : PySem.W.Frag} {w : Wd} : ∀ {ks : List (Key × V)} {kvs : List (Ky × T)} {k : Ky}, KvR K w ks kvs → (∀ t, dGet k kvs = some t → ∃ v, valV ks k = some v ∧ w.R K v t) ∧ (dGet k kvs = none → valV ks k = none) := by
  intro ks kvs k h
  unfold KvR at h
  induction h with
  | nil => exact ⟨fun t e => (nomatch (show (none : Option T) = some t from e)), fun _ => rfl⟩
  | @cons p q ps qs h t ih =>
    obtain ⟨k1, v⟩ := p
    obtain ⟨k2, u⟩ := q
    obtain ⟨h1, h2⟩ := h
    have h1 : k1 = k2 := h1
    subst h1
    unfold dGet
    rw [kyEq_iff]
    by_cases e : k1 = k
    · subst e
      rw [if_pos (by simp)]
      refine ⟨fun t z => ?_, fun z => by cases z⟩
      cases z
      exact ⟨v, by simp [valV], h2⟩
    · rw [if_neg (by simp [e])]
      have : valV ((k1, v) :: ps) k = valV ps k := by
        unfold valV
        rw [List.find?_cons_of_neg (by simp [e])]
      rw [this]
      exact ih
theorem toKy_inv {K : PySem.W.Frag} {w : Wd} {v : V} {t : T} {k : Ky} (r : w.R K v t) (h : toKy t = some k) : v = kV k := by
  unfold toKy at h
  split at h
  · cases h; exact r.int_inv
  · cases h; exact r.str_inv
  · cases h
theorem toKvs_rel {K : PySem.W.Frag} {w : Wd} {lv : Addr → Prop} {H : Hp} (e1 : lv = w.lv) (e2 : H = w.H) : ∀ {ks : List (Key × V)} {ds : List (PyData × PyData)} {kvs : List (Ky × T)}, RDk K lv H ks ds → toKvs ds = some kvs → KvR K w ks kvs
  | _, _, kvs, .nil, h => by
    simp only [toKvs, Option.some.injEq] at h
    subst h
    exact .nil
  | _, _, kvs, .cons (k := k) (ds := ds) r rs, h => by
    subst e1 e2
    simp only [toKvs] at h
    cases e : toKvs ds with
    | none =>
      rw [e] at h
      cases k <;> simp [kyD] at h
    | some qs =>
      rw [e] at h
      cases k with
      | inl i =>
        simp only [kyD, toKy_int, Option.some.injEq] at h
        subst h
        exact .cons ⟨rfl, .d r⟩ (toKvs_rel rfl rfl rs e)
      | inr i =>
        simp only [kyD, toKy_str, Option.some.injEq] at h
        subst h
        exact .cons ⟨rfl, .d r⟩ (toKvs_rel rfl rfl rs e)
theorem dctOf_inv {K : PySem.W.Frag} {w : Wd} (s : Sim K w) {v : V} {t : T} {kvs : List (Ky × T)} (r : w.R K v t) (h : dctOf w.st t = some kvs) : ∃ a ks, v = .ref a ∧ w.H a = some (.dK ks) ∧ KvR K w ks kvs := by
  cases t with
  | d x =>
    cases r with
    | d r =>
      cases x with
      | dict ds =>
        cases r with
        | dct h1 h2 h3 => exact ⟨_, _, rfl, h1, toKvs_rel rfl rfl h3 h⟩
      | _ => cases h
  | ref n =>
    cases r with
    | ref hm =>
      simp only [dctOf] at h
      split at h
      · rename_i ys e
        cases h
        obtain ⟨vs, h1, h2⟩ := s.obj n _ _ hm e
        exact ⟨_, vs, rfl, h1, h2⟩
      · cases h
  | tup ts => cases h
  | lst ts => cases h
  | scr ts => cases h
theorem ixr_idx (hu : X.A.units + 1 < cLine) : IxR X (rBin X.K idx) := by
  intro value slice pins s σ H x y v u Q I rx ry ⟨cA, W, σ0, w, a, b, sim, eH, ra, rb, q⟩ hs
  subst eH
  unfold idx at q
  split at q
  · rename_i z k
    split at q
    · rename_i c e
      split at q
      · rename_i hz
        cases ra.str_inv
        cases rb.int_inv
        exact ix_str value slice pins s σ w.H _ _ v u Q I rx ry ⟨_, _, _, rfl, rfl, hz, atI_same e, q.ok sim (rStr _)⟩ hs
      · exact q.elim
    · exact q.elim
  · split at q
    · rename_i kvs k e1 e2
      split at q
      · rename_i t e3
        obtain ⟨p, ks, rfl, h1, h2⟩ := dctOf_inv sim ra e1
        cases toKy_inv rb e2
        obtain ⟨v0, h3, h4⟩ := (dGet_rel (k := k) h2).1 t e3
        cases (show v = Value.ref p from rx)
        have g : DGet w.H p (kV k) (some v0) := by rw [← h3]; exact DGet.k h1
        exact tail_any (dict_typeIs I g) PySem.F.slot_dict_getitem.lookup (d_getItem hu I g ry fun w' s3 I3 rw' => ⟨v0, w.H, I3, rw', q.ok sim h4⟩) hs
      · exact q.elim
    · cases e1 : seqOf w.st a with
      | none => rw [e1] at q; exact q.elim
      | some xs =>
        rw [e1] at q
        split at q
        · rename_i xs2 k he n1 n2
          cases he
          split at q
          · rename_i t e3
            obtain ⟨p, vs, rfl, h1, h2⟩ := seqOf_inv sim ra e1
            cases rb.int_inv
            obtain ⟨v0, h3, h4⟩ := atI_rel h2 e3
            rcases h1 with h1 | h1
            · exact ix_list value slice pins s σ w.H _ _ v u Q I rx ry ⟨_, _, _, _, rfl, rfl, h1, h3, q.ok sim h4⟩ hs
            · exact ix_tup value slice pins s σ w.H _ _ v u Q I rx ry ⟨_, _, _, _, rfl, rfl, h1, h3, q.ok sim h4⟩ hs
          · exact q.elim
        · exact q.elim

/-! ### slices -/
theorem sIx_same (n d : Nat) (o : Option Int) : Ev.sIx n d o = HT.sIx n d o := by cases o <;> rfl
theorem cutL_rel {K : PySem.W.Frag} {lv : Addr → Prop} {m : List Addr} {H : Hp} {vs : List V} {ts : List T} (lo hi : Option Int) (r : RTs K lv m H vs ts) : RTs K lv m H (cutV vs lo hi) (cutL ts lo hi) := by
  unfold cutV cutL
  rw [← sIx_same, ← sIx_same, r.length]
  exact (r.drop _).take _
theorem cutV_map (ns : List Int) (lo hi : Option Int) : cutV (ns.map V.int) lo hi = (cutL ns lo hi).map V.int := by
  unfold cutV cutL
  rw [← sIx_same, ← sIx_same, List.length_map, List.map_take, List.map_drop]
theorem rts_ints {K : PySem.W.Frag} {lv : Addr → Prop} {m : List Addr} {H : Hp} : ∀ ns : List Int, RTs K lv m H (ns.map V.int) ((ns.map PyData.int).map T.d)
  | [] => .nil
  | n :: ns => .cons (.d (.int n)) (rts_ints ns)
def rSlc (K : PySem.W.Frag) : V → Option Int → Option Int → Hp → VK → Prop := fun x lo hi H Q => ∃ (cA : Nat → Addr) (W : WX) (σ : L2.St) (w : Wd) (a : T), Sim K w ∧ w.H = H ∧ w.R K x a ∧ OkG K cA W (RelT K) σ w (Ev.slc a lo hi w.st) Q
theorem slr_slc : SlR X (rSlc X.K) := by
  intro pins s σ H x v vl vu lo hi sl Q I rx hs pl pu ⟨cA, W, σ0, w, a, sim, eH, ra, q⟩
  subst eH
  unfold Ev.slc at q
  split at q
  · rename_i z
    split at q
    · rename_i hz
      cases ra.str_inv
      have e : cutS z lo hi = ⟨(cutL z.cps.toList lo hi).toArray⟩ := by
        unfold cutS cutL
        rw [sIx_same, sIx_same]
        simp [Str.length]
      exact sl_str pins s σ w.H _ v vl vu lo hi sl Q I rx hs pl pu ⟨z, rfl, hz, by rw [e]; exact q.ok sim (rStr _)⟩
    · exact q.elim
  · rename_i ns
    cases ra with
    | scr h0 =>
      have hq : SqL X.K w.H _ (ns.map V.int) := h0.imp (fun h => h.1) id
      refine sl_list pins s σ w.H _ v vl vu lo hi sl Q I rx hs pl pu ⟨_, _, rfl, hq, ?_⟩
      rw [cutV_map]
      have q' : OkG X.K cA W (RelT X.K) σ0 w (.ok (mkLst (((cutL ns lo hi).map PyData.int).map T.d)) w.st) Q := by rw [mkLst_map]; exact q
      exact new_lst sim (rts_ints _) q'
  · split at q
    · rename_i xs e3
      obtain ⟨p, vs, rfl, h1, h2⟩ := tupOf_inv ra e3
      refine sl_tupA pins s σ w.H _ v vl vu lo hi sl Q I rx hs pl pu ⟨p, vs, rfl, h1.seq, fun hw => ?_, fun _ => new_tup sim (cutL_rel lo hi h2) q⟩
      have e4 : cutL xs lo hi = xs := by
        rw [h2.length] at hw
        unfold cutL
        rw [sIx_same, sIx_same, hw.1, hw.2]
        simp
      rw [e4] at q
      exact q.ok sim (mkTup_ok h1 h2)
    · split at q
      · rename_i xs e3
        obtain ⟨p, vs, rfl, h1, h2⟩ := lstOf_inv sim ra e3
        exact sl_list pins s σ w.H _ v vl vu lo hi sl Q I rx hs pl pu ⟨p, vs, rfl, .inl h1, new_lst sim (cutL_rel lo hi h2) q⟩
      · exact q.elim
section
variable {cA : Nat → Addr} {W : WX} {e : Expr} {f : Env → M T} {g h : Env → M (Option Int)} {pos p2 : Pos} {lo hi : Option Expr}
abbrev RelO' : Wd → Option Int → Option Int → Prop := fun _ a b => a = b
def rdP (K : PySem.W.Frag) (cA : Nat → Addr) (W : WX) (f : Env → M (Option Int)) : TO := fun σ H Q => At K σ H fun w ρ => OkG K cA W RelO' σ w (f ρ w.st) Q
theorem PO_imp {X : Cx} {e : Option Expr} {t t' : TO} (h : PO X e t) (k : ∀ σ H Q, t' σ H Q → t σ H Q) : PO X e t' := ⟨fun pins s σ H Q I q => h.run pins s σ H Q I (k σ H Q q)⟩
theorem rp_none : PO X none (rdP X.K cA W fun _ st => .ok none st) := PO_imp po_none fun σ H Q ⟨m, ρ, st, s, ev, q⟩ => q none H m (Ext.refl _) s rfl
theorem rp_some (he : PE X e (rdE X.K cA W f)) : PO X (some e) (rdP X.K cA W fun ρ st => (f ρ st).bind fun x st => intM x st) := by
  refine PO_imp (po_some he) fun σ H Q q => ?_
  refine At.bind (f := f) (Rel1 := RelT X.K) (g := fun ρ x st => intM x st) q fun b a w1 ρ s1 ev1 r1 q1 => ?_
  unfold intM at q1
  split at q1
  · exact ⟨_, r1.int_inv, q1.ok s1 rfl⟩
  · exact q1.elim
theorem re_slc (he : PE X e (rdE X.K cA W f)) (hl : PO X lo (rdP X.K cA W g)) (hh : PO X hi (rdP X.K cA W h)) :
    PE X (.Subscript e (.Slice lo hi none p2) pos) (rdE X.K cA W fun ρ st => (f ρ st).bind fun x st => (g ρ st).bind fun y st => (h ρ st).bind fun z st => Ev.slc x y z st) := by
  refine PE_imp (pe_slice slr_slc he hl hh) fun σ H Q q => ?_
  refine At.bind (f := f) (Rel1 := RelT X.K) (g := fun ρ x st => (g ρ st).bind fun y st => (h ρ st).bind fun z st => Ev.slc x y z st) q fun b a w1 ρ s1 ev1 r1 q1 => ?_
  refine (show rdP X.K cA W g σ w1.H _ from At.mk s1 ev1 (OkG.bind (Rel1 := RelO') q1 fun b2 a2 w2 e2 s2 r2 q2 => ?_))
  subst r2
  refine (show rdP X.K cA W h σ w2.H _ from At.mk s2 (ev1.ext e2) (OkG.bind (Rel1 := RelO') q2 fun b3 a3 w3 e3 s3 r3 q3 => ?_))
  subst r3
  exact ⟨cA, W, σ, w3, a, s3, rfl, (e2.trans e3).t r1, q3⟩
end
end
end Ev

/-! Ev6: displays, list makers, built-in functions, isinstance. -/
namespace Ev
open PySem PySem.Spec PyProof.Rows L2

section
variable {X : Cx} {cA : Nat → Addr} {W : WX}
/-! ### displays -/
theorem re_tup {es : List Expr} {fs : Env → M (List T)} {k : Nat} {pos : Pos} (h : PA X es (rdA X.K cA W fs)) : PE X (.Tuple es k pos) (rdE X.K cA W fun ρ st => (fs ρ st).bind fun xs st => tupM xs st) := by
  refine PE_imp (pe_tup h) fun σ H Q q => ?_
  refine At.bind (f := fs) (Rel1 := RelTs X.K) (g := fun ρ xs st => tupM xs st) q fun b a w1 ρ s1 ev1 r1 q1 => ?_
  unfold tupM at q1
  by_cases hz : a.length ≤ sizeLine
  · simp only [if_pos hz] at q1
    exact ⟨by rw [r1.length]; exact hz, new_tup s1 r1 q1⟩
  · simp only [if_neg hz] at q1
    exact q1.elim

/-! ### makers of a new list -/
/-- a new list: where nothing stood, its items related ahead of it -/
def rdL (K : PySem.W.Frag) (cA : Nat → Addr) (W : WX) (f : Env → M (List T)) : TE := fun σ H Q => At K σ H fun w ρ => match f ρ w.st with
  | .ok ts st' => ∀ (p : Addr) (vs : List V) (H1 : Hp) (m' : List Addr), Ext w ⟨m', st', H1⟩ → Sim K ⟨m', st', H1⟩ → H1 p = none → RTs K (Live m' st') m' H1 vs ts → Q (.ref p) (upd H1 p (.lst vs))
  | .exn e st' => XOk K cA W e w st' σ
  | .bad => False
/-- it stays as it is -/
theorem re_frz {e : Expr} {f : Env → M (List T)} (h : PE X e (rdL X.K cA W f)) : PE X e (rdE X.K cA W fun ρ st => (f ρ st).bind fun xs st => frzM xs st) := by
  refine PE_imp h fun σ H Q ⟨m, ρ, st, s, ev, q⟩ => ⟨m, ρ, st, s, ev, ?_⟩
  dsimp only at q ⊢
  cases e1 : f ρ st with
  | bad => rw [e1] at q; exact q
  | exn x st1 => rw [e1] at q; exact q
  | ok xs st1 =>
    rw [e1] at q
    intro p vs H1 m' e2 s2 hp r
    have q' : OkG X.K cA W (RelT X.K) σ ⟨m', st1, H1⟩ (.ok (mkLst xs) st1) Q := OkG.ext e2 q
    exact new_lst s2 r q' p hp
/-- it becomes an object of the store -/
theorem re_new {e : Expr} {f : Env → M (List T)} (h : PE X e (rdL X.K cA W f)) : PE X e (rdE X.K cA W fun ρ st => (f ρ st).bind fun xs st => newM xs st) := by
  refine PE_imp h fun σ H Q ⟨m, ρ, st, s, ev, q⟩ => ⟨m, ρ, st, s, ev, ?_⟩
  dsimp only at q ⊢
  cases e1 : f ρ st with
  | bad => rw [e1] at q; exact q
  | exn x st1 => rw [e1] at q; exact q
  | ok xs st1 =>
    rw [e1] at q
    intro p vs H1 m' e2 s2 hp r
    have ea := ext_alloc (q := .lst xs) (o := .lst vs) s2 hp
    have sa := sim_alloc (q := .lst xs) (o := .lst vs) s2 hp ⟨vs, upd_same, ea.ts r⟩
    refine q _ _ (m' ++ [p]) (e2.trans ea) sa (.ref ?_)
    show (m' ++ [p])[st1.length]? = some p
    have hl : m'.length = st1.length := s2.len
    rw [← hl, List.getElem?_append_right (Nat.le_refl _)]
    simp
theorem rl_disp {es : List Expr} {fs : Env → M (List T)} {pos : Pos} (h : PA X es (rdA X.K cA W fs)) : PE X (.List es pos) (rdL X.K cA W fun ρ st => (fs ρ st).bind fun xs st => lstM xs st) := by
  refine PE_imp (pe_lst h) fun σ H Q ⟨m, ρ, st, s, ev, q⟩ => ⟨m, ρ, st, s, ev, ?_⟩
  dsimp only at q ⊢
  cases e1 : fs ρ st with
  | bad => rw [e1] at q; exact q
  | exn x st1 => rw [e1] at q; exact q
  | ok xs st1 =>
    rw [e1] at q
    simp only [R.bind_ok, lstM] at q
    intro vs H1 m' e2 s2 r
    by_cases hz : xs.length ≤ sizeLine
    · rw [if_pos hz] at q
      exact ⟨by rw [RTs.length r]; exact hz, fun p hp => q p vs H1 m' e2 s2 hp r⟩
    · rw [if_neg hz] at q
      exact q.elim
/-- two lists glued into a new one -/
theorem rl_cat {a b : Expr} {f g : Env → M T} {pos : Pos} (ha : PE X a (rdE X.K cA W f)) (hb : PE X b (rdE X.K cA W g)) :
    PE X (.BinOp a .Add b pos) (rdL X.K cA W fun ρ st => (f ρ st).bind fun x st => (g ρ st).bind fun y st => catM x y st) := by
  refine ⟨fun pins s σ H Q I ⟨m, ρ, st, sim, ev, q⟩ => ?_⟩
  let r : R2 := fun x y H Q => ∃ (w : Wd) (a b : T) (xs ys : List T), Sim X.K w ∧ w.H = H ∧ w.R X.K x a ∧ w.R X.K y b ∧ lstOf w.st a = some xs ∧ lstOf w.st b = some ys ∧ xs.length + ys.length ≤ sizeLine ∧
    ∀ p vs, w.H p = none → w.Rs X.K vs (xs ++ ys) → Q (.ref p) (upd w.H p (.lst vs))
  have hr : OpR X (binaryOp .Add) r := by
    intro pins s σ H x y v u Q I rx ry ⟨w, a, b, xs, ys, sim, eH, ra, rb, h1, h2, hz, q⟩
    subst eH
    obtain ⟨p1, vs, rfl, t1, r1⟩ := lstOf_inv sim ra h1
    obtain ⟨p2, us, rfl, t2, r2⟩ := lstOf_inv sim rb h2
    have l1 := r1.length
    have l2 := r2.length
    cases rx
    cases ry
    exact cat_lists I t1 t2 (by omega) fun p hp => q p _ hp (r1.append r2)
  refine (pe_op hr ha hb).run pins s σ H Q I ?_
  refine ⟨m, ρ, st, sim, ev, ?_⟩
  dsimp only at q ⊢
  cases e1 : f ρ st with
  | bad => rw [e1] at q; exact q
  | exn x st1 => rw [e1] at q; exact q
  | ok x st1 =>
    rw [e1] at q
    simp only [R.bind_ok] at q
    intro V1 H1 m1 e2 s2 r1
    refine ⟨m1, ρ, st1, s2, ev.ext e2, ?_⟩
    dsimp only
    cases e3 : g ρ st1 with
    | bad => rw [e3] at q; exact q
    | exn x st1 => rw [e3] at q; exact XOk.ext e2 q
    | ok y st2 =>
      rw [e3] at q
      simp only [R.bind_ok, catM] at q
      intro V2 H2 m2 e4 s4 r2
      cases h1 : lstOf st2 x with
      | none => rw [h1] at q; exact q.elim
      | some xs =>
        cases h2 : lstOf st2 y with
        | none => rw [h1, h2] at q; exact q.elim
        | some ys =>
          rw [h1, h2] at q
          simp only at q
          by_cases hz : xs.length + ys.length ≤ sizeLine
          · rw [if_pos hz] at q
            exact ⟨⟨m2, st2, H2⟩, x, y, xs, ys, s4, rfl, e4.t r1, r2, h1, h2, hz, fun p vs hp r => q p vs H2 m2 (e2.trans e4) s4 hp r⟩
          · rw [if_neg hz] at q; exact q.elim
/-- from a one-place maker by values -/
theorem rl_un {e a : Expr} {f : Env → M T} {o : T → M (List T)} {r : V → Hp → VK → Prop} (h : PE X e (tUn r (rdE X.K cA W f)))
    (ho : ∀ (w : Wd) (t : T) (x : V) (Q : VK) (ts : List T), Sim X.K w → w.R X.K x t → o t w.st = .ok ts w.st → (∀ p vs H1, Ext w ⟨w.m, w.st, H1⟩ → Sim X.K ⟨w.m, w.st, H1⟩ → H1 p = none → RTs X.K w.lv w.m H1 vs ts → Q (.ref p) (upd H1 p (.lst vs))) → r x w.H Q)
    (hn : ∀ t st, (∃ ts, o t st = .ok ts st) ∨ o t st = .bad) :
    PE X e (rdL X.K cA W fun ρ st => (f ρ st).bind fun x st => o x st) := by
  refine PE_imp h fun σ H Q ⟨m, ρ, st, s, ev, q⟩ => ⟨m, ρ, st, s, ev, ?_⟩
  dsimp only at q ⊢
  cases e1 : f ρ st with
  | bad => rw [e1] at q; exact q
  | exn x st1 => rw [e1] at q; exact q
  | ok x st1 =>
    rw [e1] at q
    simp only [R.bind_ok] at q
    intro V1 H1 m1 e2 s2 r1
    rcases hn x st1 with ⟨ts, h1⟩ | h1
    · rw [h1] at q
      exact ho ⟨m1, st1, H1⟩ x V1 Q ts s2 r1 h1 fun p vs H2 e3 s3 hp r => q p vs H2 m1 (e2.trans e3) s3 hp r
    · rw [h1] at q; exact q.elim
theorem rts_signs {K : PySem.W.Frag} {lv : Addr → Prop} {m : List Addr} {H : Hp} : ∀ l : List Nat, RTs K lv m H (l.map fun c => V.str ⟨#[c]⟩) (l.map fun c => T.d (.str ⟨#[c]⟩))
  | [] => .nil
  | n :: ns => .cons (.d (.str _)) (rts_signs ns)
/-- list(x) by values -/
def rOf (K : PySem.W.Frag) : V → Hp → VK → Prop := fun x H Q => ∃ (w : Wd) (t : T) (ts : List T), Sim K w ∧ w.H = H ∧ w.R K x t ∧ ofM t w.st = .ok ts w.st ∧
  ∀ p vs H1, Ext w ⟨w.m, w.st, H1⟩ → Sim K ⟨w.m, w.st, H1⟩ → H1 p = none → RTs K w.lv w.m H1 vs ts → Q (.ref p) (upd H1 p (.lst vs))
theorem vals_signs : ∀ {l : List Nat} {us : List Value}, us.length = l.length → (∀ (i : Nat) (v : Value), us[i]? = some v → ∃ c u, l[i]? = some c ∧ v = Value.str ⟨#[c]⟩ u) → Vals (l.map fun c => V.str ⟨#[c]⟩) us
  | [], [], _, _ => .nil
  | [], _ :: _, h, _ => by simp at h
  | _ :: _, [], h, _ => by simp at h
  | c :: l, u :: us, h, k => by
    obtain ⟨c', t, e1, e2⟩ := k 0 u rfl
    simp at e1
    subst e1
    exact .cons ⟨t, e2⟩ (vals_signs (by simpa using h) fun i v e => by simpa using k (i + 1) v (by simpa using e))
theorem cr_list (hc : X.calm = true) : CallR X (.type "list") (fun xs H Q => ∃ x, xs = [x] ∧ rOf X.K x H Q) := by
  intro pins s σ H xs us Q I r ⟨x, ex, w, t, ts, sim, eH, rt, h, q⟩
  subst ex
  subst eH
  obtain ⟨u, rfl, rx⟩ := vals1 r
  unfold ofM at h
  split at h
  · rename_i z
    split at h
    · rename_i hz
      injection h with h _
      subst h
      cases rt.str_inv
      obtain ⟨tk, rfl⟩ := rx
      have hz' : z.cps.size ≤ sizeLine := hz
      refine call_list_str (I.ok.hd hc) z tk (fun h' tk' acc' c' hk hS hacc => ?_) (hn := hz')
      refine ⟨.ref s.heap.objs.size, _, I.laid (t' := tk') hk (Nat.le_refl _) (o := .lst (z.cps.toList.map fun c => V.str ⟨#[c]⟩)) ?_, rfl, q _ _ w.H (Ext.refl w) sim (I.hok.fresh (Nat.le_refl _)) (rts_signs _)⟩
      refine ⟨by rw [List.length_map, Array.length_toList]; exact hz', acc'.toList, c', vals_signs ?_ fun i v e => ?_, by simpa using hS⟩
      · rw [Array.length_toList, Array.length_toList]; exact hacc.1
      · obtain ⟨c, u, h1, h2⟩ := hacc.2 i v (by simpa using e)
        exact ⟨c, u, by simpa using h1, h2⟩
    · cases h
  · split at h
    · rename_i xs e
      injection h with h _
      subst h
      obtain ⟨a, vs, rfl, h1, h2⟩ := seqOf_inv sim rt e
      exact call_list_of pins s σ w.H _ _ Q I r ⟨a, vs, rfl, h1, fun l hl => q l vs w.H (Ext.refl w) sim hl h2⟩
    · cases h
theorem rl_of {e : Expr} {f : Env → M T} {p pos : Pos} (hc : X.calm = true) (hg : Gl X "list") (hm : X.mg "list" = none) (he : PE X e (rdE X.K cA W f)) (hs : starEach [e] X.env = (false, eval e X.env) :: starEach [] X.env) :
    PE X (.Call (.Name "list" p) [e] [] pos) (rdL X.K cA W fun ρ st => (f ρ st).bind fun x st => ofM x st) := by
  have h := pe_callTy (p := p) (pos := pos) (cr_list hc) hg hm (by decide +kernel) (pa_cons he pa_nil hs) (by decide) (by decide) hs (by rfl)
  refine rl_un (r := fun x H Q => rOf X.K x H Q) (a := e) (PE_imp h fun σ H Q q => ?_) (fun w t x Q ts s r h1 q => ⟨w, t, ts, s, rfl, r, h1, q⟩) fun t st => ?_
  · exact (rd_mono q fun v H' z => ⟨v, rfl, z⟩)
  · unfold ofM
    split
    · split
      · exact .inl ⟨_, rfl⟩
      · exact .inr rfl
    · split
      · exact .inl ⟨_, rfl⟩
      · exact .inr rfl
end
end Ev

/-! Ev7: built-in functions, isinstance, methods. -/
namespace Ev
open PySem PySem.Spec PyProof.Rows L2

/-! ### a bound of what repr says -/
theorem len_ofString (s : String) : (Str.ofString s).length = s.length := PySem.ofString_length s
theorem int_text_len {i : Int} (h : i.natAbs.log2 < 1920) : (Str.ofString (toString i)).length ≤ 1930 := by
  rw [len_ofString]
  have hn : i.natAbs < 2 ^ 1920 := by
    by_cases h0 : i.natAbs = 0
    · rw [h0]; exact Nat.two_pow_pos _
    · exact (Nat.log2_lt h0).mp h
  have hr : (Nat.repr i.natAbs).length ≤ 1920 := nat_repr_length_le (by decide) hn
  cases i with
  | ofNat n =>
    have e : (toString (Int.ofNat n) : String) = Nat.repr n := rfl
    rw [e]
    have : (Int.ofNat n).natAbs = n := rfl
    rw [this] at hr
    omega
  | negSucc n =>
    have e : (toString (Int.negSucc n) : String) = "-" ++ Nat.repr (n + 1) := rfl
    rw [e, String.length_append]
    have h2 : (Int.negSucc n).natAbs = n + 1 := rfl
    rw [h2] at hr
    have : ("-" : String).length = 1 := rfl
    omega
mutual
theorem shown_wt : ∀ x : PyData, x.canLay0 = true → x.showable = true → x.shown.length ≤ wt x
  | .none, _, _ => by rw [PyData.shown_none]; simp only [wt]; rw [len_ofString]; decide
  | .bool b, _, _ => by rw [PyData.shown_bool]; simp only [wt]; cases b <;> decide
  | .int i, _, h => by
    rw [PyData.shown_int]
    simp only [wt]
    exact int_text_len (by simpa [PyData.showable] using h)
  | .str x, h, _ => by
    rw [PyData.shown_str]
    simp only [wt]
    refine StrLaws.reprText_len x fun c hc => ?_
    have h' : (x.cps.all (· < 0x110000)) = true := by simpa only [PyData.canLay0, PyData.strOk] using h
    rw [← Array.all_toList, List.all_eq_true] at h'
    have := h' c hc
    simp only [decide_eq_true_eq] at this
    omega
  | .list xs, h, k => by
    rw [PyData.shown_list]
    simp only [wt]
    rw [Str.length_append, Str.length_append, len_ofString, len_ofString]
    have := shown_wts xs (by simpa [PyData.canLay0] using h) (by simpa [PyData.showable] using k)
    have h1 : ("[" : String).length = 1 := rfl
    have h2 : ("]" : String).length = 1 := rfl
    omega
  | .tuple xs, h, k => by
    rw [PyData.shown_tuple]
    simp only [wt]
    rw [Str.length_append, Str.length_append, len_ofString, len_ofString]
    have := shown_wts xs (by simpa [PyData.canLay0] using h) (by simpa [PyData.showable] using k)
    have h1 : ("(" : String).length = 1 := rfl
    have h2 : (if (xs.length == 1) = true then ",)" else ")" : String).length ≤ 2 := by split <;> decide
    omega
  | .dict _, h, _ => by simp [PyData.canLay0] at h
theorem shown_wts : ∀ xs : List PyData, PyData.canLayAll0 xs = true → PyData.showableAll xs = true → (Str.join ", " (PyData.shownAll xs)).length ≤ wts xs
  | [], _, _ => by simp only [PyData.shownAll, Str.join, wts]; exact Nat.le_refl _
  | [x], h, k => by
    simp only [PyData.canLayAll0, PyData.showableAll, Bool.and_eq_true] at h k
    have := shown_wt x h.1 k.1
    simp only [PyData.shownAll, Str.join, wts]
    omega
  | x :: y :: r, h, k => by
    rw [PyData.canLayAll0, Bool.and_eq_true] at h
    rw [PyData.showableAll, Bool.and_eq_true] at k
    have h1 := shown_wt x h.1 k.1
    have h2 := shown_wts (y :: r) h.2 k.2
    rw [PyData.shownAll_cons] at h2 ⊢
    rw [PyData.shownAll_cons]
    have e : Str.join ", " (x.shown :: y.shown :: PyData.shownAll r) = x.shown ++ (", " : Str) ++ Str.join ", " (y.shown :: PyData.shownAll r) := rfl
    rw [e, Str.length_append, Str.length_append, len_ofString]
    have h3 : (", " : String).length = 2 := rfl
    have h4 : wts (x :: y :: r) = wt x + 2 + wts (y :: r) := rfl
    omega
end
theorem reprOk_split {x : PyData} (h : reprOk x = true) : x.canLay0 = true ∧ x.showable = true ∧ x.depth ≤ 64 ∧ x.shown.length ≤ sizeLine := by
  unfold reprOk at h
  simp only [Bool.and_eq_true, decide_eq_true_eq] at h
  obtain ⟨⟨⟨h1, h2⟩, h3⟩, h4⟩ := h
  exact ⟨h1, h2, h3, Nat.le_trans (shown_wt x h1 h2) h4⟩

section
variable {X : Cx} {cA : Nat → Addr} {W : WX}
theorem rs1 {K : PySem.W.Frag} {lv : Addr → Prop} {m : List Addr} {H : Hp} {xs : List V} {t : T} (r : RTs K lv m H xs [t]) : ∃ v, xs = [v] ∧ RT K lv m H v t := by
  cases r with
  | cons r1 r2 => cases r2; exact ⟨_, rfl, r1⟩
theorem rs2 {K : PySem.W.Frag} {lv : Addr → Prop} {m : List Addr} {H : Hp} {xs : List V} {t u : T} (r : RTs K lv m H xs [t, u]) : ∃ v w, xs = [v, w] ∧ RT K lv m H v t ∧ RT K lv m H w u := by
  cases r with
  | cons r1 r2 =>
    cases r2 with
    | cons r3 r4 => cases r4; exact ⟨_, _, rfl, r1, r3⟩
theorem boolsOf_rel {K : PySem.W.Frag} {lv : Addr → Prop} {m : List Addr} {H : Hp} : ∀ {vs : List V} {ts : List T} {bs : List Bool}, RTs K lv m H vs ts → boolsOf ts = some bs → vs = bs.map V.bl
  | _, _, bs, .nil, h => by simp only [boolsOf, Option.some.injEq] at h; subst h; rfl
  | _, _, bs, .cons (t := t) r rs, h => by
    unfold boolsOf at h
    split at h
    · rename_i e; cases e
    · rename_i b r' e
      cases e
      obtain ⟨cs, h1, rfl⟩ := Option.map_eq_some_iff.mp h
      rw [boolsOf_rel rs h1, r.bool_inv]; rfl
    · cases h
theorem intsOf_rel {K : PySem.W.Frag} {lv : Addr → Prop} {m : List Addr} {H : Hp} : ∀ {vs : List V} {ts : List T} {bs : List Int}, RTs K lv m H vs ts → intsOf ts = some bs → vs = bs.map V.int
  | _, _, bs, .nil, h => by simp only [intsOf, Option.some.injEq] at h; subst h; rfl
  | _, _, bs, .cons (t := t) r rs, h => by
    unfold intsOf at h
    split at h
    · rename_i e; cases e
    · rename_i b r' e
      cases e
      obtain ⟨cs, h1, rfl⟩ := Option.map_eq_some_iff.mp h
      rw [intsOf_rel rs h1, r.int_inv]; rfl
    · cases h
theorem strsOf_rel {K : PySem.W.Frag} {lv : Addr → Prop} {m : List Addr} {H : Hp} : ∀ {vs : List V} {ts : List T} {bs : List Str}, RTs K lv m H vs ts → strsOf ts = some bs → vs = bs.map V.str
  | _, _, bs, .nil, h => by simp only [strsOf, Option.some.injEq] at h; subst h; rfl
  | _, _, bs, .cons (t := t) r rs, h => by
    unfold strsOf at h
    split at h
    · rename_i e; cases e
    · rename_i b r' e
      cases e
      obtain ⟨cs, h1, rfl⟩ := Option.map_eq_some_iff.mp h
      rw [strsOf_rel rs h1, r.str_inv]; rfl
    · cases h

theorem cr_len : CallR X (.builtin "len") (fun xs H Q => ∃ v, xs = [v] ∧ rUn X.K bfLen v H Q) := by
  intro pins s σ H xs us Q I r ⟨x, ex, cA, W, σ0, w, t, sim, eH, rx, q⟩
  subst eH ex
  unfold bfLen at q
  split at q
  · rename_i n e
    unfold lenT at e
    split at e
    · rename_i z
      split at e
      · rename_i hz
        cases e
        cases rx.str_inv
        exact call_len_str pins s σ w.H _ us Q I r ⟨z, rfl, hz, q.ok sim (rInt _)⟩
      · cases e
    · split at e
      · rename_i xs' e1
        cases e
        obtain ⟨a, vs, rfl, h1, h2⟩ := seqOf_inv sim rx e1
        refine call_len_seq pins s σ w.H _ us Q I r ⟨a, vs, rfl, h1, ?_⟩
        rw [h2.length]
        exact q.ok sim (rInt _)
      · split at e
        · rename_i kvs e1
          cases e
          obtain ⟨a, ks, rfl, h1, h2⟩ := dctOf_inv sim rx e1
          refine call_lenD pins s σ w.H _ us Q I r ⟨a, ks, rfl, h1, ?_⟩
          have : ks.length = kvs.length := Paired.length h2
          rw [this]
          exact q.ok sim (rInt _)
        · cases e
  · exact q.elim
theorem cr_int : CallR X (.type "int") (fun xs H Q => ∃ v, xs = [v] ∧ rUn X.K bfInt v H Q) := by
  intro pins s σ H xs us Q I r ⟨x, ex, cA, W, σ0, w, t, sim, eH, rx, q⟩
  subst eH ex
  unfold bfInt at q
  split at q
  · cases rx.int_inv
    exact call_int1 pins s σ w.H _ us Q I r (.inl ⟨_, rfl, q.ok sim (rInt _)⟩)
  · cases rx.bool_inv
    exact call_int1 pins s σ w.H _ us Q I r (.inr ⟨_, rfl, q.ok sim (rInt _)⟩)
  · exact q.elim
theorem cr_tuple : CallR X (.type "tuple") (fun xs H Q => ∃ v, xs = [v] ∧ rUn X.K bfTuple v H Q) := by
  intro pins s σ H xs us Q I r ⟨x, ex, cA, W, σ0, w, t, sim, eH, rx, q⟩
  subst eH ex
  unfold bfTuple at q
  cases e : seqOf w.st t with
  | none => rw [e] at q; exact q.elim
  | some xs =>
    rw [e] at q
    unfold seqOf at e
    cases e1 : tupOf t with
    | some ys =>
      rw [e1] at e; cases e
      obtain ⟨a, vs, rfl, h1, h2⟩ := tupOf_inv rx e1
      exact call_tuple_of pins s σ w.H _ us Q I r ⟨a, vs, rfl, .inr ⟨h1.seq, q.ok sim (mkTup_ok h1 h2)⟩⟩
    | none =>
      rw [e1] at e
      obtain ⟨a, vs, rfl, h1, h2⟩ := lstOf_inv sim rx e
      exact call_tuple_of pins s σ w.H _ us Q I r ⟨a, vs, rfl, .inl ⟨.inl h1, new_tup sim h2 q⟩⟩
theorem cr_all' (hc : X.calm = true) : CallR X (.builtin "all") (fun xs H Q => ∃ v, xs = [v] ∧ rUn X.K bfAll v H Q) := by
  intro pins s σ H xs us Q I r ⟨x, ex, cA, W, σ0, w, t, sim, eH, rx, q⟩
  subst eH ex
  unfold bfAll at q
  split at q
  · rename_i ys e
    split at q
    · rename_i bs e2
      obtain ⟨a, vs, rfl, h1, h2⟩ := lstOf_inv sim rx e
      cases boolsOf_rel h2 e2
      exact cr_all hc pins s σ w.H _ us Q I r ⟨a, bs, rfl, .inl h1, q.ok sim (rBl _)⟩
    · exact q.elim
  · exact q.elim
theorem cr_any' (hc : X.calm = true) : CallR X (.builtin "any") (fun xs H Q => ∃ v, xs = [v] ∧ rUn X.K bfAny v H Q) := by
  intro pins s σ H xs us Q I r ⟨x, ex, cA, W, σ0, w, t, sim, eH, rx, q⟩
  subst eH ex
  unfold bfAny at q
  split at q
  · rename_i ys e
    split at q
    · rename_i bs e2
      obtain ⟨a, vs, rfl, h1, h2⟩ := lstOf_inv sim rx e
      cases boolsOf_rel h2 e2
      exact cr_any hc pins s σ w.H _ us Q I r ⟨a, bs, rfl, .inl h1, q.ok sim (rBl _)⟩
    · exact q.elim
  · exact q.elim
theorem cr_sum' (hc : X.calm = true) : CallR X (.builtin "sum") (fun xs H Q => ∃ v, xs = [v] ∧ rUn X.K bfSum v H Q) := by
  intro pins s σ H xs us Q I r ⟨x, ex, cA, W, σ0, w, t, sim, eH, rx, q⟩
  subst eH ex
  unfold bfSum at q
  split at q
  · rename_i ys e
    split at q
    · rename_i bs e2
      obtain ⟨a, vs, rfl, h1, h2⟩ := lstOf_inv sim rx e
      cases intsOf_rel h2 e2
      exact cr_sum hc pins s σ w.H _ us Q I r ⟨a, bs, rfl, .inl h1, q.ok sim (rInt _)⟩
    · exact q.elim
  · exact q.elim
theorem cr_str' : CallR X (.type "str") (fun xs H Q => ∃ v, xs = [v] ∧ rUn X.K bfStr v H Q) := by
  intro pins s σ H xs us Q I r ⟨x, ex, cA, W, σ0, w, t, sim, eH, rx, q⟩
  subst eH ex
  unfold bfStr at q
  split at q
  · split at q
    · rename_i hz
      cases rx.int_inv
      exact call_str_int pins s σ w.H _ us Q I r ⟨_, rfl, hz, q.ok sim (rStr _)⟩
    · exact q.elim
  · exact q.elim
/-- repr of data -/
theorem cr_repr (hg : X.A.guards = some []) (hu : X.A.units + 70 < cLine) : CallR X (.builtin "repr") (fun xs H Q => ∃ v, xs = [v] ∧ rUn X.K bfRepr v H Q) := by
  intro pins s σ H xs us Q I r ⟨x, ex, cA, W, σ0, w, t, sim, eH, rx, q⟩
  subst eH ex
  unfold bfRepr at q
  split at q
  · rename_i d e
    split at q
    · rename_i hr
      obtain ⟨h1, h2, h3, h4⟩ := reprOk_split hr
      have dp := viewD_dp sim 9 rx e (PyData.hasDict_of_canLay d h1)
      obtain ⟨u, rfl, ru⟩ := vals1 r
      have fin : ∀ (s' : Shared) (tk : Tok), L2.Inv X pins σ w.H s' → EP X pins σ Q (.str d.shown tk) s' := fun s' tk J => ⟨.str d.shown, w.H, J, ⟨tk, rfl⟩, q.ok sim (rStr _)⟩
      obtain ⟨as, rd⟩ := Dp.reads I d x u dp ru
      have ref : ∀ a, u = .ref a → wpAny (model X.prog X.w) X.A (call (.builtin "repr") [u]) (EP X pins σ Q) X.xe s := by
        rintro a rfl
        exact repr_of_reads' rd h2 (PyData.noDict_hsm (PyData.hasDict_of_canLay d h1)) hg (by omega) (fun _ _ z => z) (fun h' tk n hk => fin _ tk (I.kept hk)) h4
      cases dp with
      | non =>
        cases ru
        refine PySem.P.repr_of_none ?_
        have := fin { s with toks := s.toks + 1 } s.toks (I.tok _)
        rw [PyData.shown_none] at this
        exact this
      | bl b =>
        cases ru
        refine PySem.P.repr_of_bool ?_
        have := fin { s with toks := s.toks + 1 } s.toks (I.tok _)
        rw [PyData.shown_bool] at this
        cases b <;> exact this
      | int i =>
        obtain ⟨tk, rfl⟩ := ru
        refine PySem.P.repr_of_int (by simpa [PyData.showable] using h2) ?_
        have := fin { s with toks := s.toks + 1 } s.toks (I.tok _)
        rw [PyData.shown_int] at this
        exact this
      | str z =>
        obtain ⟨tk, rfl⟩ := ru
        refine PySem.P.repr_of_str ?_ (by rw [PyData.shown_str] at h4; exact h4)
        have := fin { s with toks := s.toks + 1 } s.toks (I.tok _)
        rw [PyData.shown_str] at this
        exact this
      | lst _ _ => cases ru; exact ref _ rfl
      | tup _ _ => cases ru; exact ref _ rfl
    · exact q.elim
  · exact q.elim
theorem cr_bf2 (hc : X.calm = true) (f : Bf2) : CallR X (.builtin (match f with | .min => "min" | .max => "max")) (fun xs H Q => ∃ v u, xs = [v, u] ∧ rBin X.K (bf2 f) v u H Q) := by
  intro pins s σ H xs us Q I r ⟨x, y, ex, cA, W, σ0, w, a, b, sim, eH, ra, rb, q⟩
  subst eH ex
  unfold bf2 at q
  split at q
  · cases ra.int_inv
    cases rb.int_inv
    cases f with
    | min => exact call_min2 hc pins s σ w.H _ us Q I r ⟨_, _, rfl, q.ok sim (rInt _)⟩
    | max => exact call_max2 hc pins s σ w.H _ us Q I r ⟨_, _, rfl, q.ok sim (rInt _)⟩
  · exact q.elim

/-- a call of a built-in function with one argument -/
theorem re_cb1 {x id : Str} {fid : String} {e : Expr} {f : Env → M T} {o : T → M T} {p pos : Pos} (h : PE X (.Call (.Name x p) [e] [] pos) (tCB (fun xs H Q => ∃ v, xs = [v] ∧ rUn X.K o v H Q) (tCons (rdE X.K cA W f) tNil))) :
    PE X (.Call (.Name x p) [e] [] pos) (rdE X.K cA W fun ρ st => (f ρ st).bind fun x st => o x st) := by
  refine PE_imp h fun σ H Q q => ?_
  exact At.bind (f := f) (Rel1 := RelT X.K) (g := fun ρ x st => o x st) q fun b a w1 ρ s1 ev1 r1 q1 => ⟨b, rfl, cA, W, σ, w1, a, s1, rfl, r1, q1⟩
theorem re_cb2 {x : Str} {e e2 : Expr} {f g : Env → M T} {o : T → T → M T} {p pos : Pos} (h : PE X (.Call (.Name x p) [e, e2] [] pos) (tCB (fun xs H Q => ∃ v u, xs = [v, u] ∧ rBin X.K o v u H Q) (tCons (rdE X.K cA W f) (tCons (rdE X.K cA W g) tNil)))) :
    PE X (.Call (.Name x p) [e, e2] [] pos) (rdE X.K cA W fun ρ st => (f ρ st).bind fun x st => (g ρ st).bind fun y st => o x y st) := by
  refine PE_imp h fun σ H Q q => ?_
  refine At.bind (f := f) (Rel1 := RelT X.K) (g := fun ρ x st => (g ρ st).bind fun y st => o x y st) q fun b a w1 ρ s1 ev1 r1 q1 => ?_
  refine (show rdE X.K cA W g σ w1.H _ from At.mk s1 ev1 (OkG.bind (Rel1 := RelT X.K) q1 fun b2 a2 w2 e2 s2 r2 q2 => ?_))
  exact ⟨b, b2, rfl, cA, W, σ, w2, a, a2, s2, rfl, e2.t r1, r2, q2⟩

/-! ### isinstance -/
def tyN : Ty → String
  | .int => "int"
  | .bool => "bool"
  | .str => "str"
  | .tuple => "tuple"
  | .list => "list"
  | .dict => "dict"
theorem tyx_of {K : PySem.W.Frag} {w : Wd} {t : Ty} {v : V} {x : T} {b : Bool} (s : Sim K w) (r : w.R K v x) (h : isTy w.st t x = some b) : ∃ u, TyX K w.H v u ∧ PySem.W.kitOne K u (.type (tyN t)) = some b := by
  have lst : ∀ {a : Addr} {vs : List V}, Rd w.H a (.lst vs) → TyX K w.H (.ref a) (.type "list") := by
    rintro a vs (h | ⟨o, h⟩)
    · exact .base (.lst h)
    · exact .base (.frz h)
  have tup : ∀ {a : Addr} {vs : List V}, SqT K w.H a vs → TyX K w.H (.ref a) (.type "tuple") := by
    rintro a vs ((h | ⟨o, h⟩) | ⟨o, its, n, h, hc, _⟩)
    · exact .base (.tup h)
    · exact .fTuple h
    · exact .kTuple h hc
  have fl : b = (t == .list) → PySem.W.kitOne K (.type "list") (.type (tyN t)) = some b := by rintro rfl; cases t <;> exact kit_ty (by decide +kernel)
  have ft : b = (t == .tuple) → PySem.W.kitOne K (.type "tuple") (.type (tyN t)) = some b := by rintro rfl; cases t <;> exact kit_ty (by decide +kernel)
  have fd : b = (t == .dict) → PySem.W.kitOne K (.type "dict") (.type (tyN t)) = some b := by rintro rfl; cases t <;> exact kit_ty (by decide +kernel)
  cases x with
  | d x =>
    cases r with
    | d r =>
      cases r with
      | non => cases h; exact ⟨_, .base .non, by cases t <;> exact kit_ty (by decide +kernel)⟩
      | bl y => cases h; exact ⟨_, .base (.bl y), by cases t <;> exact kit_ty (by decide +kernel)⟩
      | int y => cases h; exact ⟨_, .base (.int y), by cases t <;> exact kit_ty (by decide +kernel)⟩
      | str y => cases h; exact ⟨_, .base (.str y), by cases t <;> exact kit_ty (by decide +kernel)⟩
      | lst h1 h2 => cases h; exact ⟨_, lst h1.1, fl rfl⟩
      | tup h1 h2 => cases h; exact ⟨_, tup h1.seq, ft rfl⟩
      | dct h1 _ _ => cases h; exact ⟨_, .base (.dK h1), fd rfl⟩
  | ref n =>
    cases r with
    | ref hm =>
      simp only [isTy] at h
      split at h
      · rename_i ys e
        cases h
        obtain ⟨vs, h1, h2⟩ := s.obj n _ _ hm e
        exact ⟨_, .base (.lst h1), fl rfl⟩
      · rename_i ys e
        cases h
        obtain ⟨vs, h1, h2⟩ := s.obj n _ _ hm e
        exact ⟨_, .base (.dK h1), fd rfl⟩
      · cases h
  | tup ts => cases r with | tup h1 h2 => cases h; exact ⟨_, tup h1.seq, ft rfl⟩
  | lst ts => cases r with | lst h1 h2 => cases h; exact ⟨_, lst h1.1, fl rfl⟩
  | scr ns => cases h
theorem re_isI {t : Ty} {x tn : Str} {e : Expr} {f : Env → M T} {p p2 pos : Pos} (hg : Gl X "isinstance") (hm : X.mg "isinstance" = none) (he : PE X e (rdE X.K cA W f)) (ht : PE X (.Name tn p2) (tC (.ty (tyN t))))
    (hs : starEach [e, .Name tn p2] X.env = (false, eval e X.env) :: starEach [.Name tn p2] X.env) :
    PE X (.Call (.Name "isinstance" p) [e, .Name tn p2] [] pos) (rdE X.K cA W fun ρ st => (f ρ st).bind fun x st => isM t x st) := by
  refine PE_imp (pe_callB (p := p) (pos := pos) call_isi hg hm (by decide +kernel) (pa_cons he (pa_cons ht pa_nil (by rfl)) hs) (by decide) (by decide) hs (by rfl)) fun σ H Q q => ?_
  refine At.bind (f := f) (Rel1 := RelT X.K) (g := fun ρ x st => isM t x st) q fun b a w1 ρ s1 ev1 r1 q1 => ?_
  unfold isM at q1
  split at q1
  · rename_i k e1
    obtain ⟨u, h1, h2⟩ := tyx_of s1 r1 e1
    exact ⟨b, .ty (tyN t), u, .type (tyN t), k, rfl, .ty _, h1, h2, q1.ok s1 (rBl _)⟩
  · exact q1.elim
end
end Ev

/-! Ev8: sorting, methods, dict displays, what is walked, comprehensions. -/
namespace Ev
open PySem PySem.Spec PyProof.Rows L2

/-! ### insertion is the library's sorting -/
theorem leD_total : W.TotalLe leD := W.sortLe_total (listOrd itemOrd) false fun b => W.keyToks b
theorem insL_split {α : Type} {le : α → α → Bool} {a : α} : ∀ {l1 l2 : List α}, (∀ b, b ∈ l1 → le a b = false) → (∀ b r, l2 = b :: r → le a b = true) → insL le a (l1 ++ l2) = l1 ++ a :: l2
  | [], [], _, _ => rfl
  | [], b :: r, _, h => by
    show insL le a (b :: r) = a :: b :: r
    simp only [insL, h b r rfl, if_true]
  | x :: l1, l2, h, k => by
    have h0 := h x List.mem_cons_self
    show insL le a (x :: (l1 ++ l2)) = x :: (l1 ++ a :: l2)
    simp only [insL, h0]
    rw [insL_split (fun b hb => h b (List.mem_cons_of_mem _ hb)) k]
    rfl
theorem sortL_merge {α : Type} {le : α → α → Bool} (h : W.TotalLe le) : ∀ l : List α, l.mergeSort le = sortL le l
  | [] => by simp [sortL]
  | a :: l => by
    obtain ⟨l1, l2, e1, e2, e3⟩ := List.mergeSort_cons (le := le) (fun a b c h1 h2 => h.trans a b c h1 h2) (fun a b => Bool.or_eq_true_iff.mpr (h.total a b)) a l
    have s := W.sort_pairwise h (a :: l)
    rw [e1] at s ⊢
    rw [sortL, ← sortL_merge h l, e2]
    refine (insL_split (fun b hb => by simpa using e3 b hb) fun b r hr => ?_).symm
    rw [List.pairwise_append] at s
    have s2 := s.2.1
    rw [hr, List.pairwise_cons] at s2
    exact s2.1 b List.mem_cons_self

section
variable {X : Cx} {cA : Nat → Addr} {W : WX}
theorem each_of {K : PySem.W.Frag} {w : Wd} {H : Heap} : ∀ {vs : List V} {ds : List PyData} {us : List Value}, w.Rs K vs (ds.map T.d) → Vals vs us → PySem.W.EachIs (fun u (b : V × PyData) => RelV b.1 u ∧ RD K w.lv w.H b.1 b.2) us (vs.zip ds)
  | [], [], us, r, v => by cases v; exact .nil
  | [], _ :: _, us, r, v => by cases r
  | _ :: _, [], us, r, v => by cases r
  | v :: vs, d :: ds, us, r, q => by
    rw [List.map_cons] at r
    cases r with
    | cons r rs =>
      cases q with
      | cons q qs =>
        cases r with
        | d r => exact .cons ⟨q, r⟩ (each_of (H := H) rs qs)
theorem of_each {K : PySem.W.Frag} {w : Wd} : ∀ {us : List Value} {bs : List (V × PyData)}, PySem.W.EachIs (fun u (b : V × PyData) => RelV b.1 u ∧ RD K w.lv w.H b.1 b.2) us bs → Vals (bs.map (·.1)) us ∧ w.Rs K (bs.map (·.1)) ((bs.map (·.2)).map T.d)
  | _, _, .nil => ⟨.nil, .nil⟩
  | _, _, .cons h t => ⟨.cons h.1 (of_each t).1, .cons (.d h.2) (of_each t).2⟩
theorem sortOk_split {ds : List PyData} (h : sortOk ds = true) : PySem.W.AllAlike ds ∧ PySem.W.Sortable ds ∧ ∀ d ∈ ds, shapedB d = true := by
  unfold sortOk at h
  simp only [Bool.and_eq_true, Bool.or_eq_true, List.all_eq_true] at h
  obtain ⟨⟨h1, h2⟩, h3⟩ := h
  refine ⟨fun d hd d' hd' => h1 d hd d' hd', ?_, h3⟩
  refine Or.imp (fun h d hd => ?_) (fun h d hd => ?_) h2
  · have := h d hd
    split at this
    · exact ⟨_, _, rfl⟩
    · cases this
  · have := h d hd
    refine ⟨?_, ?_⟩
    · rintro rfl; simp at this
    · rintro xs rfl; simp at this
/-- sorted(x) by values -/
def rSo (K : PySem.W.Frag) : V → Hp → VK → Prop := fun x H Q => ∃ (w : Wd) (t : T) (ts : List T), Sim K w ∧ w.H = H ∧ w.R K x t ∧ sortM t w.st = .ok ts w.st ∧
  ∀ p vs H1, Ext w ⟨w.m, w.st, H1⟩ → Sim K ⟨w.m, w.st, H1⟩ → H1 p = none → RTs K w.lv w.m H1 vs ts → Q (.ref p) (upd H1 p (.lst vs))
theorem cr_sort (hu : X.A.units + 70 < cLine) : CallR X (.builtin "sorted") (fun xs H Q => ∃ x, xs = [x] ∧ rSo X.K x H Q) := by
  intro pins s σ H xs us Q I r ⟨x, ex, w, t, ts, sim, eH, rt, h, q⟩
  subst ex eH
  obtain ⟨u, rfl, rx⟩ := vals1 r
  unfold sortM at h
  cases e1 : lstOf w.st t with
  | none => rw [e1] at h; cases h
  | some xs =>
    rw [e1] at h
    simp only at h
    cases e2 : allD xs with
    | none => rw [e2] at h; cases h
    | some ds =>
      rw [e2] at h
      simp only at h
      split at h
      · rename_i hs
        injection h with h _
        subst h
        obtain ⟨k1, k2, k3⟩ := sortOk_split hs
        obtain ⟨a, vs, rfl, h1, h2⟩ := lstOf_inv sim rt e1
        cases allD_some e2
        cases rx
        obtain ⟨its, rv, pl, hz⟩ := I.list (.inl h1)
        have hl := h2.length
        rw [List.length_map] at hl
        have e := each_of (H := s.heap) h2 rv
        have em : (vs.zip ds).map (·.2) = ds := by rw [List.map_snd_zip]; omega
        have er : PySem.W.EachIs (fun v (b : V × PyData) => ∃ as, Reads s.heap v b.2 as) its (vs.zip ds) := by
          have key : ∀ {us : List Value} {bs : List (V × PyData)}, (∀ b ∈ bs, shapedB b.2 = true) → PySem.W.EachIs (fun u (b : V × PyData) => RelV b.1 u ∧ RD X.K w.lv w.H b.1 b.2) us bs → PySem.W.EachIs (fun v (b : V × PyData) => ∃ as, Reads s.heap v b.2 as) us bs := by
            intro us bs hb h
            induction h with
            | nil => exact .nil
            | @cons u b us bs h _ ih =>
              exact .cons (Dp.reads I _ _ _ (h.2.dp (shaped_noDict (hb b List.mem_cons_self))) h.1) (ih fun b hm => hb b (List.mem_cons_of_mem _ hm))
          exact key (fun b hb => k3 b.2 (List.of_mem_zip hb).2) e
        refine PySem.W.sorted_data (enc := fun b : V × PyData => b.2) (bs := vs.zip ds) pl.isList e er (by rw [em]; exact k1) (by rw [em]; exact k2) ?_ (fun b hb => ?_) fun out ho eo => ?_
        · rw [List.length_zip]; omega
        · have := shaped_depth (k3 b.2 (List.of_mem_zip hb).2)
          omega
        · obtain ⟨v1, v2⟩ := of_each eo
          have em2 : (((vs.zip ds).mergeSort (PySem.W.dataLe false fun b => b.2)).map (·.2)) = sortL leD ds := by
            rw [List.map_mergeSort (r := PySem.W.dataLe false fun b : V × PyData => b.2) (s := leD) (f := fun b : V × PyData => b.2) (fun a _ b _ => rfl), em, sortL_merge leD_total]
          rw [em2] at v2
          obtain ⟨c, hc⟩ := sortedAll_at s.heap its out.toArray
          have hlo : ((((vs.zip ds).mergeSort (PySem.W.dataLe false fun b => b.2))).map (·.1)).length ≤ sizeLine := by
            rw [List.length_map, List.length_mergeSort, List.length_zip]; omega
          refine ⟨.ref (s.heap.objs.size + 1), _, I.laid (t' := s.toks) (o := .lst _) (fun _ _ z => sortedAll_old z) (Nat.le_succ _) ⟨hlo, out, c, v1, hc⟩, rfl, q _ _ w.H (Ext.refl w) sim (I.hok.fresh (Nat.le_succ _)) v2⟩
      · cases h
theorem rl_sorted {e : Expr} {f : Env → M T} {p pos : Pos} (hu : X.A.units + 70 < cLine) (hg : Gl X "sorted") (hm : X.mg "sorted" = none) (he : PE X e (rdE X.K cA W f)) (hs : starEach [e] X.env = (false, eval e X.env) :: starEach [] X.env) :
    PE X (.Call (.Name "sorted" p) [e] [] pos) (rdL X.K cA W fun ρ st => (f ρ st).bind fun x st => sortM x st) := by
  have h := pe_callB (p := p) (pos := pos) (cr_sort hu) hg hm (by decide +kernel) (pa_cons he pa_nil hs) (by decide) (by decide) hs (by rfl)
  refine rl_un (r := fun x H Q => rSo X.K x H Q) (a := e) (PE_imp h fun σ H Q q => ?_) (fun w t x Q ts s r h1 q => ⟨w, t, ts, s, rfl, r, h1, q⟩) fun t st => ?_
  · exact (rd_mono q fun v H' z => ⟨v, rfl, z⟩)
  · unfold sortM
    split
    · split
      · split
        · exact .inl ⟨_, rfl⟩
        · exact .inr rfl
      · exact .inr rfl
    · exact .inr rfl

/-! ### -a -/
theorem re_neg {a : Expr} {f : Env → M T} {pos : Pos} (ha : PE X a (rdE X.K cA W f)) : PE X (.UnaryOp .USub a pos) (rdE X.K cA W fun ρ st => (f ρ st).bind fun x st => negM x st) := by
  refine rd_un (pe_un un_neg ha) fun cA W σ w a x Q s r q => ?_
  unfold negM at q
  split at q
  · exact ⟨_, r.int_inv, q.ok s (rInt _)⟩
  · exact q.elim

/-! ### methods -/
theorem lstRef_inv {K : PySem.W.Frag} {w : Wd} {v : V} {t : T} (s : Sim K w) (r : w.R K v t) (h : isLstRef w.st t = true) : ∃ (n : Nat) (a : Addr) (xs : List T) (vs : List V), t = .ref n ∧ v = .ref a ∧ w.m[n]? = some a ∧ w.st[n]? = some (some (.lst xs)) ∧ w.H a = some (.lst vs) ∧ w.Rs K vs xs := by
  unfold isLstRef at h
  split at h
  · rename_i n
    split at h
    · rename_i xs e
      cases r with
      | ref hm =>
        obtain ⟨vs, h1, h2⟩ := s.obj n _ _ hm e
        exact ⟨n, _, xs, vs, rfl, rfl, hm, e, h1, h2⟩
    · cases h
  · cases h
theorem mr_append {K : PySem.W.Frag} {cA : Nat → Addr} {W : WX} {σ : L2.St} {w : Wd} {a b : T} {x y : V} {Q : VK} (s : Sim K w) (ra : w.R K x a) (rb : w.R K y b) (q : OkG K cA W (RelT K) σ w (mtAppend a b w.st) Q) : rAppend x [y] w.H Q := by
  unfold mtAppend at q
  split at q
  · rename_i n
    split at q
    · rename_i xs e
      split at q
      · rename_i hz
        cases ra with
        | ref hm =>
          obtain ⟨vs, h1, h2⟩ := s.obj n _ _ hm e
          refine ⟨_, vs, y, rfl, rfl, h1, by rw [h2.length]; exact hz, ?_⟩
          have ex := ext_set (q := .lst (xs ++ [b])) (o := .lst (vs ++ [y])) s hm ⟨_, e⟩
          have sx := sim_set (q := .lst (xs ++ [b])) (o := .lst (vs ++ [y])) s hm ⟨_, e⟩ ⟨_, upd_same, (ex.ts h2).append (.cons (ex.t rb) .nil)⟩
          exact q.at_ ex sx (.d .non)
      · exact q.elim
    · exact q.elim
  · exact q.elim
theorem mr_popAt {K : PySem.W.Frag} {cA : Nat → Addr} {W : WX} {σ : L2.St} {w : Wd} {a b : T} {x y : V} {Q : VK} (s : Sim K w) (ra : w.R K x a) (rb : w.R K y b) (q : OkG K cA W (RelT K) σ w (mtPopAt a b w.st) Q) : rPopAt x [y] w.H Q := by
  unfold mtPopAt at q
  split at q
  · rename_i n i
    split at q
    · rename_i xs e
      split at q
      · rename_i k e2
        split at q
        · rename_i t e3
          split at q
          · rename_i hi
            cases rb.int_inv
            cases ra with
            | ref hm =>
              obtain ⟨vs, h1, h2⟩ := s.obj n _ _ hm e
              obtain ⟨v, h3, h4⟩ := h2.get e3
              have hk : seqIndex? i vs.length = some k := by
                rw [h2.length]
                exact (ixN_seq (n := xs.length) (i := i) e2).1
              refine ⟨_, vs, i, k, v, rfl, rfl, h1, hi.1, hi.2, hk, h3, ?_⟩
              have ex := ext_set (q := .lst (xs.eraseIdx k)) (o := .lst (vs.eraseIdx k)) s hm ⟨_, e⟩
              have sx := sim_set (q := .lst (xs.eraseIdx k)) (o := .lst (vs.eraseIdx k)) s hm ⟨_, e⟩ ⟨_, upd_same, (ex.ts h2).eraseIdx k⟩
              exact q.at_ ex sx (ex.t h4)
          · exact q.elim
        · exact q.elim
      · exact q.elim
    · exact q.elim
  · exact q.elim
theorem mr_pop {K : PySem.W.Frag} {cA : Nat → Addr} {W : WX} {σ : L2.St} {w : Wd} {a : T} {x : V} {Q : VK} (s : Sim K w) (ra : w.R K x a) (q : OkG K cA W (RelT K) σ w (mtPop a w.st) Q) : rPop x [] w.H Q := by
  unfold mtPop at q
  split at q
  · rename_i n
    split at q
    · rename_i xs e
      split at q
      · rename_i t e3
        cases ra with
        | ref hm =>
          obtain ⟨vs, h1, h2⟩ := s.obj n _ _ hm e
          obtain ⟨v, h3, h4⟩ := h2.get e3
          refine ⟨_, vs, v, rfl, rfl, h1, by rw [h2.length]; exact h3, ?_⟩
          have dl : ∀ {α : Type} (l : List α), l.dropLast = l.take (l.length - 1) := fun l => List.dropLast_eq_take ..
          have ex := ext_set (q := .lst xs.dropLast) (o := .lst vs.dropLast) s hm ⟨_, e⟩
          have sx := sim_set (q := .lst xs.dropLast) (o := .lst vs.dropLast) s hm ⟨_, e⟩ ⟨_, upd_same, by
            have := (ex.ts h2).take (xs.length - 1)
            have e1 := dl xs
            have e2 := dl vs
            rw [h2.length] at e2
            rw [← e1, ← e2] at this
            exact this⟩
          exact q.at_ ex sx (ex.t h4)
      · exact q.elim
    · exact q.elim
  · exact q.elim
theorem re_append {o e : Expr} {f g : Env → M T} {apos cpos : Pos} (ho : PE X o (rdE X.K cA W f)) (he : PE X e (rdE X.K cA W g)) (hs : starEach [e] X.env = (false, eval e X.env) :: starEach [] X.env)
    (hbase : attributeBase o "append" X.env (eval o X.env) = eval o X.env) (hline : (apos.endLine == cpos.line) = true)
    (hfew : ((backTo cpos (starEach [e] X.env)).all (fun x => !x.1) && (backToKw cpos (keywordEach [] X.env)).all (fun x => x.1.isSome) && decide (([e] : List Expr).length + ([] : List Keyword).length + (if ([] : List Keyword).isEmpty then 0 else 1) < 30)) = true) :
    PE X (.Call (.Attribute o "append" apos) [e] [] cpos) (rdE X.K cA W fun ρ st => (f ρ st).bind fun x st => if recvOk .append st x then (g ρ st).bind fun y st => mt .append x y st else .bad) := by
  refine PE_imp (pe_bm PySem.F.plainAttrs_list PySem.F.slot_list_append PySem.F.type_list_append mt_append ho (pa_cons he pa_nil hs) hbase hfew hline hs (by rfl)) fun σ H Q q => ?_
  refine At.bind (f := f) (Rel1 := RelT X.K) (g := fun ρ x st => if recvOk .append st x then (g ρ st).bind fun y st => mt .append x y st else .bad) q fun b a w1 ρ s1 ev1 r1 q1 => ?_
  by_cases hr : recvOk .append w1.st a = true
  · rw [if_pos hr] at q1
    obtain ⟨n, ad, xs, vs, rfl, rfl, _, _, h1, _⟩ := lstRef_inv s1 r1 hr
    refine ⟨Or.inl ⟨rfl, vs, SqL.of h1⟩, ?_⟩
    refine (show rdE X.K cA W g σ w1.H _ from At.mk s1 ev1 (OkG.bind (Rel1 := RelT X.K) q1 fun b2 a2 w2 e2 s2 r2 q2 => ?_))
    exact mr_append s2 (e2.t r1) r2 q2
  · rw [if_neg hr] at q1; exact q1.elim
theorem re_popAt {o e : Expr} {f g : Env → M T} {apos cpos : Pos} (ho : PE X o (rdE X.K cA W f)) (he : PE X e (rdE X.K cA W g)) (hs : starEach [e] X.env = (false, eval e X.env) :: starEach [] X.env)
    (hbase : attributeBase o "pop" X.env (eval o X.env) = eval o X.env) (hline : (apos.endLine == cpos.line) = true)
    (hfew : ((backTo cpos (starEach [e] X.env)).all (fun x => !x.1) && (backToKw cpos (keywordEach [] X.env)).all (fun x => x.1.isSome) && decide (([e] : List Expr).length + ([] : List Keyword).length + (if ([] : List Keyword).isEmpty then 0 else 1) < 30)) = true) :
    PE X (.Call (.Attribute o "pop" apos) [e] [] cpos) (rdE X.K cA W fun ρ st => (f ρ st).bind fun x st => if recvOk .popAt st x then (g ρ st).bind fun y st => mt .popAt x y st else .bad) := by
  refine PE_imp (pe_bm PySem.F.plainAttrs_list PySem.F.slot_list_pop PySem.F.type_list_pop mt_popAt ho (pa_cons he pa_nil hs) hbase hfew hline hs (by rfl)) fun σ H Q q => ?_
  refine At.bind (f := f) (Rel1 := RelT X.K) (g := fun ρ x st => if recvOk .popAt st x then (g ρ st).bind fun y st => mt .popAt x y st else .bad) q fun b a w1 ρ s1 ev1 r1 q1 => ?_
  by_cases hr : recvOk .popAt w1.st a = true
  · rw [if_pos hr] at q1
    obtain ⟨n, ad, xs, vs, rfl, rfl, _, _, h1, _⟩ := lstRef_inv s1 r1 hr
    refine ⟨Or.inl ⟨rfl, vs, SqL.of h1⟩, ?_⟩
    refine (show rdE X.K cA W g σ w1.H _ from At.mk s1 ev1 (OkG.bind (Rel1 := RelT X.K) q1 fun b2 a2 w2 e2 s2 r2 q2 => ?_))
    exact mr_popAt s2 (e2.t r1) r2 q2
  · rw [if_neg hr] at q1; exact q1.elim
theorem re_pop {o : Expr} {f : Env → M T} {apos cpos : Pos} (ho : PE X o (rdE X.K cA W f)) (hbase : attributeBase o "pop" X.env (eval o X.env) = eval o X.env) (hline : (apos.endLine == cpos.line) = true) :
    PE X (.Call (.Attribute o "pop" apos) [] [] cpos) (rdE X.K cA W fun ρ st => (f ρ st).bind fun x st => if recvOk0 .pop st x then mt0 .pop x st else .bad) := by
  refine PE_imp (pe_bm0 PySem.F.plainAttrs_list PySem.F.slot_list_pop PySem.F.type_list_pop mt_pop ho hbase hline) fun σ H Q q => ?_
  refine At.bind (f := f) (Rel1 := RelT X.K) (g := fun ρ x st => if recvOk0 .pop st x then mt0 .pop x st else .bad) q fun b a w1 ρ s1 ev1 r1 q1 => ?_
  by_cases hr : recvOk0 .pop w1.st a = true
  · rw [if_pos hr] at q1
    obtain ⟨n, ad, xs, vs, rfl, rfl, _, _, h1, _⟩ := lstRef_inv s1 r1 hr
    exact ⟨Or.inl ⟨rfl, vs, SqL.of h1⟩, mr_pop s1 r1 q1⟩
  · rw [if_neg hr] at q1; exact q1.elim
theorem re_join {o e : Expr} {f g : Env → M T} {apos cpos : Pos} (ho : PE X o (rdE X.K cA W f)) (he : PE X e (rdE X.K cA W g)) (hs : starEach [e] X.env = (false, eval e X.env) :: starEach [] X.env)
    (hbase : attributeBase o "join" X.env (eval o X.env) = eval o X.env) (hline : (apos.endLine == cpos.line) = true)
    (hfew : ((backTo cpos (starEach [e] X.env)).all (fun x => !x.1) && (backToKw cpos (keywordEach [] X.env)).all (fun x => x.1.isSome) && decide (([e] : List Expr).length + ([] : List Keyword).length + (if ([] : List Keyword).isEmpty then 0 else 1) < 30)) = true) :
    PE X (.Call (.Attribute o "join" apos) [e] [] cpos) (rdE X.K cA W fun ρ st => (f ρ st).bind fun x st => if recvOk .join st x then (g ρ st).bind fun y st => mt .join x y st else .bad) := by
  refine PE_imp (pe_bm PySem.F.plainAttrs_str PySem.F.slot_str_join PySem.F.type_str_join mt_join ho (pa_cons he pa_nil hs) hbase hfew hline hs (by rfl)) fun σ H Q q => ?_
  refine At.bind (f := f) (Rel1 := RelT X.K) (g := fun ρ x st => if recvOk .join st x then (g ρ st).bind fun y st => mt .join x y st else .bad) q fun b a w1 ρ s1 ev1 r1 q1 => ?_
  by_cases hr : recvOk .join w1.st a = true
  · rw [if_pos hr] at q1
    have hr' : isStrT a = true := hr
    unfold isStrT at hr'
    split at hr'
    · rename_i z
      cases r1.str_inv
      refine ⟨rfl, ?_⟩
      refine (show rdE X.K cA W g σ w1.H _ from At.mk s1 ev1 (OkG.bind (Rel1 := RelT X.K) q1 fun b2 a2 w2 e2 s2 r2 q2 => ?_))
      unfold mt mtJoin at q2
      simp only at q2
      split at q2
      · rename_i xs e3
        split at q2
        · rename_i ys e4
          split at q2
          · rename_i hz
            obtain ⟨p, vs, rfl, h1, h2⟩ := lstOf_inv s2 r2 e3
            cases strsOf_rel h2 e4
            exact ⟨z, p, ys, rfl, rfl, .inl (.inl h1), hz, q2.ok s2 (rStr _)⟩
          · exact q2.elim
        · exact q2.elim
      · exact q2.elim
    · cases hr'
  · rw [if_neg hr] at q1; exact q1.elim
end
end Ev

/-! Ev9: targets, what is walked, comprehensions, statements. -/
namespace Ev
open PySem PySem.Spec PyProof.Rows L2

section
variable (K : PySem.W.Frag) (cA : Nat → Addr) (W : WX)
/-! ### readings -/
abbrev RelEv : Wd → L2.St → Env → Prop := fun w σ ρ => EnvR K w σ ρ
def rdG (f : T → Env → M Env) : TG := fun v σ H Q => ∃ (m : List Addr) (ρ : Env) (st : Sto) (t : T), Sim K ⟨m, st, H⟩ ∧ EnvR K ⟨m, st, H⟩ σ ρ ∧ RT K (Live m st) m H v t ∧ OkG K cA W (RelEv K) σ ⟨m, st, H⟩ (f t ρ st) Q
/-- .. of names among vs alone -/
def rdGo (vs : List Nat) (f : T → Env → M Env) : TG := fun v σ H Q => ∃ (m : List Addr) (ρ : Env) (st : Sto) (t : T), Sim K ⟨m, st, H⟩ ∧ EnvR K ⟨m, st, H⟩ σ ρ ∧ RT K (Live m st) m H v t ∧
  OkG K cA W (fun w σ' ρ' => EnvR K w σ' ρ' ∧ L2.wipe σ' vs = L2.wipe σ vs) σ ⟨m, st, H⟩ (f t ρ st) Q
/-- no exception -/
def OkN {α β : Type} (Rel : Wd → β → α → Prop) (w : Wd) (r : R α) (Q : β → Hp → Prop) : Prop := match r with
  | .ok a st' => ∀ (b : β) (H' : Hp) (m' : List Addr), Ext w ⟨m', st', H'⟩ → Sim K ⟨m', st', H'⟩ → Rel ⟨m', st', H'⟩ b a → Q b H'
  | _ => False
def rdGs (vs : List Nat) (f : List T → Env → M Env) : TGs := fun xs σ H Q => ∃ (m : List Addr) (ρ : Env) (st : Sto) (ts : List T), Sim K ⟨m, st, H⟩ ∧ EnvR K ⟨m, st, H⟩ σ ρ ∧ RTs K (Live m st) m H xs ts ∧
  OkN K (fun w σ' ρ' => EnvR K w σ' ρ' ∧ L2.wipe σ' vs = L2.wipe σ vs) ⟨m, st, H⟩ (f ts ρ st) Q
/-- J walks what is told by ts, at any later time -/
def WalkR : Wd → L2.It → List T → Prop := fun w J ts => ∃ (G : Hp → Prop) (Y : Nat → Hp → V → Hp → Prop), Walk J ts.length G Y ∧ (∀ w' : Wd, Ext w w' → Sim K w' → G w'.H) ∧
  ∀ (w' : Wd) (i : Nat) (t : T) (x : V) (H'' : Hp), Ext w w' → Sim K w' → ts[i]? = some t → Y i w'.H x H'' → Ext w' ⟨w'.m, w'.st, H''⟩ ∧ Sim K ⟨w'.m, w'.st, H''⟩ ∧ RT K (Live w'.m w'.st) w'.m H'' x t
def rdI (f : Env → M (List T)) : TI := fun σ H R => At K σ H fun w ρ => OkG K cA W (WalkR K) σ w (f ρ w.st) R

/-- what is wanted of a statement's end -/
def OkS (D : Ends) (w : Wd) : SR → Prop
  | .nx ρ st => ∀ (σ : L2.St) (H : Hp) (m : List Addr), Ext w ⟨m, st, H⟩ → Sim K ⟨m, st, H⟩ → EnvR K ⟨m, st, H⟩ σ ρ → D.nx σ H
  | .bk ρ st => ∀ (σ : L2.St) (H : Hp) (m : List Addr), Ext w ⟨m, st, H⟩ → Sim K ⟨m, st, H⟩ → EnvR K ⟨m, st, H⟩ σ ρ → D.bk σ H
  | .ct ρ st => ∀ (σ : L2.St) (H : Hp) (m : List Addr), Ext w ⟨m, st, H⟩ → Sim K ⟨m, st, H⟩ → EnvR K ⟨m, st, H⟩ σ ρ → D.ct σ H
  | .rt t st => ∀ (v : V) (H : Hp) (m : List Addr), Ext w ⟨m, st, H⟩ → Sim K ⟨m, st, H⟩ → RT K (Live m st) m H v t → D.rt v H
  | .exn e ρ st => ∀ (σ : L2.St) (H : Hp) (m : List Addr) (dx : Addr) (fs : List (Str × V)), Ext w ⟨m, st, H⟩ → Sim K ⟨m, st, H⟩ → EnvR K ⟨m, st, H⟩ σ ρ → H dx = some (.xd fs) →
      Paired (fun (p : Str × V) (q : Str × T) => p.1 = q.1 ∧ RT K (Live m st) m H p.2 q.2) fs e.fs → W (.ref (cA e.cls)) (some dx) σ H
  | .bad => False
def rdS (f : Env → Sto → SR) : TS := fun D σ H => At K σ H fun w ρ => OkS K cA W D w (f ρ w.st)
end

section
variable {K : PySem.W.Frag} {cA : Nat → Addr} {W : WX}
theorem OkS.ext {D : Ends} {w w1 : Wd} {r : SR} (x : Ext w w1) (h : OkS K cA W D w r) : OkS K cA W D w1 r := by
  cases r with
  | nx ρ st => exact fun σ H m e s v => h σ H m (x.trans e) s v
  | bk ρ st => exact fun σ H m e s v => h σ H m (x.trans e) s v
  | ct ρ st => exact fun σ H m e s v => h σ H m (x.trans e) s v
  | rt ρ st => exact fun σ H m e s v => h σ H m (x.trans e) s v
  | exn e ρ st => exact fun σ H m dx fs e s v => h σ H m dx fs (x.trans e) s v
  | bad => exact h
/-- an expression's end within a statement -/
theorem OkS.of {α β : Type} {Rel : Wd → β → α → Prop} {D : Ends} {σ : L2.St} {w : Wd} {ρ : Env} {r : R α} {f : α → Sto → SR} {Q : β → Hp → Prop} (ev : EnvR K w σ ρ) (h : OkS K cA W D w (r.toS ρ f))
    (k : ∀ (b : β) (a : α) (w1 : Wd), Ext w w1 → Sim K w1 → Rel w1 b a → OkS K cA W D w1 (f a w1.st) → Q b w1.H) : OkG K cA W Rel σ w r Q := by
  cases r with
  | ok a st => exact fun b H' m' e s q => k b a ⟨m', st, H'⟩ e s q (OkS.ext e h)
  | exn x st => exact fun m' H' dx fs e s hx hf => h σ H' m' dx fs e s (ev.ext e) hx hf
  | bad => exact h
theorem At.of {α β : Type} {Rel : Wd → β → α → Prop} {D : Ends} {σ : L2.St} {H : Hp} {f : Env → M α} {g : Env → α → Sto → SR} {Q : β → Hp → Prop} (h : At K σ H fun w ρ => OkS K cA W D w ((f ρ w.st).toS ρ (g ρ)))
    (k : ∀ (b : β) (a : α) (w1 : Wd) (ρ : Env), Sim K w1 → EnvR K w1 σ ρ → Rel w1 b a → OkS K cA W D w1 (g ρ a w1.st) → Q b w1.H) : At K σ H fun w ρ => OkG K cA W Rel σ w (f ρ w.st) Q := by
  obtain ⟨m, ρ, st, s, ev, h⟩ := h
  exact ⟨m, ρ, st, s, ev, OkS.of ev h fun b a w1 e s1 r q => k b a w1 ρ s1 (ev.ext e) r q⟩
end

/-! ### targets -/
section
variable {X : Cx} {cA : Nat → Addr} {W : WX}
theorem rg_weak {tg : Expr} {vs : List Nat} {f : T → Env → M Env} (h : PG X tg (rdGo X.K cA W vs f)) : PG X tg (rdG X.K cA W f) :=
  PG_imp h fun v σ H Q ⟨m, ρ, st, t, s, ev, r, q⟩ => ⟨m, ρ, st, t, s, ev, r, by
    cases e : f t ρ st with
    | ok a st1 => rw [e] at q; exact fun b H' m' e s z => q b H' m' e s z.1
    | exn x st1 => rw [e] at q; exact q
    | bad => rw [e] at q; exact q⟩
theorem wipe_set {σ : L2.St} {o : Option V} : ∀ {vs : List Nat} {i : Nat}, i ∈ vs → L2.wipe (σ.set i o) vs = L2.wipe σ vs := by
  have comm : ∀ (vs : List Nat) (i : Nat) (τ : L2.St) (o : Option V), i ∉ vs → L2.wipe (τ.set i o) vs = (L2.wipe τ vs).set i o := by
    intro vs
    induction vs with
    | nil => intro i τ o _; rfl
    | cons x r ih =>
      intro i τ o h
      simp only [List.mem_cons, not_or] at h
      show (L2.wipe (τ.set i o) r).set x none = ((L2.wipe τ r).set x none).set i o
      rw [ih i τ o h.2, List.set_comm _ _ h.1]
  intro vs
  induction vs with
  | nil => intro i h; cases h
  | cons x r ih =>
    intro i h
    show (L2.wipe (σ.set i o) r).set x none = (L2.wipe σ r).set x none
    by_cases hi : i ∈ r
    · rw [ih hi]
    · have e : i = x := by rcases List.mem_cons.mp h with z | z; exact z; exact absurd z hi
      rw [comm r i σ o hi, e, List.set_set]
theorem rgo_nm {i : Nat} {vs : List Nat} {x : Str} {pos : Pos} (h : PG X (.Name x pos) (gName i)) (hi : i ∈ vs) : PG X (.Name x pos) (rdGo X.K cA W vs fun t ρ st => .ok (ρ.set i (some t)) st) :=
  PG_imp h fun v σ H Q ⟨m, ρ, st, t, s, ev, r, q⟩ => q (σ.set i (some v)) H m (Ext.refl _) s ⟨ev.set r, wipe_set hi⟩
theorem rgs_nil {vs : List Nat} {f : Tg → T → Env → M Env} : PGs X [] (rdGs X.K vs fun xs ρ => asgTsW f [] xs ρ) :=
  ⟨fun pins s σ H us zs Q I r ⟨m, ρ, st, ts, sim, ev, rs, q⟩ => pgs_nil.run pins s σ H us zs Q I r (by
    cases rs with
    | nil => exact ⟨rfl, q σ H m (Ext.refl _) sim ⟨ev, rfl⟩⟩
    | cons _ _ => exact q.elim)⟩
theorem rgs_cons {e : Expr} {es : List Expr} {vs : List Nat} {tg : Tg} {tgs : List Tg} {f : Tg → T → Env → M Env} (h1 : PG X e (rdGo X.K cA W vs (f tg))) (h2 : PGs X es (rdGs X.K vs fun xs ρ => asgTsW f tgs xs ρ))
    (hs : (assignEach (e :: es) X.env).map (·.2) = assign e X.env :: (assignEach es X.env).map (·.2)) : PGs X (e :: es) (rdGs X.K vs fun xs ρ => asgTsW f (tg :: tgs) xs ρ) :=
  ⟨fun pins s σ H us zs Q I r ⟨m, ρ, st, ts, sim, ev, rs, q⟩ => (pgs_cons h1 h2 hs).run pins s σ H us zs Q I r (by
    cases rs with
    | nil => exact q.elim
    | @cons v vs' t ts' r1 rs =>
      refine ⟨v, vs', rfl, m, ρ, st, t, sim, ev, r1, ?_⟩
      have q' : OkN X.K _ ⟨m, st, H⟩ ((f tg t ρ st).bind fun ρ st => asgTsW f tgs ts' ρ st) Q := q
      cases e1 : f tg t ρ st with
      | ok ρ1 st1 =>
        rw [e1] at q'
        simp only [R.bind_ok] at q'
        intro σ1 H1 m1 x1 s1 z1
        refine ⟨m1, ρ1, st1, ts', s1, z1.1, x1.ts rs, ?_⟩
        show OkN X.K _ _ (asgTsW f tgs ts' ρ1 st1) Q
        cases e2 : asgTsW f tgs ts' ρ1 st1 with
        | ok a st2 =>
          rw [e2] at q'
          intro b H' m' e s z
          exact q' b H' m' (x1.trans e) s ⟨z.1, z.2.trans z1.2⟩
        | exn x st1 => rw [e2] at q'; exact q'.elim
        | bad => rw [e2] at q'; exact q'.elim
      | exn x st1 => rw [e1] at q'; exact q'.elim
      | bad => rw [e1] at q'; exact q'.elim)⟩
theorem rgo_tup {es : List Expr} {k : Nat} {pos : Pos} {vs : List Nat} {tgs : List Tg} {f : Tg → T → Env → M Env} (hc : X.calm = true) (h : PGs X es (rdGs X.K vs fun xs ρ => asgTsW f tgs xs ρ)) (hl : es.length = tgs.length)
    (hn : (assignEach es X.env).length = tgs.length) (hst : (assignEach es X.env).findIdx? (·.1) = none) : 
    PG X (.Tuple es k pos) (rdGo X.K cA W vs fun t ρ st => match tupOf t with
      | some xs => noX (asgTsW f tgs xs ρ st)
      | none => .bad) := by
  refine PG_imp (pg_tup hc h hn hst) fun v σ H Q ⟨m, ρ, st, t, s, ev, r, q⟩ => ?_
  dsimp only at q
  cases e : tupOf t with
  | none => rw [e] at q; exact q.elim
  | some xs =>
    rw [e] at q
    dsimp only at q
    obtain ⟨a, us, rfl, h1, h2⟩ := tupOf_inv (w := ⟨m, st, H⟩) r e
    have hlen : xs.length = tgs.length := by
      have go : ∀ (tgs : List Tg) (xs : List T) (ρ : Env) (st st' : Sto) (ρ' : Env), asgTsW f tgs xs ρ st = .ok ρ' st' → xs.length = tgs.length := by
        intro tgs
        induction tgs with
        | nil => intro xs ρ st st' ρ' h; cases xs with | nil => rfl | cons _ _ => cases h
        | cons g gs ih =>
          intro xs ρ st st' ρ' h
          cases xs with
          | nil => cases h
          | cons x xs =>
            have h' : (f g x ρ st).bind (fun ρ st => asgTsW f gs xs ρ st) = .ok ρ' st' := h
            cases e : f g x ρ st with
            | ok a st1 => rw [e] at h'; exact congrArg Nat.succ (ih _ _ _ _ _ h')
            | exn _ _ => rw [e] at h'; cases h'
            | bad => rw [e] at h'; cases h'
      cases e2 : asgTsW f tgs xs ρ st with
      | ok a st1 => exact go _ _ _ _ _ _ e2
      | exn _ _ => rw [e2] at q; exact q.elim
      | bad => rw [e2] at q; exact q.elim
    refine ⟨a, us, rfl, h1.seq, by rw [RTs.length h2, hlen], m, ρ, st, xs, s, ev, h2, ?_⟩
    show OkN X.K _ _ (asgTsW f tgs xs ρ st) Q
    cases e2 : asgTsW f tgs xs ρ st with
    | ok a st1 => rw [e2] at q; exact q
    | exn _ _ => rw [e2] at q; exact q.elim
    | bad => rw [e2] at q; exact q.elim
end
end Ev

/-! Ev10: stores into items, iterables, comprehensions. -/
namespace Ev
open PySem PySem.Spec PyProof.Rows L2
section
variable {K : PySem.W.Frag}
theorem putK_rel {w : Wd} {k : Ky} {v : V} {t : T} {ks : List (Key × V)} {kvs : List (Ky × T)} (h : KvR K w ks kvs) (r : w.R K v t) : KvR K w (putK ks k v) (dPut k t kvs) := by
  have e1 : ks.any (fun kv => decide (kv.1 = k)) = kvs.any (fun q => kyEq q.1 k) := by
    induction h with
    | nil => rfl
    | cons a _ ih => simp only [List.any_cons, ih, a.1, kyEq_iff]
  have h2 : KvR K w (ks.map (fun kv => if kv.1 = k then (kv.1, v) else kv)) (kvs.map (fun q => if kyEq q.1 k then (q.1, t) else q)) := by
    induction h with
    | nil => exact .nil
    | @cons p q ps qs a t0 ih =>
      simp only [List.map_cons, kyEq_iff, decide_eq_true_eq]
      have ih := ih (by
        clear ih e1
        induction t0 with
        | nil => rfl
        | cons a _ ih => simp only [List.any_cons, ih, a.1, kyEq_iff])
      simp only [kyEq_iff, decide_eq_true_eq] at ih
      refine .cons ?_ ih
      by_cases e : p.1 = k
      · have e' : q.1 = k := a.1 ▸ e
        rw [if_pos e, if_pos e']
        exact ⟨a.1, r⟩
      · have e' : ¬ q.1 = k := a.1 ▸ e
        rw [if_neg e, if_neg e']
        exact a
  have h3 : KvR K w (ks ++ [(k, v)]) (kvs ++ [(k, t)]) := by
    clear e1 h2
    induction h with
    | nil => exact .cons ⟨rfl, r⟩ .nil
    | cons a _ ih => exact .cons a ih
  unfold putK dPut
  rw [e1]
  cases kvs.any (fun q => kyEq q.1 k) with
  | true => simpa using h2
  | false => simpa using h3
end
section
variable {X : Cx} {cA : Nat → Addr} {W : WX}
def rSet (K : PySem.W.Frag) : TSet := fun x y v H Q => ∃ (cA : Nat → Addr) (W : WX) (σ : L2.St) (w : Wd) (a b t : T), Sim K w ∧ w.H = H ∧ w.R K x a ∧ w.R K y b ∧ w.R K v t ∧
  OkG K cA W (fun (_ : Wd) (_ : Unit) (_ : Unit) => True) σ w (setIt a b t w.st) (fun _ H => Q H)
theorem set_it (hu : X.A.units + 1 < cLine) : PSet X (rSet X.K) := by
  intro pins s σ H o i v ov iv u Q I ro ri rv ⟨cA, W, σ0, w, a, b, t, sim, eH, ra, rb, rt, q⟩
  subst eH
  unfold setIt at q
  split at q
  · rename_i n
    cases ra with
    | ref hm =>
      rename_i p
      split at q
      · rename_i kvs hs
        split at q
        · rename_i k hk
          split at q
          · rename_i hz
            obtain ⟨ks, h1, h2⟩ := sim.obj n _ _ hm hs
            cases toKy_inv rb hk
            cases (show ov = Value.ref p from ro)
            have hl := Paired.length h2
            have ex := ext_set (o := .dK (putK ks k v)) (q := .dct (dPut k t kvs)) sim hm ⟨_, hs⟩
            refine d_setItem (a := p) hu I (.inl ⟨ks, k, h1, rfl, by omega, rfl⟩) ri rv fun s' I' => ⟨_, I', ?_⟩
            exact q () _ w.m ex (sim_set sim hm ⟨_, hs⟩ ⟨_, upd_same, putK_rel (KvR.ext ex h2) (ex.t rt)⟩) trivial
          · exact q.elim
        · exact q.elim
      · rename_i xs hs
        split at q
        · rename_i k
          split at q
          · rename_i j hj
            obtain ⟨vs, h1, h2⟩ := sim.obj n _ _ hm hs
            cases rb.int_inv
            have ex := ext_set (o := .lst (vs.set j v)) (q := .lst (xs.set j t)) sim hm ⟨_, hs⟩
            refine set_list pins s σ w.H _ _ v ov iv u Q I ro ri rv ⟨p, vs, k, j, rfl, rfl, h1, ?_, ?_⟩
            · rw [← hj, h2.length]; rfl
            · exact q () _ w.m ex (sim_set sim hm ⟨_, hs⟩ ⟨_, upd_same, RTs.set (ex.t rt) j (ex.ts h2)⟩) trivial
          · exact q.elim
        · exact q.elim
      · exact q.elim
  · exact q.elim
theorem rg_sub {o i : Expr} {f g : Env → M T} {pos : Pos} (hu : X.A.units + 1 < cLine) (ho : PE X o (rdE X.K cA W f)) (hi : PE X i (rdE X.K cA W g))
    (ha : ∀ v, assign (.Subscript o i pos) X.env v = (do
      let ov ← holding [v] (eval o X.env)
      let iv ← holding [v, ov] (eval i X.env)
      standAt pos
      holding [v, ov, iv] (setItem ov iv v)
      release [v, ov, iv] [])) : PG X (.Subscript o i pos) (rdG X.K cA W fun t ρ st => (f ρ st).bind fun x st => (g ρ st).bind fun y st => (setIt x y t st).bind fun _ st => .ok ρ st) := by
  refine PG_imp (pg_sub ho hi (set_it hu) ha) fun v σ H Q ⟨m, ρ, st, t, s, ev, r, q⟩ => ?_
  refine ⟨m, ρ, st, s, ev, OkG.bind (Rel1 := RelT X.K) q fun x a w1 e1 s1 r1 q1 => ?_⟩
  refine ⟨w1.m, ρ, w1.st, s1, ev.ext e1, OkG.bind (Rel1 := RelT X.K) q1 fun y b w2 e2 s2 r2 q2 => ?_⟩
  refine ⟨cA, W, σ, w2, a, b, t, s2, rfl, e2.t r1, r2, e2.t (e1.t r), ?_⟩
  refine OkG.bind (Rel1 := fun (_ : Wd) (_ : Unit) (_ : Unit) => True) q2 fun _ _ w3 e3 s3 _ q3 => ?_
  exact q3 σ w3.H w3.m (Ext.refl _) s3 (((ev.ext e1).ext e2).ext e3)
end
end Ev

/-! Ev11: iterables. -/
namespace Ev
open PySem PySem.Spec PyProof.Rows L2
section
variable {K : PySem.W.Frag}
theorem RTs.nth {lv : Addr → Prop} {m : List Addr} {H : Hp} : ∀ {vs : List V} {ts : List T} {i : Nat} {t : T} {x : V}, RTs K lv m H vs ts → ts[i]? = some t → vs[i]? = some x → RT K lv m H x t := by
  intro vs ts i t x r h1 h2
  obtain ⟨v, h3, h4⟩ := r.get h1
  rw [h3] at h2; cases h2
  exact h4
theorem walk_frz {w : Wd} {a : Addr} {vs : List V} {ts : List T} (h : SqF w.lv w.H a vs) (r : w.Rs K vs ts) : WalkR K w (Itl K a) ts := by
  refine ⟨fun H => SqL K H a vs, YAt vs, by rw [← RTs.length r]; exact walk_list, fun w' e s => (e.sq h).seq, fun w' i t x H'' e s ht y => ?_⟩
  obtain ⟨y1, y2⟩ := y
  subst y1
  exact ⟨Ext.refl _, s, (e.ts r).nth ht y2⟩
theorem walk_tpf {w : Wd} {a : Addr} {vs : List V} {ts : List T} (h : TpF K w.lv w.H a vs) (r : w.Rs K vs ts) : WalkR K w (Itt K a) ts := by
  refine ⟨fun H => SqT K H a vs, YAt vs, by rw [← RTs.length r]; exact walk_tup, fun w' e s => (e.tp h).seq, fun w' i t x H'' e s ht y => ?_⟩
  obtain ⟨y1, y2⟩ := y
  subst y1
  exact ⟨Ext.refl _, s, (e.ts r).nth ht y2⟩
theorem walk_txt {w : Wd} (z : Str) : WalkR K w (Its z) (z.cps.toList.map fun c => T.d (.str ⟨#[c]⟩)) := by
  refine ⟨fun _ => True, fun i H v H' => H' = H ∧ ∃ c, z.cps[i]? = some c ∧ v = .str ⟨#[c]⟩, by rw [List.length_map, Array.length_toList]; exact walk_str, fun _ _ _ => trivial, fun w' i t x H'' e s ht y => ?_⟩
  obtain ⟨y1, c, y2, y3⟩ := y
  subst y1 y3
  rw [List.getElem?_map, Array.getElem?_toList, y2] at ht
  cases ht
  exact ⟨Ext.refl _, s, rStr (w := w') _⟩
theorem rngT_get : ∀ (n : Nat) (lo : Int) (i : Nat) (t : T), (rngT lo n)[i]? = some t → t = .d (.int (lo + i))
  | 0, lo, i, t, h => by simp [rngT] at h
  | n + 1, lo, 0, t, h => by
    simp only [rngT, List.getElem?_cons_zero, Option.some.injEq] at h
    rw [← h]; simp
  | n + 1, lo, i + 1, t, h => by
    simp only [rngT, List.getElem?_cons_succ] at h
    rw [rngT_get n _ i t h]
    congr 2
    omega
theorem rngT_length : ∀ (n : Nat) (lo : Int), (rngT lo n).length = n
  | 0, _ => rfl
  | n + 1, lo => congrArg Nat.succ (rngT_length n _)
theorem walk_rng {w : Wd} (lo : Int) (n : Nat) : WalkR K w (Itr lo n) (rngT lo n) := by
  refine ⟨fun _ => True, YFn fun i => .int (lo + i), by rw [rngT_length]; exact walk_range, fun _ _ _ => trivial, fun w' i t x H'' e s ht y => ?_⟩
  obtain ⟨y1, y2⟩ := y
  subst y1
  cases rngT_get n lo i t ht
  rw [y2]
  exact ⟨Ext.refl _, s, rInt (w := w') _⟩
theorem zipT_get : ∀ {xs ys : List T} {i : Nat} {t : T}, (zipT xs ys)[i]? = some t → ∃ a b, xs[i]? = some a ∧ ys[i]? = some b ∧ t = mkTup [a, b]
  | [], _, i, t, h => by simp [zipT] at h
  | _ :: _, [], i, t, h => by simp [zipT] at h
  | x :: xs, y :: ys, 0, t, h => by
    simp only [zipT, List.getElem?_cons_zero, Option.some.injEq] at h
    exact ⟨x, y, rfl, rfl, h.symm⟩
  | x :: xs, y :: ys, i + 1, t, h => by
    simp only [zipT, List.getElem?_cons_succ] at h
    simpa using zipT_get h
theorem zipT_length : ∀ (xs ys : List T), (zipT xs ys).length = min xs.length ys.length
  | [], _ => by simp [zipT]
  | _ :: _, [] => by simp [zipT]
  | x :: xs, y :: ys => by
    simp only [zipT, List.length_cons, zipT_length xs ys]
    omega
theorem pair_new {w' : Wd} {T0 : Addr} {x y : V} {a b : T} (s : Sim K w') (hn : w'.H T0 = none) (ra : w'.R K x a) (rb : w'.R K y b) :
    Ext w' ⟨w'.m, w'.st, upd w'.H T0 (.tup [x, y])⟩ ∧ Sim K ⟨w'.m, w'.st, upd w'.H T0 (.tup [x, y])⟩ ∧ RT K (Live w'.m w'.st) w'.m (upd w'.H T0 (.tup [x, y])) (.ref T0) (mkTup [a, b]) := by
  have e := ext_new (o := .tup [x, y]) s hn
  exact ⟨e, sim_new s hn, mkTup_ok (.inl ⟨.inl upd_same, notLive_new s hn⟩) (.cons (e.t ra) (.cons (e.t rb) .nil))⟩
theorem walk_zipL {w : Wd} {a b : Addr} {vs us : List V} {ts ss : List T} (h : SqF w.lv w.H a vs) (r : w.Rs K vs ts) (h2 : SqF w.lv w.H b us) (r2 : w.Rs K us ss) : WalkR K w (Itz K a b) (zipT ts ss) := by
  refine ⟨fun H => SqL K H a vs ∧ SqL K H b us, YPair (fun i => vs[i]?) (fun i => us[i]?), walk_zip (by rw [zipT_length, RTs.length r, RTs.length r2]), fun w' e s => ⟨(e.sq h).seq, (e.sq h2).seq⟩, fun w' i t x H'' e s ht y => ?_⟩
  obtain ⟨T0, x1, y1, e1, e2, e3, e4, e5⟩ := y
  subst e1 e3
  obtain ⟨t1, t2, q1, q2, rfl⟩ := zipT_get ht
  exact pair_new s e2 ((e.ts r).nth q1 e4) ((e.ts r2).nth q2 e5)
end
section
variable {X : Cx} {cA : Nat → Addr} {W : WX} {tg : Expr}
/-- told what the expression comes to, one walk of that kind -/
theorem ri_by {e : Expr} {f : Env → M T} {o : T → M (List T)} (he : PE X e (rdE X.K cA W f))
    (k : ∀ (w : Wd) (v : V) (t : T) (R : L2.It → Hp → Prop) (σ : L2.St), Sim X.K w → w.R X.K v t → OkG X.K cA W (WalkR X.K) σ w (o t w.st) R →
      (∃ a, v = .ref a ∧ (∃ xs, SqL X.K w.H a xs) ∧ R (Itl X.K a) w.H) ∧ lstOf w.st t ≠ none ∨ (∃ a, v = .ref a ∧ (∃ xs, SqT X.K w.H a xs) ∧ R (Itt X.K a) w.H) ∧ tupOf t ≠ none ∨ (∃ x, v = .str x ∧ R (Its x) w.H) ∧ lstOf w.st t = none ∧ tupOf t = none)
    : PI X tg e (rdI X.K cA W fun ρ st => (f ρ st).bind fun x st => o x st) := by
  refine ⟨fun pins s σ H R I ⟨m, ρ, st, sim, ev, q⟩ => ?_⟩
  dsimp only at q
  cases e1 : f ρ st with
  | bad => rw [e1] at q; exact q.elim
  | exn x st1 =>
    rw [e1] at q
    refine (pi_list (tg := tg) he).run pins s σ H R I ⟨m, ρ, st, sim, ev, ?_⟩
    dsimp only
    rw [e1]; exact q
  | ok t st1 =>
    rw [e1] at q
    have q : OkG X.K cA W (WalkR X.K) σ ⟨m, st, H⟩ (o t st1) R := q
    by_cases h1 : lstOf st1 t = none
    · by_cases h2 : tupOf t = none
      · refine (pi_str (tg := tg) he).run pins s σ H R I ⟨m, ρ, st, sim, ev, ?_⟩
        dsimp only
        rw [e1]
        intro v H' m' e2 s2 r
        rcases k ⟨m', st1, H'⟩ v t R σ s2 r (OkG.ext e2 q) with ⟨_, z⟩ | ⟨_, z⟩ | ⟨z, _⟩
        · exact absurd h1 z
        · exact absurd h2 z
        · exact z
      · refine (pi_tup (tg := tg) he).run pins s σ H R I ⟨m, ρ, st, sim, ev, ?_⟩
        dsimp only
        rw [e1]
        intro v H' m' e2 s2 r
        rcases k ⟨m', st1, H'⟩ v t R σ s2 r (OkG.ext e2 q) with ⟨_, z⟩ | ⟨z, _⟩ | ⟨_, _, z⟩
        · exact absurd h1 z
        · exact z
        · exact absurd z h2
    · refine (pi_list (tg := tg) he).run pins s σ H R I ⟨m, ρ, st, sim, ev, ?_⟩
      dsimp only
      rw [e1]
      intro v H' m' e2 s2 r
      rcases k ⟨m', st1, H'⟩ v t R σ s2 r (OkG.ext e2 q) with ⟨z, _⟩ | ⟨_, z⟩ | ⟨_, z, _⟩
      · exact z
      · exfalso
        cases t with
        | d x => cases x <;> first | exact h1 rfl | exact z rfl
        | ref n => exact z rfl
        | tup ts => exact h1 rfl
        | lst ts => exact z rfl
        | scr ts => exact z rfl
      · exact absurd z h1
theorem ri_seq {e : Expr} {f : Env → M T} (he : PE X e (rdE X.K cA W f)) : PI X tg e (rdI X.K cA W fun ρ st => (f ρ st).bind fun x st => seqM x st) := by
  refine ri_by he fun w v t R σ sim r q => ?_
  unfold seqM at q
  cases e1 : itemsOf t with
  | none => rw [e1] at q; exact q.elim
  | some xs =>
    rw [e1] at q
    have fin : ∀ {J : L2.It}, WalkR X.K w J xs → R J w.H := fun h => q.ok sim h
    unfold itemsOf at e1
    split at e1
    · rename_i z
      cases e1
      cases r.str_inv
      exact .inr (.inr ⟨⟨z, rfl, fin (walk_txt z)⟩, rfl, rfl⟩)
    · rename_i ds
      cases e1
      cases r with
      | d r => cases r with | lst h r => exact .inl ⟨⟨_, rfl, ⟨_, h.seq⟩, fin (walk_frz h r.rts)⟩, nofun⟩
    · rename_i ds
      cases e1
      cases r with
      | d r => cases r with | tup h r => exact .inr (.inl ⟨⟨_, rfl, ⟨_, h.seq⟩, fin (walk_tpf h r.rts)⟩, nofun⟩)
    · cases e1
      cases r with
      | tup h r => exact .inr (.inl ⟨⟨_, rfl, ⟨_, h.seq⟩, fin (walk_tpf h r)⟩, nofun⟩)
    · cases e1
      cases r with
      | lst h r => exact .inl ⟨⟨_, rfl, ⟨_, h.seq⟩, fin (walk_frz h r)⟩, nofun⟩
    · cases e1
theorem PI_of {e : Expr} {t : TI} {f : Env → M (List T)} (h : PI X tg e t) (k : ∀ σ H Q, rdI X.K cA W f σ H Q → t σ H Q) : PI X tg e (rdI X.K cA W f) := PI_imp h k
theorem small62_iff {i : Int} (h : small62 i = true) : -(2 ^ 62) ≤ i ∧ i < 2 ^ 62 := by
  unfold small62 at h
  simpa [Bool.and_eq_true] using h
theorem ri_rng {a : Expr} {f : Env → M T} {p pos : Pos} (hg : Gl X "range") (hm : X.mg "range" = none) (ha : PE X a (rdE X.K cA W f)) (hs : starEach [a] X.env = [(false, eval a X.env)]) (hs0 : starEach [] X.env = []) :
    PI X tg (.Call (.Name "range" p) [a] [] pos) (rdI X.K cA W fun ρ st => (f ρ st).bind fun x st => rngM x st) := by
  refine PI_imp (pi_range1 hg hm (pa_cons ha pa_nil (by rw [hs, hs0])) hs) fun σ H R q => ?_
  refine At.bind (Rel1 := RelT X.K) (f := f) (g := fun ρ x st => rngM x st) q fun b x w1 ρ s1 ev1 r1 q1 => ?_
  unfold rngM at q1
  split at q1
  · rename_i n
    split at q1
    · rename_i h
      cases r1.int_inv
      exact ⟨n, rfl, (small62_iff h).1, (small62_iff h).2, q1.ok s1 (walk_rng 0 _)⟩
    · exact q1.elim
  · exact q1.elim
theorem ri_rng2 {a b : Expr} {f g : Env → M T} {p pos : Pos} (hg : Gl X "range") (hm : X.mg "range" = none) (ha : PE X a (rdE X.K cA W f)) (hb : PE X b (rdE X.K cA W g)) (hs : starEach [a, b] X.env = [(false, eval a X.env), (false, eval b X.env)]) (hs2 : starEach [b] X.env = [(false, eval b X.env)]) (hs0 : starEach [] X.env = []) :
    PI X tg (.Call (.Name "range" p) [a, b] [] pos) (rdI X.K cA W fun ρ st => (f ρ st).bind fun x st => (g ρ st).bind fun y st => rng2M x y st) := by
  refine PI_imp (pi_range2 hg hm (pa_cons ha (pa_cons hb pa_nil (by rw [hs2, hs0])) (by rw [hs, hs2])) hs hs2) fun σ H R q => ?_
  refine At.bind (Rel1 := RelT X.K) (f := f) (g := fun ρ x st => (g ρ st).bind fun y st => rng2M x y st) q fun v1 x w1 ρ s1 ev1 r1 q1 => ?_
  refine (show rdE X.K cA W g σ w1.H _ from At.mk s1 ev1 (OkG.bind (Rel1 := RelT X.K) q1 fun v2 y w2 e2 s2 r2 q2 => ?_))
  unfold rng2M at q2
  split at q2
  · rename_i i j
    split at q2
    · rename_i h
      rw [Bool.and_eq_true] at h
      cases r1.int_inv
      cases r2.int_inv
      exact ⟨i, j, rfl, ⟨(small62_iff h.1).1, (small62_iff h.1).2, (small62_iff h.2).1, (small62_iff h.2).2⟩, q2.ok s2 (walk_rng i _)⟩
    · exact q2.elim
  · exact q2.elim
theorem walk_zipT {K : PySem.W.Frag} {w : Wd} {a b : Addr} {vs us : List V} {ts ss : List T} (h : TpF K w.lv w.H a vs) (r : w.Rs K vs ts) (h2 : TpF K w.lv w.H b us) (r2 : w.Rs K us ss) : WalkR K w (RZ.ItzT K a b) (zipT ts ss) := by
  refine ⟨fun H => SqT K H a vs ∧ SqT K H b us, YPair (fun i => vs[i]?) (fun i => us[i]?), ?_, fun w' e s => ⟨(e.tp h).seq, (e.tp h2).seq⟩, fun w' i t x H'' e s ht y => ?_⟩
  · have hl : (zipT ts ss).length = min vs.length us.length := by rw [zipT_length, RTs.length r, RTs.length r2]
    rw [hl]
    refine ⟨fun i H hi q => ?_, fun H q => ⟨vs, us, q.1, q.2, by omega⟩, fun i H v H' hi q y => ?_⟩
    · have h1 : i < vs.length := by omega
      have h2 : i < us.length := by omega
      exact ⟨vs, us, vs[i], us[i], q.1, q.2, by simp [h1], by simp [h2]⟩
    · obtain ⟨T0, x, z, h1, h2, h3, h4, h5⟩ := y
      exact ⟨T0, x, z, h1, h2, h3, h4 vs q.1, h5 us q.2⟩
  · obtain ⟨T0, x1, y1, e1, e2, e3, e4, e5⟩ := y
    subst e1 e3
    obtain ⟨t1, t2, q1, q2, rfl⟩ := zipT_get ht
    exact pair_new s e2 ((e.ts r).nth q1 e4) ((e.ts r2).nth q2 e5)
theorem frzOf_inv {K : PySem.W.Frag} {w : Wd} {v : V} {t : T} {xs : List T} (r : w.R K v t) (h : frzOf t = some xs) : ∃ a vs, v = .ref a ∧ SqF w.lv w.H a vs ∧ w.Rs K vs xs := by
  unfold frzOf at h
  split at h
  · cases h
    cases r with
    | d r => cases r with | lst h r => exact ⟨_, _, rfl, h, r.rts⟩
  · cases h
    cases r with | lst h r => exact ⟨_, _, rfl, h, r⟩
  · cases h
theorem ri_zip {a b : Expr} {f g : Env → M T} {p pos tpos : Pos} {elts : List Expr} {kk : Nat} (hg : Gl X "zip") (hm : X.mg "zip" = none) (ha : PE X a (rdE X.K cA W f)) (hb : PE X b (rdE X.K cA W g))
    (hs : starEach [a, b] X.env = (false, eval a X.env) :: starEach [b] X.env) (hs2 : starEach [b] X.env = (false, eval b X.env) :: starEach [] X.env) (hpl : (backTo pos (starEach [b] X.env)).any (·.1) = false) :
    PI X (.Tuple elts kk tpos) (.Call (.Name "zip" p) [a, b] [] pos) (rdI X.K cA W fun ρ st => (f ρ st).bind fun x st => (g ρ st).bind fun y st => zipM x y st) := by
  refine PI_imp (RZ.pi_zipA hg hm (pa_cons ha (pa_cons hb pa_nil hs2) hs) hs hpl) fun σ H R q => ?_
  refine At.bind (Rel1 := RelT X.K) (f := f) (g := fun ρ x st => (g ρ st).bind fun y st => zipM x y st) q fun v1 x w1 ρ s1 ev1 r1 q1 => ?_
  refine (show rdE X.K cA W g σ w1.H _ from At.mk s1 ev1 (OkG.bind (Rel1 := RelT X.K) q1 fun v2 y w2 e2 s2 r2 q2 => ?_))
  have r1 := e2.t r1
  unfold zipM at q2
  split at q2
  · rename_i xs ys h1 h2
    obtain ⟨a1, vs, rfl, t1, z1⟩ := tupOf_inv r1 h1
    obtain ⟨a2, us, rfl, t2, z2⟩ := tupOf_inv r2 h2
    exact ⟨a1, a2, vs, us, rfl, .inr ⟨t1.seq, t2.seq, q2.ok s2 (walk_zipT t1 z1 t2 z2)⟩⟩
  · split at q2
    · rename_i xs ys h1 h2
      obtain ⟨a1, vs, rfl, t1, z1⟩ := frzOf_inv r1 h1
      obtain ⟨a2, us, rfl, t2, z2⟩ := frzOf_inv r2 h2
      exact ⟨a1, a2, vs, us, rfl, .inl ⟨t1.seq, t2.seq, q2.ok s2 (walk_zipL t1 z1 t2 z2)⟩⟩
    · exact q2.elim
end
end Ev

/-! Ev12: comprehensions. -/
namespace Ev
open PySem PySem.Spec PyProof.Rows L2
section
variable {K : PySem.W.Frag}
theorem wipe_twice (σ : L2.St) (vs : List Nat) : L2.wipe (L2.wipe σ vs) vs = L2.wipe σ vs := by
  have go : ∀ (us : List Nat), (∀ x ∈ us, x ∈ vs) → L2.wipe (L2.wipe σ us) vs = L2.wipe σ vs := by
    intro us
    induction us with
    | nil => intro _; rfl
    | cons x r ih =>
      intro h
      show L2.wipe ((L2.wipe σ r).set x none) vs = _
      rw [wipe_set (h x List.mem_cons_self)]
      exact ih fun y hy => h y (List.mem_cons_of_mem _ hy)
  exact go vs fun _ h => h
/-- an object of the store is never changed again -/
theorem live_dead {w : Wd} {n : Nat} (b : Addr) (h : Live w.m (w.st.set n none) b) : w.lv b := by
  obtain ⟨k, u, h1, h2⟩ := h
  by_cases hk : n = k
  · subst hk
    by_cases hn : n < w.st.length
    · rw [List.getElem?_set_self hn] at h2; cases h2
    · rw [List.getElem?_eq_none (by simpa using hn)] at h2; cases h2
  · rw [List.getElem?_set_ne hk] at h2
    exact ⟨k, u, h1, h2⟩
theorem ext_dead {w : Wd} (n : Nat) : Ext w ⟨w.m, w.st.set n none, w.H⟩ :=
  ⟨List.prefix_refl _, fun k b h e => absurd (List.getElem?_eq_some_iff.mp e).1 (Nat.not_lt.mpr h), fun b h => .inl (live_dead b h), fun _ _ h _ => h, fun _ h => h⟩
theorem sim_dead {w : Wd} (s : Sim K w) (n : Nat) : Sim K ⟨w.m, w.st.set n none, w.H⟩ := by
  refine ⟨by simp [s.len], s.nd, s.trk, fun k b u h1 h2 => ?_⟩
  have h2 : (w.st.set n none)[k]? = some (some u) := h2
  by_cases hk : n = k
  · subst hk
    by_cases hn : n < w.st.length
    · rw [List.getElem?_set_self hn] at h2; cases h2
    · rw [List.getElem?_eq_none (by simpa using hn)] at h2; cases h2
  · rw [List.getElem?_set_ne hk] at h2
    exact (s.obj k b u h1 h2).ext (ext_dead n) fun _ h => h
theorem dead_not {w : Wd} (s : Sim K w) {n : Nat} {a : Addr} (h : w.m[n]? = some a) : ¬ Live w.m (w.st.set n none) a := by
  rintro ⟨k, u, h1, h2⟩
  have hk : n = k := (List.getElem?_inj (List.getElem?_eq_some_iff.mp h).1 s.nd).mp (h.trans h1.symm)
  subst hk
  have hn : n < w.st.length := by rw [← s.len]; exact (List.getElem?_eq_some_iff.mp h).1
  rw [List.getElem?_set_self hn] at h2; cases h2
end
section
variable {X : Cx} {cA : Nat → Addr} {W : WX}
abbrev WF : WX := fun _ _ _ _ => False
theorem rt_none {f : Env → M Bool} : PTs X [] (rdT X.K cA W fun _ st => .ok true st) :=
  ⟨fun pins s σ H Q I ⟨m, ρ, st, sim, ev, q⟩ => pts_nil.run pins s σ H Q I (q true H m (Ext.refl _) sim rfl)⟩
theorem rt_one {c : Expr} {f : Env → M Bool} (h : PT X c (rdT X.K cA W f)) : PTs X [c] (rdT X.K cA W f) := pts_one h
theorem lc_imp {mu : Bool} {fi : Env → M (List T)} {fT : Tg → T → Env → M Env} {fc : Env → M Bool} {fe : Env → M T} {tg : Tg} {own : List Nat} {σ : L2.St} {H : Hp} {Q : VK}
    (h : rdE X.K cA W (cmpM mu fi fT fc fe tg own) σ H Q) : tLc (rdI X.K cA W fi) (rdGo X.K cA WF own (fT tg)) (rdT X.K cA WF fc) (rdE X.K cA WF fe) own σ H Q := by
  generalize hft : fT tg = ft
  refine At.bind (Rel1 := WalkR X.K) (f := fi) (g := fun ρ xs (st : Sto) => (compL (cmpF (fT tg) fc fe (wipeE ρ own)) st.length xs (st ++ [some (O.lst [])])).bind fun _ st2 => compEnd mu st.length st2) (show At X.K σ H fun w ρ => OkG X.K cA W (RelT X.K) σ w ((fi ρ w.st).bind fun xs (st : Sto) => (compL (cmpF (fT tg) fc fe (wipeE ρ own)) st.length xs (st ++ [some (O.lst [])])).bind fun _ st2 => compEnd mu st.length st2) Q from h) fun J xs w1 ρ s1 ev1 wk q1 => ?_
  rw [hft] at q1
  obtain ⟨G, Y, wk, hG, hY⟩ := wk
  intro D hD
  generalize hF : cmpF ft fc fe (wipeE ρ own) = F at q1
  generalize hc : w1.st.length = c at q1
  have ea := ext_alloc (o := .lst []) (q := .lst []) s1 hD
  have sa := sim_alloc (o := .lst []) (q := .lst []) s1 hD ⟨[], upd_same, .nil⟩
  refine lc_it wk (fun i H => ∃ w' : Wd, w'.H = H ∧ Ext w1 w' ∧ Sim X.K w' ∧ w'.m[c]? = some D ∧ OkG X.K cA W (RelT X.K) σ w' ((compL F c (xs.drop i) w'.st).bind fun _ st2 => compEnd mu c st2) Q) ?_ ?_ ?_ ?_
  · refine ⟨_, rfl, ea, sa, ?_, OkG.ext ea q1⟩
    show (w1.m ++ [D])[c]? = some D
    rw [← hc, ← s1.len, List.getElem?_append_right (Nat.le_refl _)]
    simp
  · rintro i H hi ⟨w', rfl, e, s, _⟩
    exact hG w' e s
  · rintro i x H H' hi ⟨w', rfl, e, s, hm, q⟩ y
    obtain ⟨t, ht⟩ : ∃ t, xs[i]? = some t := ⟨xs[i], by simp [hi]⟩
    have hdrop : xs.drop i = t :: xs.drop (i + 1) := by
      have hlt := (List.getElem?_eq_some_iff.mp ht)
      obtain ⟨h1, h2⟩ := hlt
      rw [List.drop_eq_getElem_cons h1, h2]
    obtain ⟨ey, sy, ry⟩ := hY w' i t x H' e s ht y
    have q : OkG X.K cA W (RelT X.K) σ ⟨w'.m, w'.st, H'⟩ _ Q := OkG.ext ey q
    have evy : EnvR X.K ⟨w'.m, w'.st, H'⟩ (L2.wipe σ own) (wipeE ρ own) := EnvR.wipe (ev1.ext (e.trans ey)) own
    rw [hdrop] at q
    simp only [compL] at q
    rw [← hF] at q
    simp only [cmpF] at q
    rw [hF] at q
    refine ⟨w'.m, wipeE ρ own, w'.st, t, sy, evy, ry, ?_⟩
    cases q0 : ft t (wipeE ρ own) w'.st with
    | bad => rw [q0] at q; exact q
    | exn z1 z2 => rw [q0] at q; exact q.elim
    | ok ρ1 st1 =>
      rw [q0] at q
      simp only [R.bind_ok] at q
      intro σ2 H2 m2 e2 s2 ⟨ev2, wp⟩
      refine ⟨by rw [wp, wipe_twice], m2, ρ1, st1, s2, ev2, ?_⟩
      dsimp only
      have q : OkG X.K cA W (RelT X.K) σ ⟨m2, st1, H2⟩ _ Q := OkG.ext e2 q
      cases q3 : fc ρ1 st1 with
      | bad => rw [q3] at q; exact q
      | exn z1 z2 => rw [q3] at q; exact q.elim
      | ok b st2 =>
        rw [q3] at q
        simp only [R.bind_ok] at q
        intro b' H3 m3 e3 s3 hb
        cases hb
        have q : OkG X.K cA W (RelT X.K) σ ⟨m3, st2, H3⟩ _ Q := OkG.ext e3 q
        cases b with
        | false =>
          simp only [Bool.false_eq_true, if_false, noX_ok, R.bind_ok] at q ⊢
          refine ⟨⟨m3, st2, H3⟩, rfl, (((e.trans ey).trans e2).trans e3), s3, ?_, q⟩
          exact ((ey.trans e2).trans e3).get hm
        | true =>
          simp only [if_true] at q ⊢
          refine ⟨m3, ρ1, st2, s3, ev2.ext e3, ?_⟩
          dsimp only
          cases q5 : fe ρ1 st2 with
          | bad => rw [q5] at q; exact q
          | exn z1 z2 => rw [q5] at q; exact q.elim
          | ok u st3 =>
            rw [q5] at q
            simp only [R.bind_ok, noX_ok] at q
            intro v H4 m4 e4 s4 r4
            have q : OkG X.K cA W (RelT X.K) σ ⟨m4, st3, H4⟩ _ Q := OkG.ext e4 q
            have hm4 : m4[c]? = some D := (((ey.trans e2).trans e3).trans e4).get hm
            split at q
            · rename_i acc hs
              split at q
              · rename_i hz
                obtain ⟨vs, h1, h2⟩ := s4.obj c D _ hm4 hs
                have ex := ext_set (o := .lst (vs ++ [v])) (q := .lst (acc ++ [u])) s4 hm4 ⟨_, hs⟩
                refine ⟨vs, h1, by rw [RTs.length h2]; exact hz, ⟨m4, st3.set c (some (.lst (acc ++ [u]))), upd H4 D (.lst (vs ++ [v]))⟩, rfl, ?_, ?_, hm4, OkG.ext ex q⟩
                · exact ((((e.trans ey).trans e2).trans e3).trans e4).trans ex
                · exact sim_set s4 hm4 ⟨_, hs⟩ ⟨_, upd_same, RTs.append (ex.ts h2) (.cons (ex.t r4) .nil)⟩
              · exact q.elim
            · exact q.elim
  · rintro H ⟨w', rfl, e, s, hm, q⟩
    rw [List.drop_length] at q
    simp only [compL, R.bind_ok] at q
    unfold compEnd at q
    cases mu with
    | true =>
      simp only [if_true] at q
      exact q.ok s (.ref hm)
    | false =>
      simp only [Bool.false_eq_true, if_false] at q
      split at q
      · rename_i acc hs
        obtain ⟨vs, h1, h2⟩ := s.obj c D _ hm hs
        exact OkG.at_ q (ext_dead c) (sim_dead s c) (mkLst_ok ⟨.inl h1, dead_not s hm⟩ ((ext_dead c).ts h2))
      · exact q.elim
end
end Ev

/-! Ev12b: dict displays. -/
namespace Ev
open PySem PySem.Spec PyProof.Rows L2
theorem mergeK_nd : ∀ (more kvs : List (Key × V)), ((kvs ++ more).map (·.1)).Nodup → mergeK kvs more = kvs ++ more
  | [], kvs, _ => by simp [mergeK]
  | p :: r, kvs, h => by
    have hp : putK kvs p.1 p.2 = kvs ++ [p] := by
      unfold putK
      have : (kvs.any fun kv => decide (kv.1 = p.1)) = false := by
        rw [List.any_eq_false]
        intro q hq e
        have e := of_decide_eq_true e
        rw [List.map_append, List.nodup_append] at h
        exact h.2.2 q.1 (List.mem_map_of_mem hq) p.1 (by simp) e
      rw [if_neg (by rw [this]; exact Bool.false_ne_true)]
    show mergeK (putK kvs p.1 p.2) r = _
    rw [hp, mergeK_nd r (kvs ++ [p]) (by rw [List.append_assoc]; exact h), List.append_assoc]
    rfl
section
variable {X : Cx} {cA : Nat → Addr} {W : WX} {f : E → Env → M T}
def trsOf (K : PySem.W.Frag) (cA : Nat → Addr) (W : WX) (f : E → Env → M T) (ks : List Ky) (xs : List E) : List (TE × TE) := (ks.zip xs).map fun p => (tC (kV p.1), rdE K cA W (f p.2))
theorem pairs_ok : ∀ (ks : List Ky) (xs : List E) (σ : L2.St) (H : Hp) (Q : List V → Hp → Prop) (Z : List (V × V) → Hp → Prop), ks.length = xs.length → rdA X.K cA W (evEsW f xs) σ H Q →
    (∀ vs H2, vs.length = ks.length → Q vs H2 → Z ((ks.zip vs).map fun kv => (kV kv.1, kv.2)) H2) → tPairs (trsOf X.K cA W f ks xs) σ H Z
  | [], [], σ, H, Q, Z, _, ⟨m, ρ, st, sim, ev, q⟩, k => k [] H rfl (q [] H m (Ext.refl _) sim .nil)
  | [], _ :: _, _, _, _, _, h, _, _ => by cases h
  | _ :: _, [], _, _, _, _, h, _, _ => by cases h
  | k :: ks, x :: xs, σ, H, Q, Z, h, q, kk => by
    show tC (kV k) σ H fun a H1 => rdE X.K cA W (f x) σ H1 fun y H2 => tPairs (trsOf X.K cA W f ks xs) σ H2 fun ps H3 => Z ((a, y) :: ps) H3
    refine At.bind (f := f x) (Rel1 := RelT X.K) (g := fun ρ v st => (evEsW f xs ρ st).bind fun vs st => .ok (v :: vs) st) q fun y t w1 ρ s1 ev1 r1 q1 => ?_
    refine pairs_ok ks xs σ w1.H (fun vs H2 => Q (y :: vs) H2) _ (Nat.succ.inj h) (At.mk s1 ev1 (OkG.bind (Rel1 := RelTs X.K) q1 fun vs ts w2 e2 s2 r2 q2 => q2.ok s2 (.cons (e2.t r1) r2))) fun vs H2 hl z => ?_
    exact kk (y :: vs) H2 (congrArg Nat.succ hl) z
theorem zip_kvr {w : Wd} : ∀ {ks : List Ky} {vs : List V} {ts : List T}, w.Rs X.K vs ts → KvR X.K w (ks.zip vs) (ks.zip ts)
  | [], _, _, _ => .nil
  | _ :: _, _, _, .nil => .nil
  | _ :: _, _, _, .cons r rs => .cons ⟨rfl, r⟩ (zip_kvr rs)
theorem zip_rdk {lv : Addr → Prop} {H : Hp} : ∀ {ks : List Ky} {vs : List V} {ds : List PyData}, RDs X.K lv H vs ds → RDk X.K lv H (ks.zip vs) ((ks.map kyD).zip ds)
  | [], _, _, _ => .nil
  | _ :: _, _, _, .nil => .nil
  | _ :: _, _, _, .cons r rs => .cons r (zip_rdk rs)
theorem zip_keys : ∀ {ks : List Ky} {vs : List V}, vs.length = ks.length → (ks.zip vs).map (·.1) = ks
  | [], _, _ => rfl
  | _ :: _, [], h => by cases h
  | k :: ks, v :: vs, h => congrArg (k :: ·) (zip_keys (Nat.succ.inj h))
/-- behind the values -/
theorem dsp_end {mu : Bool} {ks : List Ky} {σ : L2.St} {Q : VK} {w2 : Wd} {c : Nat} {p : Addr} {vs : List V} {ts : List T} (hk : ks.Nodup) (hl : vs.length = ks.length) (s2 : Sim X.K w2) (hm : w2.m[c]? = some p) (r2 : w2.Rs X.K vs ts)
    (q : OkG X.K cA W (RelT X.K) σ w2 (dspEnd mu ks c ts w2.st) Q) : w2.H p = some (.dK []) ∧ Q (.ref p) (upd w2.H p (.dK (mergeK [] (ks.zip vs)))) := by
  have em : mergeK [] (ks.zip vs) = ks.zip vs := mergeK_nd _ [] (by rw [List.nil_append, zip_keys hl]; exact hk)
  rw [em]
  unfold dspEnd at q
  split at q
  · rename_i hs
    obtain ⟨ks', h1, h2⟩ := s2.obj c p _ hm hs
    have : ks' = [] := by
      have := Paired.length h2
      cases ks' with
      | nil => rfl
      | cons _ _ => simp at this
    subst this
    have ex := ext_set (o := .dK (ks.zip vs)) (q := .dct (ks.zip ts)) s2 hm ⟨_, hs⟩
    have sx := sim_set (o := .dK (ks.zip vs)) (q := .dct (ks.zip ts)) s2 hm ⟨_, hs⟩ ⟨_, upd_same, zip_kvr (ex.ts r2)⟩
    refine ⟨h1, ?_⟩
    cases mu with
    | true =>
      simp only [if_true] at q
      exact OkG.at_ q ex sx (.ref hm)
    | false =>
      simp only [Bool.false_eq_true, if_false] at q
      split at q
      · rename_i ds hd
        have e' := allD_some hd
        subst e'
        have ed := ext_dead (w := ⟨w2.m, w2.st.set c (some (.dct (ks.zip (ds.map T.d)))), upd w2.H p (.dK (ks.zip vs))⟩) c
        have sd := sim_dead sx c
        rw [List.set_set] at ed sd
        have dn := dead_not sx hm
        rw [List.set_set] at dn
        exact OkG.at_ q (ex.trans ed) sd (.d (.dct upd_same dn (zip_rdk (RTs.rds ((ex.trans ed).ts r2)))))
      · exact q.elim
  · exact q.elim
abbrev rdDsp (mu : Bool) (ks : List Ky) (f : E → Env → M T) (xs : List E) : Env → M T := fun ρ st => (evEsW f xs ρ (st ++ [some (.dct [])])).bind fun zs st2 => dspEnd mu ks st.length zs st2
theorem re_dsp {mu : Bool} {ks : List Ky} {xs : List E} {keys : List (Option Expr)} {values : List Expr} {pos : Pos} (hk : ks.Nodup) (hl : ks.length = xs.length) (h : PPs X pos keys values (trsOf X.K cA W f ks xs)) (hall : keys.all (·.isSome) = true) (hlen : keys.length = values.length) (h0 : keys ≠ [])
    (h15 : keys.length ≤ 15) (hkl : ks.length ≤ 15) : PE X (.Dict keys values pos) (rdE X.K cA W (rdDsp mu ks f xs)) := by
  refine PE_imp (pe_disp h hall hlen h0 h15) fun σ H Q ⟨m, ρ, st, sim, ev, q⟩ => ?_
  intro p hp
  have ea := ext_alloc (o := .dK []) (q := .dct []) sim hp
  have sa := sim_alloc (o := .dK []) (q := .dct []) sim hp ⟨[], upd_same, .nil⟩
  have q : OkG X.K cA W (RelT X.K) σ ⟨m ++ [p], st ++ [some (.dct [])], upd H p (.dK [])⟩ _ Q := OkG.ext ea q
  have hm : (m ++ [p])[st.length]? = some p := by
    have hl : m.length = st.length := sim.len
    rw [← hl, List.getElem?_append_right (Nat.le_refl _)]
    simp
  refine pairs_ok ks xs σ _ (fun vs H2 => vs.length = ks.length → H2 p = some (.dK []) ∧ Q (.ref p) (upd H2 p (.dK (mergeK [] (ks.zip vs))))) _ hl ⟨m ++ [p], ρ, st ++ [some (.dct [])], sa, ev.ext ea, OkG.bind (Rel1 := RelTs X.K) q fun vs ts w2 e2 s2 r2 q2 hvl => ?_⟩ fun vs H2 hvl z => ?_
  · exact dsp_end hk hvl s2 (e2.get hm) r2 q2
  · obtain ⟨z1, z2⟩ := z hvl
    exact ⟨z1, ks.zip vs, rfl, by rw [List.length_zip]; omega, z2⟩
theorem re_dsp0 {mu : Bool} {pos : Pos} : PE X (.Dict [] [] pos) (rdE X.K cA W (rdDsp mu [] f [])) := by
  refine PE_imp pe_dnewK fun σ H Q ⟨m, ρ, st, sim, ev, q⟩ => ?_
  intro p hp
  have ea := ext_alloc (o := .dK []) (q := .dct []) sim hp
  have sa := sim_alloc (o := .dK []) (q := .dct []) sim hp ⟨[], upd_same, .nil⟩
  have q : OkG X.K cA W (RelT X.K) σ ⟨m ++ [p], st ++ [some (.dct [])], upd H p (.dK [])⟩ _ Q := OkG.ext ea q
  have hm : (m ++ [p])[st.length]? = some p := by
    have hl : m.length = st.length := sim.len
    rw [← hl, List.getElem?_append_right (Nat.le_refl _)]
    simp
  have z := dsp_end (vs := []) (ts := []) .nil rfl sa hm .nil q
  have e : upd (upd H p (.dK [])) p (.dK (mergeK [] (([] : List Ky).zip ([] : List V)))) = upd H p (.dK []) := upd_upd
  rw [e] at z
  exact z.2
end
end Ev

/-! Ev12c: t[::-1]. -/
namespace Ev
open PySem PySem.Spec PyProof.Rows L2
theorem adj_rev (n : Nat) : Builtin.Slice.sliceAdjust none none (-1) (n : Int) = ((n : Int) - 1, -1) := by
  unfold Builtin.Slice.sliceAdjust
  simp
theorem places_rev (n : Nat) : Builtin.Slice.slicePlaces ((n : Int) - 1) (-1) (-1) = n := by
  unfold Builtin.Slice.slicePlaces
  have h0 : ¬ ((-1 : Int) > 0) := by decide
  simp only [h0, if_false]
  by_cases hn : (n : Int) - 1 > -1
  · rw [if_pos hn]
    have : ((n : Int) - 1 - -1 - 1) / (- -1) + 1 = (n : Int) := by
      rw [show (- -1 : Int) = 1 by decide, Int.ediv_one]
      omega
    rw [this, Int.toNat_natCast]
  · rw [if_neg hn]
    have : n = 0 := by omega
    subst this
    rfl
theorem fm_congr {α β : Type} {f g : α → Option β} : ∀ {l : List α}, (∀ x ∈ l, f x = g x) → l.filterMap f = l.filterMap g
  | [], _ => rfl
  | x :: l, h => by
    have ih := fm_congr (l := l) fun y hy => h y (List.mem_cons_of_mem _ hy)
    rw [List.filterMap_cons, List.filterMap_cons, h x List.mem_cons_self, ih]
theorem pick_rev (xs : Array Value) : ((List.range xs.size).filterMap fun (m : Nat) => xs[(((xs.size : Int) - 1) + (m : Int) * -1).toNat]?) = xs.toList.reverse := by
  have e : ((List.range xs.size).filterMap fun (m : Nat) => xs[(((xs.size : Int) - 1) + (m : Int) * -1).toNat]?) = ((List.range xs.size).map fun k => xs.size - 1 - k).filterMap (xs[·]?) := by
    rw [List.filterMap_map]
    refine fm_congr fun k hk => ?_
    have hk := List.mem_range.mp hk
    have : (((xs.size : Int) - 1) + (k : Int) * -1).toNat = xs.size - 1 - k := by omega
    show _ = xs[xs.size - 1 - k]?
    rw [this]
  rw [e, PySem.W.krv_range, List.filterMap_reverse, PySem.W.krv_all]
section
variable {prog : Program} {w : World} {A : Around} {E : Value → Shared → Prop} {s : Shared}
theorem item_rev {t sl : Addr} {items : Array Value} {vs : Value} {Q : Value → Shared → Prop} (ht : IsTup s.heap t items) (hs : s.heap.IsSliceOf sl .none .none vs) (ps : IsPart vs (some (-1)))
    (h : Q (.ref s.heap.objs.size) { s with heap := s.heap.push { cls := .type "tuple", data := .seq items.toList.reverse.toArray } }) (hsz : items.size ≤ sizeLine) : wpAny (model prog w) A (getItem (.ref t) (.ref sl)) Q E s := by
  have fits : sizeOk (.seq items.toList.reverse.toArray) := by
    show items.toList.reverse.toArray.size ≤ sizeLine
    simpa using hsz
  obtain ⟨so, q1, q2, q3⟩ := id hs
  have isS : s.TypeIs (.ref sl) "slice" := ⟨so, q1, q2⟩
  unfold getItem
  with_reducible refine
    wpAny_holding ?_
  first
    | refine wpAny_bind (wpAny_pure ?_)
    | skip
  have key := ht.typeIs
  refine wpAny_bind (wpAny_sequenceKey key (by decide) ?_)
  refine wpAny_bind (wpAny_callSpecial?_slot (name := Str.ofString "__getitem__")
    ht.typeIs PyProof.Rows.slot_tuple_getitem
    (wpAny_call_entry PyProof.Rows.slot_tuple_getitem ht.typeIs
      entry_tuple_getitem ?_ (args_tuple_getitem _ _)))
  show wpAny _ _ (Builtin.Tuple.tupleItemsOf (.ref t) >>= _) _ _ s
  refine wpAny_bind (tupleItemsOf_ ht (wpAny_bind (wpAny_typeOf isS ?_)))
  rw [if_pos (by decide)]
  have cut : ∀ {R : Int × Int × Nat → Shared → Prop} {A2 : Around} {E2 : Value → Shared → Prop}, R ((items.size : Int) - 1, -1, items.size) s →
      wpAny (model prog w) A2 (Builtin.Slice.sliceApplied (.ref sl) (pure (items.size : Int))) R E2 s := by
    intro R A2 E2 hR
    unfold Builtin.Slice.sliceApplied Builtin.Slice.sliceFields
    refine wpAny_bind (wpAny_bind (wpAny_field q1 q3 (x := .none) rfl ?_))
    refine wpAny_bind (wpAny_field q1 q3 (x := .none) rfl ?_)
    refine wpAny_bind (wpAny_field q1 q3 (x := vs) rfl (wpAny_pure ?_))
    refine wpAny_bind (HT.slicePart_ ps ?_)
    show wpAny _ _ (if ((-1 : Int) == 0) = true then _ else _) _ _ s
    rw [if_neg (by decide)]
    refine wpAny_bind (HT.slicePart_ .none (wpAny_bind (HT.slicePart_ .none (wpAny_bind (wpAny_pure ?_)))))
    show wpAny _ _ (match Builtin.Slice.sliceAdjust none none (-1) (items.size : Int) with | (lo, hi) => pure (lo, (-1 : Int), Builtin.Slice.slicePlaces lo hi (-1))) _ _ s
    rw [adj_rev]
    show wpAny _ _ (pure ((items.size : Int) - 1, (-1 : Int), Builtin.Slice.slicePlaces ((items.size : Int) - 1) (-1) (-1))) _ _ s
    rw [places_rev]
    exact wpAny_pure hR
  refine wpAny_bind (cut ?_)
  have no : ¬ (((items.size : Int) - 1 == 0 && (-1 : Int) == 1 && items.size == items.size) = true) := by
    intro z
    rw [Bool.and_eq_true, Bool.and_eq_true] at z
    exact absurd z.1.2 (by decide)
  show wpAny _ _ (if ((items.size : Int) - 1 == 0 && (-1 : Int) == 1 && items.size == items.size) = true then _ else _) _ _ s
  rw [if_neg no, pick_rev]
  first
    | exact wpAny_bind (m := Builtin.Tuple.tupleExact _) (wpAny_newObj_type (wpAny_pure ⟨_, rfl, wpAny_pure h⟩) fits)
    | exact wpAny_bind (m := Builtin.Tuple.tupleExact _) (wpAny_newObj_type (wpAny_bind (wpAny_pure (wpAny_pure ⟨_, rfl, wpAny_pure h⟩))) fits)
    | exact wpAny_bind (wpAny_bind (m := Builtin.Tuple.tupleExact _) (wpAny_newObj_type (wpAny_pure (wpAny_pure ⟨_, rfl, wpAny_pure h⟩)) fits))
    | exact wpAny_bind (wpAny_bind (m := Builtin.Tuple.tupleExact _) (wpAny_newObj_type (wpAny_pure ⟨_, rfl, wpAny_pure h⟩) fits))
end
section
variable {X : Cx} {cA : Nat → Addr} {W : WX}
/-- t[::-1] of a tuple -/
def tRevT (K : PySem.W.Frag) (te : TE) : TE := fun σ H Q => te σ H fun x H1 => ∃ a xs, x = .ref a ∧ SqT K H1 a xs ∧ ∀ p, H1 p = none → Q (.ref p) (upd H1 p (.tup xs.reverse))
theorem pe_revT {e : Expr} {te : TE} {k : Nat} {p1 p2 p3 pos : Pos} (he : PE X e te) :
    PE X (.Subscript e (.Slice none none (some (.UnaryOp .USub (.Constant (.int 1) k p1) p2)) p3) pos) (tRevT X.K te) := by
  refine ⟨fun pins s σ H Q I h => ?_⟩
  refine Subscript_ (thn (he.run pins s σ H _ I h) ?_)
  rintro v s1 ⟨x, H1, I1, r1, a, xs, ex, hx, q⟩
  subst ex
  cases r1
  have step : PO X (some (.UnaryOp .USub (.Constant (.int 1) k p1) p2))
      (tPart (tUn (rU fun i => .int (-i)) (tC (.int 1)))) := po_some (pe_un un_neg pe_int)
  refine wpAny_Slice (thn (po_none.run pins s1 σ H1
    (fun o H2 => o = none ∧ H2 = H1) I1 ⟨rfl, rfl⟩) ?_)
  rintro vl s2 ⟨l, H2, I2, pl, rfl, rfl⟩
  refine thn (po_none.run pins s2 σ H2
    (fun o H3 => o = none ∧ H3 = H2) I2 ⟨rfl, rfl⟩) ?_
  rintro vu s3 ⟨u, H3, I3, pu, rfl, rfl⟩
  refine thn (step.run pins s3 σ H3
    (fun o H4 => o = some (-1) ∧ H4 = H3) I3 ⟨1, rfl, -1, rfl, rfl, rfl⟩) ?_
  rintro vs s4 ⟨o, H4, I4, ps, rfl, rfl⟩
  cases pl
  cases pu
  let s5 : Shared := { s4 with heap := s4.heap.push { cls := .type "slice", data := .fields #[.none, .none, vs] } }
  have I5 : Inv X pins σ H4 s5 := I4.kept (t' := s4.toks) fun b ob z => Heap.get?_push_of_some _ z
  obtain ⟨its, r, ht, hz⟩ := I5.tuple hx
  have count := r.length
  have fits : its.toArray.size ≤ sizeLine := by
    rw [List.size_toArray]
    omega
  show wpAny (model X.prog X.w) X.A (subscriptTail e _ (.ref a) (.ref s4.heap.objs.size)) (EP X pins σ Q) X.xe s5
  refine tail_any (ops := [.ref a, .ref s4.heap.objs.size]) ht.typeIs PyProof.Rows.slot_tuple_getitem.lookup ?_ (by with_unfolding_all rfl)
  refine item_rev ht (Heap.IsSliceOf.new _ .none .none vs) ps ?_ fits
  have new : H4 s5.heap.objs.size = none := I5.hok.fresh (Nat.le_refl _)
  refine ⟨.ref s5.heap.objs.size, _, I5.laid (t' := s5.toks) (o := .tup xs.reverse) (fun b ob z => Heap.get?_push_of_some _ z) (Nat.le_refl _) ?_, rfl, q _ new⟩
  exact ⟨by rw [List.length_reverse]; exact hz, _, r.reverse, IsTup.new _ _⟩
theorem re_rev {e : Expr} {f : Env → M T} {k : Nat} {p1 p2 p3 pos : Pos} (he : PE X e (rdE X.K cA W f)) :
    PE X (.Subscript e (.Slice none none (some (.UnaryOp .USub (.Constant (.int 1) k p1) p2)) p3) pos) (rdE X.K cA W fun ρ st => (f ρ st).bind fun x st => rev x st) := by
  refine ⟨fun pins s σ H Q I ⟨m, ρ, st, sim, ev, q⟩ => ?_⟩
  dsimp only at q
  cases e1 : f ρ st with
  | bad => rw [e1] at q; exact q.elim
  | exn x st1 =>
    rw [e1] at q
    refine (pe_revT he).run pins s σ H Q I ⟨m, ρ, st, sim, ev, ?_⟩
    dsimp only
    rw [e1]; exact q
  | ok t st1 =>
    rw [e1] at q
    have q : OkG X.K cA W (RelT X.K) σ ⟨m, st, H⟩ (rev t st1) Q := q
    unfold rev at q
    cases h2 : tupOf t with
    | some xs =>
      rw [h2] at q
      refine (pe_revT he).run pins s σ H Q I ⟨m, ρ, st, sim, ev, ?_⟩
      dsimp only
      rw [e1]
      intro v H' m' e2 s2 r
      obtain ⟨a, vs, rfl, t1, r1⟩ := tupOf_inv (w := ⟨m', st1, H'⟩) r h2
      have q : OkG X.K cA W (RelT X.K) σ ⟨m', st1, H'⟩ (.ok (mkTup xs.reverse) st1) Q := OkG.ext e2 q
      exact ⟨a, vs, rfl, t1.seq, new_tup s2 r1.reverse q⟩
    | none =>
      rw [h2] at q
      cases h3 : lstOf st1 t with
      | none => rw [h3] at q; exact q.elim
      | some xs =>
        rw [h3] at q
        refine (pe_revL he).run pins s σ H Q I ⟨m, ρ, st, sim, ev, ?_⟩
        dsimp only
        rw [e1]
        intro v H' m' e2 s2 r
        obtain ⟨a, vs, rfl, t1, r1⟩ := lstOf_inv (w := ⟨m', st1, H'⟩) s2 r h3
        have q : OkG X.K cA W (RelT X.K) σ ⟨m', st1, H'⟩ (.ok (mkLst xs.reverse) st1) Q := OkG.ext e2 q
        exact ⟨a, vs, rfl, .inl t1, new_lst s2 r1.reverse q⟩
end
end Ev

/-! Ev13: statements. -/
namespace Ev
open PySem PySem.Spec PyProof.Rows L2
section
variable {X : Cx} {cA : Nat → Addr} {W : WX}
theorem rs_asg {tg e : Expr} {fe : Env → M T} {ft : T → Env → M Env} {pos : Pos} (he : PE X e (rdE X.K cA W fe)) (hg : PG X tg (rdG X.K cA W ft)) (hs : swapsWithSole [tg] e pos.line X.env = pure false) (hw : swappedStores [tg] e X.env = pure none)
    (h1 : (assignEach [tg] X.env).map (·.2) = [assign tg X.env]) : PS X (.Assign [tg] e pos) (rdS X.K cA W fun ρ st => (fe ρ st).toS ρ fun v st => (ft v ρ st).toS ρ fun ρ' st => .nx ρ' st) := by
  refine PS_imp (ps_asg he hg hs hw h1) fun D σ H q => ?_
  refine At.of (Rel := RelT X.K) (f := fe) (g := fun ρ v st => (ft v ρ st).toS ρ fun ρ' st => .nx ρ' st) q fun b a w1 ρ s1 ev1 r1 q1 => ?_
  exact ⟨w1.m, ρ, w1.st, a, s1, ev1, r1, OkS.of ev1 q1 fun σ2 ρ2 w2 e2 s2 r2 q2 => q2 σ2 w2.H w2.m (Ext.refl _) s2 r2⟩
theorem rs_setLc {i : Nat} {y : Str} {py : Pos} {elt tg iter : Expr} {ifs : List Expr} {scope : Scope} {own : List (Str × Nat)} {pos spos : Pos} {mu : Bool} {fi : Env → M (List T)} {fT : Tg → T → Env → M Env} {fc : Env → M Bool} {fe : Env → M T} {ft : Tg}
    (hc : X.calm = true) (hN : X.N.Nodup) (hy : X.N[i]? = some y) (hyl : X.env.scope.names.lookup y = some .local)
    (hsw : swapsWith (.ListComp elt [⟨tg, iter, ifs, 0⟩] scope pos) (some (.Name y py)) spos.line X.env = pure true) (hi : PI X tg iter (rdI X.K cA W fi)) (ok : BlkOk X.N X.env.scope scope own)
    (hg : ∀ (s : Shared) (H : Hp) (C : Addr) (cl : List (Str × Addr)) (fp : List Addr), PG (X.blk s H scope (compEnvC scope cl C X.env) fp) tg (rdGo X.K cA WF (own.map (·.2)) (fT ft)))
    (ht : ∀ (s : Shared) (H : Hp) (C : Addr) (cl : List (Str × Addr)) (fp : List Addr), PTs (X.blk s H scope (compEnvC scope cl C X.env) fp) ifs (rdT X.K cA WF fc))
    (he : ∀ (s : Shared) (H : Hp) (C : Addr) (cl : List (Str × Addr)) (fp : List Addr), PE (X.blk s H scope (compEnvC scope cl C X.env) fp) elt (rdE X.K cA WF fe)) (hs : ∀ x, foldedSetIterable iter X.env x = pure x) :
    PS X (.Assign [.Name y py] (.ListComp elt [⟨tg, iter, ifs, 0⟩] scope pos) spos) (rdS X.K cA W fun ρ st => (cmpM mu fi fT fc fe ft (own.map (·.2)) ρ st).toS ρ fun v st => .nx (ρ.set i (some v)) st) := by
  refine PS_imp (ps_setLc hc hN hy hyl hsw hi ok hg ht he hs) fun D σ H q => ?_
  refine lc_imp (mu := mu) (X := X) (W := W) ?_
  refine At.of (D := D) (Rel := RelT X.K) (f := cmpM mu fi fT fc fe ft (own.map (·.2))) (g := fun ρ v st => .nx (ρ.set i (some v)) st)
    (show At X.K σ H fun w ρ => OkS X.K cA W D w ((cmpM mu fi fT fc fe ft (own.map (·.2)) ρ w.st).toS ρ fun v st => .nx (ρ.set i (some v)) st) from q) fun b a w1 ρ s1 ev1 r1 q1 => ?_
  exact q1 (σ.set i (some b)) w1.H w1.m (Ext.refl _) s1 (ev1.set r1)
theorem re_cmp {elt tg iter : Expr} {ifs : List Expr} {scope : Scope} {own : List (Str × Nat)} {pos : Pos} {mu : Bool} {fi : Env → M (List T)} {fT : Tg → T → Env → M Env} {fc : Env → M Bool} {fe : Env → M T} {ft : Tg}
    (hc : X.calm = true) (hN : X.N.Nodup) (hi : PI X tg iter (rdI X.K cA W fi)) (ok : BlkOk X.N X.env.scope scope own)
    (hg : ∀ (s : Shared) (H : Hp) (C : Addr) (cl : List (Str × Addr)) (fp : List Addr), PG (X.blk s H scope (compEnvC scope cl C X.env) fp) tg (rdGo X.K cA WF (own.map (·.2)) (fT ft)))
    (ht : ∀ (s : Shared) (H : Hp) (C : Addr) (cl : List (Str × Addr)) (fp : List Addr), PTs (X.blk s H scope (compEnvC scope cl C X.env) fp) ifs (rdT X.K cA WF fc))
    (he : ∀ (s : Shared) (H : Hp) (C : Addr) (cl : List (Str × Addr)) (fp : List Addr), PE (X.blk s H scope (compEnvC scope cl C X.env) fp) elt (rdE X.K cA WF fe)) (hs : ∀ x, foldedSetIterable iter X.env x = pure x) :
    PE X (.ListComp elt [⟨tg, iter, ifs, 0⟩] scope pos) (rdE X.K cA W (cmpM mu fi fT fc fe ft (own.map (·.2)))) :=
  PE_imp (pe_lc hc hN hi ok hg ht he hs) fun σ H Q q => lc_imp (mu := mu) (X := X) (W := W) q
theorem rs_par {i j : Nat} {x y : Str} {a b : Expr} {fa fb : Env → M T} {px py pt pos : Pos} {kt k2 pt2} (hc : X.calm = true) (hN : X.N.Nodup) (hi : X.N[i]? = some x) (hj : X.N[j]? = some y) (hij : i ≠ j)
    (hx : X.env.scope.names.lookup x = some .local) (hy : X.env.scope.names.lookup y = some .local) (ha : PE X a (rdE X.K cA W fa)) (hb : PE X b (rdE X.K cA W fb))
    (hst : starEach [a, b] X.env = (false, eval a X.env) :: starEach [b] X.env) (hst2 : starEach [b] X.env = (false, eval b X.env) :: starEach [] X.env)
    (hw : swappedStores [.Tuple [.Name x px, .Name y py] kt pt] (.Tuple [a, b] k2 pt2) X.env = pure (some [x, y]))
    (hs : swapsWithSole [.Tuple [.Name x px, .Name y py] kt pt] (.Tuple [a, b] k2 pt2) pos.line X.env = pure false) :
    PS X (.Assign [.Tuple [.Name x px, .Name y py] kt pt] (.Tuple [a, b] k2 pt2) pos) (rdS X.K cA W fun ρ st => (fa ρ st).toS ρ fun x st => (fb ρ st).toS ρ fun y st => .nx ((ρ.set i (some x)).set j (some y)) st) := by
  refine PS_imp (ps_par hc hN hi hj hij hx hy (pa_cons ha (pa_cons hb pa_nil hst2) hst) hw hs) fun D σ H q => ?_
  refine At.of (Rel := RelT X.K) (f := fa) (g := fun ρ x st => (fb ρ st).toS ρ fun y st => .nx ((ρ.set i (some x)).set j (some y)) st) q fun v1 t1 w1 ρ s1 ev1 r1 q1 => ?_
  refine ⟨w1.m, ρ, w1.st, s1, ev1, OkS.of ev1 q1 fun v2 t2 w2 e2 s2 r2 q2 => ?_⟩
  exact ⟨v1, v2, rfl, q2 _ w2.H w2.m (Ext.refl _) s2 (((ev1.ext e2).set (e2.t r1)).set r2)⟩
theorem rs_ex {e : Expr} {f : Env → M T} {pos : Pos} (he : PE X e (rdE X.K cA W f)) (hs : swapsWith e none pos.line X.env = pure false) : PS X (.Expr e pos) (rdS X.K cA W fun ρ st => (f ρ st).toS ρ fun _ st => .nx ρ st) := by
  refine PS_imp (ps_expr he hs) fun D σ H q => ?_
  exact At.of (Rel := RelT X.K) (f := f) (g := fun ρ _ st => .nx ρ st) q fun b a w1 ρ s1 ev1 r1 q1 => q1 σ w1.H w1.m (Ext.refl _) s1 ev1
theorem rs_ret {e : Expr} {f : Env → M T} {pos : Pos} (he : PE X e (rdE X.K cA W f)) : PS X (.Return (some e) pos) (rdS X.K cA W fun ρ st => (f ρ st).toS ρ fun v st => .rt v st) := by
  refine PS_imp (ps_ret he) fun D σ H q => ?_
  exact At.of (Rel := RelT X.K) (f := f) (g := fun ρ v st => .rt v st) q fun b a w1 ρ s1 ev1 r1 q1 => q1 b w1.H w1.m (Ext.refl _) s1 r1
theorem rs_retN {pos : Pos} : PS X (.Return none pos) (rdS X.K cA W fun _ st => .rt (.d .none) st) :=
  PS_imp ps_retN fun D σ H ⟨m, ρ, st, s, ev, q⟩ => q .non H m (Ext.refl _) s (.d .non)
theorem rs_pass {pos : Pos} : PS X (.Pass pos) (rdS X.K cA W fun ρ st => .nx ρ st) := PS_imp ps_pass fun D σ H ⟨m, ρ, st, s, ev, q⟩ => q σ H m (Ext.refl _) s ev
theorem rs_doc {x j pos pos'} : PS X (.Expr (.Constant (.str x) j pos) pos') (rdS X.K cA W fun ρ st => .nx ρ st) := PS_imp ps_doc fun D σ H ⟨m, ρ, st, s, ev, q⟩ => q σ H m (Ext.refl _) s ev
theorem rs_brk {pos : Pos} : PS X (.Break pos) (rdS X.K cA W fun ρ st => .bk ρ st) := PS_imp ps_break fun D σ H ⟨m, ρ, st, s, ev, q⟩ => q σ H m (Ext.refl _) s ev
theorem rs_cont {pos : Pos} : PS X (.Continue pos) (rdS X.K cA W fun ρ st => .ct ρ st) := PS_imp ps_continue fun D σ H ⟨m, ρ, st, s, ev, q⟩ => q σ H m (Ext.refl _) s ev
theorem rss_nil : PSs X [] (rdS X.K cA W fun ρ st => .nx ρ st) := PSs_imp pss_nil fun D σ H ⟨m, ρ, st, s, ev, q⟩ => q σ H m (Ext.refl _) s ev
theorem rss_cons {s : Stmt} {rest : List Stmt} {f g : Env → Sto → SR} (h1 : PS X s (rdS X.K cA W f)) (h2 : PSs X rest (rdS X.K cA W g)) : PSs X (s :: rest) (rdS X.K cA W fun ρ st => match f ρ st with
    | .nx ρ' st' => g ρ' st'
    | x => x) := by
  refine PSs_imp (pss_cons h1 h2) fun D σ H ⟨m, ρ, st, sim, ev, q⟩ => ⟨m, ρ, st, sim, ev, ?_⟩
  dsimp only at q ⊢
  cases e : f ρ st with
  | nx ρ' st' =>
    rw [e] at q
    exact fun σ' H' m' e' s' ev' => ⟨m', ρ', st', s', ev', OkS.ext e' q⟩
  | rt v st' => rw [e] at q; exact q
  | bk ρ' st' => rw [e] at q; exact q
  | ct ρ' st' => rw [e] at q; exact q
  | exn x ρ' st' => rw [e] at q; exact q
  | bad => rw [e] at q; exact q
theorem rs_if {c : Expr} {a b : List Stmt} {fc : Env → M Bool} {fa fb : Env → Sto → SR} {pos : Pos} (hc : PT X c (rdT X.K cA W fc)) (ha : PSs X a (rdS X.K cA W fa)) (hb : PSs X b (rdS X.K cA W fb)) :
    PS X (.If c a b pos) (rdS X.K cA W fun ρ st => (fc ρ st).toS ρ fun t st => if t then fa ρ st else fb ρ st) := by
  refine PS_imp (ps_if hc ha hb) fun D σ H q => ?_
  refine At.of (Rel := RelB) (f := fc) (g := fun ρ t st => if t then fa ρ st else fb ρ st) q fun b a w1 ρ s1 ev1 r1 q1 => ?_
  cases r1
  cases b with
  | true => exact ⟨w1.m, ρ, w1.st, s1, ev1, q1⟩
  | false => exact ⟨w1.m, ρ, w1.st, s1, ev1, q1⟩
theorem rs_aug {i : Nat} {x : Str} {e : Expr} {f : Env → M T} {op : Operator} {o : T → T → M T} {ti : TIp} {pos pos' : Pos} (hN : X.N.Nodup) (hi : X.N[i]? = some x) (hx : Loc X.env.scope x) (hf : X.fn x = true ∨ X.env.scope.names.lookup x = some .local) (he : PE X e (rdE X.K cA W f)) (ho : PIp X op ti) (hoo : OpOk X.K o ti) :
    PS X (.AugAssign (.Name x pos') op e pos) (rdS X.K cA W fun ρ st => match ρ[i]? with
      | some (some x) => (f ρ st).toS ρ fun y st => (o x y st).toS ρ fun z st => .nx (ρ.set i (some z)) st
      | _ => .bad) := by
  refine PS_imp (ps_aug hN hi hx he ho hf) fun D σ H ⟨m, ρ, st, sim, ev, q⟩ => ?_
  dsimp only at q
  cases e1 : ρ[i]? with
  | none => rw [e1] at q; exact q.elim
  | some t =>
    cases t with
    | none => rw [e1] at q; exact q.elim
    | some t =>
      rw [e1] at q
      obtain ⟨v, h1, h2⟩ := ev.at_ i t e1
      refine ⟨v, h1, m, ρ, st, sim, ev, OkS.of ev q fun y b w2 e2 s2 r2 q2 => ?_⟩
      refine hoo cA W σ w2 t b v y _ s2 (e2.t h2) r2 (OkS.of (ev.ext e2) q2 fun z c w3 e3 s3 r3 q3 => ?_)
      exact q3 _ w3.H w3.m (Ext.refl _) s3 (((ev.ext e2).ext e3).set r3)

/-! ### loops -/
theorem rs_for {tg iter : Expr} {body : List Stmt} {fi : Env → M (List T)} {ft : T → Env → M Env} {fb : Env → Sto → SR} {pos : Pos} (hp : PassesOwn (model X.prog X.w) X.A X.env X.xe) (hc : X.calm = true) (hi : PI X tg iter (rdI X.K cA W fi)) (hg : PG X tg (rdG X.K cA W ft)) (hb : PSs X body (rdS X.K cA W fb))
    (hs : ∀ x, foldedSetIterable iter X.env x = pure x) : PS X (.For tg iter body [] pos) (rdS X.K cA W fun ρ st => (fi ρ st).toS ρ fun xs st => forL (fun x ρ st => (ft x ρ st).toS ρ fun ρ st => fb ρ st) xs ρ st) := by
  refine PS_imp (ps_for hp hc hi hg hb hs) fun D σ H q => ?_
  refine At.of (Rel := WalkR X.K) (f := fi) (g := fun ρ xs st => forL (fun x ρ st => (ft x ρ st).toS ρ fun ρ st => fb ρ st) xs ρ st) q fun J xs w1 ρ s1 ev1 wk q1 => ?_
  obtain ⟨G, Y, wk, hG, hY⟩ := wk
  generalize hF : (fun (x : T) (ρ : Env) (st : Sto) => (ft x ρ st).toS ρ fun ρ st => fb ρ st) = F at q1
  refine for_it wk (fun i σ H => ∃ (w' : Wd) (ρ' : Env), w'.H = H ∧ Ext w1 w' ∧ Sim X.K w' ∧ EnvR X.K w' σ ρ' ∧ OkS X.K cA W D w' (forL F (xs.drop i) ρ' w'.st)) ⟨w1, ρ, rfl, Ext.refl _, s1, ev1, q1⟩ ?_ ?_ ?_
  · rintro i σ H hi ⟨w', ρ', rfl, e, s, _⟩
    exact hG w' e s
  · rintro i x σ H H' hi ⟨w', ρ', rfl, e, s, ev, q⟩ y
    obtain ⟨t, ht⟩ : ∃ t, xs[i]? = some t := ⟨xs[i], by simp [hi]⟩
    have hdrop : xs.drop i = t :: xs.drop (i + 1) := by
      obtain ⟨h1, h2⟩ := List.getElem?_eq_some_iff.mp ht
      rw [List.drop_eq_getElem_cons h1, h2]
    obtain ⟨ey, sy, ry⟩ := hY w' i t x H' e s ht y
    have q : OkS X.K cA W D ⟨w'.m, w'.st, H'⟩ _ := OkS.ext ey q
    rw [hdrop] at q
    simp only [forL] at q
    rw [← hF] at q
    dsimp only at q
    rw [hF] at q
    refine ⟨w'.m, ρ', w'.st, t, sy, ev.ext ey, ry, ?_⟩
    cases q0 : ft t ρ' w'.st with
    | bad => rw [q0] at q; exact q
    | exn z1 z2 =>
      rw [q0] at q
      exact fun m' H' dx fs e s hx hf => q σ H' m' dx fs e s ((ev.ext ey).ext e) hx hf
    | ok ρ1 st1 =>
      rw [q0] at q
      simp only [R.toS_ok] at q
      intro σ2 H2 m2 e2 s2 ev2
      refine ⟨m2, ρ1, st1, s2, ev2, ?_⟩
      have q : OkS X.K cA W D ⟨m2, st1, H2⟩ _ := OkS.ext e2 q
      dsimp only
      cases q3 : fb ρ1 st1 with
      | nx ρ3 st3 =>
        rw [q3] at q
        exact fun σ3 H3 m3 e3 s3 ev3 => ⟨⟨m3, st3, H3⟩, ρ3, rfl, ((e.trans ey).trans e2).trans e3, s3, ev3, OkS.ext e3 q⟩
      | ct ρ3 st3 =>
        rw [q3] at q
        exact fun σ3 H3 m3 e3 s3 ev3 => ⟨⟨m3, st3, H3⟩, ρ3, rfl, ((e.trans ey).trans e2).trans e3, s3, ev3, OkS.ext e3 q⟩
      | bk ρ3 st3 => rw [q3] at q; exact q
      | rt v st3 => rw [q3] at q; exact q
      | exn z ρ3 st3 => rw [q3] at q; exact q
      | bad => rw [q3] at q; exact q
  · rintro σ H ⟨w', ρ', rfl, e, s, ev, q⟩
    rw [List.drop_length] at q
    exact q σ w'.H w'.m (Ext.refl _) s ev
theorem rs_while {c : Expr} {body : List Stmt} {fc : Env → M Bool} {fb : Env → Sto → SR} {pos : Pos} {wf : Nat} (hp : PassesOwn (model X.prog X.w) X.A X.env X.xe) (hc : PT X c (rdT X.K cA W fc)) (hb : PSs X body (rdS X.K cA W fb)) :
    PS X (.While c body [] pos) (rdS X.K cA W fun ρ st => whileL fc fb wf ρ st) := by
  refine PS_imp (ps_while hp hc hb) fun D σ H ⟨m, ρ, st, sim, ev, q⟩ => ?_
  refine ⟨fun n σ H => At X.K σ H fun w ρ => OkS X.K cA W D w (whileL fc fb n ρ w.st), ⟨wf, m, ρ, st, sim, ev, q⟩, ?_⟩
  rintro n σ H ⟨m, ρ, st, sim, ev, q⟩
  cases n with
  | zero => exact q.elim
  | succ n =>
    simp only [whileL] at q
    refine ⟨m, ρ, st, sim, ev, OkS.of ev q fun b a w1 e1 s1 r1 q1 => ?_⟩
    cases r1
    have ev1 := ev.ext e1
    cases b with
    | false => exact q1 σ w1.H w1.m (Ext.refl _) s1 ev1
    | true =>
      simp only [if_true] at q1 ⊢
      refine ⟨fun σ H => At X.K σ H fun w ρ => OkS X.K cA W D w (whileL fc fb n ρ w.st), fun σ' H' z => ⟨n, Nat.lt_succ_self n, z⟩, w1.m, ρ, w1.st, s1, ev1, ?_⟩
      show OkS X.K cA W _ w1 (fb ρ w1.st)
      cases q3 : fb ρ w1.st with
      | nx ρ3 st3 => rw [q3] at q1; exact fun σ3 H3 m3 e3 s3 ev3 => ⟨m3, ρ3, st3, s3, ev3, OkS.ext e3 q1⟩
      | ct ρ3 st3 => rw [q3] at q1; exact fun σ3 H3 m3 e3 s3 ev3 => ⟨m3, ρ3, st3, s3, ev3, OkS.ext e3 q1⟩
      | bk ρ3 st3 => rw [q3] at q1; exact q1
      | rt v st3 => rw [q3] at q1; exact q1
      | exn z ρ3 st3 => rw [q3] at q1; exact q1
      | bad => rw [q3] at q1; exact q1
end
end Ev

/-! Ev14: leaving a def. -/
namespace Ev
open PySem PySem.Spec PyProof.Rows L2
section
variable {K : PySem.W.Frag}
theorem SqF.weak {lv lv' : Addr → Prop} {H : Hp} {a : Addr} {xs : List V} (k : ∀ b, lv' b → lv b) (h : SqF lv H a xs) : SqF lv' H a xs := ⟨h.1, fun z => h.2 (k a z)⟩
theorem TpF.weak {lv lv' : Addr → Prop} {H : Hp} {a : Addr} {xs : List V} (k : ∀ b, lv' b → lv b) (h : TpF K lv H a xs) : TpF K lv' H a xs := h.imp (fun h => ⟨h.1, fun z => h.2 (k a z)⟩) id
mutual
theorem RD.weak {lv lv' : Addr → Prop} {H : Hp} (k : ∀ b, lv' b → lv b) : ∀ {v : V} {x : PyData}, RD K lv H v x → RD K lv' H v x
  | _, _, .non => .non
  | _, _, .bl b => .bl b
  | _, _, .int i => .int i
  | _, _, .str x => .str x
  | _, _, .lst h r => .lst (h.weak k) (RDs.weak k r)
  | _, _, .tup h r => .tup (h.weak k) (RDs.weak k r)
  | _, _, .dct h n r => .dct h (fun z => n (k _ z)) (RDk.weak k r)
theorem RDs.weak {lv lv' : Addr → Prop} {H : Hp} (k : ∀ b, lv' b → lv b) : ∀ {v : List V} {x : List PyData}, RDs K lv H v x → RDs K lv' H v x
  | _, _, .nil => .nil
  | _, _, .cons r rs => .cons (RD.weak k r) (RDs.weak k rs)
theorem RDk.weak {lv lv' : Addr → Prop} {H : Hp} (k : ∀ b, lv' b → lv b) : ∀ {v : List (Key × V)} {x : List (PyData × PyData)}, RDk K lv H v x → RDk K lv' H v x
  | _, _, .nil => .nil
  | _, _, .cons r rs => .cons (RD.weak k r) (RDk.weak k rs)
end
theorem Paired.nth {α β : Type} {F : α → β → Prop} : ∀ {l : List α} {r : List β} {i : Nat} {b : β}, Paired F l r → r[i]? = some b → ∃ a, l[i]? = some a ∧ F a b
  | _, _, i, b, .nil, h => by simp at h
  | _, _, 0, b, .cons x _, h => by simp at h; subst h; exact ⟨_, rfl, x⟩
  | _, _, i + 1, b, .cons _ t, h => by
    obtain ⟨a, h1, h2⟩ := Paired.nth (i := i) t (by simpa using h)
    exact ⟨a, by simpa using h1, h2⟩
theorem lift_map {α β γ : Type} {f : α → Option β} {R1 : γ → α → Prop} {R2 : γ → β → Prop} (k : ∀ c a b, R1 c a → f a = some b → R2 c b) : ∀ {cs : List γ} {as : List α} {bs : List β}, Paired R1 cs as → mapO f as = some bs → Paired R2 cs bs
  | _, _, bs, .nil, h => by simp only [mapO, Option.some.injEq] at h; subst h; exact .nil
  | _, _, bs, .cons (b := a) (l₂ := as) x t, h => by
    simp only [mapO] at h
    cases e : f a with
    | none => rw [e] at h; cases h
    | some y =>
      simp only [e] at h
      cases e2 : mapO f as with
      | none => rw [e2] at h; cases h
      | some zs =>
        simp only [e2, Option.some.injEq] at h
        subst h
        exact .cons (k _ _ _ x e) (lift_map k t e2)
theorem RTs.pairs {lv : Addr → Prop} {m : List Addr} {H : Hp} : ∀ {vs : List V} {ts : List T}, RTs K lv m H vs ts → Paired (RT K lv m H) vs ts
  | _, _, .nil => .nil
  | _, _, .cons r rs => .cons r rs.pairs
theorem RTs.of_pairs {lv : Addr → Prop} {m : List Addr} {H : Hp} : ∀ {vs : List V} {ts : List T}, Paired (RT K lv m H) vs ts → RTs K lv m H vs ts
  | _, _, .nil => .nil
  | _, _, .cons r rs => .cons r (RTs.of_pairs rs)
theorem RDk.of_pairs {lv : Addr → Prop} {H : Hp} : ∀ {vs : List (Key × V)} {ts : List (PyData × PyData)}, Paired (fun (p : Key × V) (q : PyData × PyData) => q.1 = kyD p.1 ∧ RD K lv H p.2 q.2) vs ts → RDk K lv H vs ts
  | _, _, .nil => .nil
  | _, _, .cons (a := p) (b := q) r rs => by
    obtain ⟨p1, p2⟩ := p
    obtain ⟨q1, q2⟩ := q
    obtain ⟨e, r⟩ := r
    have e : q1 = kyD p1 := e
    subst e
    exact .cons r (RDk.of_pairs rs)

/-- the world behind a def: the callers' objects alone -/
theorem leave_ok {w0 w1 : Wd} (s0 : Sim K w0) (s1 : Sim K w1) (e : Ext w0 w1) {st2 : Sto} (h : mapO (fzO w0.st.length w1.st) (w1.st.take w0.st.length) = some st2) :
    Ext w0 ⟨w0.m, st2, w1.H⟩ ∧ Sim K ⟨w0.m, st2, w1.H⟩ ∧ ∀ (j : Nat) (v : V) (t t' : T), fz w0.st.length w1.st j t = some t' → w1.R K v t → RT K (Live w0.m st2) w0.m w1.H v t' := by
  have hp := mapO_some h
  have hm : ∀ {n : Nat} {a : Addr}, w0.m[n]? = some a → w1.m[n]? = some a := fun q => e.get q
  have hlen1 : w0.m.length ≤ w1.m.length := e.pre.length_le
  have l0 := s0.len
  have l1 := s1.len
  have hlen2 : st2.length = w0.st.length := by
    have q := Paired.length hp
    rw [List.length_take] at q
    omega
  have hst : ∀ {n : Nat} {y : Option O}, st2[n]? = some y → ∃ x, w1.st[n]? = some x ∧ fzO w0.st.length w1.st x = some y := fun {n y} q => by
    obtain ⟨x, h1, h2⟩ := Paired.nth hp q
    refine ⟨x, ?_, h2⟩
    rw [List.getElem?_take] at h1
    split at h1
    · exact h1
    · cases h1
  have hlv : ∀ b, Live w0.m st2 b → w1.lv b := fun b ⟨n, o, h1, h2⟩ => by
    obtain ⟨x, h3, h4⟩ := hst h2
    cases x with
    | none => cases h4
    | some o' => exact ⟨n, o', hm h1, h3⟩
  have hout : ∀ {r : Nat} {a : Addr}, w1.m[r]? = some a → ¬ r < w0.st.length → ¬ Live w0.m st2 a := fun {r a} h1 h2 ⟨n, o, h3, h4⟩ => by
    have h5 := hm h3
    have hn : n < w0.m.length := (List.getElem?_eq_some_iff.mp h3).1
    have : r = n := (List.getElem?_inj (List.getElem?_eq_some_iff.mp h1).1 s1.nd).mp (h1.trans h5.symm)
    omega
  have hfz : ∀ (j : Nat) (v : V) (t t' : T), fz w0.st.length w1.st j t = some t' → w1.R K v t → RT K (Live w0.m st2) w0.m w1.H v t' := by
    intro j
    induction j with
    | zero => intro v t t' h _; cases h
    | succ j ih =>
      intro v t t' h r
      have all : ∀ {vs : List V} {ts ys : List T}, w1.Rs K vs ts → mapO (fz w0.st.length w1.st j) ts = some ys → RTs K (Live w0.m st2) w0.m w1.H vs ys := fun hr hh => RTs.of_pairs (lift_map (fun c a b x y => ih c a b y x) hr.pairs hh)
      simp only [fz] at h
      cases r with
      | d r => cases h; exact .d (r.weak hlv)
      | @ref n a hn =>
        simp only at h
        split at h
        · rename_i hlt
          cases h
          obtain ⟨b, hb⟩ : ∃ b, w0.m[n]? = some b := ⟨w0.m[n]'(by omega), List.getElem?_eq_getElem (by omega)⟩
          have z := hm hb
          rw [hn] at z
          cases z
          exact .ref hb
        · rename_i hge
          split at h
          · rename_i xs hs
            obtain ⟨ys, h3, rfl⟩ := Option.map_eq_some_iff.mp h
            obtain ⟨vs, g1, g2⟩ := s1.obj _ _ _ hn hs
            exact mkLst_ok ⟨.inl g1, hout hn hge⟩ (all g2 h3)
          · rename_i kvs hs
            obtain ⟨ks, g1, g2⟩ := s1.obj _ _ _ hn hs
            split at h
            · rename_i ps h3
              cases h
              refine .d (.dct g1 (hout hn hge) (RDk.of_pairs (lift_map (fun c a b x y => ?_) g2 h3)))
              split at y
              · rename_i dx hx
                cases y
                refine ⟨by rw [x.1], ?_⟩
                have z := ih _ _ _ hx x.2
                generalize c.2 = c2 at z
                cases z with | d z => exact z
              · cases y
            · cases h
          · cases h
      | tup h1 h2 =>
        obtain ⟨ys, h3, rfl⟩ := Option.map_eq_some_iff.mp h
        exact mkTup_ok (h1.weak hlv) (all h2 h3)
      | lst h1 h2 =>
        obtain ⟨ys, h3, rfl⟩ := Option.map_eq_some_iff.mp h
        exact mkLst_ok (h1.weak hlv) (all h2 h3)
      | scr h1 => cases h; exact .scr (h1.imp (fun z => z.weak hlv) id)
  refine ⟨⟨List.prefix_refl _, fun n a h q => absurd (List.getElem?_eq_some_iff.mp q).1 (Nat.not_lt.mpr h), fun a h => e.lvs a (hlv a h), e.keep, e.trk⟩,
    ⟨by rw [hlen2, l0], s0.nd, fun a ha => ?_, fun n a o h1 h2 => ?_⟩, hfz⟩
  · obtain ⟨l, hl⟩ := e.pre
    exact s1.trk a (by rw [← hl]; exact List.mem_append_left _ ha)
  · obtain ⟨x, h3, h4⟩ := hst h2
    cases x with
    | none => cases h4
    | some o' =>
      have ob := s1.obj n a o' (hm h1) h3
      cases o' with
      | lst xs =>
        simp only [fzO] at h4
        obtain ⟨ys, h5, h6⟩ := Option.map_eq_some_iff.mp h4
        cases h6
        obtain ⟨vs, g1, g2⟩ := ob
        exact ⟨vs, g1, RTs.of_pairs (lift_map (fun c a b x y => hfz 9 c a b y x) g2.pairs h5)⟩
      | dct kvs =>
        simp only [fzO] at h4
        obtain ⟨ys, h5, h6⟩ := Option.map_eq_some_iff.mp h4
        cases h6
        obtain ⟨ks, g1, g2⟩ := ob
        refine ⟨ks, g1, lift_map (fun c a b x y => ?_) g2 h5⟩
        obtain ⟨z, hz, e6⟩ := Option.map_eq_some_iff.mp y
        cases e6
        exact ⟨x.1, hfz 9 _ _ _ hz x.2⟩
end
end Ev

/-! Ev15: what a def promises (the guards told), the call, the def's rule. -/
namespace Ev
open PySem PySem.Spec PyProof.Rows L2
theorem Paired.glue {α β : Type} {F : α → β → Prop} : ∀ {l1 l2 : List α} {r1 r2 : List β}, Paired F l1 r1 → Paired F l2 r2 → Paired F (l1 ++ l2) (r1 ++ r2)
  | _, _, _, _, .nil, q => q
  | _, _, _, _, .cons a t, q => .cons a (Paired.glue t q)
theorem Paired.nthL {α β : Type} {F : α → β → Prop} : ∀ {l : List α} {r : List β} (i : Nat), Paired F l r → (∃ a b, l[i]? = some a ∧ r[i]? = some b ∧ F a b) ∨ (l[i]? = none ∧ r[i]? = none)
  | _, _, i, .nil => .inr ⟨by simp, by simp⟩
  | _, _, 0, .cons x _ => .inl ⟨_, _, rfl, rfl, x⟩
  | _, _, i + 1, .cons _ t => by simpa using Paired.nthL i t
theorem permL_rel {α β : Type} {F : α → β → Prop} {l : List α} {r : List β} (h : Paired F l r) : ∀ p : List Nat, Paired F (permL p l) (permL p r)
  | [] => .nil
  | i :: p => by
    have ih := permL_rel h p
    unfold permL at ih ⊢
    rcases Paired.nthL i h with ⟨a, b, h1, h2, h3⟩ | ⟨h1, h2⟩
    · rw [List.filterMap_cons_some h1, List.filterMap_cons_some h2]
      exact .cons h3 ih
    · rw [List.filterMap_cons_none h1, List.filterMap_cons_none h2]
      exact ih

structure FnG (P : Program) (w : World) (K : PySem.W.Frag) (mg : Str → Option Value) (base : Heap) (k : Nat) (f : Addr) (fd : FuncData) (ps : List Str) (sp : Sp) : Prop where
  len : ∀ vs H Q E, sp vs H Q E → vs.length = ps.length
  run : ∀ (A : Around) (outer : List PySem.Env) (s : Shared) (H : Hp) (args : Args) (us : List Value) (vs : List V) (Q : VK) (E : XK), Room k A → A.guards = some [] → Env0 P w K mg base A outer s H →
    BindsTo s fd args (ps.zip us) → Vals vs us → sp vs H Q E → codeAny (model P w) A (.call (.ref f) args) (CR (L2.CX P w) outer P w H s Q E) s
/-- n positional values, keywords ks: they come to the parameters by p -/
def BindP (K : PySem.W.Frag) (fd : FuncData) (ps : List Str) (n : Nat) (ks : List Str) (p : List Nat) : Prop :=
  ∀ (s : Shared) (us ws : List Value), K.In s.heap → us.length = n → ws.length = ks.length → BindsTo s fd ⟨us, ks.zip ws⟩ (ps.zip (permL p (us ++ ws)))
/-- the promise by the evaluator -/
def spC (K : PySem.W.Frag) (cA : Nat → Addr) (np : Nat) (C : List T → M T) : Sp := fun vs H Q E => ∃ (m : List Addr) (st : Sto) (ts : List T), Sim K ⟨m, st, H⟩ ∧ RTs K (Live m st) m H vs ts ∧ ts.length = np ∧
  OkG K cA (fun cls d _ H => E cls d H) (RelT K) [] ⟨m, st, H⟩ (C ts st) Q

section
variable {X : Cx} {cA : Nat → Addr} {W : WX} {k n : Nat} {f : Addr} {fd : FuncData} {ps ks : List Str} {sp : Sp} {perm : List Nat}
theorem run_g {pins : List (Addr × Obj)} {σ : L2.St} {H : Hp} {s : Shared} {Q : VK} {us ws : List Value} {vs zs : List V} (F : FnG X.prog X.w X.K X.mg X.base k f fd ps sp) (hr : Room k X.A) (hgd : X.A.guards = some []) (hb : BindP X.K fd ps n ks perm) (tk : Takes X W)
    (I : Inv X pins σ H s) (r : Vals vs us) (rz : Vals zs ws) (l1 : vs.length = n) (l2 : zs.length = ks.length) (h : sp (permL perm (vs ++ zs)) H Q fun cls d H' => W cls d σ H') :
    wpAny (model X.prog X.w) X.A (call (.ref f) us (ks.zip ws)) (EP X pins σ Q) X.xe s := by
  have both : Vals (permL perm (vs ++ zs)) (permL perm (us ++ ws)) := permL_rel (Paired.glue r rz) perm
  have bd := hb s us ws I.kIn ((Paired.length r).symm.trans l1) ((Paired.length rz).symm.trans l2)
  refine wpAny_call (codeAny_mono (F.run X.A X.stack s H _ _ _ Q _ hr hgd I.env0 bd both h) ?_)
  intro res s2 end_
  match res, end_ with
  | .error e, z => exact tk e s2 (XE.of_call I (fun _ _ _ z => z) z)
  | .ok (.ret u), z => exact I.after z
  | .ok .next, z => exact z.elim
  | .ok .brk, z => exact z.elim
  | .ok .cont, z => exact z.elim

/-- the call's reading from the parts' -/
theorem spC_of {C : List T → M T} {np : Nat} {σ : L2.St} {w : Wd} {Q : VK} {vs : List V} {ts : List T} (sim : Sim X.K w) (r : w.Rs X.K vs ts) (hl : ts.length = np) (q : OkG X.K cA W (RelT X.K) σ w (C ts w.st) Q) : spC X.K cA np C vs w.H Q (fun cls d H' => W cls d σ H') := by
  refine ⟨w.m, w.st, ts, sim, r, hl, ?_⟩
  cases e : C ts w.st with
  | ok a st1 => rw [e] at q; exact q
  | exn x st1 => rw [e] at q; exact q
  | bad => rw [e] at q; exact q
def rdK (K : PySem.W.Frag) (cA : Nat → Addr) (W : WX) (f : Env → M (List T)) : TA := rdA K cA W f
theorem re_call {x : Str} {p pos : Pos} {e : Expr} {es : List Expr} {fs : Env → M (List T)} {C : List T → M T} {np : Nat} (F : FnG X.prog X.w X.K X.mg X.base k f fd ps (spC X.K cA np C)) (hr : Room k X.A) (hgd : X.A.guards = some []) (tk : Takes X W)
    (hg : Gl X x) (hm : X.mg x = some (.ref f)) (hk : PySem.W.keepIn X.K (.ref f) = true) (hb : BindP X.K fd ps (e :: es).length [] (List.range (e :: es).length)) (hn : (e :: es).length = np) (ha : PA X (e :: es) (rdA X.K cA W fs))
    (hlen : ∀ ρ st xs st', fs ρ st = .ok xs st' → xs.length = np)
    (hdb : (x == ("__debug__" : Str)) = false) (he : starEach (e :: es) X.env = (false, eval e X.env) :: starEach es X.env) (hpl : (backTo pos (starEach es X.env)).any (·.1) = false) :
    PE X (.Call (.Name x p) (e :: es) [] pos) (rdE X.K cA W fun ρ st => (fs ρ st).bind fun xs st => C xs st) := by
  refine ⟨fun pins s σ H Q I h => ?_⟩
  refine wpAny_Call_Name_kw (ld_glob I hg hm ?_ hdb)
  have hA := ha.run pos pins s σ H (fun vs H1 => ∃ (m1 : List Addr) (st1 : Sto) (ts : List T), Sim X.K ⟨m1, st1, H1⟩ ∧ RTs X.K (Live m1 st1) m1 H1 vs ts ∧ ts.length = np ∧ OkG X.K cA W (RelT X.K) σ ⟨m1, st1, H1⟩ (C ts st1) Q) I (by
    obtain ⟨m, ρ, st, sim, ev, q⟩ := h
    refine ⟨m, ρ, st, sim, ev, ?_⟩
    dsimp only at q ⊢
    cases e1 : fs ρ st with
    | bad => rw [e1] at q; exact q
    | exn z st1 => rw [e1] at q; exact q
    | ok xs st1 =>
      rw [e1] at q
      exact fun vs H1 m1 e2 s2 r2 => ⟨m1, st1, xs, s2, r2, hlen _ _ _ _ e1, OkG.ext e2 q⟩)
  refine PySem.W.callWith_K (h₀ := X.base) I.ok.mod.kin hk (thn hA ?_) he hpl
  rintro us s1 ⟨vs, H1, I1, r, m1, st1, ts, sim1, rt1, hl, q⟩
  refine ⟨I1.kIn, ?_⟩
  have lv : vs.length = (e :: es).length := by rw [RTs.length rt1, hl, hn]
  have pid : permL (List.range (e :: es).length) (vs ++ []) = vs := by
    rw [List.append_nil]
    unfold permL
    apply List.ext_getElem?
    intro i
    rw [← lv]
    have : (List.range vs.length).filterMap (fun i => vs[i]?) = vs := by
      have g : ∀ (l : List V), (List.range l.length).filterMap (fun i => l[i]?) = l := by
        intro l
        induction l with
        | nil => rfl
        | cons a l ih =>
          rw [List.length_cons, List.range_succ_eq_map, List.filterMap_cons_some (by rfl), List.filterMap_map]
          congr 1
      exact g vs
    rw [this]
  have run := run_g (ks := []) (ws := []) (zs := []) F hr hgd hb tk I1 r .nil lv rfl (by
    rw [pid]
    exact spC_of (w := ⟨m1, st1, H1⟩) sim1 rt1 hl q)
  exact run
end
end Ev

/-! Ev16: calls with keywords, the def's rule. -/
namespace Ev
open PySem PySem.Spec PyProof.Rows L2
section
variable {X : Cx} {cA : Nat → Addr} {W : WX} {k n : Nat} {f : Addr} {fd : FuncData} {ps ks : List Str} {perm : List Nat}
theorem rk_nil : PK X [] (rdA X.K cA W fun _ st => .ok [] st) :=
  ⟨fun pos pins s σ H Q I ⟨m, ρ, st, sim, ev, q⟩ => pk_nil.run pos pins s σ H Q I (q [] H m (Ext.refl _) sim .nil)⟩
theorem rk_cons {e : Expr} {kws : List Keyword} {nm : Option Str} {kpos : Pos} {g : Env → M T} {h : Env → M (List T)} (h1 : PE X e (rdE X.K cA W g)) (h2 : PK X kws (rdA X.K cA W h)) :
    PK X (⟨nm, e, kpos⟩ :: kws) (rdA X.K cA W fun ρ st => (g ρ st).bind fun x st => (h ρ st).bind fun xs st => .ok (x :: xs) st) := by
  refine ⟨fun pos pins s σ H Q I q => (pk_cons h1 h2).run pos pins s σ H Q I ?_⟩
  refine At.bind (f := g) (Rel1 := RelT X.K) (g := fun ρ x st => (h ρ st).bind fun xs st => .ok (x :: xs) st) q fun b a w1 ρ s1 ev1 r1 q1 => ?_
  refine (show rdA X.K cA W h σ w1.H _ from At.mk s1 ev1 (OkG.bind (Rel1 := RelTs X.K) q1 fun b2 a2 w2 e2 s2 r2 q2 => ?_))
  exact q2.ok s2 (.cons (e2.t r1) r2)

/-- what is wanted ahead of the callee -/
def CallQ (K : PySem.W.Frag) (cA : Nat → Addr) (W : WX) (σ : L2.St) (Q : VK) (C : List T → M T) (perm : List Nat) (n n2 : Nat) (vs zs : List V) (H1 : Hp) : Prop :=
  ∃ (m1 : List Addr) (st1 : Sto) (ts ss : List T), Sim K ⟨m1, st1, H1⟩ ∧ RTs K (Live m1 st1) m1 H1 vs ts ∧ RTs K (Live m1 st1) m1 H1 zs ss ∧ ts.length = n ∧ ss.length = n2 ∧ OkG K cA W (RelT K) σ ⟨m1, st1, H1⟩ (C (permL perm (ts ++ ss)) st1) Q
theorem CallQ.run {pins : List (Addr × Obj)} {σ : L2.St} {H1 : Hp} {s1 : Shared} {Q : VK} {us ws : List Value} {vs zs : List V} {C : List T → M T} {np : Nat} (F : FnG X.prog X.w X.K X.mg X.base k f fd ps (spC X.K cA np C)) (hr : Room k X.A) (hgd : X.A.guards = some []) (hb : BindP X.K fd ps n ks perm) (tk : Takes X W)
    (hnp : ∀ ts ss : List T, ts.length = n → ss.length = ks.length → (permL perm (ts ++ ss)).length = np)
    (I : Inv X pins σ H1 s1) (r : Vals vs us) (rz : Vals zs ws) (q : CallQ X.K cA W σ Q C perm n ks.length vs zs H1) : wpAny (model X.prog X.w) X.A (call (.ref f) us (ks.zip ws)) (EP X pins σ Q) X.xe s1 := by
  obtain ⟨m1, st1, ts, ss, sim, r1, r2, l1, l2, q⟩ := q
  refine run_g F hr hgd hb tk I r rz (r1.length.trans l1) (r2.length.trans l2) ?_
  exact spC_of (w := ⟨m1, st1, H1⟩) sim (RTs.of_pairs (permL_rel (Paired.glue r1.pairs r2.pairs) perm)) (hnp _ _ l1 l2) q
theorem re_callK {x : Str} {p pos : Pos} {e : Expr} {es : List Expr} {kws : List Keyword} {fs fk : Env → M (List T)} {C : List T → M T} {np : Nat} (F : FnG X.prog X.w X.K X.mg X.base k f fd ps (spC X.K cA np C)) (hr : Room k X.A) (hgd : X.A.guards = some []) (tk : Takes X W)
    (hg : Gl X x) (hm : X.mg x = some (.ref f)) (hk : PySem.W.keepIn X.K (.ref f) = true) (hb : BindP X.K fd ps n ks perm) (hnp : ∀ ts ss : List T, ts.length = n → ss.length = ks.length → (permL perm (ts ++ ss)).length = np)
    (ha : PA X (e :: es) (rdA X.K cA W fs)) (hkw : PK X kws (rdA X.K cA W fk)) (hl1 : ∀ ρ st xs st', fs ρ st = .ok xs st' → xs.length = n) (hl2 : ∀ ρ st xs st', fk ρ st = .ok xs st' → xs.length = ks.length)
    (hall : (backToKw pos (keywordEach kws X.env)).all (·.1.isSome) = true) (hks : (backToKw pos (keywordEach kws X.env)).filterMap (·.1) = ks)
    (hdb : (x == ("__debug__" : Str)) = false) (he : starEach (e :: es) X.env = (false, eval e X.env) :: starEach es X.env)
    (hpl : ((backTo pos (starEach (e :: es) X.env)).any (·.1) || (backToKw pos (keywordEach kws X.env)).any (·.1.isNone)) = false) :
    PE X (.Call (.Name x p) (e :: es) kws pos) (rdE X.K cA W fun ρ st => (fs ρ st).bind fun xs st => (fk ρ st).bind fun ys st => C (permL perm (xs ++ ys)) st) := by
  refine ⟨fun pins s σ H Q I h => ?_⟩
  refine wpAny_Call_Name_kw (ld_glob I hg hm ?_ hdb)
  obtain ⟨m, ρ, st, sim, ev, q⟩ := h
  have hA := ha.run pos pins s σ H (fun vs H1 => rdA X.K cA W fk σ H1 fun zs H2 => CallQ X.K cA W σ Q C perm n ks.length vs zs H2) I (by
    refine ⟨m, ρ, st, sim, ev, ?_⟩
    dsimp only at q ⊢
    cases e1 : fs ρ st with
    | bad => rw [e1] at q; exact q
    | exn z st1 => rw [e1] at q; exact q
    | ok xs st1 =>
      rw [e1] at q
      intro vs H1 m1 e2 s2 r2
      refine ⟨m1, ρ, st1, s2, ev.ext e2, ?_⟩
      have q : OkG X.K cA W (RelT X.K) σ ⟨m1, st1, H1⟩ _ Q := OkG.ext e2 q
      simp only [R.bind_ok] at q ⊢
      cases e3 : fk ρ st1 with
      | bad => rw [e3] at q; exact q
      | exn z st1 => rw [e3] at q; exact q
      | ok ys st2 =>
        rw [e3] at q
        exact fun zs H2 m2 e4 s4 r4 => ⟨m2, st2, xs, ys, s4, e4.ts r2, r4, hl1 _ _ _ _ e1, hl2 _ _ _ _ e3, OkG.ext e4 q⟩)
  refine PySem.W.callWith_KW (h₀ := X.base) I.ok.mod.kin hk hall (thn hA ?_) hpl he
  rintro us s1 ⟨vs, H1, I1, r, q1⟩
  refine thn (hkw.run pos pins s1 σ H1 _ I1 q1) ?_
  rintro ws s2 ⟨zs, H2, I2, rz, q2⟩
  refine ⟨I2.kIn, ?_⟩
  rw [hks]
  exact CallQ.run F hr hgd hb tk hnp I2 r rz q2
theorem re_callK0 {x : Str} {p pos : Pos} {kws : List Keyword} {fk : Env → M (List T)} {C : List T → M T} {np : Nat} (F : FnG X.prog X.w X.K X.mg X.base k f fd ps (spC X.K cA np C)) (hr : Room k X.A) (hgd : X.A.guards = some []) (tk : Takes X W)
    (hg : Gl X x) (hm : X.mg x = some (.ref f)) (hk : PySem.W.keepIn X.K (.ref f) = true) (hb : BindP X.K fd ps 0 ks perm) (hnp : ∀ ts ss : List T, ts.length = 0 → ss.length = ks.length → (permL perm (ts ++ ss)).length = np)
    (hkw : PK X kws (rdA X.K cA W fk)) (hl2 : ∀ ρ st xs st', fk ρ st = .ok xs st' → xs.length = ks.length)
    (hall : (backToKw pos (keywordEach kws X.env)).all (·.1.isSome) = true) (hks : (backToKw pos (keywordEach kws X.env)).filterMap (·.1) = ks)
    (hdb : (x == ("__debug__" : Str)) = false) (hpl : ((backTo pos (starEach [] X.env)).any (·.1) || (backToKw pos (keywordEach kws X.env)).any (·.1.isNone)) = false) :
    PE X (.Call (.Name x p) [] kws pos) (rdE X.K cA W fun ρ st => (R.ok ([] : List T) st).bind fun xs st => (fk ρ st).bind fun ys st => C (permL perm (xs ++ ys)) st) := by
  refine ⟨fun pins s σ H Q I h => ?_⟩
  refine wpAny_Call_Name_kw (ld_glob I hg hm ?_ hdb)
  obtain ⟨m, ρ, st, sim, ev, q⟩ := h
  have q1 : rdA X.K cA W fk σ H fun zs H2 => CallQ X.K cA W σ Q C perm 0 ks.length [] zs H2 := by
    refine ⟨m, ρ, st, sim, ev, ?_⟩
    simp only [R.bind_ok] at q ⊢
    cases e3 : fk ρ st with
    | bad => rw [e3] at q; exact q
    | exn z st1 => rw [e3] at q; exact q
    | ok ys st2 =>
      rw [e3] at q
      exact fun zs H2 m2 e4 s4 r4 => ⟨m2, st2, [], ys, s4, .nil, r4, rfl, hl2 _ _ _ _ e3, OkG.ext e4 q⟩
  refine PySem.W.callWith_KW0 (h₀ := X.base) I.ok.mod.kin hk hall (thn (hkw.run pos pins s σ H _ I q1) ?_) hpl
  rintro ws s2 ⟨zs, H2, I2, rz, q2⟩
  refine ⟨I2.kIn, ?_⟩
  rw [hks]
  exact CallQ.run F hr hgd hb tk hnp I2 .nil rz q2
/-- f() -/
theorem re_call0 {x : Str} {p pos : Pos} {C : List T → M T} (F : FnG X.prog X.w X.K X.mg X.base k f fd ps (spC X.K cA 0 C)) (hr : Room k X.A) (hgd : X.A.guards = some []) (tk : Takes X W)
    (hg : Gl X x) (hm : X.mg x = some (.ref f)) (hk : PySem.W.keepIn X.K (.ref f) = true) (hb : BindP X.K fd ps 0 [] []) (hdb : (x == ("__debug__" : Str)) = false) :
    PE X (.Call (.Name x p) [] [] pos) (rdE X.K cA W fun ρ st => (R.ok ([] : List T) st).bind fun xs st => C xs st) := by
  refine ⟨fun pins s σ H Q I h => ?_⟩
  refine wpAny_Call_Name_kw (ld_glob I hg hm ?_ hdb)
  obtain ⟨m, ρ, st, sim, ev, q⟩ := h
  exact PySem.W.callWith_K0 I.kIn hk (CallQ.run (ks := []) (ws := []) F hr hgd hb tk (fun _ _ _ _ => rfl) I .nil .nil ⟨m, st, [], [], sim, .nil, .nil, rfl, rfl, q⟩)
end

/-! ### the def's rule -/
theorem fn_g {P : Program} {w : World} {K : PySem.W.Frag} {mg : Str → Option Value} {base : Heap} {k : Nat} {f : Addr} {fd : FuncData} {x qual : Str} {params : Arguments} {body : List Stmt} {scope : Scope} {dvs : List V} {kws : List (Str × V)} {N ps : List Str} {sp : Sp}
    (F : FunD K x qual params body scope dvs kws f fd) (S : FnScope N ps scope) (len : ∀ vs H Q E, sp vs H Q E → vs.length = ps.length)
    (hbody : ∀ (cdv : Value) (A : Around) (outer : List PySem.Env) (s : Shared) (H : Hp) (vs : List V) (Q : VK) (E : XK), Room k (A.deeper (envOfC qual scope s.heap.objs.size f cdv)) → A.guards = some [] → sp vs H Q E →
      ∃ t, PSs (cxOf (L2.CX P w) P w K mg base N qual scope f cdv A outer s H E) body t ∧ t { nx := fun _ H' => Q .non H', rt := Q } (start N vs) H) :
    FnG P w K mg base (k + 1) f fd ps sp := by
  obtain ⟨oc, od, dV, kV, doc, pm, an, cdv, ct, osl, e0, look, code, _, _⟩ := F.ex
  subst e0
  refine ⟨len, ?_⟩
  intro A outer s H args us vs Q E room gd en bd rel want
  have kin : K.In s.heap := en.mod.kin.keeps fun b o z => (en.bs b o z).1
  have free : s.heap.NoLimit := en.mod.nolimit.keeps fun b o z => (en.bs b o z).1
  have slots : ∀ y ∈ ps.zip us, scope.names.lookup y.1 = some .local ∨
      (scope.names.lookup y.1 = some .cell ∧ ((cellsFrom (s.heap.objs.size + 1) scope.names []).lookup y.1).isSome = true) := by
    rintro ⟨nm, u⟩ hy
    have cases2 := S.par nm (List.of_mem_zip hy).1
    exact cases2.imp id fun z => ⟨z, PySem.W.cellsFrom_some _ _ _ (.inl z)⟩
  have crec := PySem.W.codeRec_of kin code
  refine codeAny_call_function room.depth (kin _ _ look)
    rfl S.co S.gen rfl crec (bd _ _ _ _ ?_)
  refine wpAny_newFunctionEnv_cells S.kind slots ?_
  intro env envIs s1 inC
  subst envIs
  refine ⟨free.keeps inC.toInCall.keep, codeAny_func ?_⟩
  obtain ⟨t, holds, start0⟩ := hbody cdv A outer s H vs Q E (room.deeper _) gd want
  have inv0 : Inv (cxOf (L2.CX P w) P w K mg base N qual scope f cdv A outer s H E) [] (start N vs) H s1 := inv_start S room.hd en (len _ _ _ _ want) rel inC
  refine wpAny_mono (holds.run [] s1 _ H _ inv0 start0) ?_ fun _ _ z => z
  intro fl s2 z
  match fl, z with
  | .ret u, ⟨v, σ2, H2, J, rv, q⟩ => exact ⟨v, H2, J.os, J.bare, J.base, J.hok, rv, q⟩
  | .next, ⟨σ2, H2, J, q⟩ => exact ⟨.non, H2, J.os, J.bare, J.base, J.hok, rfl, q⟩
  | .brk, ⟨_, _, _, q⟩ => exact q.elim
  | .cont, ⟨_, _, _, q⟩ => exact q.elim
end Ev

/-! Ev17: does a text match a program form? -/
namespace Ev
open PySem PySem.Spec PyProof.Rows L2

/-- a global def: its number, its parameters, the ways it may be called -/
structure FnE where
  g : Nat
  ps : List Str
  bs : List (Nat × List Str × List Nat)
/-- what is known of the place -/
structure Sc where
  N : List Str
  sc : Scope
  cel : List (Str × NameKind)
  fns : List (Str × FnE)
  cis : List (Str × Int)
  css : List (Str × Str)
  fre : List Str

def lookS {α : Type} (x : Str) : List (Str × α) → Option α
  | [] => none
  | (y, a) :: r => if strEq x y then some a else lookS x r
def memS (x : Str) : List Str → Bool
  | [] => false
  | y :: r => strEq x y || memS x r
def nthIs (l : List Str) (i : Nat) (x : Str) : Bool := match l[i]? with
  | some y => strEq x y
  | none => false
def strsEq : List Str → List Str → Bool
  | [], [] => true
  | a :: x, b :: y => strEq a b && strsEq x y
  | _, _ => false
def Sc.vis (c : Sc) (x : Str) : Bool := match lookS x c.sc.names with
  | some .local => true
  | some .cell => true
  | some .free => true
  | _ => false
def Sc.loc (c : Sc) (x : Str) : Bool := match lookS x c.sc.names with
  | some .local => true
  | some .cell => (match lookS x c.cel with | some .cell => true | _ => false)
  | _ => false
def Sc.locL (c : Sc) (x : Str) : Bool := match lookS x c.sc.names with
  | some .local => true
  | _ => false
def Sc.gl (c : Sc) (x : Str) : Bool := match lookS x c.sc.names with
  | some .globalImplicit => true
  | _ => false
/-- a name of the kit's that the module leaves alone -/
def Sc.blt (c : Sc) (x y : Str) : Bool := strEq x y && c.gl x && memS x c.fre
def odd1 : Str := "__debug__"
def odd2 : Str := "__classdict__"
def okName (x : Str) : Bool := !strEq x odd1 && !strEq x odd2

def nostar : Expr → Bool
  | .Starred .. => false
  | _ => true
def noslice : Expr → Bool
  | .Slice .. => false
  | _ => true
def noset : Expr → Bool
  | .Set .. => false
  | _ => true
def nolc : Expr → Bool
  | .ListComp .. => false
  | .SetComp .. => false
  | .DictComp .. => false
  | _ => true
def nosuper : Expr → Bool
  | .Call (.Name _ _) [] [] _ => false
  | _ => true
/-- a test that is no more than its value -/
def plainT : Expr → Bool
  | .UnaryOp .Not _ _ => false
  | .BoolOp .. => false
  | .IfExp .. => false
  | .Compare .. => false
  | _ => true
def isTupX : Expr → Bool
  | .Tuple .. => true
  | _ => false
def isOp : Operator → Op → Bool
  | .Add, .add => true
  | .Sub, .sub => true
  | .Mult, .mul => true
  | .FloorDiv, .fdiv => true
  | .Mod, .mod => true
  | .Pow, .pow => true
  | _, _ => false
def isCmp : CmpOp → Op → Bool
  | .Eq, .eq => true
  | .NotEq, .ne => true
  | .Lt, .lt => true
  | .LtE, .le => true
  | .Gt, .gt => true
  | .GtE, .ge => true
  | .In, .isin => true
  | .NotIn, .notin => true
  | _, _ => false
def bfN : Bf → Str
  | .len => "len"
  | .int => "int"
  | .tuple => "tuple"
  | .all => "all"
  | .any => "any"
  | .sum => "sum"
  | .repr => "repr"
  | .str => "str"
def bf2N : Bf2 → Str
  | .min => "min"
  | .max => "max"
def tyS : Ty → Str
  | .int => "int"
  | .bool => "bool"
  | .str => "str"
  | .tuple => "tuple"
  | .list => "list"
  | .dict => "dict"

def chkEs (f : Expr → E → Bool) : List Expr → List E → Bool
  | [], [] => true
  | e :: es, x :: xs => nostar e && f e x && chkEs f es xs
  | _, _ => false
def chkKs (f : Expr → E → Bool) : List Keyword → List Str → List E → Bool
  | [], [], [] => true
  | ⟨some n, e, _⟩ :: ks, m :: ms, x :: xs => strEq n m && f e x && chkKs f ks ms xs
  | _, _, _ => false
def nodupK : List Ky → Bool
  | [] => true
  | k :: r => !r.any (kyEq k) && nodupK r
def isKey : Option Expr → Ky → Bool
  | some (.Constant (.str z) _ _), .inr y => strEq z y
  | some (.Constant (.int z) _ _), .inl y => decide (z = y)
  | _, _ => false
def chkDs (f : Expr → E → Bool) : List (Option Expr) → List Expr → List Ky → List E → Bool
  | [], [], [], [] => true
  | key :: keys, v :: vs, k :: ks, x :: xs => isKey key k && f v x && chkDs f keys vs ks xs
  | _, _, _, _ => false
def chkPt (f : Expr → E → Bool) : Option Expr → E → Bool
  | none, .cnon => true
  | some _, .cnon => false
  | some e, x => f e x
  | none, _ => false
def natsIs : List Nat → List Nat → Bool := natsEq
/-- n values, the keywords ks, the order p: told of the def -/
def FnE.may (d : FnE) (n : Nat) (ks : List Str) (p : List Nat) : Bool := d.bs.any fun b => Nat.beq b.1 n && strsEq b.2.1 ks && natsEq b.2.2 p
def Sc.own (c : Sc) (own : List Nat) : List (Str × Nat) := own.map fun i => (c.N.getD i ⟨#[]⟩, i)
def chkGs (f : Expr → Tg → Bool) : List Expr → List Tg → Bool
  | [], [] => true
  | e :: es, x :: xs => nostar e && f e x && chkGs f es xs
  | _, _ => false
/-- a target of names alone -/
def chkGo (c : Sc) (own : List Nat) : Nat → Expr → Tg → Bool
  | 0, _, _ => false
  | n + 1, e, t => match e, t with
    | .Name x _, .nm i => nthIs c.N i x && c.loc x && own.any (Nat.beq i)
    | .Tuple es _ _, .tup ts => chkGs (chkGo c own n) es ts
    | _, _ => false
def chkIfs (f : Expr → E → Bool) : List Expr → List E → Bool
  | [], [] => true
  | [e], [x] => f e x
  | _, _ => false
def chkIt (c : Sc) (f : Expr → E → Bool) (tg e : Expr) (t : It) : Bool := match t, e with
  | .seq x, e => noset e && f e x
  | .rng x, .Call (.Name n _) [a] [] _ => c.blt n "range" && nostar a && f a x
  | .rng2 x y, .Call (.Name n _) [a, b] [] _ => c.blt n "range" && nostar a && nostar b && f a x && f b y
  | .zip x y, .Call (.Name n _) [a, b] [] _ => isTupX tg && c.blt n "zip" && nostar a && nostar b && f a x && f b y
  | _, _ => false
def chkL (c : Sc) (f : Expr → E → Bool) (e : Expr) (l : L) : Bool := match l, e with
  | .disp xs, .List es _ => chkEs f es xs
  | .cat x y, .BinOp a .Add b _ => f a x && f b y
  | .of x, .Call (.Name n _) [a] [] _ => c.blt n "list" && nostar a && f a x
  | .sorted x, .Call (.Name n _) [a] [] _ => c.blt n "sorted" && nostar a && f a x
  | _, _ => false
/-- within a comprehension's block -/
def Sc.inn (c : Sc) (scope : Scope) : Sc := { c with sc := relS scope c.sc, cel := scope.names }
/-- what is asked of a comprehension's block -/
def chkC (c : Sc) (scope : Scope) (own : List Nat) : Bool := blkC c.N c.sc scope (c.own own)
/-- .. as a value, .. as a test -/
structure Ck where
  e : Sc → Expr → E → Bool
  t : Sc → Expr → E → Bool
def stepC (deepG : Nat) (r : Ck) (c : Sc) (e : Expr) (x : E) : Bool := match x, e with
  | .var i, .Name y _ => nthIs c.N i y && c.vis y && okName y
  | .cint i, .Constant (.int j) _ _ => decide (i = j)
  | .cstr z, .Constant (.str y) _ _ => strEq z y
  | .cbl b, .Constant (.bool d) _ _ => b == d
  | .cnon, .Constant .none _ _ => true
  | .gint z i, .Name y _ => strEq y z && c.gl y && okName y && (match lookS y c.cis with | some j => decide (j = i) | none => false)
  | .gstr z u, .Name y _ => strEq y z && c.gl y && okName y && (match lookS y c.css with | some j => strEq j u | none => false)
  | .bin o xa xb, .BinOp a op b _ => isOp op o && r.e c a xa && r.e c b xb
  | .bin o xa xb, .Compare a [op] [b] _ => isCmp op o && !behindInMarks op b && r.e c a xa && r.e c b xb
  | .neg xa, .UnaryOp .USub a _ => r.e c a xa
  | .not xa, .UnaryOp .Not a _ => r.e c a xa
  | .chain o p xa xb xc, .Compare a [op, op'] [b, d] _ => isCmp op o && isCmp op' p && !lastMarks [op, op'] [b, d] && r.e c a xa && r.e c b xb && r.e c d xc
  | .isN neg xa, .Compare a [op] [.Constant .none _ _] _ => (match op, neg with | .Is, false => true | .IsNot, true => true | _, _ => false) && r.e c a xa
  | .and xa xb, .BoolOp .And [a, b] _ => r.e c a xa && r.e c b xb
  | .or xa xb, .BoolOp .Or [a, b] _ => r.e c a xa && r.e c b xb
  | .and xa xb, .BoolOp .And (a :: b :: d :: es) p => r.e c a xa && r.e c (.BoolOp .And (b :: d :: es) p) xb
  | .or xa xb, .BoolOp .Or (a :: b :: d :: es) p => r.e c a xa && r.e c (.BoolOp .Or (b :: d :: es) p) xb
  | .ite xc xa xb, .IfExp t a b _ => r.t c t xc && r.e c a xa && r.e c b xb
  | .tup xs, .Tuple es _ _ => chkEs (r.e c) es xs
  | .mk _ l, e => chkL c (r.e c) e l
  | .cmp _ xe xt xi xs own, .ListComp elt [⟨tg, iter, ifs, ia⟩] scope _ => ia == 0 && noset iter && chkIt c (r.e c) tg iter xi && chkC c scope own && chkGo (c.inn scope) own deepG tg xt && chkIfs (r.t (c.inn scope)) ifs xs && r.e (c.inn scope) elt xe
  | .dsp _ ks xs, .Dict keys values _ => chkDs (r.e c) keys values ks xs && nodupK ks && Nat.ble ks.length 15
  | .idx xa xb, .Subscript a b _ => noslice b && r.e c a xa && r.e c b xb
  | .slc xa lo hi, .Subscript a (.Slice l h none _) _ => r.e c a xa && chkPt (r.e c) l lo && chkPt (r.e c) h hi
  | .rev xa, .Subscript a (.Slice none none (some (.UnaryOp .USub (.Constant (.int i) _ _) _)) _) _ => decide (i = 1) && r.e c a xa
  | .call g xs, .Call (.Name f _) (a :: es) [] _ => c.gl f && okName f && chkEs (r.e c) (a :: es) xs && (match lookS f c.fns with
      | some d => Nat.beq d.g g && Nat.beq d.ps.length (a :: es).length && d.may d.ps.length [] (List.range d.ps.length)
      | none => false)
  | .callK g xs ys ks p, .Call (.Name f _) es kws _ => c.gl f && okName f && chkEs (r.e c) es xs && chkKs (r.e c) kws ks ys && (match lookS f c.fns with
      | some d => Nat.beq d.g g && d.may es.length ks p && p.all (fun i => Nat.blt i (es.length + ks.length)) && Nat.beq p.length d.ps.length
      | none => false)
  | .bf f xa, .Call (.Name n _) [a] [] _ => c.blt n (bfN f) && nostar a && r.e c a xa
  | .bf2 f xa xb, .Call (.Name n _) [a, b] [] _ => c.blt n (bf2N f) && nostar a && nostar b && r.e c a xa && r.e c b xb
  | .isI xa t, .Call (.Name n _) [a, .Name m _] [] _ => c.blt n "isinstance" && c.blt m (tyS t) && nostar a && r.e c a xa
  | .mt .append xo xa, .Call (.Attribute o m ap) [a] [] cp => strEq m "append" && nosuper o && nostar a && (ap.endLine == cp.line) && r.e c o xo && r.e c a xa
  | .mt .popAt xo xa, .Call (.Attribute o m ap) [a] [] cp => strEq m "pop" && nosuper o && nostar a && (ap.endLine == cp.line) && r.e c o xo && r.e c a xa
  | .mt .join xo xa, .Call (.Attribute o m ap) [a] [] cp => strEq m "join" && nosuper o && nostar a && (ap.endLine == cp.line) && r.e c o xo && r.e c a xa
  | .mt0 .pop xo, .Call (.Attribute o m ap) [] [] cp => strEq m "pop" && nosuper o && (ap.endLine == cp.line) && r.e c o xo
  | _, _ => false
/-- a test -/
def stepCt (r : Ck) (c : Sc) (e : Expr) (x : E) : Bool := match x, e with
  | .not xa, .UnaryOp .Not a _ => r.t c a xa
  | .and xa xb, .BoolOp .And [a, b] _ => r.t c a xa && r.t c b xb
  | .or xa xb, .BoolOp .Or [a, b] _ => r.t c a xa && r.t c b xb
  | .and xa xb, .BoolOp .And (a :: b :: d :: es) p => r.t c a xa && r.t c (.BoolOp .And (b :: d :: es) p) xb
  | .or xa xb, .BoolOp .Or (a :: b :: d :: es) p => r.t c a xa && r.t c (.BoolOp .Or (b :: d :: es) p) xb
  | .bin o xa xb, .Compare a [op] [b] _ => isCmp op o && !behindInMarks op b && r.e c a xa && r.e c b xb
  | .chain o p xa xb xc, .Compare a [op, op'] [b, d] _ => isCmp op o && isCmp op' p && !lastMarks [op, op'] [b, d] && r.e c a xa && r.e c b xb && r.e c d xc
  | .isN neg xa, .Compare a [op] [.Constant .none _ _] _ => (match op, neg with | .Is, false => true | .IsNot, true => true | _, _ => false) && r.e c a xa
  | _, _ => false
def ckN : Nat → Ck
  | 0 => ⟨fun _ _ _ => false, fun _ _ _ => false⟩
  | n + 1 => ⟨stepC n (ckN n), fun c e x => stepCt (ckN n) c e x || (plainT e && stepC n (ckN n) c e x)⟩
/-- a target -/
def chkSub (c : Sc) (n : Nat) (e : Expr) (t : Tg) : Bool := match e, t with
  | .Subscript o i _, .sub xo xi => noslice i && (ckN n).e c o xo && (ckN n).e c i xi
  | _, _ => false
def chkTg (c : Sc) : Nat → Expr → Tg → Bool
  | 0, _, _ => false
  | n + 1, e, t => chkSub c n e t || chkGo c (List.range c.N.length) (n + 1) e t
end Ev

/-! Ev18: the check is right: small facts. -/
namespace Ev
open PySem PySem.Spec PyProof.Rows L2

/-- what the place must give -/
structure CxOk (cA : Nat → Addr) (C : Nat → List T → M T) (k : Nat) (c : Sc) (X : Cx) (W : WX) : Prop where
  N : X.N = c.N
  nd : X.N.Nodup
  sc : X.env.scope = c.sc
  calm : X.calm = true
  room : Room k X.A
  gd : X.A.guards = some []
  tk : Takes X W
  fn : ∀ x, c.cel.lookup x = some .cell → X.fn x = true
  fns : ∀ (x : Str) (d : FnE), lookS x c.fns = some d → ∃ (f : Addr) (fd : FuncData), X.mg x = some (.ref f) ∧ PySem.W.keepIn X.K (.ref f) = true ∧ FnG X.prog X.w X.K X.mg X.base k f fd d.ps (spC X.K cA d.ps.length (C d.g)) ∧
    ∀ b ∈ d.bs, BindP X.K fd d.ps b.1 b.2.1 b.2.2
  cis : ∀ (x : Str) (i : Int), lookS x c.cis = some i → ∃ t, X.mg x = some (.int i t)
  css : ∀ (x z : Str), lookS x c.css = some z → ∃ t, X.mg x = some (.str z t)
  fre : ∀ x : Str, memS x c.fre = true → X.mg x = none

theorem strEq_true {x y : Str} (h : strEq x y = true) : x = y := by rw [strEq_iff] at h; exact of_decide_eq_true h
theorem strEq_false {x y : Str} (h : strEq x y = false) : x ≠ y := by rw [strEq_iff] at h; exact of_decide_eq_false h
theorem lookS_eq {x : Str} : ∀ l : List (Str × NameKind), lookS x l = l.lookup x
  | [] => rfl
  | (y, a) :: r => by
    rw [lookS, List.lookup_cons, lookS_eq r]
    by_cases h : x = y
    · subst h
      simp [strEq_iff]
    · have e : (x == y) = false := beq_eq_false_iff_ne.mpr h
      simp [strEq_iff, h, e]
theorem nthIs_eq {l : List Str} {i : Nat} {x : Str} (h : nthIs l i x = true) : l[i]? = some x := by
  unfold nthIs at h
  split at h
  · rename_i y e
    rw [e, strEq_true h]
  · cases h
theorem okName_ne {x : Str} (h : okName x = true) : (x == ("__debug__" : Str)) = false ∧ (x == ("__classdict__" : Str)) = false := by
  unfold okName odd1 odd2 at h
  rw [Bool.and_eq_true] at h
  have h1 : strEq x "__debug__" = false := by simpa using h.1
  have h2 : strEq x "__classdict__" = false := by simpa using h.2
  exact ⟨beq_eq_false_iff_ne.mpr (strEq_false h1), beq_eq_false_iff_ne.mpr (strEq_false h2)⟩
theorem strsEq_eq : ∀ {x y : List Str}, strsEq x y = true → x = y
  | [], [], _ => rfl
  | [], _ :: _, h => by cases h
  | _ :: _, [], h => by cases h
  | a :: x, b :: y, h => by
    rw [strsEq, Bool.and_eq_true] at h
    rw [strEq_true h.1, strsEq_eq h.2]
theorem natsEq_eq {x y : List Nat} (h : natsEq x y = true) : x = y := by rw [natsEq_iff] at h; exact of_decide_eq_true h
theorem nbeq {x y : Nat} (h : Nat.beq x y = true) : x = y := Nat.eq_of_beq_eq_true h
section
variable {X : Cx} {cA : Nat → Addr} {W : WX} {C : Nat → List T → M T} {k : Nat} {c : Sc}
theorem CxOk.vis (o : CxOk cA C k c X W) {x : Str} (h : c.vis x = true) : Vis X.env.scope x := by
  unfold Sc.vis at h
  rw [lookS_eq, ← o.sc] at h
  unfold Vis
  split at h <;> first | exact .inl (by assumption) | exact .inr (.inl (by assumption)) | exact .inr (.inr (by assumption)) | cases h
theorem CxOk.loc (o : CxOk cA C k c X W) {x : Str} (h : c.loc x = true) : L2.Loc X.env.scope x ∧ (X.fn x = true ∨ X.env.scope.names.lookup x = some .local) := by
  unfold Sc.loc at h
  rw [lookS_eq, ← o.sc] at h
  unfold L2.Loc
  split at h
  · rename_i e; exact ⟨.inl e, .inr e⟩
  · rename_i e
    split at h
    · rename_i e2
      rw [lookS_eq] at e2
      exact ⟨.inr e, .inl (o.fn x e2)⟩
    · cases h
  · cases h
theorem CxOk.locL (o : CxOk cA C k c X W) {x : Str} (h : c.locL x = true) : X.env.scope.names.lookup x = some .local := by
  unfold Sc.locL at h
  rw [lookS_eq, ← o.sc] at h
  split at h
  · assumption
  · cases h
theorem CxOk.gl (o : CxOk cA C k c X W) {x : Str} (h : c.gl x = true) : Gl X x := by
  unfold Sc.gl at h
  rw [lookS_eq, ← o.sc] at h
  unfold Gl PySem.Env.kindOf
  split at h
  · assumption
  · cases h
theorem CxOk.blt (o : CxOk cA C k c X W) {x y : Str} (h : c.blt x y = true) : x = y ∧ Gl X y ∧ X.mg y = none := by
  unfold Sc.blt at h
  rw [Bool.and_eq_true, Bool.and_eq_true] at h
  have e := strEq_true h.1.1
  subst e
  exact ⟨rfl, o.gl h.1.2, o.fre x h.2⟩
theorem CxOk.units (o : CxOk cA C k c X W) : X.A.units + 100 < cLine := by have := o.room.un; omega
end

theorem star_of {env : PySem.Env} {e : Expr} {es : List Expr} (h : nostar e = true) : starEach (e :: es) env = (false, eval e env) :: starEach es env := by
  cases e <;> first | rfl | cases h
theorem asg_of {env : PySem.Env} {e : Expr} {es : List Expr} (h : nostar e = true) : assignEach (e :: es) env = (false, assign e env) :: assignEach es env := by
  cases e <;> first | rfl | cases h
theorem plain_ix {b : Expr} (h : noslice b = true) : PlainIx b := by
  intro o i
  cases b <;> first | rfl | cases h
theorem fold_of {e : Expr} {env : PySem.Env} (h : noset e = true) : ∀ x, foldedSetIterable e env x = pure x := by
  intro x
  cases e <;> first | rfl | cases h
theorem plainT_of {e : Expr} {env : PySem.Env} (h : plainT e = true) : ∀ whole, isTrue e env whole = (do let v ← whole; standAt e.pos; holding [v] (truthy v)) := by
  intro whole
  cases e with
  | UnaryOp op a p => cases op <;> first | rfl | cases h
  | BoolOp => cases h
  | IfExp => cases h
  | Compare => cases h
  | _ => rfl
theorem base_of {o : Expr} {m : Str} {env : PySem.Env} {whole : Sem Value} (h : nosuper o = true) : attributeBase o m env whole = whole := by
  cases o with
  | Call f es ks p =>
    cases f <;> cases es <;> cases ks <;> first | rfl | cases h
  | _ => rfl
theorem few_of {e : Expr} {env : PySem.Env} {cp : Pos} (h : nostar e = true) : ((backTo cp (starEach [e] env)).all (fun x => !x.1) && (backToKw cp (keywordEach [] env)).all (fun x => x.1.isSome) && decide (([e] : List Expr).length + ([] : List Keyword).length + (if ([] : List Keyword).isEmpty then 0 else 1) < 30)) = true := by
  rw [star_of h]
  rfl
theorem evEsW_len {f : E → Env → M T} : ∀ {es : List E} {ρ : Env} {st st' : Sto} {xs : List T}, evEsW f es ρ st = .ok xs st' → xs.length = es.length
  | [], ρ, st, st', xs, h => by cases h; rfl
  | e :: es, ρ, st, st', xs, h => by
    simp only [evEsW] at h
    cases e1 : f e ρ st with
    | ok x st1 =>
      rw [e1] at h
      simp only [R.bind_ok] at h
      cases e2 : evEsW f es ρ st1 with
      | ok ys st2 =>
        rw [e2] at h
        cases h
        exact congrArg Nat.succ (evEsW_len e2)
      | exn _ _ => rw [e2] at h; cases h
      | bad => rw [e2] at h; cases h
    | exn _ _ => rw [e1] at h; cases h
    | bad => rw [e1] at h; cases h
theorem bf_boot (f : Bf) : (f = .len ∨ f = .all ∨ f = .any ∨ f = .sum ∨ f = .repr) ∨ (f = .int ∨ f = .tuple ∨ f = .str) := by cases f <;> simp

section
variable {X : Cx} {cA : Nat → Addr} {W : WX} {C : Nat → List T → M T} {k : Nat} {c : Sc}
theorem re_bad {e : Expr} {f : Env → M T} (h : ∀ ρ st, f ρ st = .bad) : PE X e (rdE X.K cA W f) :=
  ⟨fun pins s σ H Q I ⟨m, ρ, st, sim, ev, q⟩ => by dsimp only at q; rw [h] at q; exact q.elim⟩
theorem rd_es {f : E → Env → M T} {chk : Expr → E → Bool} (hf : ∀ e x, chk e x = true → PE X e (rdE X.K cA W (f x))) : ∀ {es : List Expr} {xs : List E}, chkEs chk es xs = true → PA X es (rdA X.K cA W (evEsW f xs)) ∧ es.length = xs.length ∧ (∀ env, starEach es env = es.map fun e => (false, eval e env))
  | [], [], _ => ⟨rd_nil, rfl, fun _ => rfl⟩
  | [], _ :: _, h => by cases h
  | _ :: _, [], h => by cases h
  | e :: es, x :: xs, h => by
    rw [chkEs, Bool.and_eq_true, Bool.and_eq_true] at h
    obtain ⟨h1, h2, h3⟩ := rd_es hf h.2
    exact ⟨rd_cons (hf _ _ h.1.2) h1 (star_of h.1.1), congrArg Nat.succ h2, fun env => by rw [star_of h.1.1, h3]; rfl⟩
theorem rd_ks {f : E → Env → M T} {chk : Expr → E → Bool} (hf : ∀ e x, chk e x = true → PE X e (rdE X.K cA W (f x))) : ∀ {kws : List Keyword} {ks : List Str} {xs : List E}, chkKs chk kws ks xs = true → PK X kws (rdA X.K cA W (evEsW f xs)) ∧ ks.length = xs.length ∧
    (∀ env, keywordEach kws env = (ks.zip kws).map fun p => (some p.1, eval p.2.value env)) ∧ kws.length = ks.length
  | [], [], [], _ => ⟨rk_nil, rfl, fun _ => rfl, rfl⟩
  | [], [], _ :: _, h => by cases h
  | [], _ :: _, _, h => by cases h
  | ⟨none, _, _⟩ :: _, _, _, h => by simp [chkKs] at h
  | ⟨some _, _, _⟩ :: _, [], _, h => by simp [chkKs] at h
  | ⟨some _, _, _⟩ :: _, _ :: _, [], h => by simp [chkKs] at h
  | ⟨some n, e, p⟩ :: kws, m :: ks, x :: xs, h => by
    rw [chkKs, Bool.and_eq_true, Bool.and_eq_true] at h
    obtain ⟨h1, h2, h3, h4⟩ := rd_ks hf h.2
    have e1 := strEq_true h.1.1
    subst e1
    exact ⟨rk_cons (hf _ _ h.1.2) h1, congrArg Nat.succ h2, fun env => by rw [keywordEach, h3]; rfl, congrArg Nat.succ h4⟩
theorem kw_all {pos : Pos} {env : PySem.Env} {kws : List Keyword} {ks : List Str} (h : keywordEach kws env = (ks.zip kws).map fun p => (some p.1, eval p.2.value env)) (hl : kws.length = ks.length) :
    (backToKw pos (keywordEach kws env)).all (·.1.isSome) = true ∧ (backToKw pos (keywordEach kws env)).filterMap (·.1) = ks ∧ (backToKw pos (keywordEach kws env)).any (·.1.isNone) = false := by
  rw [h]
  clear h
  unfold backToKw
  induction ks generalizing kws with
  | nil => simp
  | cons a ks ih =>
    cases kws with
    | nil => cases hl
    | cons q kws =>
      obtain ⟨i1, i2, i3⟩ := ih (kws := kws) (Nat.succ.inj hl)
      simp only [List.zip_cons_cons, List.map_cons, List.all_cons, List.any_cons, List.filterMap_cons, Option.isSome_some, Option.isNone_some, Bool.true_and, Bool.false_or]
      exact ⟨i1, by rw [i2], i3⟩
theorem pl_all {pos : Pos} {env : PySem.Env} {es : List Expr} (h : starEach es env = es.map fun e => (false, eval e env)) : (backTo pos (starEach es env)).any (·.1) = false := by
  rw [h]
  unfold backTo
  clear h
  induction es with
  | nil => rfl
  | cons e es ih => simpa using ih
end
end Ev

/-! Ev19: the check of expressions is right. -/
namespace Ev
open PySem PySem.Spec PyProof.Rows L2
section
variable {cA : Nat → Addr} {C : Nat → List T → M T} {k : Nat}
theorem takes_none {X : Cx} : Takes X WF := fun u s' ⟨a, B, sI, pins, σ, H, cls, d, _, _, _, _, _, _, _, _, w⟩ => w.elim
theorem CxOk.blk {c : Sc} {X : Cx} {W : WX} (o : CxOk cA C k c X W) (s : Shared) (H : Hp) (scope : Scope) (D : Addr) (cl : List (Str × Addr)) (fp : List Addr) : CxOk cA C k (c.inn scope) (X.blk s H scope (compEnvC scope cl D X.env) fp) WF where
  N := o.N
  nd := o.nd
  sc := by rw [show (X.blk s H scope (compEnvC scope cl D X.env) fp).env.scope = relS scope X.env.scope from rfl, o.sc]; rfl
  calm := o.calm
  room := o.room
  gd := o.gd
  tk := takes_none
  fn := fun x h => by
    have h : scope.names.lookup x = some .cell := h
    show (scope.names.lookup x == some .cell) = true
    rw [h]; rfl
  fns := o.fns
  cis := o.cis
  css := o.css
  fre := o.fre
theorem go_snd {c : Sc} {X : Cx} {W : WX} (o : CxOk cA C k c X W) (own : List Nat) : ∀ (n : Nat) (e : Expr) (t : Tg), chkGo c own n e t = true → PG X e (rdGo X.K cA W own ((seN C n).tg t))
  | 0, e, t, h => by cases h
  | n + 1, e, t, h => by
    have ih := go_snd o own n
    unfold chkGo at h
    split at h
    · rename_i x p i
      rw [Bool.and_eq_true, Bool.and_eq_true] at h
      obtain ⟨l1, l2⟩ := o.loc h.1.2
      have hi : i ∈ own := by
        obtain ⟨j, hj, e⟩ := List.any_eq_true.mp h.2
        rw [nbeq e]; exact hj
      exact rgo_nm (pg_name o.nd (by rw [o.N]; exact nthIs_eq h.1.1) l1 l2) hi
    · rename_i es kk p ts
      have all : ∀ (es : List Expr) (ts : List Tg), chkGs (chkGo c own n) es ts = true → PGs X es (rdGs X.K own fun xs ρ => asgTsW (seN C n).tg ts xs ρ) ∧ es.length = ts.length ∧ (assignEach es X.env).length = ts.length ∧ (assignEach es X.env).findIdx? (·.1) = none := by
        intro es
        induction es with
        | nil =>
          intro ts h
          cases ts with
          | nil => exact ⟨rgs_nil, rfl, rfl, rfl⟩
          | cons _ _ => cases h
        | cons e es ihl =>
          intro ts h
          cases ts with
          | nil => cases h
          | cons t ts =>
            rw [chkGs, Bool.and_eq_true, Bool.and_eq_true] at h
            obtain ⟨h1, h2, h3, h4⟩ := ihl ts h.2
            have ha := asg_of (env := X.env) (es := es) h.1.1
            refine ⟨rgs_cons (ih e t h.1.2) h1 (by rw [ha]; rfl), congrArg Nat.succ h2, by rw [ha]; exact congrArg Nat.succ h3, ?_⟩
            rw [ha, List.findIdx?_cons, h4]
            rfl
      obtain ⟨h1, h2, h3, h4⟩ := all es ts h
      exact rgo_tup o.calm h1 h2 h3 h4
    · cases h

theorem opr_of {X : Cx} {op : Operator} {o : Op} (h : isOp op o = true) : OpR X (binaryOp op) (rBin X.K (bin o)) := by
  unfold isOp at h
  split at h
  · exact opr_add
  · exact opr_sub
  · exact opr_mul
  · exact opr_fdiv
  · exact opr_mod
  · exact opr_pow
  · cases h
theorem cmp_of {X : Cx} {op : CmpOp} {o : Op} (hu : X.A.units + 65 < cLine) (h : isCmp op o = true) : OpR X (compareOp op) (rBin X.K (bin o)) ∧ (o ≠ .add ∧ o ≠ .sub ∧ o ≠ .mul ∧ o ≠ .fdiv ∧ o ≠ .mod ∧ o ≠ .pow) := by
  unfold isCmp at h
  split at h
  · exact ⟨opr_eq (by omega), by decide⟩
  · exact ⟨opr_ne (by omega), by decide⟩
  · exact ⟨opr_lt (by omega), by decide⟩
  · exact ⟨opr_le (by omega), by decide⟩
  · exact ⟨opr_gt (by omega), by decide⟩
  · exact ⟨opr_ge (by omega), by decide⟩
  · exact ⟨opr_in hu, by decide⟩
  · exact ⟨opr_notin hu, by decide⟩
  · cases h
theorem po_of {c : Sc} {X : Cx} {W : WX} {f : E → Env → M T} {chk : Expr → E → Bool} (hf : ∀ e x, chk e x = true → PE X e (rdE X.K cA W (f x))) {e : Option Expr} {x : E} (h : chkPt chk e x = true) : PO X e (rdP X.K cA W fun ρ st => evPtW f x ρ st) := by
  cases e with
  | none =>
    cases x <;> first | exact rp_none | (exfalso; simp [chkPt] at h)
  | some e =>
    have h' : chk e x = true ∧ x ≠ .cnon := by
      cases x <;> first | exact ⟨h, nofun⟩ | (exfalso; simp [chkPt] at h)
    have q := rp_some (hf e x h'.1)
    cases x <;> first | exact q | exact absurd rfl h'.2
theorem it_snd {c : Sc} {X : Cx} {W : WX} (o : CxOk cA C k c X W) {f : E → Env → M T} {chk : Expr → E → Bool} (hf : ∀ e x, chk e x = true → PE X e (rdE X.K cA W (f x))) {tg e : Expr} {t : It} (h : chkIt c chk tg e t = true) :
    PI X tg e (rdI X.K cA W (evItW f t)) := by
  unfold chkIt at h
  split at h
  · rw [Bool.and_eq_true] at h
    exact ri_seq (hf _ _ h.2)
  · rw [Bool.and_eq_true, Bool.and_eq_true] at h
    obtain ⟨rfl, g, m⟩ := o.blt h.1.1
    exact ri_rng g m (hf _ _ h.2) (star_of h.1.2) rfl
  · simp only [Bool.and_eq_true] at h
    obtain ⟨⟨⟨⟨h1, h2⟩, h3⟩, h4⟩, h5⟩ := h
    obtain ⟨rfl, g, m⟩ := o.blt h1
    exact ri_rng2 g m (hf _ _ h4) (hf _ _ h5) (by rw [star_of h2, star_of h3]; rfl) (by rw [star_of h3]; rfl) rfl
  · simp only [Bool.and_eq_true] at h
    obtain ⟨⟨⟨⟨⟨h0, h1⟩, h2⟩, h3⟩, h4⟩, h5⟩ := h
    obtain ⟨rfl, g, m⟩ := o.blt h1
    cases tg <;> first | (exact ri_zip g m (hf _ _ h4) (hf _ _ h5) (star_of h2) (star_of h3) (by rw [star_of h3]; rfl)) | exact Bool.noConfusion h0
  · cases h
theorem l_snd {c : Sc} {X : Cx} {W : WX} (o : CxOk cA C k c X W) {r : Se} {chk : Expr → E → Bool} (hf : ∀ e x, chk e x = true → PE X e (rdE X.K cA W (r.e x))) {e : Expr} {l : L} (h : chkL c chk e l = true) :
    PE X e (rdL X.K cA W (evLW r l)) := by
  unfold chkL at h
  have hu := o.units
  split at h
  · exact rl_disp (rd_es hf h).1
  · rw [Bool.and_eq_true] at h
    exact rl_cat (hf _ _ h.1) (hf _ _ h.2)
  · rw [Bool.and_eq_true, Bool.and_eq_true] at h
    obtain ⟨rfl, g, m⟩ := o.blt h.1.1
    exact rl_of o.calm g m (hf _ _ h.2) (star_of h.1.2)
  · rw [Bool.and_eq_true, Bool.and_eq_true] at h
    obtain ⟨rfl, g, m⟩ := o.blt h.1.1
    exact rl_sorted (by omega) g m (hf _ _ h.2) (star_of h.1.2)
  · cases h
end
end Ev

/-! Ev20: the check of expressions is right, by the fuel. -/
namespace Ev
open PySem PySem.Spec PyProof.Rows L2
section
variable {cA : Nat → Addr} {C : Nat → List T → M T} {k : Nat}
/-- as a value; as a test -/
def SndE (cA : Nat → Addr) (C : Nat → List T → M T) (k n : Nat) : Prop := ∀ (X : Cx) (c : Sc) (W : WX), CxOk cA C k c X W → ∀ (e : Expr) (x : E), (ckN n).e c e x = true → PE X e (rdE X.K cA W ((seN C n).e x))
abbrev tst (f : Env → M T) : Env → M Bool := fun ρ st => (f ρ st).bind fun v st => truthM v st
def SndT (cA : Nat → Addr) (C : Nat → List T → M T) (k n : Nat) : Prop := ∀ (X : Cx) (c : Sc) (W : WX), CxOk cA C k c X W → ∀ (e : Expr) (x : E), (ckN n).t c e x = true → PT X e (rdT X.K cA W (tst ((seN C n).e x))) ∧ ∀ op es p, e = .BoolOp op es p → PW X e (rdT X.K cA W (tst ((seN C n).e x)))
theorem mul_id {p : List Nat} {n m : Nat} (h : p.all (fun i => Nat.blt i (n + m)) = true) : ∀ ts ss : List T, ts.length = n → ss.length = m → (permL p (ts ++ ss)).length = p.length := by
  intro ts ss h1 h2
  unfold permL
  induction p with
  | nil => rfl
  | cons i p ih =>
    rw [List.all_cons, Bool.and_eq_true] at h
    have hi : i < (ts ++ ss).length := by
      rw [List.length_append, h1, h2]
      exact Nat.le_of_ble_eq_true h.1
    rw [List.filterMap_cons_some (List.getElem?_eq_getElem hi), List.length_cons, List.length_cons, ih h.2]
theorem own_map (c : Sc) (own : List Nat) : (c.own own).map (·.2) = own := by
  unfold Sc.own
  rw [List.map_map]
  exact List.map_id own
theorem blk_ok {c : Sc} {X : Cx} {W : WX} (o : CxOk cA C k c X W) {scope : Scope} {own : List Nat} (h : chkC c scope own = true) : BlkOk X.N X.env.scope scope (c.own own) := by
  unfold chkC at h
  rw [o.N, o.sc]
  exact blkOk_by h
theorem ifs_one (f : E → Env → M T) (x : E) : evIfsW f [x] = tst (f x) := by
  funext ρ st
  show (f x ρ st).bind (fun v st => (truthM v st).bind fun b st => if b then R.ok true st else .ok false st) = (f x ρ st).bind fun v st => truthM v st
  congr 1
  funext v st
  cases truthM v st with
  | ok b st1 => cases b <;> rfl
  | exn _ _ => rfl
  | bad => rfl
theorem ifs_snd {X : Cx} {W : WX} {f : E → Env → M T} {chk : Expr → E → Bool} (hf : ∀ e x, chk e x = true → PT X e (rdT X.K cA W (tst (f x)))) {es : List Expr} {xs : List E} (h : chkIfs chk es xs = true) : PTs X es (rdT X.K cA W (evIfsW f xs)) := by
  unfold chkIfs at h
  split at h
  · exact rt_none (f := fun _ st => .ok true st)
  · rw [ifs_one]
    exact rt_one (hf _ _ h)
  · cases h
theorem chkEs_hd {chk : Expr → E → Bool} {e : Expr} {es : List Expr} {xs : List E} (h : chkEs chk (e :: es) xs = true) : nostar e = true ∧ ∃ xs', chkEs chk es xs' = true := by
  cases xs with
  | nil => cases h
  | cons x xs =>
    rw [chkEs, Bool.and_eq_true, Bool.and_eq_true] at h
    exact ⟨h.1.1, xs, h.2⟩
theorem nodupK_ok : ∀ {l : List Ky}, nodupK l = true → l.Nodup
  | [], _ => .nil
  | x :: r, h => by
    rw [nodupK, Bool.and_eq_true] at h
    refine List.nodup_cons.mpr ⟨fun z => ?_, nodupK_ok h.2⟩
    have : r.any (kyEq x) = true := List.any_eq_true.mpr ⟨x, z, by rw [kyEq_iff]; simp⟩
    rw [this] at h
    exact Bool.noConfusion h.1
theorem key_snd {X : Cx} {key : Option Expr} {k : Ky} (h : isKey key k = true) : ∃ e, key = some e ∧ PE X e (tC (kV k)) := by
  unfold isKey at h
  split at h
  · cases strEq_true h
    exact ⟨_, rfl, pe_str⟩
  · cases of_decide_eq_true h
    exact ⟨_, rfl, pe_int⟩
  · cases h
theorem ds_snd {X : Cx} {W : WX} {f : E → Env → M T} {chk : Expr → E → Bool} (pos : Pos) (hf : ∀ e x, chk e x = true → PE X e (rdE X.K cA W (f x))) : ∀ {keys : List (Option Expr)} {values : List Expr} {ks : List Ky} {xs : List E}, chkDs chk keys values ks xs = true →
    PPs X pos keys values (trsOf X.K cA W f ks xs) ∧ ks.length = xs.length ∧ keys.length = values.length ∧ keys.length = ks.length ∧ keys.all (·.isSome) = true := by
  intro keys
  induction keys with
  | nil =>
    intro values ks xs h
    cases values <;> cases ks <;> cases xs <;> first | exact ⟨pps_nil, rfl, rfl, rfl, rfl⟩ | (simp [chkDs] at h)
  | cons key keys ih =>
    intro values ks xs h
    cases values with
    | nil => simp [chkDs] at h
    | cons v vs =>
      cases ks with
      | nil => simp [chkDs] at h
      | cons k ks =>
        cases xs with
        | nil => simp [chkDs] at h
        | cons x xs =>
          rw [chkDs] at h
          simp only [Bool.and_eq_true] at h
          obtain ⟨⟨h1, h2⟩, h3⟩ := h
          obtain ⟨i1, i2, i3, i4, i5⟩ := ih h3
          obtain ⟨e, rfl, pk⟩ := key_snd (X := X) h1
          exact ⟨pps_cons pk (hf _ _ h2) i1, congrArg Nat.succ i2, congrArg Nat.succ i3, congrArg Nat.succ i4, by rw [List.all_cons, i5]; rfl⟩
theorem step_e {n : Nat} (IE : SndE cA C k n) (IT : SndT cA C k n) : SndE cA C k (n + 1) := by
  intro X c W o e x h
  have ie := IE X c W o
  have it := IT X c W o
  have hu := o.units
  replace h : stepC n (ckN n) c e x = true := h
  show PE X e (rdE X.K cA W fun ρ st => stepE C (seN C n) x ρ st)
  unfold stepC at h
  split at h
  · -- var
    simp only [Bool.and_eq_true] at h
    exact rd_var (pe_var (by rw [o.N]; exact nthIs_eq h.1.1) (o.vis h.1.2) (okName_ne h.2).1 (okName_ne h.2).2)
  · -- cint
    cases of_decide_eq_true h
    exact rd_con pe_int fun w => rInt _
  · cases strEq_true h
    exact rd_con pe_str fun w => rStr _
  · cases eq_of_beq h
    exact rd_con pe_bl fun w => rBl _
  · exact rd_con pe_non fun w => .d .non
  · -- gint
    simp only [Bool.and_eq_true] at h
    obtain ⟨⟨⟨h1, h2⟩, h3⟩, h4⟩ := h
    split at h4
    · rename_i j e
      cases of_decide_eq_true h4
      obtain ⟨t, ht⟩ := o.cis _ _ e
      exact rd_con (pe_glob (v := .int _) (o.gl h2) ht ⟨t, rfl⟩ (okName_ne h3).1) fun w => rInt _
    · cases h4
  · simp only [Bool.and_eq_true] at h
    obtain ⟨⟨⟨h1, h2⟩, h3⟩, h4⟩ := h
    split at h4
    · rename_i j e
      cases strEq_true h4
      obtain ⟨t, ht⟩ := o.css _ _ e
      exact rd_con (pe_glob (v := .str _) (o.gl h2) ht ⟨t, rfl⟩ (okName_ne h3).1) fun w => rStr _
    · cases h4
  · -- bin, BinOp
    simp only [Bool.and_eq_true] at h
    exact rd_op (pe_op (opr_of h.1.1) (ie _ _ h.1.2) (ie _ _ h.2)) (opOk_rBin _ _)
  · simp only [Bool.and_eq_true, Bool.not_eq_true'] at h
    obtain ⟨⟨⟨h1, h2⟩, h3⟩, h4⟩ := h
    exact rd_op (pe_cmpR (cmp_of (by omega) h1).1 (ie _ _ h3) (ie _ _ h4) h2) (opOk_rBin _ _)
  · exact re_neg (ie _ _ h)
  · exact re_not (ie _ _ h)
  · simp only [Bool.and_eq_true, Bool.not_eq_true'] at h
    obtain ⟨⟨⟨⟨⟨h1, h2⟩, h3⟩, h4⟩, h5⟩, h6⟩ := h
    exact re_chain (cmp_of (by omega) h1).1 (cmp_of (by omega) h2).1 (ie _ _ h4) (ie _ _ h5) (ie _ _ h6) h3
  · rw [Bool.and_eq_true] at h
    obtain ⟨h1, h2⟩ := h
    split at h1
    · exact re_isN (neg := false) rfl (ie _ _ h2)
    · exact re_isN (neg := true) rfl (ie _ _ h2)
    · cases h1
  · rw [Bool.and_eq_true] at h
    exact re_and (ie _ _ h.1) (pe_one (ie _ _ h.2))
  · rw [Bool.and_eq_true] at h
    exact re_or (ie _ _ h.1) (pe_one (ie _ _ h.2))
  · rw [Bool.and_eq_true] at h
    exact re_and (ie _ _ h.1) (ie _ _ h.2)
  · rw [Bool.and_eq_true] at h
    exact re_or (ie _ _ h.1) (ie _ _ h.2)
  · simp only [Bool.and_eq_true] at h
    exact re_ite (it _ _ h.1.1).1 (ie _ _ h.1.2) (ie _ _ h.2)
  · exact re_tup (rd_es ie h).1
  · -- mk
    rename_i mu l
    cases mu with
    | true => exact re_new (l_snd o ie h)
    | false => exact re_frz (l_snd o ie h)
  · -- cmp
    rename_i mu xe xt xi xs own elt tg iter ifs ia scope pos
    simp only [Bool.and_eq_true] at h
    obtain ⟨⟨⟨⟨⟨⟨h1, h2⟩, h3⟩, h4⟩, h5⟩, h6⟩, h7⟩ := h
    cases eq_of_beq h1
    have e : (c.own own).map (·.2) = own := own_map c own
    have q := re_cmp (W := W) (cA := cA) (own := c.own own) (mu := mu) (pos := pos) (fT := (seN C n).tg) (ft := xt) (fc := evIfsW (seN C n).e xs) (fe := (seN C n).e xe) o.calm o.nd (it_snd o ie h3) (blk_ok o h4)
      (fun s H D cl fp => by rw [e]; exact go_snd (o.blk s H scope D cl fp) own n tg xt h5)
      (fun s H D cl fp => ifs_snd (fun e x z => ((IT _ _ _ (o.blk s H scope D cl fp)) e x z).1) h6)
      (fun s H D cl fp => IE _ _ _ (o.blk s H scope D cl fp) elt xe h7) (fold_of h2)
    rw [e] at q
    exact q
  · -- dsp
    rename_i mu ks xs keys values pos
    simp only [Bool.and_eq_true] at h
    obtain ⟨⟨h1, h2⟩, h3⟩ := h
    obtain ⟨p1, p2, p3, p4, p5⟩ := ds_snd (cA := cA) (W := W) (f := (seN C n).e) pos ie h1
    cases ks with
    | nil =>
      cases xs with
      | cons _ _ => cases p2
      | nil =>
        cases keys with
        | cons _ _ => cases p4
        | nil =>
          cases values with
          | cons _ _ => cases p3
          | nil => exact re_dsp0 (f := (seN C n).e)
    | cons k0 ks =>
      have l15 : (k0 :: ks).length ≤ 15 := Nat.le_of_ble_eq_true h3
      exact re_dsp (nodupK_ok h2) p2 p1 p5 p3 (fun e => by rw [e] at p4; cases p4) (by rw [p4]; exact l15) l15
  · simp only [Bool.and_eq_true] at h
    exact rd_op (pe_ix (ixr_idx (by omega)) (ie _ _ h.1.2) (ie _ _ h.2) (plain_ix h.1.1)) (opOk_rBin _ _)
  · simp only [Bool.and_eq_true] at h
    exact re_slc (ie _ _ h.1.1) (po_of (c := c) ie h.1.2) (po_of (c := c) ie h.2)
  · -- rev
    rw [Bool.and_eq_true] at h
    cases of_decide_eq_true h.1
    exact re_rev (ie _ _ h.2)
  · -- call
    simp only [Bool.and_eq_true] at h
    obtain ⟨⟨⟨h1, h2⟩, h3⟩, h4⟩ := h
    split at h4
    · rename_i d e
      simp only [Bool.and_eq_true] at h4
      obtain ⟨⟨e1, e2⟩, e3⟩ := h4
      obtain ⟨ff, fd, m1, m2, F, B⟩ := o.fns _ _ e
      have e1 := nbeq e1
      have e2 := nbeq e2
      subst e1
      obtain ⟨b, hb, e4⟩ := List.any_eq_true.mp e3
      simp only [Bool.and_eq_true] at e4
      have B := B b hb
      rw [nbeq e4.1.1, strsEq_eq e4.1.2, natsEq_eq e4.2] at B
      obtain ⟨q1, q2, q3⟩ := rd_es ie h3
      obtain ⟨n1, xs', n2⟩ := chkEs_hd h3
      exact re_call F o.room o.gd o.tk (o.gl h1) m1 m2 (by rw [e2] at B; exact B) e2.symm q1 (fun ρ st xs st' z => by rw [evEsW_len z, ← q2, e2]) (okName_ne h2).1 (star_of n1) (pl_all ((rd_es ie n2).2.2 _))
    · cases h4
  · -- callK
    rename_i g xs ys ks p f fp es kws pos
    simp only [Bool.and_eq_true] at h
    obtain ⟨⟨⟨⟨h1, h2⟩, h3⟩, h3k⟩, h4⟩ := h
    split at h4
    · rename_i d e
      simp only [Bool.and_eq_true] at h4
      obtain ⟨⟨⟨e1, e2⟩, e3⟩, e5⟩ := h4
      obtain ⟨ff, fd, m1, m2, F, B⟩ := o.fns _ _ e
      have e1 := nbeq e1
      subst e1
      obtain ⟨b, hb, e4⟩ := List.any_eq_true.mp e2
      simp only [Bool.and_eq_true] at e4
      have B := B b hb
      rw [nbeq e4.1.1, strsEq_eq e4.1.2, natsEq_eq e4.2] at B
      obtain ⟨q1, q2, q3⟩ := rd_es ie h3
      obtain ⟨k1, k2, k3, k4⟩ := rd_ks ie h3k
      obtain ⟨w1, w2, w3⟩ := kw_all (pos := pos) (k3 X.env) k4
      have hnp : ∀ ts ss : List T, ts.length = es.length → ss.length = ks.length → (permL p (ts ++ ss)).length = d.ps.length := fun ts ss a b => by rw [mul_id e3 ts ss a b]; exact nbeq e5
      have hl2 : ∀ (ρ : Env) (st : Sto) (zs : List T) (st' : Sto), evEsW (seN C n).e ys ρ st = .ok zs st' → zs.length = ks.length := fun ρ st zs st' z => by rw [evEsW_len z, ← k2]
      cases es with
      | nil =>
        cases xs with
        | nil => exact re_callK0 F o.room o.gd o.tk (o.gl h1) m1 m2 B hnp k1 hl2 w1 w2 (okName_ne h2).1 (by rw [w3]; rfl)
        | cons _ _ => cases h3
      | cons a es =>
        obtain ⟨n1, xs', n2⟩ := chkEs_hd h3
        exact re_callK F o.room o.gd o.tk (o.gl h1) m1 m2 B hnp q1 k1 (fun ρ st zs st' z => by rw [evEsW_len z, ← q2]) hl2 w1 w2 (okName_ne h2).1 (star_of n1) (by rw [w3, pl_all (q3 _)]; rfl)
    · cases h4
  · -- bf
    rename_i f xa n p a pos
    simp only [Bool.and_eq_true] at h
    obtain ⟨⟨h1, h2⟩, h3⟩ := h
    obtain ⟨rfl, g, m⟩ := o.blt h1
    have pa := pa_cons (ie _ _ h3) pa_nil (star_of (env := X.env) h2)
    cases f with
    | len => exact re_cb1 (id := "len") (fid := "len") (pe_callB cr_len g m (by decide +kernel) pa (by decide) (by decide) (star_of h2) rfl)
    | int => exact re_cb1 (id := "int") (fid := "int") (pe_callTy cr_int g m (by decide +kernel) pa (by decide) (by decide) (star_of h2) rfl)
    | tuple => exact re_cb1 (id := "int") (fid := "int") (pe_callTy cr_tuple g m (by decide +kernel) pa (by decide) (by decide) (star_of h2) rfl)
    | all => exact re_cb1 (id := "int") (fid := "int") (pe_callB (cr_all' o.calm) g m (by decide +kernel) pa (by decide) (by decide) (star_of h2) rfl)
    | any => exact re_cb1 (id := "int") (fid := "int") (pe_callB (cr_any' o.calm) g m (by decide +kernel) pa (by decide) (by decide) (star_of h2) rfl)
    | sum => exact re_cb1 (id := "int") (fid := "int") (pe_callB (cr_sum' o.calm) g m (by decide +kernel) pa (by decide) (by decide) (star_of h2) rfl)
    | repr => exact re_cb1 (id := "int") (fid := "int") (pe_callB (cr_repr o.gd (by omega)) g m (by decide +kernel) pa (by decide) (by decide) (star_of h2) rfl)
    | str => exact re_cb1 (id := "int") (fid := "int") (pe_callTy cr_str' g m (by decide +kernel) pa (by decide) (by decide) (star_of h2) rfl)
  · rename_i f xa xb n p a b pos
    simp only [Bool.and_eq_true] at h
    obtain ⟨⟨⟨⟨h1, h2⟩, h2'⟩, h3⟩, h4⟩ := h
    obtain ⟨rfl, g, m⟩ := o.blt h1
    have pa := pa_cons (ie _ _ h3) (pa_cons (ie _ _ h4) pa_nil (star_of (env := X.env) h2')) (star_of (env := X.env) h2)
    cases f with
    | min => exact re_cb2 (pe_callB (cr_bf2 o.calm .min) g m (by decide +kernel) pa (by decide) (by decide) (star_of h2) (by rw [star_of h2']; rfl))
    | max => exact re_cb2 (pe_callB (cr_bf2 o.calm .max) g m (by decide +kernel) pa (by decide) (by decide) (star_of h2) (by rw [star_of h2']; rfl))
  · rename_i xa t n p a m p2 pos
    simp only [Bool.and_eq_true] at h
    obtain ⟨⟨⟨h1, h1'⟩, h2⟩, h3⟩ := h
    obtain ⟨rfl, g, mm⟩ := o.blt h1
    obtain ⟨rfl, g', mm'⟩ := o.blt h1'
    refine re_isI (x := "x") g mm (ie _ _ h3) ?_ (star_of h2)
    cases t <;> exact pe_bltn g' mm' (by decide +kernel) rfl (by decide) (by decide)
  · simp only [Bool.and_eq_true] at h
    obtain ⟨⟨⟨⟨⟨h1, h2⟩, h3⟩, h4⟩, h5⟩, h6⟩ := h
    cases strEq_true h1
    exact re_append (ie _ _ h5) (ie _ _ h6) (star_of h3) (base_of h2) h4 (few_of h3)
  · simp only [Bool.and_eq_true] at h
    obtain ⟨⟨⟨⟨⟨h1, h2⟩, h3⟩, h4⟩, h5⟩, h6⟩ := h
    cases strEq_true h1
    exact re_popAt (ie _ _ h5) (ie _ _ h6) (star_of h3) (base_of h2) h4 (few_of h3)
  · simp only [Bool.and_eq_true] at h
    obtain ⟨⟨⟨⟨⟨h1, h2⟩, h3⟩, h4⟩, h5⟩, h6⟩ := h
    cases strEq_true h1
    exact re_join (ie _ _ h5) (ie _ _ h6) (star_of h3) (base_of h2) h4 (few_of h3)
  · simp only [Bool.and_eq_true] at h
    obtain ⟨⟨⟨h1, h2⟩, h4⟩, h5⟩ := h
    cases strEq_true h1
    exact re_pop (ie _ _ h5) (base_of h2) h4
  · cases h
theorem step_t {n : Nat} (IE1 : SndE cA C k (n + 1)) (IE : SndE cA C k n) (IT : SndT cA C k n) : SndT cA C k (n + 1) := by
  intro X c W o e x h
  have ie := IE X c W o
  have it := IT X c W o
  have hu := o.units
  replace h : (stepCt (ckN n) c e x || (plainT e && stepC n (ckN n) c e x)) = true := h
  rw [Bool.or_eq_true] at h
  rcases h with h | h
  case inr =>
    rw [Bool.and_eq_true] at h
    exact ⟨rt_plain (IE1 X c W o e x h.2) (plainT_of h.1), fun op es p z => by rw [z] at h; exact Bool.noConfusion h.1⟩
  show PT X e (rdT X.K cA W fun ρ st => (stepE C (seN C n) x ρ st).bind fun v st => truthM v st) ∧ ∀ op es p, e = .BoolOp op es p → PW X e (rdT X.K cA W fun ρ st => (stepE C (seN C n) x ρ st).bind fun v st => truthM v st)
  unfold stepCt at h
  split at h
  · exact ⟨rt_not (it _ _ h).1, nofun⟩
  · rename_i xa xb a b pos
    rw [Bool.and_eq_true] at h
    have q := rt_and (pos := pos) (W := W) (cA := cA) (it _ _ h.1).1 (pw_and1 (it _ _ h.2).1)
    exact ⟨q.pt, fun _ _ _ _ => q⟩
  · rename_i xa xb a b pos
    rw [Bool.and_eq_true] at h
    have q := rt_or (pos := pos) (W := W) (cA := cA) (it _ _ h.1).1 (pw_or1 (it _ _ h.2).1)
    exact ⟨q.pt, fun _ _ _ _ => q⟩
  · rw [Bool.and_eq_true] at h
    have q := rt_and (W := W) (cA := cA) (it _ _ h.1).1 ((it _ _ h.2).2 _ _ _ rfl)
    exact ⟨q.pt, fun _ _ _ _ => q⟩
  · rw [Bool.and_eq_true] at h
    have q := rt_or (W := W) (cA := cA) (it _ _ h.1).1 ((it _ _ h.2).2 _ _ _ rfl)
    exact ⟨q.pt, fun _ _ _ _ => q⟩
  · simp only [Bool.and_eq_true, Bool.not_eq_true'] at h
    obtain ⟨⟨⟨h1, h2⟩, h3⟩, h4⟩ := h
    obtain ⟨c1, c2⟩ := cmp_of (X := X) (by omega) h1
    exact ⟨rt_cmp c1 (bin_bool c2) (ie _ _ h3) (ie _ _ h4) h2, nofun⟩
  · simp only [Bool.and_eq_true, Bool.not_eq_true'] at h
    obtain ⟨⟨⟨⟨⟨h1, h2⟩, h3⟩, h4⟩, h5⟩, h6⟩ := h
    obtain ⟨c1, c2⟩ := cmp_of (X := X) (by omega) h2
    exact ⟨rt_chain (cmp_of (by omega) h1).1 c1 (bin_bool c2) (ie _ _ h4) (ie _ _ h5) (ie _ _ h6) h3, nofun⟩
  · rw [Bool.and_eq_true] at h
    obtain ⟨h1, h2⟩ := h
    split at h1
    · exact ⟨rt_isN (neg := false) rfl (ie _ _ h2), nofun⟩
    · exact ⟨rt_isN (neg := true) rfl (ie _ _ h2), nofun⟩
    · cases h1
  · cases h
theorem snd : ∀ n, SndE cA C k n ∧ SndT cA C k n
  | 0 => ⟨fun X c W o e x h => Bool.noConfusion h, fun X c W o e x h => Bool.noConfusion h⟩
  | n + 1 => by
    obtain ⟨a, b⟩ := snd n
    have q := step_e a b
    exact ⟨q, step_t q a b⟩
theorem tg_snd {c : Sc} {X : Cx} {W : WX} (o : CxOk cA C k c X W) {n : Nat} {e : Expr} {t : Tg} (h : chkTg c n e t = true) : PG X e (rdG X.K cA W ((seN C n).tg t)) := by
  have hu := o.units
  cases n with
  | zero => cases h
  | succ n =>
    rw [chkTg, Bool.or_eq_true] at h
    rcases h with h | h
    · unfold chkSub at h
      split at h
      · rename_i a i p xo xi
        simp only [Bool.and_eq_true] at h
        have ie := (snd (cA := cA) (C := C) (k := k) n).1 X c W o
        exact rg_sub (by omega) (ie _ _ h.1.2) (ie _ _ h.2) (fun v => by cases i <;> first | rfl | exact Bool.noConfusion h.1.1)
      · cases h
    · exact rg_weak (go_snd o _ _ _ _ h)
end
end Ev

/-! Ev21: statements and defs: the check, and that it is right. -/
namespace Ev
open PySem PySem.Spec PyProof.Rows L2

def notTup : Expr → Bool
  | .Tuple .. => false
  | _ => true
/-- name = [..] on one line: the stores are exchanged -/
def swB (c : Sc) (y : Str) (py : Pos) (scope : Scope) (pos : Pos) : Bool := c.locL y && py.line == pos.line && !(scope.names.any fun (n, k) => n == y && (k == .local || k == .cell))
def chkSs (f : Stmt → S → Bool) : List Stmt → List S → Bool
  | [], [] => true
  | s :: ss, x :: xs => f s x && chkSs f ss xs
  | _, _ => false
def notLoc (c : Sc) : Expr → Bool
  | .Name y _ => !c.locL y
  | _ => true
/-- no exchange -/
def plainA (c : Sc) : Expr → Expr → Bool
  | .Subscript .., .ListComp .. => true
  | _, .ListComp .. => false
  | _, .SetComp .. => false
  | _, .DictComp .. => false
  | .Tuple ts _ _, .Tuple vs _ _ => vs.all (foldedForSure 8) || ts.any (notLoc c)
  | .List .., .Tuple .. => false
  | _, _ => true
def stepCs (c : Sc) (f : Stmt → S → Bool) (s : Stmt) (x : S) : Bool := match x, s with
  | .asg (.nm i) (.cmp mu xe xt xi xs own), .Assign [.Name y py] (.ListComp elt [⟨tg, iter, ifs, ia⟩] scope pos) _ =>
    if swB c y py scope pos then nthIs c.N i y && ia == 0 && noset iter && chkIt c ((ckN 39).e c) tg iter xi && chkC c scope own && chkGo (c.inn scope) own 39 tg xt && chkIfs ((ckN 39).t (c.inn scope)) ifs xs && (ckN 39).e (c.inn scope) elt xe
    else chkTg c 40 (.Name y py) (.nm i) && (ckN 40).e c (.ListComp elt [⟨tg, iter, ifs, ia⟩] scope pos) (.cmp mu xe xt xi xs own)
  | .asg t xe, .Assign [tg] e _ => plainA c tg e && nostar tg && chkTg c 40 tg t && (ckN 40).e c e xe
  | .par i j xa xb, .Assign [.Tuple [.Name x px, .Name y py] _ _] (.Tuple [a, b] _ _) _ => nthIs c.N i x && nthIs c.N j y && !Nat.beq i j && c.locL x && c.locL y && px.line == py.line && nostar a && nostar b &&
      !([a, b].all (foldedForSure 8)) && !([a, b].all (constantsAlone 8)) && (ckN 40).e c a xa && (ckN 40).e c b xb
  | .ex xe, .Expr e _ => nolc e && (ckN 40).e c e xe
  | .ret xe, .Return (some e) _ => (ckN 40).e c e xe
  | .retN, .Return none _ => true
  | .ite xc xa xb, .If t a b _ => (ckN 40).t c t xc && chkSs f a xa && chkSs f b xb
  | .for_ t xi xb, .For tg iter b [] _ => noset iter && chkIt c ((ckN 40).e c) tg iter xi && chkTg c 40 tg t && chkSs f b xb
  | .while_ xc xb, .While t b [] _ => (ckN 40).t c t xc && chkSs f b xb
  | .pass, .Pass _ => true
  | .brk, .Break _ => true
  | .cont, .Continue _ => true
  | _, _ => false
def chkSN (c : Sc) : Nat → Stmt → S → Bool
  | 0, _, _ => false
  | n + 1, s, x => stepCs c (chkSN c n) s x

section
variable {cA : Nat → Addr} {C : Nat → List T → M T} {k wf : Nat} {c : Sc} {X : Cx} {W : WX}
theorem ss_snd {f : Stmt → S → Bool} {g : S → Env → Sto → SR} (hf : ∀ s x, f s x = true → PS X s (rdS X.K cA W (g x))) : ∀ {ss : List Stmt} {xs : List S}, chkSs f ss xs = true → PSs X ss (rdS X.K cA W (evSsW g xs))
  | [], [], _ => rss_nil
  | [], _ :: _, h => by cases h
  | _ :: _, [], h => by cases h
  | s :: ss, x :: xs, h => by
    rw [chkSs, Bool.and_eq_true] at h
    exact rss_cons (hf _ _ h.1) (ss_snd hf h.2)
theorem sw_eq {elt : Expr} {gs : List Comprehension} {scope : Scope} {pos : Pos} {y : Str} {py : Pos} {l : Nat} (o : CxOk cA C k c X W) (hb : X.env.blockKind = .function) : swapsWith (.ListComp elt gs scope pos) (some (.Name y py)) l X.env = pure (swB c y py scope pos) := by
  have e : swapsWith (.ListComp elt gs scope pos) (some (.Name y py)) l X.env = pure (X.env.blockKind == .function && X.env.kindOf y == some .local && py.line == pos.line && !(scope.names.any fun (n, k) => n == y && (k == .local || k == .cell))) := rfl
  rw [e, hb]
  unfold swB Sc.locL
  rw [lookS_eq, ← o.sc]
  show pure (true && (X.env.scope.names.lookup y == some .local) && py.line == pos.line && !(scope.names.any fun (n, k) => n == y && (k == .local || k == .cell))) = _
  congr 3
  cases e : X.env.scope.names.lookup y with
  | none => rfl
  | some q => cases q <;> rfl
theorem fm_lt {α β : Type} {g : α → Option β} : ∀ {l : List α}, (∃ t ∈ l, g t = none) → (l.filterMap g).length < l.length
  | [], ⟨_, h, _⟩ => nomatch h
  | t :: l, ⟨u, h, e⟩ => by
    rw [List.filterMap_cons]
    have le : (l.filterMap g).length ≤ l.length := List.length_filterMap_le g l
    cases q : g t with
    | none =>
      simp only [List.length_cons]
      omega
    | some v =>
      have : u ∈ l := by
        rcases List.mem_cons.mp h with z | z
        · subst z; rw [q] at e; cases e
        · exact z
      have := fm_lt ⟨u, this, e⟩
      simp only [List.length_cons]
      omega
theorem plain_sw {tg e : Expr} {l : Nat} (o : CxOk cA C k c X W) (h1 : plainA c tg e = true) : swapsWithSole [tg] e l X.env = pure false ∧ swappedStores [tg] e X.env = pure none := by
  refine ⟨?_, ?_⟩
  · cases e <;> first | rfl | (cases tg <;> first | rfl | cases h1)
  · cases e <;> first
      | (cases tg <;> rfl)
      | skip
    rename_i vs k2 p2
    cases tg <;> first | rfl | cases h1 | skip
    rename_i ts kt pt
    have h1 : (vs.all (foldedForSure 8) || ts.any (notLoc c)) = true := h1
    rw [Bool.or_eq_true] at h1
    rcases h1 with h1 | h1
    · unfold swappedStores
      simp only [pure_bind, h1, if_true]
      split
      · rfl
      · split
        · rfl
        · split <;> rfl
    · obtain ⟨t, ht, nt⟩ := List.any_eq_true.mp h1
      have short : ∀ (line : Nat), (ts.filterMap fun
          | .Name id pos => if X.env.kindOf id == some .local && pos.line == line then some id else none
          | _ => none).length < ts.length := fun line => fm_lt ⟨t, ht, by
        cases t with
        | Name y py =>
          have nl : c.locL y = false := by simpa [notLoc] using nt
          have : (X.env.kindOf y == some .local) = false := by
            unfold Sc.locL at nl
            rw [lookS_eq, ← o.sc] at nl
            unfold PySem.Env.kindOf
            cases q : X.env.scope.names.lookup y with
            | none => rfl
            | some kd => rw [q] at nl; cases kd <;> first | rfl | cases nl
          simp [this]
        | _ => rfl⟩
      unfold swappedStores
      simp only [pure_bind]
      split
      · rfl
      · split
        · rfl
        · rw [if_pos]
          have z := short ((Option.map (fun x => x.pos.line) ts.head?).getD 0)
          have ne : ((ts.filterMap fun
            | .Name id pos => if X.env.kindOf id == some .local && pos.line == (Option.map (fun x => x.pos.line) ts.head?).getD 0 then some id else none
            | _ => none).length != ts.length) = true := by
            rw [bne_iff_ne]
            omega
          exact Bool.or_eq_true_iff.mpr (.inl ne)
theorem par_sw {x y : Str} {a b : Expr} {px py pt pt2 : Pos} {kt k2 : Nat} (hb : X.env.blockKind = .function) (hx : X.env.scope.names.lookup x = some .local) (hy : X.env.scope.names.lookup y = some .local) (hp : (px.line == py.line) = true) (hne : x ≠ y)
    (ha : nostar a = true) (hb2 : nostar b = true) (h1 : ([a, b].all (foldedForSure 8)) = false) (h2 : ([a, b].all (constantsAlone 8)) = false) :
    swappedStores [.Tuple [.Name x px, .Name y py] kt pt] (.Tuple [a, b] k2 pt2) X.env = pure (some [x, y]) := by
  have any2 : ∀ g : Expr → Bool, (∀ e, nostar e = true → g e = false) → [a, b].any g = false := fun g h => by
    rw [List.any_cons, List.any_cons, h a ha, h b hb2]
    rfl
  have kx : (X.env.kindOf x == some .local) = true := by unfold PySem.Env.kindOf; rw [hx]; rfl
  have ky : (X.env.kindOf y == some .local) = true := by unfold PySem.Env.kindOf; rw [hy]; rfl
  have e1 : (py.line == px.line) = true := by rw [eq_of_beq hp]; exact beq_self_eq_true _
  have ed : [x, y].eraseDups = [x, y] := by
    have : (y == x) = false := beq_eq_false_iff_ne.mpr (Ne.symm hne)
    simp [List.eraseDups_cons, this]
  unfold swappedStores
  simp only [pure_bind, h1, h2, hb]
  rw [any2 _ (fun e h => by cases e <;> first | rfl | exact Bool.noConfusion h)]
  have fm2 : ∀ g : Expr → Option Str, g (.Name x px) = some x → g (.Name y py) = some y → List.filterMap g [Expr.Name x px, Expr.Name y py] = [x, y] := fun g a b => by
    rw [List.filterMap_cons_some a, List.filterMap_cons_some b]
    rfl
  have kx' : X.env.kindOf x = some .local := hx
  have ky' : X.env.kindOf y = some .local := hy
  have e1' : py.line = px.line := (eq_of_beq hp).symm
  simp [fm2, kx', ky', e1', ed, Expr.pos]
end
end Ev

/-! Ev22: statements by the fuel; defs; all defs of a program by the depth. -/
namespace Ev
open PySem PySem.Spec PyProof.Rows L2
section
variable {cA : Nat → Addr} {C : Nat → List T → M T} {k wf : Nat} {c : Sc} {X : Cx} {W : WX}
theorem toS_bind {α β : Type} (r : R α) (f : α → Sto → R β) (ρ : Env) (g : β → Sto → SR) : (r.bind f).toS ρ g = r.toS ρ fun v st => (f v st).toS ρ g := by cases r <;> rfl
theorem s_step (o : CxOk cA C k c X W) (hp : PassesOwn (model X.prog X.w) X.A X.env X.xe) (hb : X.env.blockKind = .function) {f : Stmt → S → Bool} {g : S → Env → Sto → SR} (hf : ∀ s x, f s x = true → PS X s (rdS X.K cA W (g x)))
    (s : Stmt) (x : S) (h : stepCs c f s x = true) : PS X s (rdS X.K cA W fun ρ st => stepS (seN C deep) wf g x ρ st) := by
  have ie := (snd (cA := cA) (C := C) (k := k) 40).1 X c W o
  have it := (snd (cA := cA) (C := C) (k := k) 40).2 X c W o
  have hu := o.units
  unfold stepCs at h
  split at h
  · rename_i i mu xe xt xi xs own y py elt tg iter ifs ia scope pos pos'
    split at h
    · rename_i hsw
      simp only [Bool.and_eq_true] at h
      obtain ⟨⟨⟨⟨⟨⟨⟨h0, h1⟩, h2⟩, h3⟩, h4⟩, h5⟩, h6⟩, h7⟩ := h
      cases eq_of_beq h1
      have ie39 := (snd (cA := cA) (C := C) (k := k) 39).1
      have it39 := (snd (cA := cA) (C := C) (k := k) 39).2
      have e : (c.own own).map (·.2) = own := own_map c own
      have hyl : X.env.scope.names.lookup y = some .local := by
        unfold swB at hsw
        simp only [Bool.and_eq_true] at hsw
        exact o.locL hsw.1.1
      have q := rs_setLc (W := W) (cA := cA) (own := c.own own) (mu := mu) (pos := pos) (spos := pos') (py := py) (fT := (seN C 39).tg) (ft := xt) (fc := evIfsW (seN C 39).e xs) (fe := (seN C 39).e xe) o.calm o.nd (by rw [o.N]; exact nthIs_eq h0) hyl
        (by rw [sw_eq o hb, hsw]) (it_snd o (ie39 X c W o) h3) (blk_ok o h4)
        (fun s H D cl fp => by rw [e]; exact go_snd (o.blk s H scope D cl fp) own 39 tg xt h5)
        (fun s H D cl fp => ifs_snd (fun e x z => ((it39 _ _ _ (o.blk s H scope D cl fp)) e x z).1) h6)
        (fun s H D cl fp => ie39 _ _ _ (o.blk s H scope D cl fp) elt xe h7) (fold_of h2)
      rw [e] at q
      exact q
    · rename_i hsw
      rw [Bool.and_eq_true] at h
      have hsw : swB c y py scope pos = false := by simpa using hsw
      exact rs_asg (ie _ _ h.2) (tg_snd o h.1) (by rw [swapsWithSole, sw_eq o hb, hsw]) rfl rfl
  · rename_i t xe tg e pos _
    simp only [Bool.and_eq_true] at h
    obtain ⟨⟨⟨h1, h2⟩, h3⟩, h4⟩ := h
    obtain ⟨w1, w2⟩ := plain_sw (X := X) (l := pos.line) o h1
    exact rs_asg (ie _ _ h4) (tg_snd o h3) w1 w2 (by rw [asg_of h2]; rfl)
  · rename_i i j xa xb x px y py kt pt a b k2 pt2 pos
    simp only [Bool.and_eq_true, Bool.not_eq_true'] at h
    obtain ⟨⟨⟨⟨⟨⟨⟨⟨⟨⟨⟨h1, h2⟩, h3⟩, h4⟩, h5⟩, h6⟩, h7⟩, h8⟩, h9⟩, h10⟩, h11⟩, h12⟩ := h
    have hij : i ≠ j := fun e => by
      subst e
      have : Nat.beq i i = true := Nat.beq_refl i
      rw [h3] at this
      cases this
    have n1 : X.N[i]? = some x := by rw [o.N]; exact nthIs_eq h1
    have n2 : X.N[j]? = some y := by rw [o.N]; exact nthIs_eq h2
    have hne : x ≠ y := fun e => hij (nodup_ix o.nd n1 (e ▸ n2))
    exact rs_par o.calm o.nd n1 n2 hij (o.locL h4) (o.locL h5) (ie _ _ h11) (ie _ _ h12) (star_of h7) (star_of h8) (par_sw hb (o.locL h4) (o.locL h5) h6 hne h7 h8 h9 h10) rfl
  · rename_i xe e pos
    rw [Bool.and_eq_true] at h
    exact rs_ex (ie _ _ h.2) (by cases e <;> first | rfl | exact Bool.noConfusion h.1)
  · exact rs_ret (ie _ _ h)
  · exact rs_retN
  · simp only [Bool.and_eq_true] at h
    rename_i xc xa xb t a b pos
    have q := rs_if (pos := pos) (it _ _ h.1.1).1 (ss_snd hf h.1.2) (ss_snd hf h.2)
    have e : (fun (ρ : Env) (st : Sto) => (tst ((seN C 40).e xc) ρ st).toS ρ fun t st => if t then evSsW g xa ρ st else evSsW g xb ρ st) =
        fun ρ st => ((seN C 40).e xc ρ st).toS ρ fun x st => (truthM x st).toS ρ fun t st => if t then evSsW g xa ρ st else evSsW g xb ρ st := by
      funext ρ st
      exact toS_bind _ _ _ _
    rw [e] at q
    exact q
  · simp only [Bool.and_eq_true] at h
    obtain ⟨⟨⟨h1, h2⟩, h3⟩, h4⟩ := h
    exact rs_for hp o.calm (it_snd o ie h2) (tg_snd o h3) (ss_snd hf h4) (fold_of h1)
  · rw [Bool.and_eq_true] at h
    exact rs_while hp (it _ _ h.1).1 (ss_snd hf h.2)
  · exact rs_pass
  · exact rs_brk
  · exact rs_cont
  · cases h
theorem s_snd (o : CxOk cA C k c X W) (hp : PassesOwn (model X.prog X.w) X.A X.env X.xe) (hb : X.env.blockKind = .function) : ∀ (n : Nat) (s : Stmt) (x : S), chkSN c n s x = true → PS X s (rdS X.K cA W (svN (seN C deep) wf n x))
  | 0, _, _, h => by cases h
  | n + 1, s, x, h => s_step o hp hb (s_snd o hp hb n) s x h
end

/-! ### a def -/
theorem endF_ok {K : PySem.W.Frag} {cA : Nat → Addr} {E : XK} {Q : VK} {w0 : Wd} {keep : Bool} {r : SR} (s0 : Sim K w0) (q : OkG K cA (fun cls d _ H => E cls d H) (RelT K) [] w0 (endF keep w0.st.length r) Q) :
    OkS K cA (fun cls d _ H => E cls d H) { nx := fun _ H' => Q .non H', rt := Q } w0 r := by
  have lv : ∀ {t : T} {st : Sto} {v : V} {H : Hp} {m : List Addr}, OkG K cA (fun cls d _ H => E cls d H) (RelT K) [] w0 (leave w0.st.length t st) Q → Ext w0 ⟨m, st, H⟩ → Sim K ⟨m, st, H⟩ → RT K (Live m st) m H v t → Q v H := by
    intro t st v H m q e s r
    unfold leave at q
    split at q
    · rename_i t' st' h1 h2
      obtain ⟨x1, x2, x3⟩ := leave_ok s0 s e h2
      exact q v H w0.m x1 x2 (x3 _ _ _ _ h1 r)
    · exact q.elim
  cases r with
  | nx ρ st =>
    unfold endF at q
    intro σ H m e s ev
    cases keep with
    | true => exact q .non H m e s (.d .non)
    | false => exact lv q e s (.d .non)
  | rt v st =>
    unfold endF at q
    intro v H m e s r
    cases keep with
    | true => exact q v H m e s r
    | false => exact lv q e s r
  | exn x ρ st =>
    unfold endF at q
    intro σ H m dx fs e s ev hx hf
    cases keep with
    | true => exact q m H dx fs e s hx hf
    | false =>
      simp only [Bool.false_eq_true, if_false] at q
      unfold leaveX at q
      split at q
      · rename_i fs' st' h1 h2
        obtain ⟨x1, x2, x3⟩ := leave_ok s0 s e h2
        refine q w0.m H dx fs x1 x2 hx (lift_map (fun c a b x y => ?_) hf h1)
        obtain ⟨z, hz, e6⟩ := Option.map_eq_some_iff.mp y
        cases e6
        exact ⟨x.1, x3 9 _ _ _ hz x.2⟩
      · exact q.elim
  | bk ρ st => exact q.elim
  | ct ρ st => exact q.elim
  | bad => exact q.elim
theorem start_env {K : PySem.W.Frag} {w : Wd} {N : List Str} {vs : List V} {ts : List T} (r : w.Rs K vs ts) : EnvR K w (L2.start N vs) (ts.map some ++ List.replicate (N.length - ts.length) none) := by
  have hl := r.length
  unfold L2.start
  refine ⟨by simp [hl], fun i t h => ?_⟩
  by_cases hi : i < ts.length
  · rw [List.getElem?_append_left (by simpa using hi), List.getElem?_map] at h
    obtain ⟨u, h1, h2⟩ := Option.map_eq_some_iff.mp h
    cases h2
    obtain ⟨v, h3, h4⟩ := r.get h1
    exact ⟨v, by rw [List.getElem?_append_left (by rw [List.length_map, hl]; exact hi), List.getElem?_map, h3]; rfl, h4⟩
  · rw [List.getElem?_append_right (by simpa using hi), List.getElem?_replicate] at h
    split at h <;> cases h
theorem fn_snd {P : Program} {w : World} {K : PySem.W.Frag} {mg : Str → Option Value} {base : Heap} {cA : Nat → Addr} {C : Nat → List T → M T} {k wf : Nat} {f : Addr} {fd : FuncData} {x qual : Str} {params : Arguments} {body : List Stmt} {scope : Scope} {dvs : List V} {kws : List (Str × V)} {ps : List Str} {c : Sc} {fn : Fn}
    (F : FunD K x qual params body scope dvs kws f fd) (S : FnScope c.N ps scope) (hc : c.sc = scope) (hcel : c.cel = scope.names) (h1 : fn.np = ps.length) (h2 : fn.n = c.N.length)
    (hb : chkSs (chkSN c deep) body fn.body = true)
    (hf : ∀ (x : Str) (d : FnE), lookS x c.fns = some d → ∃ (f : Addr) (fd : FuncData), mg x = some (.ref f) ∧ PySem.W.keepIn K (.ref f) = true ∧ FnG P w K mg base k f fd d.ps (spC K cA d.ps.length (C d.g)) ∧ ∀ b ∈ d.bs, BindP K fd d.ps b.1 b.2.1 b.2.2)
    (hi : ∀ (x : Str) (i : Int), lookS x c.cis = some i → ∃ t, mg x = some (.int i t)) (hs : ∀ (x z : Str), lookS x c.css = some z → ∃ t, mg x = some (.str z t)) (hr : ∀ x : Str, memS x c.fre = true → mg x = none) :
    FnG P w K mg base (k + 1) f fd ps (spC K cA ps.length (runF C wf fn)) := by
  refine fn_g F S (fun vs H Q E ⟨m, st, ts, _, r, hl, _⟩ => r.length.trans hl) fun cdv A outer s H vs Q E room gd sp => ?_
  obtain ⟨m, st, ts, sim, r, hl, q⟩ := sp
  generalize hX : cxOf (L2.CX P w) P w K mg base c.N qual scope f cdv A outer s H E = X
  have o : CxOk cA C k c X (fun cls d _ H => E cls d H) := by
    subst hX
    exact ⟨rfl, S.nd, hc.symm, rfl, room, gd, takes_of rfl rfl rfl rfl, fun _ _ => rfl, hf, hi, hs, hr⟩
  have hp : PassesOwn (model X.prog X.w) X.A X.env X.xe := by
    subst hX
    exact passes_of rfl
  have hbk : X.env.blockKind = .function := by
    subst hX
    show (if scope.kind.isAnnotationScope then ScopeKind.function else scope.kind) = .function
    rw [S.kind]; rfl
  have hK : X.K = K := by subst hX; rfl
  refine ⟨rdS X.K cA (fun cls d _ H => E cls d H) (fun ρ st => evSsW (svN (seN C deep) wf deep) fn.body ρ st), ss_snd (s_snd o hp hbk deep) hb, ?_⟩
  rw [hK]
  refine ⟨m, startE fn ts, st, sim, ?_, endF_ok (keep := fn.keep) sim ?_⟩
  · have e := start_env (w := ⟨m, st, H⟩) (N := c.N) r
    unfold startE
    rw [h2]
    exact e
  · unfold runF at q
    rw [if_pos (by rw [hl, h1])] at q
    exact q
end Ev

/-! Ev23: all defs of a program by the depth; the law's end. -/
namespace Ev
open PySem PySem.Spec PyProof.Rows L2

structure DefC where
  x : Str
  st : Stmt
  N : List Str
  e : FnE
structure Prg where
  ds : List DefC
  cis : List (Str × Int)
  css : List (Str × Str)
  fre : List Str
def Prg.fns (p : Prg) : List (Str × FnE) := p.ds.map fun d => (d.x, d.e)
def Prg.sc (p : Prg) (d : DefC) : Sc := { N := d.N, sc := defScope d.st, cel := (defScope d.st).names, fns := p.fns, cis := p.cis, css := p.css, fre := p.fre }
def nodupS : List Str → Bool
  | [] => true
  | x :: r => !memS x r && nodupS r
def scB (N ps : List Str) (sc : Scope) : Bool :=
  (match sc.kind with | .function => true | _ => false) && !sc.isCoroutine && !sc.isGenerator && nodupS N && strsEq (N.take ps.length) ps &&
    (ps.all fun x => match lookS x sc.names with | some .local => true | some .cell => true | _ => false) && sc.names.all fun y => match y.2 with | .free => false | _ => true
theorem memS_iff {x : Str} : ∀ {l : List Str}, memS x l = true ↔ x ∈ l
  | [] => by simp [memS]
  | y :: r => by
    rw [memS, Bool.or_eq_true, memS_iff (l := r), List.mem_cons, strEq_iff, decide_eq_true_eq]
theorem nodupS_ok : ∀ {l : List Str}, nodupS l = true → l.Nodup
  | [], _ => .nil
  | x :: r, h => by
    rw [nodupS, Bool.and_eq_true] at h
    refine List.nodup_cons.mpr ⟨fun z => ?_, nodupS_ok h.2⟩
    have := memS_iff.mpr z
    rw [this] at h
    exact Bool.noConfusion h.1
theorem scB_ok {N ps : List Str} {sc : Scope} (h : scB N ps sc = true) : FnScope N ps sc := by
  unfold scB at h
  simp only [Bool.and_eq_true, Bool.not_eq_true', List.all_eq_true] at h
  obtain ⟨⟨⟨⟨⟨⟨h1, h2⟩, h3⟩, h4⟩, h5⟩, h6⟩, h7⟩ := h
  refine ⟨?_, h2, h3, nodupS_ok h4, strsEq_eq h5, fun x hx => ?_, fun y hy e => ?_⟩
  · split at h1
    · assumption
    · cases h1
  · have q := h6 x hx
    rw [lookS_eq] at q
    split at q
    · exact .inl (by assumption)
    · exact .inr (by assumption)
    · cases q
  · have q := h7 y hy
    rw [e] at q
    cases q
/-- the text matches the form -/
def chkD (Γ : Nat → Option Fn) (p : Prg) (d : DefC) : Bool := match Γ d.e.g with
  | some fn => Nat.beq fn.np d.e.ps.length && Nat.beq fn.n d.N.length && scB d.N d.e.ps (defScope d.st) && chkSs (chkSN (p.sc d) deep) (defBody d.st) fn.body
  | none => false
theorem look_fns : ∀ {ds : List DefC} {x : Str} {e : FnE}, lookS x (ds.map fun d => (d.x, d.e)) = some e → ∃ d ∈ ds, d.x = x ∧ d.e = e
  | [], _, _, h => by cases h
  | d :: ds, x, e, h => by
    rw [List.map_cons, lookS] at h
    split at h
    · rename_i q
      cases h
      exact ⟨d, List.mem_cons_self, (strEq_true q).symm, rfl⟩
    · obtain ⟨d', h1, h2⟩ := look_fns h
      exact ⟨d', List.mem_cons_of_mem _ h1, h2⟩

/-- what the heap says of the program -/
structure PrgOk (p : Prg) (K : PySem.W.Frag) (mg : Str → Option Value) : Prop where
  ds : ∀ d ∈ p.ds, ∃ (f : Addr) (fd : FuncData), mg d.x = some (.ref f) ∧ FunD K d.x d.x (defArgs d.st) (defBody d.st) (defScope d.st) [] [] f fd ∧ ∀ b ∈ d.e.bs, BindP K fd d.e.ps b.1 b.2.1 b.2.2
  cis : ∀ (x : Str) (i : Int), lookS x p.cis = some i → ∃ t, mg x = some (.int i t)
  css : ∀ (x z : Str), lookS x p.css = some z → ∃ t, mg x = some (.str z t)
  fre : ∀ x : Str, memS x p.fre = true → mg x = none
theorem levels {P : Program} {w : World} {K : PySem.W.Frag} {mg : Str → Option Value} {base : Heap} {cA : Nat → Addr} {Γ : Nat → Option Fn} {wf : Nat} {p : Prg} (O : PrgOk p K mg) (hc : ∀ d ∈ p.ds, chkD Γ p d = true) :
    ∀ (k : Nat) (d : DefC), d ∈ p.ds → ∀ (f : Addr) (fd : FuncData), FunD K d.x d.x (defArgs d.st) (defBody d.st) (defScope d.st) [] [] f fd → FnG P w K mg base k f fd d.e.ps (spC K cA d.e.ps.length (callF Γ wf k d.e.g))
  | 0, d, hd, f, fd, F => ⟨fun vs H Q E ⟨m, st, ts, _, r, hl, _⟩ => r.length.trans hl, fun A outer s H args us vs Q E _ _ _ _ _ ⟨m, st, ts, _, _, _, q⟩ => q.elim⟩
  | k + 1, d, hd, f, fd, F => by
    have ih := levels O hc k (P := P) (w := w) (base := base) (cA := cA) (wf := wf)
    have h := hc d hd
    unfold chkD at h
    split at h
    · rename_i fn hΓ
      simp only [Bool.and_eq_true] at h
      obtain ⟨⟨⟨h1, h2⟩, h3⟩, h4⟩ := h
      have e : callF Γ wf (k + 1) d.e.g = runF (callF Γ wf k) wf fn := by
        funext vs
        simp only [callF, hΓ]
      rw [e]
      refine fn_snd (c := p.sc d) F (scB_ok h3) rfl rfl (nbeq h1) (nbeq h2) h4 (fun x e hx => ?_) O.cis O.css O.fre
      obtain ⟨d', m1, m2, m3⟩ := look_fns hx
      obtain ⟨f', fd', q1, q2, q3⟩ := O.ds d' m1
      subst m2 m3
      exact ⟨f', fd', q1, q2.kp, ih d' m1 f' fd' q2, q3⟩
    · cases h

theorem all_nil {α : Type} {P : α → Prop} : ∀ d ∈ ([] : List α), P d := fun _ h => nomatch h
theorem all_cons {α : Type} {P : α → Prop} {a : α} {r : List α} (h : P a) (t : ∀ d ∈ r, P d) : ∀ d ∈ a :: r, P d := fun d hd => (List.mem_cons.mp hd).elim (fun e => e ▸ h) (t d)
theorem look_all {α : Type} {P : Str → α → Prop} : ∀ {l : List (Str × α)}, (∀ q ∈ l, P q.1 q.2) → ∀ (x : Str) (a : α), lookS x l = some a → P x a
  | [], _, _, _, h => by cases h
  | (y, b) :: r, k, x, a, h => by
    rw [lookS] at h
    split at h
    · rename_i e
      cases h
      rw [strEq_true e]
      exact k _ List.mem_cons_self
    · exact look_all (fun q hq => k q (List.mem_cons_of_mem _ hq)) x a h
theorem bind_of {K : PySem.W.Frag} {x qual : Str} {params : Arguments} {body : List Stmt} {scope : Scope} {f : Addr} {fd : FuncData} {ps ks : List Str} {n : Nat} {p : List Nat} (F : FunD K x qual params body scope [] [] f fd)
    (h : ∀ (kV doc pm : Value) (an : Option Addr) (cdv ct : Value) (us ws : List Value), us.length = n → ws.length = ks.length → bindArgs (PySem.W.fnOf x qual params body scope .none kV doc pm an cdv ct) ⟨us, ks.zip ws⟩ = pure (ps.zip (permL p (us ++ ws)))) : BindP K fd ps n ks p := by
  obtain ⟨oc, od, dV, kV, doc, pm, an, cdv, ct, osl, e, _, _, hD, _⟩ := F.ex
  subst e
  intro s us ws _ l1 l2
  rcases hD with ⟨_, e⟩ | ⟨e, _⟩
  · subst e
    exact .of_eq (h kV doc pm an cdv ct us ws l1 l2)
  · exact absurd rfl e
/-! ### the law -/
/-- the law's promise, where the head leaves the heap -/
theorem law_end {P : Program} {w : World} {K : PySem.W.Frag} {mg mb : Str → Option Value} {k : Nat} {fl sa : Addr} {fd : FuncData} {x : Str} {sp : Sp} {s1 : Shared} {items : List Value} {ns : List Int}
    (kin : K.In s1.heap) (globals : s1.heap.Ns mainGlobals mg) (blts : s1.heap.Ns builtinsNs mb) (boot : ∀ y : Str, y ≠ "__name__" → mb y = bootBuiltins y) (free : s1.heap.NoLimit) (gens : s1.gens = #[])
    (script : s1.heap.get? sa = some { cls := .type "list", data := .seq items.toArray }) (nums : IntsAre items ns) (short : ns.length ≤ sizeLine) (room : Room k callerA)
    (F : ∀ ground : Heap, K.In ground → ground.Ns mainGlobals mg → FnG P w K mg ground k fl fd [x] sp) (bind : ∀ (s : Shared) (u : Value), BindsTo s fd ⟨[u], []⟩ [(x, u)])
    (says : ∀ H : Hp, Only H → SqL K H sa (ns.map V.int) → sp [.ref sa] H (fun v _ => v = .bl true) fun _ _ _ => False) :
    codeAny (model P w) callerA (.call (.ref fl) ⟨[.ref sa], []⟩) (fun r s2 => r = .ok (.ret (.bool true)) ∧ OldK s1.heap s2.heap ∧ s2.os = s1.os ∧ AllBare s2.gens) s1 := by
  have vals := vals_ints nums
  have count := nums.length
  have main : ∀ H : Hp, Only H → SqL K H sa (ns.map V.int) → HOk P w H s1.heap → (∀ b u, H b = some u → b = sa) → (∀ u, H sa = some u → K.lookup sa = none) →
      codeAny (model P w) callerA (.call (.ref fl) ⟨[.ref sa], []⟩)
        (fun r s2 => r = .ok (.ret (.bool true)) ∧ OldK s1.heap s2.heap ∧ s2.os = s1.os ∧ AllBare s2.gens) s1 := by
    intro H only sq held one out
    -- the ground: the heap without the script
    have clear : ∀ {b : Addr} {m : Str → Option Value}, s1.heap.Ns b m → (hidT s1.heap H).Ns b m := by
      rintro b m ⟨o, es, ep, z1, z2, z3⟩
      refine ⟨o, es, ep, hidT_get z1 ?_, z2, z3⟩
      rcases hq : H b with _ | u
      · rfl
      · exfalso
        cases one b u hq
        rw [script] at z1
        cases z1
        exact Data.noConfusion z2
    have kin2 : K.In (hidT s1.heap H) := by
      intro b o z
      refine hidT_get (kin b o z) ?_
      rcases hq : H b with _ | u
      · rfl
      · exfalso
        cases one b u hq
        rw [out u hq] at z
        cases z
    have md : Mod K mg (hidT s1.heap H) := by
      obtain ⟨mc, l1, l2⟩ := free
      exact ⟨kin2, clear globals, ⟨mb, clear blts, boot⟩, ⟨mc, clear l1, l2⟩⟩
    have here : Env0 P w K mg (hidT s1.heap H) callerA [] s1 H := by
      refine ⟨rfl, md, fun b o z => of_hidT z, Nat.le_of_eq (hidT_size _ _), trivial, ?_, held, .of_eq gens⟩
      intro b z
      exact nomatch z
    have ran := (F _ kin2 (clear globals)).run callerA [] s1 H ⟨[.ref sa], []⟩ [.ref sa] [.ref sa] _ _ room rfl here (bind s1 _) (.cons rfl .nil) (says H only sq)
    refine codeAny_mono ran ?_
    intro r s2 z
    match r, z with
    | .error e, z =>
      obtain ⟨_, _, _, _, _, _, _, _, _, _, _, _, no⟩ := z
      exact no.elim
    | .ok .next, z => exact z.elim
    | .ok .brk, z => exact z.elim
    | .ok .cont, z => exact z.elim
    | .ok (.ret u), ⟨v, H2, os, bare, un, held2, rv, q⟩ =>
      have q : v = .bl true := q
      subst q
      cases (show u = Value.bool true from rv)
      refine ⟨rfl, OldK.of_keep ?_, os, bare⟩
      intro b o z
      rcases only b with hn | ⟨ob, xs, hf⟩
      · exact un.keep b o z hn nofun nofun
      · have a1 := (held b _ hf).1
        have a2 := (held2 b _ (un.frzs b ob _ hf)).1
        rw [z] at a1
        cases a1
        exact a2
  rcases hk : K.lookup sa with _ | o
  · -- it is known to the object
    let H1 : Hp := fun b => if b = sa then some (.frz { cls := .type "list", data := .seq items.toArray } (.lst (ns.map V.int))) else none
    have at1 : H1 sa = some (.frz { cls := .type "list", data := .seq items.toArray } (.lst (ns.map V.int))) := if_pos rfl
    have off : ∀ b, b ≠ sa → H1 b = none := fun b z => if_neg z
    refine main H1 (fun b => ?_) (.inl (.inr ⟨_, at1⟩)) (fun b u z => ?_) (fun b u z => ?_) fun _ _ => hk
    · by_cases e : b = sa
      · subst e; exact .inr ⟨_, _, at1⟩
      · exact .inl (off b e)
    · by_cases e : b = sa
      · subst e
        rw [at1] at z
        cases z
        refine ⟨script, ?_, items, _, vals, script⟩
        rw [List.length_map]
        exact short
      · rw [off b e] at z
        cases z
    · by_cases e : b = sa
      · exact e
      · rw [off b e] at z
        cases z
  · -- it stands in the written part
    have z := kin sa o hk
    rw [script] at z
    cases z
    have fits : items.toArray.size ≤ sizeLine := by
      rw [List.size_toArray, count]
      exact short
    exact main (fun _ => none) (fun _ => .inl rfl) (.inr ⟨_, _, _, hk, rfl, rfl, rfl, fits, by simpa using vals⟩) (fun _ _ z => nomatch z) (fun _ _ z => nomatch z) fun _ z => nomatch z
theorem walk_g {l : PySem.W.OpenLaw} {n k : Nat} {q : Program} {loose : List Str} {XP : (Str → Option Value) → Heap → Prop} {YP : World → Heap → Prop} {d : DefRec} {x : Str}
    (most : l.most = some n) (fits : n ≤ sizeLine) (nodf : d.params.defaults = []) (room : Room k callerA)
    (F : ∀ (w : World) (mg : Str → Option Value) (fl : Addr) (h : Heap), YP w h → h.Ns mainGlobals mg → mg d.name = some (.ref fl) →
      ∃ (K : PySem.W.Frag) (fd : FuncData) (sp : Sp), K.In h ∧ (∀ (s : Shared) (u : Value), BindsTo s fd ⟨[u], []⟩ [(x, u)]) ∧
        (∀ (H : Hp) (a : Addr) (ns : List Int), ns.length ≤ n → Only H → SqL K H a (ns.map V.int) → sp [.ref a] H (fun v _ => v = .bl true) fun _ _ _ => False) ∧
        ∀ ground : Heap, K.In ground → ground.Ns mainGlobals mg → FnG l.prog w K mg ground k fl fd [x] sp) :
    PySem.W.WalkO q loose XP YP l.row.toRowW d [] (fun f vs => PySem.call f vs) := by
  refine Att.attach_call most nodf ?_
  intro w s0 s1 mg mb fl o pm cd doc a items ns G Y _ _ _ named script nums len gens
  obtain ⟨K, fd, sp, kin, bind, says, hF⟩ := F w mg fl _ Y G.T.g named
  exact law_end kin G.T.g G.T.b G.T.builtins G.T.nolimit gens script nums (Nat.le_trans len fits) room hF bind fun H z1 z2 => says H a ns len z1 z2
/-- the law's def keeps its promise wherever the evaluator says True -/
theorem law_says {K : PySem.W.Frag} {cA : Nat → Addr} {C : List T → M T} {H : Hp} {a : Addr} {ns : List Int} (h : ∃ st, C [.scr ns] [] = .ok (.d (.bool true)) st) (sq : SqL K H a (ns.map V.int)) :
    spC K cA 1 C [.ref a] H (fun v _ => v = .bl true) fun _ _ _ => False := by
  obtain ⟨st, h⟩ := h
  refine ⟨[], [], [.scr ns], ⟨rfl, .nil, (fun _ z => nomatch z), (fun n a o z => by simp at z)⟩, .cons (.scr ?_) .nil, rfl, ?_⟩
  · exact sq.imp (fun z => ⟨z, fun ⟨n, o, z1, _⟩ => by simp at z1⟩) id
  · rw [h]
    exact fun v H' m' e s r => r.bool_inv
end Ev

namespace Ev
open PySem
/-- is_integer -/
def f1 : Fn := { np := 1, n := 1, keep := false, body := [(.ret (.and (.isI (.var 0) .int) (.not (.isI (.var 0) .bool))))] }
/-- is_number -/
def f2 : Fn := { np := 1, n := 1, keep := false, body := [(.ret (.and (.call 1 [(.var 0)]) (.bin .ge (.var 0) (.cint 0))))] }
/-- is_name -/
def f3 : Fn := { np := 1, n := 2, keep := false, body := [(.ite (.or (.not (.isI (.var 0) .str)) (.not (.chain .le .le (.cint 1) (.bf .len (.var 0)) (.gint ⟨#[76, 79, 78, 71, 69, 83, 84, 95, 78, 65, 77, 69]⟩ 8)))) [(.ret (.cbl false))] []), (.ret (.bf .all (.cmp false (.bin .isin (.var 1) (.gstr ⟨#[76, 69, 84, 84, 69, 82, 83]⟩ ⟨#[97, 98, 99, 100, 101, 102, 103, 104, 105, 106, 107, 108, 109, 110, 111, 112, 113, 114, 115, 116, 117, 118, 119, 120, 121, 122]⟩)) (.nm 1) (.seq (.var 0)) [] [1])))] }
/-- is_names -/
def f4 : Fn := { np := 1, n := 3, keep := false, body := [(.ite (.or (.not (.isI (.var 0) .tuple)) (.not (.bf .all (.cmp false (.call 3 [(.var 1)]) (.nm 1) (.seq (.var 0)) [] [1])))) [(.ret (.cbl false))] []), (.ret (.bf .all (.cmp false (.bin .lt (.var 1) (.var 2)) (.tup [(.nm 1), (.nm 2)]) (.zip (.var 0) (.slc (.var 0) (.cint 1) .cnon)) [] [1, 2])))] }
/-- _law_feed -/
def f5 : Fn := { np := 1, n := 2, keep := true, body := [(.ret (.dsp true [.inr ⟨#[99, 101, 108, 108, 115]⟩, .inr ⟨#[115, 112, 111, 116]⟩, .inr ⟨#[108, 101, 102, 116]⟩, .inr ⟨#[100, 114, 97, 119, 110]⟩] [(.cmp false (.bf .int (.var 1)) (.nm 1) (.seq (.slc (.var 0) .cnon (.cint 63))) [] [1]), (.cint 0), (.cint 0), (.cint 0)]))] }
/-- _law_draw -/
def f6 : Fn := { np := 2, n := 7, keep := false, body := [(.asg (.sub (.var 0) (.cstr ⟨#[100, 114, 97, 119, 110]⟩)) (.bin .add (.idx (.var 0) (.cstr ⟨#[100, 114, 97, 119, 110]⟩)) (.cint 1))), (.ite (.bin .gt (.idx (.var 0) (.cstr ⟨#[108, 101, 102, 116]⟩)) (.cint 0)) [(.asg (.nm 6) (.bin .mod (.bf .int (.idx (.var 0) (.cstr ⟨#[108, 101, 102, 116]⟩))) (.var 1))), (.asg (.sub (.var 0) (.cstr ⟨#[108, 101, 102, 116]⟩)) (.bin .fdiv (.idx (.var 0) (.cstr ⟨#[108, 101, 102, 116]⟩)) (.var 1))), (.ret (.var 6))] []), (.par 2 3 (.idx (.var 0) (.cstr ⟨#[99, 101, 108, 108, 115]⟩)) (.idx (.var 0) (.cstr ⟨#[115, 112, 111, 116]⟩))), (.asg (.sub (.var 0) (.cstr ⟨#[115, 112, 111, 116]⟩)) (.bin .add (.var 3) (.cint 1))), (.asg (.nm 4) (.ite (.bin .ne (.var 2) (.mk false (.disp []))) (.idx (.var 2) (.bin .mod (.bf .int (.var 3)) (.bf .len (.var 2)))) (.cint 78182))), (.ite (.and (.bin .ge (.var 4) (.bin .pow (.cint 10) (.cint 18))) (.bin .lt (.var 3) (.bf .len (.var 2)))) [(.asg (.sub (.var 0) (.cstr ⟨#[108, 101, 102, 116]⟩)) (.bin .fdiv (.var 4) (.var 1))), (.ret (.bin .mod (.bf .int (.var 4)) (.var 1)))] []), (.asg (.nm 5) (.bin .mod (.bf .int (.bin .add (.bin .add (.bin .mod (.bf .int (.var 4)) (.cint 1000005001)) (.bin .mul (.cint 80021) (.idx (.var 0) (.cstr ⟨#[100, 114, 97, 119, 110]⟩)))) (.cint 109))) (.cint 2147469983))), (.asg (.nm 5) (.bin .mod (.bf .int (.bin .add (.bin .add (.bin .mul (.var 5) (.var 5)) (.bin .mul (.cint 5700007) (.idx (.var 0) (.cstr ⟨#[100, 114, 97, 119, 110]⟩)))) (.cint 223))) (.cint 2147469949))), (.ret (.bin .mod (.bf .int (.bin .fdiv (.bin .mod (.bf .int (.bin .add (.bin .mul (.var 5) (.var 5)) (.bin .mul (.cint 511) (.var 5)))) (.cint 2147469943)) (.cint 16))) (.var 1)))] }
/-- _law_any -/
def f7 : Fn := { np := 2, n := 2, keep := false, body := [(.ret (.idx (.var 1) (.call 6 [(.var 0), (.bf .len (.var 1))])))] }
/-- _law_names -/
def f8 : Fn := { np := 2, n := 10, keep := false, body := [(.asg (.tup [(.nm 2), (.nm 3)]) (.tup [(.call 6 [(.var 0), (.cint 5)]), (.cstr ⟨#[97, 98, 99, 100, 101, 102, 103, 104, 105, 106, 107, 108, 109, 110, 111, 112, 113, 114, 115, 116, 117, 118, 119, 120, 121, 122]⟩)])), (.asg (.nm 4) (.mk true (.of (.var 3)))), (.ite (.bin .eq (.var 2) (.cint 1)) [(.asg (.nm 4) (.mk true (.disp [(.cstr ⟨#[112, 97, 114, 116]⟩), (.cstr ⟨#[99, 104, 111, 105, 99, 101]⟩), (.cstr ⟨#[112, 97, 99, 107]⟩), (.cstr ⟨#[121, 101, 115]⟩), (.cstr ⟨#[110, 111]⟩), (.cstr ⟨#[98, 117, 105, 108, 100]⟩), (.cstr ⟨#[97, 112, 97, 114, 116]⟩), (.cstr ⟨#[115, 101, 108, 108]⟩), (.cstr ⟨#[108, 97, 109, 112]⟩), (.cstr ⟨#[98, 111, 120]⟩), (.cstr ⟨#[116, 114, 105, 111]⟩), (.cstr ⟨#[108, 105, 103, 104, 116]⟩)]))), (.asg (.nm 4) (.mk true (.cat (.var 4) (.mk false (.disp [(.cstr ⟨#[97]⟩), (.cstr ⟨#[122]⟩), (.cstr ⟨#[122, 122]⟩), (.cstr ⟨#[110, 97, 109, 101]⟩), (.cstr ⟨#[115, 104, 111, 112]⟩), (.cstr ⟨#[108, 105, 110, 101]⟩)])))))] []), (.ite (.bin .eq (.var 2) (.cint 2)) [(.asg (.nm 4) (.mk true (.disp [(.cstr ⟨#[97]⟩), (.cstr ⟨#[97, 97]⟩), (.cstr ⟨#[97, 97, 97]⟩), (.cstr ⟨#[97, 97, 97, 97]⟩), (.cstr ⟨#[97, 97, 97, 97, 97, 97, 97, 97]⟩), (.cstr ⟨#[97, 98]⟩), (.cstr ⟨#[97, 97, 98]⟩), (.cstr ⟨#[97, 97, 97, 98]⟩), (.cstr ⟨#[98]⟩), (.cstr ⟨#[98, 97]⟩), (.cstr ⟨#[97, 98, 99, 100, 101, 102, 103, 104]⟩), (.cstr ⟨#[97, 98, 99, 100, 101, 102, 103, 105]⟩)]))), (.asg (.nm 4) (.mk true (.cat (.var 4) (.mk false (.disp [(.cstr ⟨#[122, 122, 122, 122, 122, 122, 122, 122]⟩), (.cstr ⟨#[122, 122, 122, 122, 122, 122, 122, 121]⟩), (.cstr ⟨#[122]⟩), (.cstr ⟨#[121]⟩), (.cstr ⟨#[121, 122]⟩), (.cstr ⟨#[122, 121]⟩)])))))] []), (.ite (.bin .eq (.var 2) (.cint 3)) [(.asg (.nm 7) (.mt .join (.cstr ⟨#[]⟩) (.cmp false (.idx (.var 3) (.call 6 [(.var 0), (.cint 26)])) (.nm 6) (.rng (.call 6 [(.var 0), (.cint 8)])) [] [6]))), (.asg (.nm 4) (.cmp true (.bin .add (.var 7) (.var 8)) (.nm 8) (.seq (.var 3)) [] [8]))] []), (.ite (.or (.bin .gt (.var 1) (.bf .len (.var 4))) (.bin .eq (.var 2) (.cint 4))) [(.asg (.nm 4) (.mk true (.disp []))), (.for_ (.nm 8) (.seq (.slc (.var 3) .cnon (.cint 8))) [(.asg (.nm 4) (.mk true (.cat (.var 4) (.cmp false (.bin .add (.var 8) (.var 9)) (.nm 9) (.seq (.slc (.var 3) (.cint 18) .cnon)) [] [9]))))])] []), (.asg (.nm 5) (.mk true (.disp []))), (.for_ (.nm 6) (.rng (.var 1)) [(.ex (.mt .append (.var 5) (.mt .popAt (.var 4) (.call 6 [(.var 0), (.bf .len (.var 4))]))))]), (.ret (.var 5))] }
/-- _law_is_number -/
def f9 : Fn := { np := 1, n := 1, keep := false, body := [(.ret (.and (.isI (.var 0) .int) (.and (.not (.isI (.var 0) .bool)) (.bin .ge (.var 0) (.cint 0)))))] }
/-- _law_is_name -/
def f10 : Fn := { np := 1, n := 2, keep := false, body := [(.ite (.or (.not (.isI (.var 0) .str)) (.not (.chain .le .le (.cint 1) (.bf .len (.var 0)) (.cint 8)))) [(.ret (.cbl false))] []), (.ret (.bin .eq (.cmp false (.var 1) (.nm 1) (.seq (.var 0)) [(.bin .notin (.var 1) (.cstr ⟨#[97, 98, 99, 100, 101, 102, 103, 104, 105, 106, 107, 108, 109, 110, 111, 112, 113, 114, 115, 116, 117, 118, 119, 120, 121, 122]⟩))] [1]) (.mk false (.disp []))))] }
/-- _law_is_set -/
def f11 : Fn := { np := 1, n := 3, keep := false, body := [(.ite (.or (.not (.isI (.var 0) .tuple)) (.bin .ne (.cmp false (.var 2) (.nm 2) (.seq (.var 0)) [(.not (.call 10 [(.var 2)]))] [2]) (.mk false (.disp [])))) [(.ret (.cbl false))] []), (.ret (.bin .eq (.cmp false (.var 1) (.nm 1) (.rng2 (.cint 1) (.bf .len (.var 0))) [(.bin .le (.idx (.var 0) (.var 1)) (.idx (.var 0) (.bin .sub (.var 1) (.cint 1))))] [1]) (.mk false (.disp []))))] }
/-- _law_strange -/
def f12 : Fn := { np := 1, n := 2, keep := false, body := [(.asg (.nm 1) (.mk false (.disp [.cnon, (.cbl true), (.cbl false), (.cint 0), (.cint 1), (.cint 2), (.neg (.cint 1)), (.bin .pow (.cint 10) (.cint 59)), (.cstr ⟨#[]⟩), (.cstr ⟨#[97]⟩), (.cstr ⟨#[65]⟩), (.cstr ⟨#[97, 32, 98]⟩), (.cstr ⟨#[97, 98, 99, 100, 101, 102, 103, 104, 105]⟩), (.cstr ⟨#[97, 49]⟩), (.cstr ⟨#[110, 111, 110, 101]⟩), (.tup []), (.mk false (.disp [])), (.tup [(.cint 0)])]))), (.asg (.nm 1) (.bin .add (.var 1) (.mk false (.disp [(.mk false (.disp [(.cstr ⟨#[97]⟩)])), (.tup [(.cstr ⟨#[97]⟩)]), (.tup [(.cstr ⟨#[97]⟩), (.cstr ⟨#[98]⟩)]), (.tup [(.cstr ⟨#[98]⟩), (.cstr ⟨#[97]⟩)]), (.tup [(.cstr ⟨#[97]⟩), (.cstr ⟨#[97]⟩)]), (.tup [(.cstr ⟨#[97]⟩), (.cint 1)]), (.mk false (.disp [(.cstr ⟨#[97]⟩), (.cint 1)])), (.tup [(.cstr ⟨#[97]⟩), (.cbl true)]), (.tup [(.tup [(.cstr ⟨#[97]⟩), (.cint 1)])])])))), (.ret (.call 7 [(.var 0), (.bin .add (.var 1) (.mk false (.disp [(.tup [(.cstr ⟨#[97]⟩), (.cint 0)]), (.tup [(.cint 1), (.cstr ⟨#[97]⟩)]), (.tup [(.cstr ⟨#[115, 101, 108, 108]⟩), (.cstr ⟨#[97]⟩)]), (.tup [(.cstr ⟨#[97, 112, 97, 114, 116]⟩), (.cstr ⟨#[97]⟩)]), (.tup [(.cstr ⟨#[97]⟩), (.tup [(.cstr ⟨#[97]⟩), (.cstr ⟨#[98]⟩)])]), (.tup [(.tup [])]), (.cstr ⟨#[112, 97, 114, 116]⟩)])))]))] }
/-- _law_spoilt -/
def f13 : Fn := { np := 2, n := 6, keep := false, body := [(.ite (.and (.isI (.var 1) .tuple) (.and (.bin .gt (.bf .len (.var 1)) (.cint 0)) (.bin .gt (.call 6 [(.var 0), (.cint 5)]) (.cint 0)))) [(.asg (.nm 4) (.call 6 [(.var 0), (.bf .len (.var 1))])), (.ret (.bin .add (.bin .add (.slc (.var 1) .cnon (.var 4)) (.tup [(.call 13 [(.var 0), (.idx (.var 1) (.var 4))])])) (.slc (.var 1) (.bin .add (.var 4) (.cint 1)) .cnon)))] []), (.par 2 3 (.call 6 [(.var 0), (.cint 6)]) (.call 12 [(.var 0)])), (.ite (.and (.isI (.var 1) .tuple) (.bin .lt (.var 2) (.cint 5))) [(.asg (.nm 4) (.call 6 [(.var 0), (.bin .add (.bf .len (.var 1)) (.cint 1))])), (.asg (.nm 5) (.mk true (.disp [(.bin .add (.slc (.var 1) .cnon (.var 4)) (.slc (.var 1) (.bin .add (.var 4) (.cint 1)) .cnon)), (.bin .add (.bin .add (.slc (.var 1) .cnon (.var 4)) (.slc (.var 1) (.var 4) (.bin .add (.var 4) (.cint 1)))) (.slc (.var 1) (.var 4) .cnon)), (.bin .add (.bin .add (.slc (.var 1) .cnon (.var 4)) (.tup [(.var 3)])) (.slc (.var 1) (.var 4) .cnon))]))), (.ex (.mt .append (.var 5) (.bin .add (.bin .add (.slc (.var 1) .cnon (.var 4)) (.rev (.slc (.var 1) (.var 4) (.bin .add (.var 4) (.cint 2))))) (.slc (.var 1) (.bin .add (.var 4) (.cint 2)) .cnon)))), (.ret (.ite (.bin .eq (.var 2) (.cint 4)) (.mk false (.of (.var 1))) (.idx (.var 5) (.var 2))))] []), (.ite (.and (.isI (.var 1) .int) (.and (.not (.isI (.var 1) .bool)) (.bin .lt (.var 2) (.cint 3)))) [(.ret (.idx (.mk false (.disp [(.bin .add (.var 1) (.cint 1)), (.bin .sub (.var 1) (.cint 1)), (.neg (.var 1))])) (.var 2)))] []), (.ret (.var 3))] }
/-- _law_is_right -/
def f14 : Fn := { np := 1, n := 5, keep := false, body := [(.asg (.nm 1) (.bf .repr (.var 0))), (.asg (.nm 2) (.mk false (.disp [(.and (.isI (.var 0) .int) (.not (.isI (.var 0) .bool))), (.call 9 [(.var 0)])]))), (.asg (.nm 2) (.bin .add (.var 2) (.mk false (.disp [(.call 10 [(.var 0)]), (.call 11 [(.var 0)])])))), (.asg (.nm 3) (.mk false (.disp [(.call 1 [(.var 0)]), (.call 2 [(.var 0)]), (.call 3 [(.var 0)]), (.call 4 [(.var 0)])]))), (.asg (.nm 4) (.mk false (.disp [(.callK 1 [] [(.var 0)] [⟨#[116, 104, 105, 110, 103]⟩] [0]), (.callK 2 [] [(.var 0)] [⟨#[116, 104, 105, 110, 103]⟩] [0]), (.callK 3 [] [(.var 0)] [⟨#[116, 104, 105, 110, 103]⟩] [0]), (.callK 4 [] [(.var 0)] [⟨#[116, 104, 105, 110, 103]⟩] [0])]))), (.ret (.and (.bin .eq (.bf .repr (.mk false (.disp [(.var 3), (.var 4)]))) (.bf .repr (.mk false (.disp [(.var 2), (.var 2)])))) (.bin .eq (.bf .repr (.var 0)) (.var 1))))] }
/-- law -/
def f15 : Fn := { np := 1, n := 8, keep := false, body := [(.asg (.nm 1) (.call 5 [(.var 0)])), (.asg (.nm 2) (.mk false (.disp [.cnon, (.cbl true), (.cbl false), (.cint 0), (.cint 1), (.neg (.cint 1)), (.cint 7), (.bin .pow (.cint 10) (.cint 59)), (.neg (.bin .pow (.cint 10) (.cint 58))), (.cstr ⟨#[]⟩), (.cstr ⟨#[97]⟩), (.cstr ⟨#[122]⟩), (.cstr ⟨#[97, 98, 99, 100, 101, 102, 103, 104]⟩), (.cstr ⟨#[97, 98, 99, 100, 101, 102, 103, 104, 105]⟩), (.cstr ⟨#[65]⟩), (.cstr ⟨#[97, 66]⟩)]))), (.asg (.nm 2) (.bin .add (.var 2) (.mk false (.disp [(.cstr ⟨#[97, 49]⟩), (.cstr ⟨#[49]⟩), (.cstr ⟨#[32, 97]⟩), (.cstr ⟨#[97, 32]⟩), (.cstr ⟨#[97, 32, 98]⟩), (.cstr ⟨#[45]⟩), (.cstr ⟨#[97, 45, 98]⟩), (.cstr ⟨#[110, 111, 110, 101]⟩), (.cstr ⟨#[116, 114, 117, 101]⟩), (.tup []), (.mk false (.disp [])), (.tup [(.tup [])]), (.tup [(.cstr ⟨#[97]⟩)]), (.mk false (.disp [(.cstr ⟨#[97]⟩)])), (.tup [(.cstr ⟨#[65]⟩)])])))), (.asg (.nm 2) (.bin .add (.var 2) (.mk false (.disp [(.tup [(.cstr ⟨#[]⟩)]), (.tup [(.cstr ⟨#[97]⟩), (.cstr ⟨#[98]⟩)]), (.tup [(.cstr ⟨#[98]⟩), (.cstr ⟨#[97]⟩)]), (.tup [(.cstr ⟨#[97]⟩), (.cstr ⟨#[97]⟩)]), (.tup [(.cstr ⟨#[97]⟩), (.cstr ⟨#[97, 98]⟩)]), (.tup [(.cstr ⟨#[97, 98]⟩), (.cstr ⟨#[97]⟩)]), (.tup [(.cstr ⟨#[98]⟩), (.cstr ⟨#[97, 97]⟩)]), (.tup [(.cstr ⟨#[97, 97]⟩), (.cstr ⟨#[98]⟩)])])))), (.asg (.nm 2) (.bin .add (.var 2) (.mk false (.disp [(.tup [(.cstr ⟨#[97]⟩), .cnon]), (.tup [(.cstr ⟨#[97]⟩), (.cint 1)]), (.tup [(.cint 1)]), (.tup [(.cbl true)]), (.tup [(.tup [(.cstr ⟨#[97]⟩)])]), (.tup [(.cstr ⟨#[97]⟩), (.cstr ⟨#[98]⟩), (.cstr ⟨#[98]⟩)]), (.tup [(.cstr ⟨#[97]⟩), (.cstr ⟨#[99]⟩), (.cstr ⟨#[98]⟩)]), (.tup [(.cstr ⟨#[97, 98, 99, 100, 101, 102, 103, 104, 105]⟩)])])))), (.ite (.bin .ne (.cmp false (.var 6) (.nm 6) (.seq (.var 2)) [(.not (.call 14 [(.var 6)]))] [6]) (.mk false (.disp []))) [(.ret (.cbl false))] []), (.for_ (.nm 3) (.rng (.cint 4)) [(.asg (.nm 4) (.call 8 [(.var 1), (.bin .add (.cint 1) (.call 6 [(.var 1), (.cint 6)]))])), (.asg (.nm 5) (.bf .tuple (.mk false (.sorted (.var 4))))), (.asg (.nm 2) (.mk false (.disp [(.var 5), (.bf .tuple (.var 4)), (.rev (.var 5)), (.bin .add (.var 5) (.slc (.var 5) (.neg (.cint 1)) .cnon)), (.mk false (.of (.var 5))), (.idx (.var 5) (.cint 0)), (.bin .add (.idx (.var 5) (.cint 0)) (.cstr ⟨#[97, 98, 99, 100, 101, 102, 103, 104]⟩))]))), (.asg (.nm 2) (.bin .add (.bin .add (.var 2) (.cmp false (.call 13 [(.var 1), (.var 5)]) (.nm 7) (.rng (.cint 6)) [] [7])) (.mk false (.disp [(.call 12 [(.var 1)])])))), (.ite (.bin .ne (.cmp false (.var 6) (.nm 6) (.seq (.var 2)) [(.not (.call 14 [(.var 6)]))] [6]) (.mk false (.disp []))) [(.ret (.cbl false))] [])]), (.ret (.cbl true))] }
def Γ : Nat → Option Fn
  | 1 => some f1
  | 2 => some f2
  | 3 => some f3
  | 4 => some f4
  | 5 => some f5
  | 6 => some f6
  | 7 => some f7
  | 8 => some f8
  | 9 => some f9
  | 10 => some f10
  | 11 => some f11
  | 12 => some f12
  | 13 => some f13
  | 14 => some f14
  | 15 => some f15
  | _ => none
end Ev

namespace Ev
open PySem PySem.Spec PyProof.Rows L2
def top (i : Nat) : Stmt := PySem.Challenge.pw_kitsleft_k01_kinds_told.main.body.getD i (.Pass ⟨0, 0, 0, 0⟩)
/-- is_integer -/
def d1 : DefC := { x := ⟨#[105, 115, 95, 105, 110, 116, 101, 103, 101, 114]⟩, st := top 3, N := [⟨#[116, 104, 105, 110, 103]⟩], e := { g := 1, ps := [⟨#[116, 104, 105, 110, 103]⟩], bs := [(1, [], [0]), (0, [⟨#[116, 104, 105, 110, 103]⟩], [0])] } }
/-- is_number -/
def d2 : DefC := { x := ⟨#[105, 115, 95, 110, 117, 109, 98, 101, 114]⟩, st := top 4, N := [⟨#[116, 104, 105, 110, 103]⟩], e := { g := 2, ps := [⟨#[116, 104, 105, 110, 103]⟩], bs := [(1, [], [0]), (0, [⟨#[116, 104, 105, 110, 103]⟩], [0])] } }
/-- is_name -/
def d3 : DefC := { x := ⟨#[105, 115, 95, 110, 97, 109, 101]⟩, st := top 5, N := [⟨#[116, 104, 105, 110, 103]⟩, ⟨#[115, 105, 103, 110]⟩], e := { g := 3, ps := [⟨#[116, 104, 105, 110, 103]⟩], bs := [(1, [], [0]), (0, [⟨#[116, 104, 105, 110, 103]⟩], [0])] } }
/-- is_names -/
def d4 : DefC := { x := ⟨#[105, 115, 95, 110, 97, 109, 101, 115]⟩, st := top 6, N := [⟨#[116, 104, 105, 110, 103]⟩, ⟨#[111, 110, 101]⟩, ⟨#[111, 116, 104, 101, 114]⟩], e := { g := 4, ps := [⟨#[116, 104, 105, 110, 103]⟩], bs := [(1, [], [0]), (0, [⟨#[116, 104, 105, 110, 103]⟩], [0])] } }
/-- _law_feed -/
def d5 : DefC := { x := ⟨#[95, 108, 97, 119, 95, 102, 101, 101, 100]⟩, st := top 8, N := [⟨#[95, 108, 97, 119, 95, 115, 99, 114, 105, 112, 116]⟩, ⟨#[95, 108, 97, 119, 95, 111, 110, 101]⟩], e := { g := 5, ps := [⟨#[95, 108, 97, 119, 95, 115, 99, 114, 105, 112, 116]⟩], bs := [(1, [], [0])] } }
/-- _law_draw -/
def d6 : DefC := { x := ⟨#[95, 108, 97, 119, 95, 100, 114, 97, 119]⟩, st := top 9, N := [⟨#[95, 108, 97, 119, 95, 102, 101, 101, 100, 95, 104, 101, 114, 101]⟩, ⟨#[95, 108, 97, 119, 95, 109, 97, 110, 121]⟩, ⟨#[95, 108, 97, 119, 95, 115, 111, 109, 101]⟩, ⟨#[95, 108, 97, 119, 95, 107]⟩, ⟨#[95, 108, 97, 119, 95, 111, 110, 101]⟩, ⟨#[95, 108, 97, 119, 95, 109, 105, 120, 101, 100]⟩, ⟨#[95, 108, 97, 119, 95, 100, 105, 103, 105, 116]⟩], e := { g := 6, ps := [⟨#[95, 108, 97, 119, 95, 102, 101, 101, 100, 95, 104, 101, 114, 101]⟩, ⟨#[95, 108, 97, 119, 95, 109, 97, 110, 121]⟩], bs := [(2, [], [0, 1])] } }
/-- _law_any -/
def d7 : DefC := { x := ⟨#[95, 108, 97, 119, 95, 97, 110, 121]⟩, st := top 10, N := [⟨#[95, 108, 97, 119, 95, 102, 101, 101, 100, 95, 104, 101, 114, 101]⟩, ⟨#[95, 108, 97, 119, 95, 115, 111, 109, 101]⟩], e := { g := 7, ps := [⟨#[95, 108, 97, 119, 95, 102, 101, 101, 100, 95, 104, 101, 114, 101]⟩, ⟨#[95, 108, 97, 119, 95, 115, 111, 109, 101]⟩], bs := [(2, [], [0, 1])] } }
/-- _law_names -/
def d8 : DefC := { x := ⟨#[95, 108, 97, 119, 95, 110, 97, 109, 101, 115]⟩, st := top 11, N := [⟨#[95, 108, 97, 119, 95, 102, 101, 101, 100, 95, 104, 101, 114, 101]⟩, ⟨#[95, 108, 97, 119, 95, 109, 97, 110, 121]⟩, ⟨#[95, 108, 97, 119, 95, 115, 116, 121, 108, 101]⟩, ⟨#[95, 108, 97, 119, 95, 108, 101, 116, 116, 101, 114, 115]⟩, ⟨#[95, 108, 97, 119, 95, 112, 111, 111, 108]⟩, ⟨#[95, 108, 97, 119, 95, 102, 111, 117, 110, 100]⟩, ⟨#[95, 108, 97, 119, 95, 108, 97, 112]⟩, ⟨#[95, 108, 97, 119, 95, 115, 116, 101, 109]⟩, ⟨#[95, 108, 97, 119, 95, 115, 105, 103, 110]⟩, ⟨#[95, 108, 97, 119, 95, 111, 110, 101]⟩], e := { g := 8, ps := [⟨#[95, 108, 97, 119, 95, 102, 101, 101, 100, 95, 104, 101, 114, 101]⟩, ⟨#[95, 108, 97, 119, 95, 109, 97, 110, 121]⟩], bs := [(2, [], [0, 1])] } }
/-- _law_is_number -/
def d9 : DefC := { x := ⟨#[95, 108, 97, 119, 95, 105, 115, 95, 110, 117, 109, 98, 101, 114]⟩, st := top 12, N := [⟨#[95, 108, 97, 119, 95, 119, 104, 97, 116]⟩], e := { g := 9, ps := [⟨#[95, 108, 97, 119, 95, 119, 104, 97, 116]⟩], bs := [(1, [], [0])] } }
/-- _law_is_name -/
def d10 : DefC := { x := ⟨#[95, 108, 97, 119, 95, 105, 115, 95, 110, 97, 109, 101]⟩, st := top 13, N := [⟨#[95, 108, 97, 119, 95, 119, 104, 97, 116]⟩, ⟨#[95, 108, 97, 119, 95, 115, 105, 103, 110]⟩], e := { g := 10, ps := [⟨#[95, 108, 97, 119, 95, 119, 104, 97, 116]⟩], bs := [(1, [], [0])] } }
/-- _law_is_set -/
def d11 : DefC := { x := ⟨#[95, 108, 97, 119, 95, 105, 115, 95, 115, 101, 116]⟩, st := top 14, N := [⟨#[95, 108, 97, 119, 95, 119, 104, 97, 116]⟩, ⟨#[95, 108, 97, 119, 95, 107]⟩, ⟨#[95, 108, 97, 119, 95, 111, 110, 101]⟩], e := { g := 11, ps := [⟨#[95, 108, 97, 119, 95, 119, 104, 97, 116]⟩], bs := [(1, [], [0])] } }
/-- _law_strange -/
def d12 : DefC := { x := ⟨#[95, 108, 97, 119, 95, 115, 116, 114, 97, 110, 103, 101]⟩, st := top 15, N := [⟨#[95, 108, 97, 119, 95, 102, 101, 101, 100, 95, 104, 101, 114, 101]⟩, ⟨#[95, 108, 97, 119, 95, 115, 111, 109, 101]⟩], e := { g := 12, ps := [⟨#[95, 108, 97, 119, 95, 102, 101, 101, 100, 95, 104, 101, 114, 101]⟩], bs := [(1, [], [0])] } }
/-- _law_spoilt -/
def d13 : DefC := { x := ⟨#[95, 108, 97, 119, 95, 115, 112, 111, 105, 108, 116]⟩, st := top 16, N := [⟨#[95, 108, 97, 119, 95, 102, 101, 101, 100, 95, 104, 101, 114, 101]⟩, ⟨#[95, 108, 97, 119, 95, 119, 104, 97, 116]⟩, ⟨#[95, 108, 97, 119, 95, 115, 116, 121, 108, 101]⟩, ⟨#[95, 108, 97, 119, 95, 111, 100, 100]⟩, ⟨#[95, 108, 97, 119, 95, 107]⟩, ⟨#[95, 108, 97, 119, 95, 115, 111, 109, 101]⟩], e := { g := 13, ps := [⟨#[95, 108, 97, 119, 95, 102, 101, 101, 100, 95, 104, 101, 114, 101]⟩, ⟨#[95, 108, 97, 119, 95, 119, 104, 97, 116]⟩], bs := [(2, [], [0, 1])] } }
/-- _law_is_right -/
def d14 : DefC := { x := ⟨#[95, 108, 97, 119, 95, 105, 115, 95, 114, 105, 103, 104, 116]⟩, st := top 17, N := [⟨#[95, 108, 97, 119, 95, 119, 104, 97, 116]⟩, ⟨#[95, 108, 97, 119, 95, 115, 104, 111, 119, 110]⟩, ⟨#[95, 108, 97, 119, 95, 100, 117, 101]⟩, ⟨#[95, 108, 97, 119, 95, 104, 101, 97, 114, 100]⟩, ⟨#[95, 108, 97, 119, 95, 108, 97, 116, 101]⟩], e := { g := 14, ps := [⟨#[95, 108, 97, 119, 95, 119, 104, 97, 116]⟩], bs := [(1, [], [0])] } }
/-- law -/
def d15 : DefC := { x := ⟨#[108, 97, 119]⟩, st := top 18, N := [⟨#[95, 108, 97, 119, 95, 115, 99, 114, 105, 112, 116]⟩, ⟨#[95, 108, 97, 119, 95, 102, 101, 101, 100, 95, 104, 101, 114, 101]⟩, ⟨#[95, 108, 97, 119, 95, 115, 111, 109, 101]⟩, ⟨#[95, 108, 97, 119, 95, 108, 97, 112]⟩, ⟨#[95, 108, 97, 119, 95, 116, 97, 103, 115]⟩, ⟨#[95, 108, 97, 119, 95, 103, 111, 111, 100]⟩, ⟨#[95, 108, 97, 119, 95, 119, 104, 97, 116]⟩, ⟨#[95, 108, 97, 119, 95, 116, 117, 114, 110]⟩], e := { g := 15, ps := [⟨#[95, 108, 97, 119, 95, 115, 99, 114, 105, 112, 116]⟩], bs := [(1, [], [0])] } }
def prg : Prg := { ds := [d1, d2, d3, d4, d5, d6, d7, d8, d9, d10, d11, d12, d13, d14, d15], cis := [(⟨#[76, 79, 78, 71, 69, 83, 84, 95, 78, 65, 77, 69]⟩, 8)], css := [(⟨#[76, 69, 84, 84, 69, 82, 83]⟩, ⟨#[97, 98, 99, 100, 101, 102, 103, 104, 105, 106, 107, 108, 109, 110, 111, 112, 113, 114, 115, 116, 117, 118, 119, 120, 121, 122]⟩)], fre := [⟨#[97, 108, 108]⟩, ⟨#[98, 111, 111, 108]⟩, ⟨#[105, 110, 116]⟩, ⟨#[105, 115, 105, 110, 115, 116, 97, 110, 99, 101]⟩, ⟨#[108, 101, 110]⟩, ⟨#[108, 105, 115, 116]⟩, ⟨#[114, 97, 110, 103, 101]⟩, ⟨#[114, 101, 112, 114]⟩, ⟨#[115, 111, 114, 116, 101, 100]⟩, ⟨#[115, 116, 114]⟩, ⟨#[116, 117, 112, 108, 101]⟩, ⟨#[122, 105, 112]⟩] }
theorem ck1 : chkD Γ prg d1 = true := by decide +kernel
theorem ck2 : chkD Γ prg d2 = true := by decide +kernel
theorem ck3 : chkD Γ prg d3 = true := by decide +kernel
theorem ck4 : chkD Γ prg d4 = true := by decide +kernel
theorem ck5 : chkD Γ prg d5 = true := by decide +kernel
theorem ck6 : chkD Γ prg d6 = true := by decide +kernel
theorem ck7 : chkD Γ prg d7 = true := by decide +kernel
theorem ck8 : chkD Γ prg d8 = true := by decide +kernel
theorem ck9 : chkD Γ prg d9 = true := by decide +kernel
theorem ck10 : chkD Γ prg d10 = true := by decide +kernel
theorem ck11 : chkD Γ prg d11 = true := by decide +kernel
theorem ck12 : chkD Γ prg d12 = true := by decide +kernel
theorem ck13 : chkD Γ prg d13 = true := by decide +kernel
theorem ck14 : chkD Γ prg d14 = true := by decide +kernel
theorem ck15 : chkD Γ prg d15 = true := by decide +kernel
theorem cks : ∀ d ∈ prg.ds, chkD Γ prg d = true :=
  all_cons ck1 <| all_cons ck2 <| all_cons ck3 <| all_cons ck4 <| all_cons ck5 <| all_cons ck6 <| all_cons ck7 <| all_cons ck8 <| all_cons ck9 <| all_cons ck10 <| all_cons ck11 <| all_cons ck12 <| all_cons ck13 <| all_cons ck14 <| all_cons ck15 all_nil
end Ev

namespace Ev
open PySem PySem.Spec PyProof.Rows L2
theorem b1_0 {K : PySem.W.Frag} {f : Addr} {fd : FuncData} (F : FunD K d1.x d1.x (defArgs d1.st) (defBody d1.st) (defScope d1.st) [] [] f fd) : BindP K fd d1.e.ps 1 [] [0] :=
  bind_of F fun _ _ _ _ _ _ us ws l1 l2 => match us, ws, l1, l2 with | [_], [], _, _ => rfl
theorem b1_1 {K : PySem.W.Frag} {f : Addr} {fd : FuncData} (F : FunD K d1.x d1.x (defArgs d1.st) (defBody d1.st) (defScope d1.st) [] [] f fd) : BindP K fd d1.e.ps 0 [⟨#[116, 104, 105, 110, 103]⟩] [0] :=
  bind_of F fun _ _ _ _ _ _ us ws l1 l2 => match us, ws, l1, l2 with | [], [_], _, _ => rfl
theorem b2_0 {K : PySem.W.Frag} {f : Addr} {fd : FuncData} (F : FunD K d2.x d2.x (defArgs d2.st) (defBody d2.st) (defScope d2.st) [] [] f fd) : BindP K fd d2.e.ps 1 [] [0] :=
  bind_of F fun _ _ _ _ _ _ us ws l1 l2 => match us, ws, l1, l2 with | [_], [], _, _ => rfl
theorem b2_1 {K : PySem.W.Frag} {f : Addr} {fd : FuncData} (F : FunD K d2.x d2.x (defArgs d2.st) (defBody d2.st) (defScope d2.st) [] [] f fd) : BindP K fd d2.e.ps 0 [⟨#[116, 104, 105, 110, 103]⟩] [0] :=
  bind_of F fun _ _ _ _ _ _ us ws l1 l2 => match us, ws, l1, l2 with | [], [_], _, _ => rfl
theorem b3_0 {K : PySem.W.Frag} {f : Addr} {fd : FuncData} (F : FunD K d3.x d3.x (defArgs d3.st) (defBody d3.st) (defScope d3.st) [] [] f fd) : BindP K fd d3.e.ps 1 [] [0] :=
  bind_of F fun _ _ _ _ _ _ us ws l1 l2 => match us, ws, l1, l2 with | [_], [], _, _ => rfl
theorem b3_1 {K : PySem.W.Frag} {f : Addr} {fd : FuncData} (F : FunD K d3.x d3.x (defArgs d3.st) (defBody d3.st) (defScope d3.st) [] [] f fd) : BindP K fd d3.e.ps 0 [⟨#[116, 104, 105, 110, 103]⟩] [0] :=
  bind_of F fun _ _ _ _ _ _ us ws l1 l2 => match us, ws, l1, l2 with | [], [_], _, _ => rfl
theorem b4_0 {K : PySem.W.Frag} {f : Addr} {fd : FuncData} (F : FunD K d4.x d4.x (defArgs d4.st) (defBody d4.st) (defScope d4.st) [] [] f fd) : BindP K fd d4.e.ps 1 [] [0] :=
  bind_of F fun _ _ _ _ _ _ us ws l1 l2 => match us, ws, l1, l2 with | [_], [], _, _ => rfl
theorem b4_1 {K : PySem.W.Frag} {f : Addr} {fd : FuncData} (F : FunD K d4.x d4.x (defArgs d4.st) (defBody d4.st) (defScope d4.st) [] [] f fd) : BindP K fd d4.e.ps 0 [⟨#[116, 104, 105, 110, 103]⟩] [0] :=
  bind_of F fun _ _ _ _ _ _ us ws l1 l2 => match us, ws, l1, l2 with | [], [_], _, _ => rfl
theorem b5_0 {K : PySem.W.Frag} {f : Addr} {fd : FuncData} (F : FunD K d5.x d5.x (defArgs d5.st) (defBody d5.st) (defScope d5.st) [] [] f fd) : BindP K fd d5.e.ps 1 [] [0] :=
  bind_of F fun _ _ _ _ _ _ us ws l1 l2 => match us, ws, l1, l2 with | [_], [], _, _ => rfl
theorem b6_0 {K : PySem.W.Frag} {f : Addr} {fd : FuncData} (F : FunD K d6.x d6.x (defArgs d6.st) (defBody d6.st) (defScope d6.st) [] [] f fd) : BindP K fd d6.e.ps 2 [] [0, 1] :=
  bind_of F fun _ _ _ _ _ _ us ws l1 l2 => match us, ws, l1, l2 with | [_, _], [], _, _ => rfl
theorem b7_0 {K : PySem.W.Frag} {f : Addr} {fd : FuncData} (F : FunD K d7.x d7.x (defArgs d7.st) (defBody d7.st) (defScope d7.st) [] [] f fd) : BindP K fd d7.e.ps 2 [] [0, 1] :=
  bind_of F fun _ _ _ _ _ _ us ws l1 l2 => match us, ws, l1, l2 with | [_, _], [], _, _ => rfl
theorem b8_0 {K : PySem.W.Frag} {f : Addr} {fd : FuncData} (F : FunD K d8.x d8.x (defArgs d8.st) (defBody d8.st) (defScope d8.st) [] [] f fd) : BindP K fd d8.e.ps 2 [] [0, 1] :=
  bind_of F fun _ _ _ _ _ _ us ws l1 l2 => match us, ws, l1, l2 with | [_, _], [], _, _ => rfl
theorem b9_0 {K : PySem.W.Frag} {f : Addr} {fd : FuncData} (F : FunD K d9.x d9.x (defArgs d9.st) (defBody d9.st) (defScope d9.st) [] [] f fd) : BindP K fd d9.e.ps 1 [] [0] :=
  bind_of F fun _ _ _ _ _ _ us ws l1 l2 => match us, ws, l1, l2 with | [_], [], _, _ => rfl
theorem b10_0 {K : PySem.W.Frag} {f : Addr} {fd : FuncData} (F : FunD K d10.x d10.x (defArgs d10.st) (defBody d10.st) (defScope d10.st) [] [] f fd) : BindP K fd d10.e.ps 1 [] [0] :=
  bind_of F fun _ _ _ _ _ _ us ws l1 l2 => match us, ws, l1, l2 with | [_], [], _, _ => rfl
theorem b11_0 {K : PySem.W.Frag} {f : Addr} {fd : FuncData} (F : FunD K d11.x d11.x (defArgs d11.st) (defBody d11.st) (defScope d11.st) [] [] f fd) : BindP K fd d11.e.ps 1 [] [0] :=
  bind_of F fun _ _ _ _ _ _ us ws l1 l2 => match us, ws, l1, l2 with | [_], [], _, _ => rfl
theorem b12_0 {K : PySem.W.Frag} {f : Addr} {fd : FuncData} (F : FunD K d12.x d12.x (defArgs d12.st) (defBody d12.st) (defScope d12.st) [] [] f fd) : BindP K fd d12.e.ps 1 [] [0] :=
  bind_of F fun _ _ _ _ _ _ us ws l1 l2 => match us, ws, l1, l2 with | [_], [], _, _ => rfl
theorem b13_0 {K : PySem.W.Frag} {f : Addr} {fd : FuncData} (F : FunD K d13.x d13.x (defArgs d13.st) (defBody d13.st) (defScope d13.st) [] [] f fd) : BindP K fd d13.e.ps 2 [] [0, 1] :=
  bind_of F fun _ _ _ _ _ _ us ws l1 l2 => match us, ws, l1, l2 with | [_, _], [], _, _ => rfl
theorem b14_0 {K : PySem.W.Frag} {f : Addr} {fd : FuncData} (F : FunD K d14.x d14.x (defArgs d14.st) (defBody d14.st) (defScope d14.st) [] [] f fd) : BindP K fd d14.e.ps 1 [] [0] :=
  bind_of F fun _ _ _ _ _ _ us ws l1 l2 => match us, ws, l1, l2 with | [_], [], _, _ => rfl
theorem b15_0 {K : PySem.W.Frag} {f : Addr} {fd : FuncData} (F : FunD K d15.x d15.x (defArgs d15.st) (defBody d15.st) (defScope d15.st) [] [] f fd) : BindP K fd d15.e.ps 1 [] [0] :=
  bind_of F fun _ _ _ _ _ _ us ws l1 l2 => match us, ws, l1, l2 with | [_], [], _, _ => rfl
def e1 : He.DefD := ⟨(⟨#[105, 115, 95, 105, 110, 116, 101, 103, 101, 114]⟩, none), ⟨#[105, 115, 95, 105, 110, 116, 101, 103, 101, 114]⟩, ⟨#[105, 115, 95, 105, 110, 116, 101, 103, 101, 114]⟩, defArgs d1.st, defBody d1.st, defScope d1.st, [], []⟩
def e2 : He.DefD := ⟨(⟨#[105, 115, 95, 110, 117, 109, 98, 101, 114]⟩, none), ⟨#[105, 115, 95, 110, 117, 109, 98, 101, 114]⟩, ⟨#[105, 115, 95, 110, 117, 109, 98, 101, 114]⟩, defArgs d2.st, defBody d2.st, defScope d2.st, [], []⟩
def e3 : He.DefD := ⟨(⟨#[105, 115, 95, 110, 97, 109, 101]⟩, none), ⟨#[105, 115, 95, 110, 97, 109, 101]⟩, ⟨#[105, 115, 95, 110, 97, 109, 101]⟩, defArgs d3.st, defBody d3.st, defScope d3.st, [], []⟩
def e4 : He.DefD := ⟨(⟨#[105, 115, 95, 110, 97, 109, 101, 115]⟩, none), ⟨#[105, 115, 95, 110, 97, 109, 101, 115]⟩, ⟨#[105, 115, 95, 110, 97, 109, 101, 115]⟩, defArgs d4.st, defBody d4.st, defScope d4.st, [], []⟩
def e5 : He.DefD := ⟨(⟨#[95, 108, 97, 119, 95, 102, 101, 101, 100]⟩, none), ⟨#[95, 108, 97, 119, 95, 102, 101, 101, 100]⟩, ⟨#[95, 108, 97, 119, 95, 102, 101, 101, 100]⟩, defArgs d5.st, defBody d5.st, defScope d5.st, [], []⟩
def e6 : He.DefD := ⟨(⟨#[95, 108, 97, 119, 95, 100, 114, 97, 119]⟩, none), ⟨#[95, 108, 97, 119, 95, 100, 114, 97, 119]⟩, ⟨#[95, 108, 97, 119, 95, 100, 114, 97, 119]⟩, defArgs d6.st, defBody d6.st, defScope d6.st, [], []⟩
def e7 : He.DefD := ⟨(⟨#[95, 108, 97, 119, 95, 97, 110, 121]⟩, none), ⟨#[95, 108, 97, 119, 95, 97, 110, 121]⟩, ⟨#[95, 108, 97, 119, 95, 97, 110, 121]⟩, defArgs d7.st, defBody d7.st, defScope d7.st, [], []⟩
def e8 : He.DefD := ⟨(⟨#[95, 108, 97, 119, 95, 110, 97, 109, 101, 115]⟩, none), ⟨#[95, 108, 97, 119, 95, 110, 97, 109, 101, 115]⟩, ⟨#[95, 108, 97, 119, 95, 110, 97, 109, 101, 115]⟩, defArgs d8.st, defBody d8.st, defScope d8.st, [], []⟩
def e9 : He.DefD := ⟨(⟨#[95, 108, 97, 119, 95, 105, 115, 95, 110, 117, 109, 98, 101, 114]⟩, none), ⟨#[95, 108, 97, 119, 95, 105, 115, 95, 110, 117, 109, 98, 101, 114]⟩, ⟨#[95, 108, 97, 119, 95, 105, 115, 95, 110, 117, 109, 98, 101, 114]⟩, defArgs d9.st, defBody d9.st, defScope d9.st, [], []⟩
def e10 : He.DefD := ⟨(⟨#[95, 108, 97, 119, 95, 105, 115, 95, 110, 97, 109, 101]⟩, none), ⟨#[95, 108, 97, 119, 95, 105, 115, 95, 110, 97, 109, 101]⟩, ⟨#[95, 108, 97, 119, 95, 105, 115, 95, 110, 97, 109, 101]⟩, defArgs d10.st, defBody d10.st, defScope d10.st, [], []⟩
def e11 : He.DefD := ⟨(⟨#[95, 108, 97, 119, 95, 105, 115, 95, 115, 101, 116]⟩, none), ⟨#[95, 108, 97, 119, 95, 105, 115, 95, 115, 101, 116]⟩, ⟨#[95, 108, 97, 119, 95, 105, 115, 95, 115, 101, 116]⟩, defArgs d11.st, defBody d11.st, defScope d11.st, [], []⟩
def e12 : He.DefD := ⟨(⟨#[95, 108, 97, 119, 95, 115, 116, 114, 97, 110, 103, 101]⟩, none), ⟨#[95, 108, 97, 119, 95, 115, 116, 114, 97, 110, 103, 101]⟩, ⟨#[95, 108, 97, 119, 95, 115, 116, 114, 97, 110, 103, 101]⟩, defArgs d12.st, defBody d12.st, defScope d12.st, [], []⟩
def e13 : He.DefD := ⟨(⟨#[95, 108, 97, 119, 95, 115, 112, 111, 105, 108, 116]⟩, none), ⟨#[95, 108, 97, 119, 95, 115, 112, 111, 105, 108, 116]⟩, ⟨#[95, 108, 97, 119, 95, 115, 112, 111, 105, 108, 116]⟩, defArgs d13.st, defBody d13.st, defScope d13.st, [], []⟩
def e14 : He.DefD := ⟨(⟨#[95, 108, 97, 119, 95, 105, 115, 95, 114, 105, 103, 104, 116]⟩, none), ⟨#[95, 108, 97, 119, 95, 105, 115, 95, 114, 105, 103, 104, 116]⟩, ⟨#[95, 108, 97, 119, 95, 105, 115, 95, 114, 105, 103, 104, 116]⟩, defArgs d14.st, defBody d14.st, defScope d14.st, [], []⟩
def e15 : He.DefD := ⟨(⟨#[108, 97, 119]⟩, none), ⟨#[108, 97, 119]⟩, ⟨#[108, 97, 119]⟩, defArgs d15.st, defBody d15.st, defScope d15.st, [], []⟩
def fn : List He.DefD := [e1, e2, e3, e4, e5, e6, e7, e8, e9, e10, e11, e12, e13, e14, e15]
def fa : List He.Fa := [.glo ⟨#[105, 115, 95, 105, 110, 116, 101, 103, 101, 114]⟩, .glo ⟨#[105, 115, 95, 110, 117, 109, 98, 101, 114]⟩, .glo ⟨#[105, 115, 95, 110, 97, 109, 101]⟩, .glo ⟨#[105, 115, 95, 110, 97, 109, 101, 115]⟩, .glo ⟨#[95, 108, 97, 119, 95, 102, 101, 101, 100]⟩, .glo ⟨#[95, 108, 97, 119, 95, 100, 114, 97, 119]⟩, .glo ⟨#[95, 108, 97, 119, 95, 97, 110, 121]⟩, .glo ⟨#[95, 108, 97, 119, 95, 110, 97, 109, 101, 115]⟩, .glo ⟨#[95, 108, 97, 119, 95, 105, 115, 95, 110, 117, 109, 98, 101, 114]⟩, .glo ⟨#[95, 108, 97, 119, 95, 105, 115, 95, 110, 97, 109, 101]⟩, .glo ⟨#[95, 108, 97, 119, 95, 105, 115, 95, 115, 101, 116]⟩, .glo ⟨#[95, 108, 97, 119, 95, 115, 116, 114, 97, 110, 103, 101]⟩, .glo ⟨#[95, 108, 97, 119, 95, 115, 112, 111, 105, 108, 116]⟩, .glo ⟨#[95, 108, 97, 119, 95, 105, 115, 95, 114, 105, 103, 104, 116]⟩, .glo ⟨#[108, 97, 119]⟩, .int ⟨#[76, 79, 78, 71, 69, 83, 84, 95, 78, 65, 77, 69]⟩ 8, .str ⟨#[76, 69, 84, 84, 69, 82, 83]⟩ ⟨#[97, 98, 99, 100, 101, 102, 103, 104, 105, 106, 107, 108, 109, 110, 111, 112, 113, 114, 115, 116, 117, 118, 119, 120, 121, 122]⟩, .free ⟨#[97, 108, 108]⟩, .free ⟨#[98, 111, 111, 108]⟩, .free ⟨#[105, 110, 116]⟩, .free ⟨#[105, 115, 105, 110, 115, 116, 97, 110, 99, 101]⟩, .free ⟨#[108, 101, 110]⟩, .free ⟨#[108, 105, 115, 116]⟩, .free ⟨#[114, 97, 110, 103, 101]⟩, .free ⟨#[114, 101, 112, 114]⟩, .free ⟨#[115, 111, 114, 116, 101, 100]⟩, .free ⟨#[115, 116, 114]⟩, .free ⟨#[116, 117, 112, 108, 101]⟩, .free ⟨#[122, 105, 112]⟩]
theorem prgOk {K : PySem.W.Frag} {h : Heap} {mg : Str → Option Value} (X : K.In h) (G : h.Ns mainGlobals mg) (c : He.SaysD fa fn K) : PrgOk prg K mg := by
  refine ⟨?_, look_all ?_, look_all ?_, fun x hx => (?_ : ∀ x ∈ prg.fre, mg x = none) x (memS_iff.mp hx)⟩
  · exact all_cons ((c.def_ 0 (d := e1) rfl).elim fun fd F => ⟨He.ga K ⟨#[105, 115, 95, 105, 110, 116, 101, 103, 101, 114]⟩, fd, He.glo_ok X G (c.fact 0 (f := .glo ⟨#[105, 115, 95, 105, 110, 116, 101, 103, 101, 114]⟩) rfl), F, all_cons (b1_0 F) <| all_cons (b1_1 F) <| all_nil⟩) <| all_cons ((c.def_ 1 (d := e2) rfl).elim fun fd F => ⟨He.ga K ⟨#[105, 115, 95, 110, 117, 109, 98, 101, 114]⟩, fd, He.glo_ok X G (c.fact 1 (f := .glo ⟨#[105, 115, 95, 110, 117, 109, 98, 101, 114]⟩) rfl), F, all_cons (b2_0 F) <| all_cons (b2_1 F) <| all_nil⟩) <| all_cons ((c.def_ 2 (d := e3) rfl).elim fun fd F => ⟨He.ga K ⟨#[105, 115, 95, 110, 97, 109, 101]⟩, fd, He.glo_ok X G (c.fact 2 (f := .glo ⟨#[105, 115, 95, 110, 97, 109, 101]⟩) rfl), F, all_cons (b3_0 F) <| all_cons (b3_1 F) <| all_nil⟩) <| all_cons ((c.def_ 3 (d := e4) rfl).elim fun fd F => ⟨He.ga K ⟨#[105, 115, 95, 110, 97, 109, 101, 115]⟩, fd, He.glo_ok X G (c.fact 3 (f := .glo ⟨#[105, 115, 95, 110, 97, 109, 101, 115]⟩) rfl), F, all_cons (b4_0 F) <| all_cons (b4_1 F) <| all_nil⟩) <| all_cons ((c.def_ 4 (d := e5) rfl).elim fun fd F => ⟨He.ga K ⟨#[95, 108, 97, 119, 95, 102, 101, 101, 100]⟩, fd, He.glo_ok X G (c.fact 4 (f := .glo ⟨#[95, 108, 97, 119, 95, 102, 101, 101, 100]⟩) rfl), F, all_cons (b5_0 F) <| all_nil⟩) <| all_cons ((c.def_ 5 (d := e6) rfl).elim fun fd F => ⟨He.ga K ⟨#[95, 108, 97, 119, 95, 100, 114, 97, 119]⟩, fd, He.glo_ok X G (c.fact 5 (f := .glo ⟨#[95, 108, 97, 119, 95, 100, 114, 97, 119]⟩) rfl), F, all_cons (b6_0 F) <| all_nil⟩) <| all_cons ((c.def_ 6 (d := e7) rfl).elim fun fd F => ⟨He.ga K ⟨#[95, 108, 97, 119, 95, 97, 110, 121]⟩, fd, He.glo_ok X G (c.fact 6 (f := .glo ⟨#[95, 108, 97, 119, 95, 97, 110, 121]⟩) rfl), F, all_cons (b7_0 F) <| all_nil⟩) <| all_cons ((c.def_ 7 (d := e8) rfl).elim fun fd F => ⟨He.ga K ⟨#[95, 108, 97, 119, 95, 110, 97, 109, 101, 115]⟩, fd, He.glo_ok X G (c.fact 7 (f := .glo ⟨#[95, 108, 97, 119, 95, 110, 97, 109, 101, 115]⟩) rfl), F, all_cons (b8_0 F) <| all_nil⟩) <| all_cons ((c.def_ 8 (d := e9) rfl).elim fun fd F => ⟨He.ga K ⟨#[95, 108, 97, 119, 95, 105, 115, 95, 110, 117, 109, 98, 101, 114]⟩, fd, He.glo_ok X G (c.fact 8 (f := .glo ⟨#[95, 108, 97, 119, 95, 105, 115, 95, 110, 117, 109, 98, 101, 114]⟩) rfl), F, all_cons (b9_0 F) <| all_nil⟩) <| all_cons ((c.def_ 9 (d := e10) rfl).elim fun fd F => ⟨He.ga K ⟨#[95, 108, 97, 119, 95, 105, 115, 95, 110, 97, 109, 101]⟩, fd, He.glo_ok X G (c.fact 9 (f := .glo ⟨#[95, 108, 97, 119, 95, 105, 115, 95, 110, 97, 109, 101]⟩) rfl), F, all_cons (b10_0 F) <| all_nil⟩) <| all_cons ((c.def_ 10 (d := e11) rfl).elim fun fd F => ⟨He.ga K ⟨#[95, 108, 97, 119, 95, 105, 115, 95, 115, 101, 116]⟩, fd, He.glo_ok X G (c.fact 10 (f := .glo ⟨#[95, 108, 97, 119, 95, 105, 115, 95, 115, 101, 116]⟩) rfl), F, all_cons (b11_0 F) <| all_nil⟩) <| all_cons ((c.def_ 11 (d := e12) rfl).elim fun fd F => ⟨He.ga K ⟨#[95, 108, 97, 119, 95, 115, 116, 114, 97, 110, 103, 101]⟩, fd, He.glo_ok X G (c.fact 11 (f := .glo ⟨#[95, 108, 97, 119, 95, 115, 116, 114, 97, 110, 103, 101]⟩) rfl), F, all_cons (b12_0 F) <| all_nil⟩) <| all_cons ((c.def_ 12 (d := e13) rfl).elim fun fd F => ⟨He.ga K ⟨#[95, 108, 97, 119, 95, 115, 112, 111, 105, 108, 116]⟩, fd, He.glo_ok X G (c.fact 12 (f := .glo ⟨#[95, 108, 97, 119, 95, 115, 112, 111, 105, 108, 116]⟩) rfl), F, all_cons (b13_0 F) <| all_nil⟩) <| all_cons ((c.def_ 13 (d := e14) rfl).elim fun fd F => ⟨He.ga K ⟨#[95, 108, 97, 119, 95, 105, 115, 95, 114, 105, 103, 104, 116]⟩, fd, He.glo_ok X G (c.fact 13 (f := .glo ⟨#[95, 108, 97, 119, 95, 105, 115, 95, 114, 105, 103, 104, 116]⟩) rfl), F, all_cons (b14_0 F) <| all_nil⟩) <| all_cons ((c.def_ 14 (d := e15) rfl).elim fun fd F => ⟨He.ga K ⟨#[108, 97, 119]⟩, fd, He.glo_ok X G (c.fact 14 (f := .glo ⟨#[108, 97, 119]⟩) rfl), F, all_cons (b15_0 F) <| all_nil⟩) <| all_nil
  · exact all_cons (He.int_ok X G (c.fact 15 (f := .int ⟨#[76, 79, 78, 71, 69, 83, 84, 95, 78, 65, 77, 69]⟩ 8) rfl)) <| all_nil
  · exact all_cons (He.str_ok X G (c.fact 16 (f := .str ⟨#[76, 69, 84, 84, 69, 82, 83]⟩ ⟨#[97, 98, 99, 100, 101, 102, 103, 104, 105, 106, 107, 108, 109, 110, 111, 112, 113, 114, 115, 116, 117, 118, 119, 120, 121, 122]⟩) rfl)) <| all_nil
  · exact all_cons (He.free_ok X G (c.fact 17 (f := .free ⟨#[97, 108, 108]⟩) rfl)) <| all_cons (He.free_ok X G (c.fact 18 (f := .free ⟨#[98, 111, 111, 108]⟩) rfl)) <| all_cons (He.free_ok X G (c.fact 19 (f := .free ⟨#[105, 110, 116]⟩) rfl)) <| all_cons (He.free_ok X G (c.fact 20 (f := .free ⟨#[105, 115, 105, 110, 115, 116, 97, 110, 99, 101]⟩) rfl)) <| all_cons (He.free_ok X G (c.fact 21 (f := .free ⟨#[108, 101, 110]⟩) rfl)) <| all_cons (He.free_ok X G (c.fact 22 (f := .free ⟨#[108, 105, 115, 116]⟩) rfl)) <| all_cons (He.free_ok X G (c.fact 23 (f := .free ⟨#[114, 97, 110, 103, 101]⟩) rfl)) <| all_cons (He.free_ok X G (c.fact 24 (f := .free ⟨#[114, 101, 112, 114]⟩) rfl)) <| all_cons (He.free_ok X G (c.fact 25 (f := .free ⟨#[115, 111, 114, 116, 101, 100]⟩) rfl)) <| all_cons (He.free_ok X G (c.fact 26 (f := .free ⟨#[115, 116, 114]⟩) rfl)) <| all_cons (He.free_ok X G (c.fact 27 (f := .free ⟨#[116, 117, 112, 108, 101]⟩) rfl)) <| all_cons (He.free_ok X G (c.fact 28 (f := .free ⟨#[122, 105, 112]⟩) rfl)) <| all_nil
abbrev rowR : PySem.W.OpenRow := PySem.W.OpenLaw.row PySem.Challenge.rw_kitsleft_k01_kinds_told
abbrev hk : PySem.W.Hook := He.hookD 4 fa fn
def ob (s : PySem.W.SharedT) : He.AlD := He.obsDG 4 fa fn (HandSHeadRun.getT s)
theorem ob_eq (s : PySem.W.SharedT) : ob s = hk.obs s.abs := He.obsDG_eq (HandSHeadRun.getT_eq s)
def loose : List PySem.Str := (["LETTERS", "LONGEST_NAME", "is_integer", "is_number", "is_name", "is_names", "_law_feed", "_law_draw", "_law_any", "_law_names", "_law_is_number", "_law_is_name", "_law_is_set", "_law_strange", "_law_spoilt", "_law_is_right"] : List PySem.Str)
theorem run (w : World) : HandSHeadRun.RunEq rowR (PySem.W.view rowR.prog [18]) hk ob 1000 loose w := by
  intro os
  kernel_rfl
def wF : Nat := 100
def dep : Nat := 40
theorem room_ok : Room dep callerA := ⟨rfl, by decide, by decide⟩
end Ev
open PySem PySem.W PySem.Calls PyProof.Rows Ev
theorem Ev.law_of (plain : ∀ ns : List Int, ns.length ≤ 63 → ∃ st, callF Γ wF dep 15 [.scr ns] [] = .ok (.d (.bool true)) st) : PySem.Challenge.rw_kitsleft_k01_kinds_told.Holds := by
  w_on; o_law
  refine HandSHeadRun.head_any (r := OpenLaw.row PySem.Challenge.rw_kitsleft_k01_kinds_told) (q := view (OpenLaw.row PySem.Challenge.rw_kitsleft_k01_kinds_told).prog [18]) (H := hk) (ob := ob) (M := 1000) (loose := loose)
    (d := HandSHeadRun.topDef (OpenLaw.row PySem.Challenge.rw_kitsleft_k01_kinds_told).prog 18) (kwd := []) ob_eq
    (by kernel_rfl) (fun s => by kernel_rfl) run (by kernel_rfl) (by kernel_rfl) (by kernel_rfl) (by rfl)
    (by first | assumption | decide +kernel) (by decide +kernel) ⟨rfl, rfl, rfl, rfl, rfl, by decide +kernel⟩ ?hw ?hc
  case hw => w_witness2
  case hc =>
    refine walk_g (l := PySem.Challenge.rw_kitsleft_k01_kinds_told) (n := 63) (k := dep) (x := d15.e.ps.headD ⟨#[]⟩) rfl (by decide) (by kernel_rfl) room_ok ?F
    intro w mg fl h Y G named0
    obtain ⟨K, kin, c⟩ := Y
    have named : mg d15.x = some (.ref fl) := by
      have e : (HandSHeadRun.topDef (OpenLaw.row PySem.Challenge.rw_kitsleft_k01_kinds_told).prog 18).name = d15.x := by kernel_rfl
      rw [← e]
      exact named0
    have O := prgOk kin G c
    obtain ⟨f, fd, m1, F, B⟩ := O.ds d15 (List.mem_of_getElem? (l := prg.ds) (i := 14) rfl)
    have e : f = fl := by
      rw [named] at m1
      cases m1
      rfl
    subst e
    have A1 : ∀ (s : Shared) (u : Value), BindsTo s fd ⟨[u], []⟩ [(d15.e.ps.headD ⟨#[]⟩, u)] := fun s u => L2.FunD.bindsA (ps := d15.e.ps) F (fun _ _ _ _ _ _ us hl => match us, hl with | [_], _ => rfl) s [u] rfl
    exact ⟨K, fd, spC K (fun _ => 0) 1 (callF Γ wF dep 15), kin, A1, fun H a ns hl _ sq => law_says (plain ns hl) sq, fun ground _ _ => levels O cks dep d15 (List.mem_of_getElem? (l := prg.ds) (i := 14) rfl) f fd F⟩

namespace Ev
open PySem
def kC : Str := ⟨#[99, 101, 108, 108, 115]⟩
def kS : Str := ⟨#[115, 112, 111, 116]⟩
def kL : Str := ⟨#[108, 101, 102, 116]⟩
def kD : Str := ⟨#[100, 114, 97, 119, 110]⟩
def feedO (cs : List Int) (a b c : Int) : O := .dct [(.inr kC, .d (.list (cs.map .int))), (.inr kS, .d (.int a)), (.inr kL, .d (.int b)), (.inr kD, .d (.int c))]
section
variable (C : Nat → List T → M T) (wf : Nat)
abbrev sV : S → Env → Sto → SR := svN (seN C deep) wf deep
theorem ev_nx {f : S → Env → Sto → SR} {s : S} {r : List S} {ρ ρ' : Env} {st st' : Sto} (h : f s ρ st = .nx ρ' st') : evSsW f (s :: r) ρ st = evSsW f r ρ' st' := by
  show (match f s ρ st with | .nx ρ' st' => evSsW f r ρ' st' | x => x) = _
  rw [h]
theorem ev_rt {f : S → Env → Sto → SR} {s : S} {r : List S} {ρ : Env} {st st' : Sto} {v : T} (h : f s ρ st = .rt v st') : evSsW f (s :: r) ρ st = .rt v st' := by
  show (match f s ρ st with | .nx ρ' st' => evSsW f r ρ' st' | x => x) = _
  rw [h]
def drR (n : Int) (x2 x3 x4 x5 x6 : Option T) : Env := [some (.ref 0), some (.d (.int n)), x2, x3, x4, x5, x6]
def iT (i : Int) : Option T := some (.d (.int i))
def lT (cs : List Int) : Option T := some (.d (.list (cs.map .int)))
variable (cs : List Int) (a b c n : Int) (r : Sto)
def q1 : S := f6.body.getD 0 .pass
def q2 : S := f6.body.getD 1 .pass
def q3 : S := f6.body.getD 2 .pass
def q4 : S := f6.body.getD 3 .pass
def q5 : S := f6.body.getD 4 .pass
def q6 : S := f6.body.getD 5 .pass
def q7 : S := f6.body.getD 6 .pass
def q8 : S := f6.body.getD 7 .pass
def q9 : S := f6.body.getD 8 .pass
theorem dr1 : sV C wf q1 (drR n none none none none none) (some (feedO cs a b c) :: r) = .nx (drR n none none none none none) (some (feedO cs a b (c + 1)) :: r) := rfl
theorem dr2a (h : 0 < b) (hn : 0 < n) (hn2 : n < 1073741824) : sV C wf q2 (drR n none none none none none) (some (feedO cs a b c) :: r) = .rt (.d (.int (b % n))) (some (feedO cs a (b / n) c) :: r) := by
  show (if decide (0 < b) = true then _ else _) = _
  rw [if_pos (decide_eq_true h)]
  refine (ev_nx (ρ' := drR n none none none none (iT (b % n))) (st' := some (feedO cs a b c) :: r) ?_).trans ?_
  · show (R.toS (if 0 < n then (R.ok (T.d (.int (b % n))) _ : R T) else .bad) _ _) = _
    rw [if_pos hn]
    rfl
  refine (ev_nx (ρ' := drR n none none none none (iT (b % n))) (st' := some (feedO cs a (b / n) c) :: r) ?_).trans ?_
  · show (R.toS (if 0 < n ∧ n < 1073741824 then (R.ok (T.d (.int (b / n))) _ : R T) else .bad) _ _) = _
    rw [if_pos ⟨hn, hn2⟩]
    rfl
  · rfl
theorem dr2b (h : ¬ 0 < b) : sV C wf q2 (drR n none none none none none) (some (feedO cs a b c) :: r) = .nx (drR n none none none none none) (some (feedO cs a b c) :: r) := by
  show (if decide (0 < b) = true then _ else _) = _
  rw [if_neg (by simpa using h)]
  rfl
theorem dr3 : sV C wf q3 (drR n none none none none none) (some (feedO cs a b c) :: r) = .nx (drR n (lT cs) (iT a) none none none) (some (feedO cs a b c) :: r) := rfl
theorem dr4 : sV C wf q4 (drR n (lT cs) (iT a) none none none) (some (feedO cs a b c) :: r) = .nx (drR n (lT cs) (iT a) none none none) (some (feedO cs (a + 1) b c) :: r) := rfl
theorem dr5a (st : Sto) : sV C wf q5 (drR n (lT []) (iT a) none none none) st = .nx (drR n (lT []) (iT a) (iT 78182) none none) st := rfl
theorem ints_lay : ∀ cs : List Int, PyData.canLayAll0 (cs.map PyData.int) = true ∧ PyData.depthAll (cs.map PyData.int) = 0
  | [] => ⟨rfl, rfl⟩
  | x :: t => by
    obtain ⟨h1, h2⟩ := ints_lay t
    refine ⟨?_, ?_⟩
    · rw [List.map_cons, PyData.canLayAll0, h1]; rfl
    · rw [List.map_cons, PyData.depthAll, h2]; rfl
theorem ints_shaped : shapedB (.list (cs.map PyData.int)) = true := by
  obtain ⟨h1, h2⟩ := ints_lay cs
  show (PyData.canLayAll0 (cs.map PyData.int) && decide (PyData.depthAll (cs.map PyData.int) + 1 ≤ 64)) = true
  rw [h1, h2]
  rfl
theorem atI_mod {α : Type} {xs : List α} {a : Int} (ha : 0 ≤ a) (hx : 0 < xs.length) : ∃ x, atI xs (a % (xs.length : Int)) = some x ∧ x ∈ xs := by
  have h1 : 0 ≤ a % (xs.length : Int) := Int.emod_nonneg _ (by omega)
  have h2 : a % (xs.length : Int) < xs.length := Int.emod_lt_of_pos _ (by omega)
  have hn : (a % (xs.length : Int)).toNat < xs.length := by omega
  refine ⟨xs[(a % (xs.length : Int)).toNat], ?_, List.getElem_mem hn⟩
  unfold atI ixN
  rw [if_pos h1, if_pos h2]
  simp [hn]
theorem dr5b (st : Sto) (ha : 0 ≤ a) (hc : cs ≠ []) : ∃ one : Int, sV C wf q5 (drR n (lT cs) (iT a) none none none) st = .nx (drR n (lT cs) (iT a) (iT one) none none) st := by
  have hl : 0 < ((cs.map PyData.int).map T.d).length := by
    rw [List.length_map, List.length_map]
    exact List.length_pos_iff.mpr hc
  obtain ⟨x, h1, h2⟩ := atI_mod ha hl
  have hx : ∃ one : Int, x = .d (.int one) := by
    simp only [List.mem_map] at h2
    obtain ⟨y, ⟨z, _, e1⟩, e2⟩ := h2
    exact ⟨z, by rw [← e2, ← e1]⟩
  obtain ⟨one, rfl⟩ := hx
  refine ⟨one, ?_⟩
  have ne : PyData.eqv (.list (cs.map PyData.int)) (.list []) = false := by
    cases cs with
    | nil => exact absurd rfl hc
    | cons _ _ => rfl
  have sh := ints_shaped cs
  have hd : 0 < (cs.length : Int) := by
    have := List.length_pos_iff.mpr hc
    omega
  show (R.toS (R.bind (if (shapedB (.list (cs.map PyData.int)) && shapedB (.list [])) = true then (R.ok (T.d (.bool (xor true (PyData.eqv (.list (cs.map PyData.int)) (.list []))))) st : R T) else .bad) _) _ _) = _
  rw [sh, ne]
  show (R.toS (R.bind (if 0 < (((cs.map PyData.int).map T.d).length : Int) then (R.ok (T.d (.int (a % (((cs.map PyData.int).map T.d).length : Int)))) st : R T) else .bad) _) _ _) = _
  rw [if_pos (by omega)]
  show (R.toS (match atI ((cs.map PyData.int).map T.d) (a % (((cs.map PyData.int).map T.d).length : Int)) with | some v => (R.ok v st : R T) | none => .bad) _ _) = _
  rw [h1]
  rfl
theorem dr6 (one : Int) (hn : 0 < n) (hn2 : n < 1073741824) :
    (0 ≤ one ∧ sV C wf q6 (drR n (lT cs) (iT a) (iT one) none none) (some (feedO cs (a + 1) b c) :: r) = .rt (.d (.int (one % n))) (some (feedO cs (a + 1) (one / n) c) :: r)) ∨
    sV C wf q6 (drR n (lT cs) (iT a) (iT one) none none) (some (feedO cs (a + 1) b c) :: r) = .nx (drR n (lT cs) (iT a) (iT one) none none) (some (feedO cs (a + 1) b c) :: r) := by
  by_cases h1 : (10 : Int) ^ (18 : Int).toNat ≤ one
  · by_cases h2 : a < (((cs.map PyData.int).map T.d).length : Int)
    · refine .inl ⟨Int.le_trans (by decide) h1, ?_⟩
      show (R.toS (andM (T.d (.bool (decide ((10 : Int) ^ (18 : Int).toNat ≤ one)))) _ _) _ _) = _
      rw [decide_eq_true h1]
      show (if decide (a < (((cs.map PyData.int).map T.d).length : Int)) = true then _ else _) = _
      rw [if_pos (decide_eq_true h2)]
      refine (ev_nx (ρ' := drR n (lT cs) (iT a) (iT one) none none) (st' := some (feedO cs (a + 1) (one / n) c) :: r) ?_).trans ?_
      · show (R.toS (if 0 < n ∧ n < 1073741824 then (R.ok (T.d (.int (one / n))) _ : R T) else .bad) _ _) = _
        rw [if_pos ⟨hn, hn2⟩]
        rfl
      · refine (ev_rt (v := .d (.int (one % n))) (st' := some (feedO cs (a + 1) (one / n) c) :: r) ?_)
        show (R.toS (if 0 < n then (R.ok (T.d (.int (one % n))) _ : R T) else .bad) _ _) = _
        rw [if_pos hn]
        rfl
    · refine .inr ?_
      show (R.toS (andM (T.d (.bool (decide ((10 : Int) ^ (18 : Int).toNat ≤ one)))) _ _) _ _) = _
      rw [decide_eq_true h1]
      show (if decide (a < (((cs.map PyData.int).map T.d).length : Int)) = true then _ else _) = _
      rw [decide_eq_false h2]
      rfl
  · refine .inr ?_
    show (R.toS (andM (T.d (.bool (decide ((10 : Int) ^ (18 : Int).toNat ≤ one)))) _ _) _ _) = _
    rw [decide_eq_false h1]
    rfl
theorem mul_l {i j : Int} (h1 : -(2 ^ 64) < i) (h2 : i < 2 ^ 64) : mulOk i j = true := by
  unfold mulOk
  simp only [Bool.or_eq_true, Bool.and_eq_true, decide_eq_true_eq]
  exact .inl ⟨h1, h2⟩
/-- the mixing, the sixth slot -/
def mix1 (one c : Int) : Int := (one % 1000005001 + 80021 * c + 109) % 2147469983
def mix2 (x c : Int) : Int := (x * x + 5700007 * c + 223) % 2147469949
def mix3 (x n : Int) : Int := (x * x + 511 * x) % 2147469943 / 16 % n
theorem dr7 (one : Int) : sV C wf q7 (drR n (lT cs) (iT a) (iT one) none none) (some (feedO cs (a + 1) b c) :: r) = .nx (drR n (lT cs) (iT a) (iT one) (iT (mix1 one c)) none) (some (feedO cs (a + 1) b c) :: r) := rfl
theorem dr8 (one x : Int) (h1 : 0 ≤ x) (h2 : x < 2147469983) : sV C wf q8 (drR n (lT cs) (iT a) (iT one) (iT x) none) (some (feedO cs (a + 1) b c) :: r) = .nx (drR n (lT cs) (iT a) (iT one) (iT (mix2 x c)) none) (some (feedO cs (a + 1) b c) :: r) := by
  show (R.toS (R.bind (R.bind (R.bind (R.bind (if mulOk x x = true then (R.ok (T.d (.int (x * x))) (some (feedO cs (a + 1) b c) :: r) : R T) else .bad) _) _) _) _) _ _) = _
  rw [if_pos (mul_l (by omega) (by omega))]
  rfl
theorem dr9 (one x : Int) (h1 : 0 ≤ x) (h2 : x < 2147469983) (hn : 0 < n) : sV C wf q9 (drR n (lT cs) (iT a) (iT one) (iT x) none) (some (feedO cs (a + 1) b c) :: r) = .rt (.d (.int (mix3 x n))) (some (feedO cs (a + 1) b c) :: r) := by
  show (R.toS (R.bind (R.bind (R.bind (R.bind (R.bind (R.bind (if mulOk x x = true then (R.ok (T.d (.int (x * x))) (some (feedO cs (a + 1) b c) :: r) : R T) else .bad) _) _) _) _) _) _) _ _) = _
  rw [if_pos (mul_l (by omega) (by omega))]
  show (R.toS (if 0 < n then (R.ok (T.d (.int (mix3 x n))) (some (feedO cs (a + 1) b c) :: r) : R T) else .bad) _ _) = _
  rw [if_pos hn]
  rfl
theorem draw_body (ha : 0 ≤ a) (hb : 0 ≤ b) (hn : 0 < n) (hn2 : n < 1073741824) : ∃ i a' b' c' : Int, 0 ≤ i ∧ i < n ∧ 0 ≤ a' ∧ 0 ≤ b' ∧
    evSsW (sV C wf) f6.body (drR n none none none none none) (some (feedO cs a b c) :: r) = .rt (.d (.int i)) (some (feedO cs a' b' c') :: r) := by
  have split : f6.body = [q1, q2, q3, q4, q5, q6, q7, q8, q9] := rfl
  rw [split, ev_nx (dr1 C wf cs a b c n r)]
  by_cases h0 : 0 < b
  · exact ⟨b % n, a, b / n, c + 1, Int.emod_nonneg _ (by omega), Int.emod_lt_of_pos _ hn, ha, Int.ediv_nonneg hb (by omega), ev_rt (dr2a C wf cs a b (c + 1) n r h0 hn hn2)⟩
  rw [ev_nx (dr2b C wf cs a b (c + 1) n r h0), ev_nx (dr3 C wf cs a b (c + 1) n r), ev_nx (dr4 C wf cs a b (c + 1) n r)]
  have h5 : ∃ one : Int, sV C wf q5 (drR n (lT cs) (iT a) none none none) (some (feedO cs (a + 1) b (c + 1)) :: r) = .nx (drR n (lT cs) (iT a) (iT one) none none) (some (feedO cs (a + 1) b (c + 1)) :: r) := by
    by_cases hc : cs = []
    · subst hc
      exact ⟨78182, dr5a C wf a n _⟩
    · exact dr5b C wf cs a n _ ha hc
  obtain ⟨one, h5⟩ := h5
  rw [ev_nx h5]
  rcases dr6 C wf cs a b (c + 1) n r one hn hn2 with ⟨ho, h6⟩ | h6
  · exact ⟨one % n, a + 1, one / n, c + 1, Int.emod_nonneg _ (by omega), Int.emod_lt_of_pos _ hn, by omega, Int.ediv_nonneg ho (by omega), ev_rt h6⟩
  rw [ev_nx h6, ev_nx (dr7 C wf cs a b (c + 1) n r one)]
  have m1 : 0 ≤ mix1 one (c + 1) := Int.emod_nonneg _ (by decide)
  have m2 : mix1 one (c + 1) < 2147469983 := Int.emod_lt_of_pos _ (by decide)
  rw [ev_nx (dr8 C wf cs a b (c + 1) n r one _ m1 m2)]
  have m3 : 0 ≤ mix2 (mix1 one (c + 1)) (c + 1) := Int.emod_nonneg _ (by decide)
  have m4 : mix2 (mix1 one (c + 1)) (c + 1) < 2147469949 := Int.emod_lt_of_pos _ (by decide)
  exact ⟨mix3 (mix2 (mix1 one (c + 1)) (c + 1)) n, a + 1, b, c + 1, Int.emod_nonneg _ (by omega), Int.emod_lt_of_pos _ hn, by omega, hb, ev_rt (dr9 C wf cs a b (c + 1) n r one _ m3 (by omega) hn)⟩
end
end Ev

namespace Ev
open PySem
/-- cells that a def's end leaves as they are -/
def Clean (r : Sto) : Prop := ∀ st : Sto, mapO (fzO (r.length + 1) st) r = some r
theorem clean_nil : Clean [] := fun _ => rfl
theorem fz_feed (n : Nat) (st : Sto) (cs : List Int) (a b c : Int) : fzO n st (some (feedO cs a b c)) = some (some (feedO cs a b c)) := rfl
theorem leave_feed {v : T} {cs : List Int} {a b c : Int} {r : Sto} (hr : Clean r) (hv : fz (r.length + 1) (some (feedO cs a b c) :: r) 9 v = some v) : leave (r.length + 1) v (some (feedO cs a b c) :: r) = .ok v (some (feedO cs a b c) :: r) := by
  unfold leave
  rw [hv]
  have e : (some (feedO cs a b c) :: r).take (r.length + 1) = some (feedO cs a b c) :: r := List.take_of_length_le (Nat.le_refl _)
  rw [e]
  have m : mapO (fzO (r.length + 1) (some (feedO cs a b c) :: r)) (some (feedO cs a b c) :: r) = some (some (feedO cs a b c) :: r) := by
    simp only [mapO, fz_feed, hr _]
  rw [m]
/-- the feed: its store is that of cell 0, the rest as it was -/
def FeedAt (st : Sto) (r : Sto) : Prop := ∃ (cs : List Int) (a b c : Int), 0 ≤ a ∧ 0 ≤ b ∧ st = some (feedO cs a b c) :: r
theorem draw_call {st r : Sto} (wf k : Nat) (n : Int) (hf : FeedAt st r) (hr : Clean r) (hn : 0 < n) (hn2 : n < 1073741824) :
    ∃ (i : Int) (st' : Sto), 0 ≤ i ∧ i < n ∧ FeedAt st' r ∧ callF Γ wf (k + 1) 6 [.ref 0, .d (.int n)] st = .ok (.d (.int i)) st' := by
  obtain ⟨cs, a, b, c, ha, hb, rfl⟩ := hf
  obtain ⟨i, a', b', c', h1, h2, h3, h4, h5⟩ := draw_body (callF Γ wf k) wf cs a b c n r ha hb hn hn2
  refine ⟨i, some (feedO cs a' b' c') :: r, h1, h2, ⟨cs, a', b', c', h3, h4, rfl⟩, ?_⟩
  show endF false (r.length + 1) (evSsW (sV (callF Γ wf k) wf) f6.body (drR n none none none none none) (some (feedO cs a b c) :: r)) = _
  rw [h5]
  exact leave_feed hr rfl
end Ev

/-! Pl: plain laws of comprehensions, leaving. -/
namespace Ev
open PySem
def CleanS (st : Sto) : Prop := ∀ st' : Sto, mapO (fzO st.length st') st = some st
theorem cell_get (st : Sto) (o : Option O) (r : Sto) : (st ++ o :: r)[st.length]? = some o := by
  rw [List.getElem?_append_right (Nat.le_refl _)]
  simp
theorem cell_set (st : Sto) (o p : Option O) (r : Sto) : (st ++ o :: r).set st.length p = st ++ p :: r := by
  rw [List.set_append_right _ _ (Nat.le_refl _)]
  simp
/-- turns that leave the store as it is -/
theorem comp_map {f : T → M (Option T)} {g : T → Option T} {st : Sto} : ∀ {xs acc : List T}, (∀ x ∈ xs, ∀ acc, f x (st ++ [some (.lst acc)]) = .ok (g x) (st ++ [some (.lst acc)])) → acc.length + xs.length ≤ sizeLine →
    compL f st.length xs (st ++ [some (.lst acc)]) = .ok () (st ++ [some (.lst (acc ++ xs.filterMap g))])
  | [], acc, _, _ => by simp [compL]
  | x :: xs, acc, h, hl => by
    simp only [compL]
    rw [h x List.mem_cons_self acc]
    simp only [R.bind_ok]
    cases e : g x with
    | none =>
      simp only
      rw [comp_map (fun y hy => h y (List.mem_cons_of_mem _ hy)) (by simp only [List.length_cons] at hl; omega), List.filterMap_cons_none e]
    | some y =>
      simp only
      rw [cell_get]
      simp only
      rw [if_pos (by simp only [List.length_cons] at hl; omega), cell_set, comp_map (fun y hy => h y (List.mem_cons_of_mem _ hy)) (by simp only [List.length_cons, List.length_append, List.length_nil] at hl ⊢; omega), List.filterMap_cons_some e, List.append_assoc]
      rfl
theorem comp_end {f : T → M (Option T)} {g : T → Option T} {st : Sto} {xs : List T} (h : ∀ x ∈ xs, ∀ acc, f x (st ++ [some (.lst acc)]) = .ok (g x) (st ++ [some (.lst acc)])) (hl : xs.length ≤ sizeLine) :
    (compL f st.length xs (st ++ [some (.lst [])])).bind (fun _ st2 => compEnd false st.length st2) = .ok (mkLst (xs.filterMap g)) (st ++ [none]) := by
  rw [comp_map h (by simpa using hl)]
  simp only [R.bind_ok, List.nil_append]
  unfold compEnd
  simp only [Bool.false_eq_true, if_false]
  rw [cell_get]
  simp only
  rw [cell_set]
/-- back where it began: what was made within is dropped -/
theorem leave_more {st more : Sto} {x : PyData} (hc : CleanS st) : leave st.length (.d x) (st ++ more) = .ok (.d x) st := by
  unfold leave
  have e : (st ++ more).take st.length = st := by simp
  have f : fz st.length (st ++ more) 9 (.d x) = some (.d x) := rfl
  rw [f, e, hc]
end Ev

/-! P1: what k01's small defs compute of any data. -/
namespace Ev
open PySem
section
variable (wf k : Nat) (d : PyData) {st : Sto}
abbrev sW (k : Nat) : S → Env → Sto → SR := svN (seN (callF Γ wf k) deep) wf deep
theorem leave_same {x : PyData} (hc : CleanS st) : leave st.length (.d x) st = .ok (.d x) st := by
  have := leave_more (more := []) (x := x) hc
  rwa [List.append_nil] at this
def isIntD : PyData → Bool
  | .int _ => true
  | _ => false
def isNumD : PyData → Bool
  | .int i => decide (0 ≤ i)
  | _ => false
theorem call_int (hc : CleanS st) : callF Γ wf (k + 1) 1 [.d d] st = .ok (.d (.bool (isIntD d))) st := by
  show endF false st.length (evSsW (sW wf k) f1.body [some (.d d)] st) = _
  have e : evSsW (sW wf k) f1.body [some (.d d)] st = .rt (.d (.bool (isIntD d))) st := by cases d <;> rfl
  rw [e]
  exact leave_same hc
theorem call_num (hc : CleanS st) : callF Γ wf (k + 2) 2 [.d d] st = .ok (.d (.bool (isNumD d))) st := by
  show endF false st.length (evSsW (sW wf (k + 1)) f2.body [some (.d d)] st) = _
  have e : evSsW (sW wf (k + 1)) f2.body [some (.d d)] st = .rt (.d (.bool (isNumD d))) st := by
    refine ev_rt ?_
    show R.toS (R.bind (callF Γ wf (k + 1) 1 [.d d] st) _) _ _ = _
    rw [call_int wf k d hc]
    cases d <;> rfl
  rw [e]
  exact leave_same hc
theorem call_num2 (hc : CleanS st) : callF Γ wf (k + 1) 9 [.d d] st = .ok (.d (.bool (isNumD d))) st := by
  show endF false st.length (evSsW (sW wf k) f9.body [some (.d d)] st) = _
  have e : evSsW (sW wf k) f9.body [some (.d d)] st = .rt (.d (.bool (isNumD d))) st := by cases d <;> rfl
  rw [e]
  exact leave_same hc

/-! ### names -/
def letters : List Nat := [97, 98, 99, 100, 101, 102, 103, 104, 105, 106, 107, 108, 109, 110, 111, 112, 113, 114, 115, 116, 117, 118, 119, 120, 121, 122]
def isNameD : PyData → Bool
  | .str x => decide (1 ≤ (x.length : Int)) && decide ((x.length : Int) ≤ 8) && x.cps.toList.all fun c => subL [c] letters
  | _ => false
theorem bools_all {α : Type} (p : α → Bool) : ∀ l : List α, boolsOf (l.map fun a => T.d (.bool (p a))) = some (l.map p)
  | [] => rfl
  | a :: l => by
    show (boolsOf (l.map fun a => T.d (.bool (p a)))).map _ = _
    rw [bools_all p l]
    rfl
theorem fm_map {α β γ : Type} (f : α → β) (g : β → Option γ) (h : α → γ) (e : ∀ a, g (f a) = some (h a)) : ∀ l : List α, (l.map f).filterMap g = l.map h
  | [] => rfl
  | a :: l => by rw [List.map_cons, List.filterMap_cons_some (e a), fm_map f g h e l]; rfl
theorem mk_bools {α : Type} (p : α → Bool) (l : List α) : mkLst (l.map fun a => T.d (.bool (p a))) = .d (.list (l.map fun a => PyData.bool (p a))) := by
  have e : (l.map fun a => T.d (.bool (p a))) = (l.map fun a => PyData.bool (p a)).map T.d := by
    rw [List.map_map]
    rfl
  rw [e, mkLst_map]
theorem name_str (x : Str) (hx : x.length ≤ sizeLine) : ∃ more, evSsW (sW wf k) f3.body [some (.d (.str x)), none] st = .rt (.d (.bool (isNameD (.str x)))) (st ++ more) := by
  have len : lenT st (.d (.str x)) = some x.length := if_pos hx
  have test : ∀ b : Bool, (decide (1 ≤ (x.length : Int)) && decide ((x.length : Int) ≤ 8)) = b →
      sW wf k (f3.body.getD 0 .pass) [some (.d (.str x)), none] st = (if b then .nx [some (.d (.str x)), none] st else .rt (.d (.bool false)) st) := by
    intro b hb
    show R.toS (R.bind (R.bind (match lenT st (.d (.str x)) with | some n => (R.ok (T.d (.int n)) st : R T) | none => .bad) _) _) _ _ = _
    rw [len]
    subst hb
    show R.toS (R.bind (chM .le (T.d (.int x.length)) _ (T.d (.bool (decide (1 ≤ (x.length : Int))))) _) _) _ _ = _
    by_cases h1 : 1 ≤ (x.length : Int)
    · rw [decide_eq_true h1]
      show R.toS (notM (T.d (.bool (decide ((x.length : Int) ≤ 8)))) _) _ _ = _
      by_cases h2 : (x.length : Int) ≤ 8
      · rw [decide_eq_true h2]; rfl
      · rw [decide_eq_false h2]; rfl
    · rw [decide_eq_false h1]; rfl
  cases hb : (decide (1 ≤ (x.length : Int)) && decide ((x.length : Int) ≤ 8)) with
  | false =>
    refine ⟨[], ?_⟩
    have e : isNameD (.str x) = false := by
      show (decide (1 ≤ (x.length : Int)) && decide ((x.length : Int) ≤ 8) && x.cps.toList.all fun c => subL [c] letters) = false
      rw [hb]; rfl
    rw [List.append_nil, e]
    exact ev_rt (test false hb)
  | true =>
    refine ⟨[none], ?_⟩
    have e : isNameD (.str x) = x.cps.toList.all fun c => subL [c] letters := by
      show (decide (1 ≤ (x.length : Int)) && decide ((x.length : Int) ≤ 8) && x.cps.toList.all fun c => subL [c] letters) = _
      rw [hb]; rfl
    have two : f3.body = [f3.body.getD 0 .pass, f3.body.getD 1 .pass] := rfl
    rw [two, ev_nx (test true hb)]
    refine ev_rt ?_
    let g : T → Option T := fun t => match t with
      | .d (.str z) => some (.d (.bool (subL z.cps.toList letters)))
      | _ => none
    have turn : ∀ y ∈ x.cps.toList.map (fun c => T.d (.str ⟨#[c]⟩)), ∀ acc, cmpF ((seN (callF Γ wf k) 38).tg (.nm 1)) (evIfsW (seN (callF Γ wf k) 38).e []) ((seN (callF Γ wf k) 38).e (.bin .isin (.var 1) (.gstr ⟨#[76, 69, 84, 84, 69, 82, 83]⟩ ⟨letters.toArray⟩))) [some (.d (.str x)), none] y (st ++ [some (.lst acc)]) = .ok (g y) (st ++ [some (.lst acc)]) := by
      intro y hy acc
      obtain ⟨c, _, rfl⟩ := List.mem_map.mp hy
      show R.ok (some (T.d (.bool (xor false (subL [c] letters))))) (st ++ [some (.lst acc)]) = _
      rw [Bool.false_xor]
    have small : x.cps.toList.length ≤ sizeLine := by
      rw [Array.length_toList]
      exact hx
    have made := comp_end (g := g) turn (by rw [List.length_map]; exact small)
    have fm : (x.cps.toList.map fun c => T.d (.str ⟨#[c]⟩)).filterMap g = x.cps.toList.map fun c => T.d (.bool (subL [c] letters)) := fm_map (fun c => T.d (.str ⟨#[c]⟩)) g (fun c => T.d (.bool (subL [c] letters))) (fun c => rfl) _
    rw [fm] at made
    show R.toS (R.bind (R.bind (compL _ st.length (x.cps.toList.map fun c => T.d (.str ⟨#[c]⟩)) (st ++ [some (.lst [])])) (fun _ st2 => compEnd false st.length st2)) (fun v st => bfAll v st)) _ _ = _
    erw [made]
    rw [mk_bools]
    show R.toS (match boolsOf ((x.cps.toList.map fun c => PyData.bool (subL [c] letters)).map T.d) with | some bs => (R.ok (T.d (.bool (bs.all id))) (st ++ [none]) : R T) | none => .bad) _ _ = _
    rw [List.map_map]
    erw [bools_all (fun c => subL [c] letters) x.cps.toList]
    rw [e]
    show SR.rt (T.d (.bool ((x.cps.toList.map fun c => subL [c] letters).all id))) _ = _
    rw [List.all_map]
    rfl
theorem call_name (hx : ∀ x, d = .str x → x.length ≤ sizeLine) (hc : CleanS st) : callF Γ wf (k + 1) 3 [.d d] st = .ok (.d (.bool (isNameD d))) st := by
  show endF false st.length (evSsW (sW wf k) f3.body [some (.d d), none] st) = _
  have e : ∃ more, evSsW (sW wf k) f3.body [some (.d d), none] st = .rt (.d (.bool (isNameD d))) (st ++ more) := by
    cases d with
    | str x => exact name_str wf k x (hx x rfl)
    | _ => exact ⟨[], by rw [List.append_nil]; rfl⟩
  obtain ⟨more, e⟩ := e
  rw [e]
  exact leave_more hc
end
end Ev

/-! Wp: what is wanted of an end; one lemma for each form. -/
namespace Ev
open PySem
def Ret {α : Type} (r : R α) (Q : α → Sto → Prop) : Prop := ∃ a st, r = .ok a st ∧ Q a st
def RetO (s : SR) (N : Env → Sto → Prop) (V : T → Sto → Prop) : Prop := match s with
  | .nx ρ st => N ρ st
  | .rt v st => V v st
  | _ => False
structure RetS (s : SR) (N : Env → Sto → Prop) (V : T → Sto → Prop) : Prop where
  out : RetO s N V
section
variable {α β : Type} {r : R α} {f : α → Sto → R β} {Q : β → Sto → Prop} {st : Sto}
theorem Ret.bind (h : Ret r fun a st => Ret (f a st) Q) : Ret (r.bind f) Q := by
  obtain ⟨a, s, e, h⟩ := h
  rw [e]
  exact h
theorem Ret.ok {a : α} {Q : α → Sto → Prop} (h : Q a st) : Ret (.ok a st) Q := ⟨a, st, rfl, h⟩
theorem Ret.of {a : α} {Q : α → Sto → Prop} {st' : Sto} (e : r = .ok a st') (h : Q a st') : Ret r Q := ⟨a, st', e, h⟩
theorem Ret.mono {P Q : α → Sto → Prop} (h : Ret r P) (k : ∀ a st, P a st → Q a st) : Ret r Q := by
  obtain ⟨a, s, e, h⟩ := h
  exact ⟨a, s, e, k _ _ h⟩
theorem RetS.toS {ρ : Env} {g : α → Sto → SR} {N : Env → Sto → Prop} {V : T → Sto → Prop} (h : Ret r fun a st => RetS (g a st) N V) : RetS (r.toS ρ g) N V := by
  obtain ⟨a, s, e, h⟩ := h
  rw [e]
  exact h
theorem RetS.mono {s : SR} {N N' : Env → Sto → Prop} {V V' : T → Sto → Prop} (h : RetS s N V) (k : ∀ ρ st, N ρ st → N' ρ st) (l : ∀ v st, V v st → V' v st) : RetS s N' V' := by
  cases s with
  | nx ρ st => exact ⟨k _ _ h.out⟩
  | rt v st => exact ⟨l _ _ h.out⟩
  | _ => exact h.out.elim
end
section
variable {g : S → Env → Sto → SR} {s : S} {ss : List S} {ρ : Env} {st : Sto} {N : Env → Sto → Prop} {V : T → Sto → Prop}
theorem RetS.nil (h : N ρ st) : RetS (evSsW g [] ρ st) N V := ⟨h⟩
theorem RetS.nx (h : N ρ st) : RetS (.nx ρ st) N V := ⟨h⟩
theorem RetS.rt {v : T} (h : V v st) : RetS (.rt v st) N V := ⟨h⟩
theorem RetS.cons (h : RetS (g s ρ st) (fun ρ st => RetS (evSsW g ss ρ st) N V) V) : RetS (evSsW g (s :: ss) ρ st) N V := by
  show RetS (match g s ρ st with | .nx ρ' st' => evSsW g ss ρ' st' | x => x) N V
  cases e : g s ρ st <;> (rw [e] at h; first | exact h.out | exact ⟨h.out⟩)
end
section
variable {C : Nat → List T → M T} {n wf m : Nat} {ρ : Env} {st : Sto} {Q : T → Sto → Prop} {N : Env → Sto → Prop} {V : T → Sto → Prop}
abbrev eN (C : Nat → List T → M T) (n : Nat) : E → Env → M T := (seN C n).e
/-! expressions -/
theorem w_var {i : Nat} {v : T} (e : ρ[i]? = some (some v)) (h : Q v st) : Ret (eN C (n + 1) (.var i) ρ st) Q := by
  show Ret (match ρ[i]? with | some (some v) => R.ok v st | _ => .bad) Q
  rw [e]
  exact .ok h
theorem w_int {i : Int} (h : Q (.d (.int i)) st) : Ret (eN C (n + 1) (.cint i) ρ st) Q := .ok h
theorem w_str {i : Str} (h : Q (.d (.str i)) st) : Ret (eN C (n + 1) (.cstr i) ρ st) Q := .ok h
theorem w_bl {i : Bool} (h : Q (.d (.bool i)) st) : Ret (eN C (n + 1) (.cbl i) ρ st) Q := .ok h
theorem w_non (h : Q (.d .none) st) : Ret (eN C (n + 1) .cnon ρ st) Q := .ok h
theorem w_gint {x : Str} {i : Int} (h : Q (.d (.int i)) st) : Ret (eN C (n + 1) (.gint x i) ρ st) Q := .ok h
theorem w_gstr {x : Str} {i : Str} (h : Q (.d (.str i)) st) : Ret (eN C (n + 1) (.gstr x i) ρ st) Q := .ok h
theorem w_bin {o : Op} {a b : E} (h : Ret (eN C n a ρ st) fun x st => Ret (eN C n b ρ st) fun y st => Ret (bin o x y st) Q) : Ret (eN C (n + 1) (.bin o a b) ρ st) Q :=
  Ret.bind (h.mono fun _ _ h => Ret.bind h)
theorem w_neg {a : E} (h : Ret (eN C n a ρ st) fun x st => Ret (negM x st) Q) : Ret (eN C (n + 1) (.neg a) ρ st) Q := Ret.bind h
theorem w_not {a : E} (h : Ret (eN C n a ρ st) fun x st => Ret (truthM x st) fun b st => Q (.d (.bool (!b))) st) : Ret (eN C (n + 1) (.not a) ρ st) Q :=
  Ret.bind (h.mono fun _ _ h => Ret.bind (h.mono fun _ _ h => .ok h))
theorem w_and {a b : E} (h : Ret (eN C n a ρ st) fun x st => ∃ t, x = .d (.bool t) ∧ (t = true → Ret (eN C n b ρ st) Q) ∧ (t = false → Q (.d (.bool false)) st)) : Ret (eN C (n + 1) (.and a b) ρ st) Q :=
  Ret.bind (h.mono fun _ _ ⟨t, e, h1, h2⟩ => by
    subst e
    cases t with
    | true => exact h1 rfl
    | false => exact .ok (h2 rfl))
theorem w_or {a b : E} (h : Ret (eN C n a ρ st) fun x st => ∃ t, x = .d (.bool t) ∧ (t = false → Ret (eN C n b ρ st) Q) ∧ (t = true → Q (.d (.bool true)) st)) : Ret (eN C (n + 1) (.or a b) ρ st) Q :=
  Ret.bind (h.mono fun _ _ ⟨t, e, h1, h2⟩ => by
    subst e
    cases t with
    | false => exact h1 rfl
    | true => exact .ok (h2 rfl))
theorem w_ite {c a b : E} (h : Ret (eN C n c ρ st) fun x st => Ret (truthM x st) fun t st => (t = true → Ret (eN C n a ρ st) Q) ∧ (t = false → Ret (eN C n b ρ st) Q)) : Ret (eN C (n + 1) (.ite c a b) ρ st) Q :=
  Ret.bind (h.mono fun _ _ h => Ret.bind (h.mono fun t _ h => by
    cases t with
    | true => exact h.1 rfl
    | false => exact h.2 rfl))
theorem w_es {es : List E} {Q : List T → Sto → Prop} {e : E} (h : Ret (eN C n e ρ st) fun x st => Ret (evEsW (eN C n) es ρ st) fun xs st => Q (x :: xs) st) : Ret (evEsW (eN C n) (e :: es) ρ st) Q :=
  Ret.bind (h.mono fun _ _ h => Ret.bind (h.mono fun _ _ h => .ok h))
theorem w_e0 {Q : List T → Sto → Prop} (h : Q [] st) : Ret (evEsW (eN C n) [] ρ st) Q := .ok h
theorem w_call {g : Nat} {es : List E} (h : Ret (evEsW (eN C n) es ρ st) fun xs st => Ret (C g xs st) Q) : Ret (eN C (n + 1) (.call g es) ρ st) Q := Ret.bind h
theorem w_callK {g : Nat} {es ws : List E} {ks : List Str} {p : List Nat} (h : Ret (evEsW (eN C n) es ρ st) fun xs st => Ret (evEsW (eN C n) ws ρ st) fun ys st => Ret (C g (permL p (xs ++ ys)) st) Q) : Ret (eN C (n + 1) (.callK g es ws ks p) ρ st) Q :=
  Ret.bind (h.mono fun _ _ h => Ret.bind h)
theorem w_tup {es : List E} (h : Ret (evEsW (eN C n) es ρ st) fun xs st => Ret (tupM xs st) Q) : Ret (eN C (n + 1) (.tup es) ρ st) Q := Ret.bind h
theorem w_disp {mu : Bool} {es : List E} (h : Ret (evEsW (eN C n) es ρ st) fun xs st => xs.length ≤ sizeLine ∧ Ret ((if mu then newM xs else frzM xs) st) Q) : Ret (eN C (n + 1) (.mk mu (.disp es)) ρ st) Q := by
  refine Ret.bind (Ret.bind (h.mono fun xs st h => ?_))
  show Ret (if xs.length ≤ sizeLine then R.ok xs st else .bad) _
  rw [if_pos h.1]
  refine .ok ?_
  cases mu <;> exact h.2
theorem w_cat {mu : Bool} {a b : E} (h : Ret (eN C n a ρ st) fun x st => Ret (eN C n b ρ st) fun y st => Ret (catM x y st) fun xs st => Ret ((if mu then newM xs else frzM xs) st) Q) : Ret (eN C (n + 1) (.mk mu (.cat a b)) ρ st) Q := by
  refine Ret.bind (Ret.bind (h.mono fun _ _ h => Ret.bind (h.mono fun _ _ h => h.mono fun xs st h => ?_)))
  cases mu <;> exact h
theorem w_of {mu : Bool} {a : E} (h : Ret (eN C n a ρ st) fun x st => Ret (ofM x st) fun xs st => Ret ((if mu then newM xs else frzM xs) st) Q) : Ret (eN C (n + 1) (.mk mu (.of a)) ρ st) Q := by
  refine Ret.bind (Ret.bind (h.mono fun _ _ h => h.mono fun xs st h => ?_))
  cases mu <;> exact h
theorem w_sorted {mu : Bool} {a : E} (h : Ret (eN C n a ρ st) fun x st => Ret (sortM x st) fun xs st => Ret ((if mu then newM xs else frzM xs) st) Q) : Ret (eN C (n + 1) (.mk mu (.sorted a)) ρ st) Q := by
  refine Ret.bind (Ret.bind (h.mono fun _ _ h => h.mono fun xs st h => ?_))
  cases mu <;> exact h
theorem w_idx {a i : E} (h : Ret (eN C n a ρ st) fun x st => Ret (eN C n i ρ st) fun y st => Ret (idx x y st) Q) : Ret (eN C (n + 1) (.idx a i) ρ st) Q :=
  Ret.bind (h.mono fun _ _ h => Ret.bind h)
theorem w_slc {a lo hi : E} (h : Ret (eN C n a ρ st) fun x st => Ret (evPtW (eN C n) lo ρ st) fun y st => Ret (evPtW (eN C n) hi ρ st) fun z st => Ret (slc x y z st) Q) : Ret (eN C (n + 1) (.slc a lo hi) ρ st) Q :=
  Ret.bind (h.mono fun _ _ h => Ret.bind (h.mono fun _ _ h => Ret.bind h))
theorem w_pt0 {Q : Option Int → Sto → Prop} (h : Q none st) : Ret (evPtW (eN C n) .cnon ρ st) Q := .ok h
theorem w_rev {a : E} (h : Ret (eN C n a ρ st) fun x st => Ret (rev x st) Q) : Ret (eN C (n + 1) (.rev a) ρ st) Q := Ret.bind h
theorem w_bf {a : E} {f : Bf} (h : Ret (eN C n a ρ st) fun x st => Ret (bf f x st) Q) : Ret (eN C (n + 1) (.bf f a) ρ st) Q := Ret.bind h
theorem w_isI {a : E} {t : Ty} (h : Ret (eN C n a ρ st) fun x st => Ret (isM t x st) Q) : Ret (eN C (n + 1) (.isI a t) ρ st) Q := Ret.bind h
theorem w_mt {o a : E} {f : Mt} (h : Ret (eN C n o ρ st) fun x st => recvOk f st x = true ∧ Ret (eN C n a ρ st) fun y st => Ret (mt f x y st) Q) : Ret (eN C (n + 1) (.mt f o a) ρ st) Q :=
  Ret.bind (h.mono fun x st h => by
    show Ret (if recvOk f st x then _ else _) Q
    rw [if_pos h.1]
    exact Ret.bind h.2)
theorem w_cmp {mu : Bool} {elt : E} {tg : Tg} {it : It} {ifs : List E} {own : List Nat} (h : Ret (evItW (eN C n) it ρ st) fun xs st =>
      Ret (compL (cmpF ((seN C n).tg tg) (evIfsW (eN C n) ifs) (eN C n elt) (wipeE ρ own)) st.length xs (st ++ [some (.lst [])])) fun _ st2 => Ret (compEnd mu st.length st2) Q) : Ret (eN C (n + 1) (.cmp mu elt tg it ifs own) ρ st) Q :=
  Ret.bind (h.mono fun _ _ h => Ret.bind h)
/-! iterables -/
theorem w_seq {e : E} {Q : List T → Sto → Prop} (h : Ret (eN C n e ρ st) fun x st => Ret (seqM x st) Q) : Ret (evItW (eN C n) (.seq e) ρ st) Q := Ret.bind h
theorem w_rng {e : E} {Q : List T → Sto → Prop} (h : Ret (eN C n e ρ st) fun x st => Ret (rngM x st) Q) : Ret (evItW (eN C n) (.rng e) ρ st) Q := Ret.bind h
theorem w_rng2 {e e2 : E} {Q : List T → Sto → Prop} (h : Ret (eN C n e ρ st) fun x st => Ret (eN C n e2 ρ st) fun y st => Ret (rng2M x y st) Q) : Ret (evItW (eN C n) (.rng2 e e2) ρ st) Q := Ret.bind (h.mono fun _ _ h => Ret.bind h)
theorem w_zip {e e2 : E} {Q : List T → Sto → Prop} (h : Ret (eN C n e ρ st) fun x st => Ret (eN C n e2 ρ st) fun y st => Ret (zipM x y st) Q) : Ret (evItW (eN C n) (.zip e e2) ρ st) Q := Ret.bind (h.mono fun _ _ h => Ret.bind h)
/-! statements -/
abbrev sN (C : Nat → List T → M T) (wf m : Nat) : S → Env → Sto → SR := svN (seN C 40) wf m
theorem s_nm {i : Nat} {e : E} (h : Ret (eN C 40 e ρ st) fun v st => N (ρ.set i (some v)) st) : RetS (sN C wf (m + 1) (.asg (.nm i) e) ρ st) N V := RetS.toS (h.mono fun _ _ h => ⟨h⟩)
theorem s_par {i j : Nat} {a b : E} (h : Ret (eN C 40 a ρ st) fun x st => Ret (eN C 40 b ρ st) fun y st => N ((ρ.set i (some x)).set j (some y)) st) : RetS (sN C wf (m + 1) (.par i j a b) ρ st) N V :=
  RetS.toS (h.mono fun _ _ h => RetS.toS (h.mono fun _ _ h => ⟨h⟩))
theorem s_ex {e : E} (h : Ret (eN C 40 e ρ st) fun v st => N ρ st) : RetS (sN C wf (m + 1) (.ex e) ρ st) N V := RetS.toS (h.mono fun _ _ h => ⟨h⟩)
theorem s_ret {e : E} (h : Ret (eN C 40 e ρ st) V) : RetS (sN C wf (m + 1) (.ret e) ρ st) N V := RetS.toS (h.mono fun _ _ h => ⟨h⟩)
theorem s_ite {c : E} {a b : List S} (h : Ret (eN C 40 c ρ st) fun x st => Ret (truthM x st) fun t st => (t = true → RetS (evSsW (sN C wf m) a ρ st) N V) ∧ (t = false → RetS (evSsW (sN C wf m) b ρ st) N V)) : RetS (sN C wf (m + 1) (.ite c a b) ρ st) N V :=
  RetS.toS (h.mono fun _ _ h => RetS.toS (h.mono fun t _ h => by
    cases t with
    | true => exact h.1 rfl
    | false => exact h.2 rfl))
theorem s_for {i : Nat} {it : It} {b : List S} (h : Ret (evItW (eN C 40) it ρ st) fun xs st => RetS (forL (fun x ρ st => evSsW (sN C wf m) b (ρ.set i (some x)) st) xs ρ st) N V) : RetS (sN C wf (m + 1) (.for_ (.nm i) it b) ρ st) N V :=
  RetS.toS (h.mono fun _ _ h => h)
theorem for_inv {f : T → Env → Sto → SR} (I : Nat → Env → Sto → Prop) : ∀ {xs : List T} {ρ : Env} {st : Sto} (k : Nat), I k ρ st → (∀ (j : Nat) (x : T) (ρ : Env) (st : Sto), xs[j]? = some x → I (k + j) ρ st → RetS (f x ρ st) (I (k + j + 1)) V) →
    (∀ ρ st, I (k + xs.length) ρ st → N ρ st) → RetS (forL f xs ρ st) N V
  | [], ρ, st, k, h, _, e => ⟨e _ _ (by simpa using h)⟩
  | x :: xs, ρ, st, k, h, t, e => by
    have q := t 0 x ρ st rfl h
    show RetS (match f x ρ st with | .nx ρ' st' => forL f xs ρ' st' | .ct ρ' st' => forL f xs ρ' st' | .bk ρ' st' => .nx ρ' st' | s => s) N V
    cases e1 : f x ρ st with
    | nx ρ' st' =>
      rw [e1] at q
      refine for_inv I (k + 1) q.out (fun j y ρ st hj hi => ?_) fun ρ st hi => e ρ st ?_
      · have := t (j + 1) y ρ st (by simpa using hj) (by rw [show k + (j + 1) = k + 1 + j by omega]; exact hi)
        rw [show k + (j + 1) + 1 = k + 1 + j + 1 by omega] at this
        exact this
      · rw [List.length_cons, show k + (xs.length + 1) = k + 1 + xs.length by omega]
        exact hi
    | rt v st' => rw [e1] at q; exact ⟨q.out⟩
    | bk _ _ => rw [e1] at q; exact q.out.elim
    | ct _ _ => rw [e1] at q; exact q.out.elim
    | exn _ _ _ => rw [e1] at q; exact q.out.elim
    | bad => rw [e1] at q; exact q.out.elim
/-! a def -/
theorem w_run {f : Fn} {vs : List T} (hk : f.keep = false) (hl : vs.length = f.np) (h : RetS (evSsW (sN C wf 40) f.body (startE f vs) st) (fun _ st' => Ret (leave st.length (.d .none) st') Q) fun v st' => Ret (leave st.length v st') Q) : Ret (runF C wf f vs st) Q := by
  unfold runF
  rw [if_pos hl, hk]
  show Ret (endF false st.length (evSsW (sN C wf 40) f.body (startE f vs) st)) Q
  cases e : evSsW (sN C wf 40) f.body (startE f vs) st <;> (rw [e] at h; first | exact h.out | exact h.out.elim)
end
end Ev

/-! K1a: cells, data that can be shown, comprehensions. -/
namespace Ev
open PySem
/-- cells that no def's end changes -/
def Cl (st : Sto) : Prop := ∀ o ∈ st, ∀ (n : Nat) (s : Sto), fzO n s o = some o
theorem mapO_id {α : Type} {f : α → Option α} : ∀ {l : List α}, (∀ x ∈ l, f x = some x) → mapO f l = some l
  | [], _ => rfl
  | x :: l, h => by simp [mapO, h x List.mem_cons_self, mapO_id fun y hy => h y (List.mem_cons_of_mem _ hy)]
theorem Cl.s {st : Sto} (h : Cl st) : CleanS st := fun s => mapO_id fun o ho => h o ho _ s
theorem Cl.c {st : Sto} (h : Cl st) : Clean st := fun s => mapO_id fun o ho => h o ho _ s
theorem cl_nil : Cl [] := fun _ h => nomatch h
theorem Cl.app {a b : Sto} (h : Cl a) (k : Cl b) : Cl (a ++ b) := fun o ho => (List.mem_append.mp ho).elim (h o) (k o)
theorem Cl.cons {o : Option O} {b : Sto} (h : ∀ (n : Nat) (s : Sto), fzO n s o = some o) (k : Cl b) : Cl (o :: b) := fun p hp => (List.mem_cons.mp hp).elim (fun e => e ▸ h) (k p)
theorem Cl.one {o : Option O} (h : ∀ (n : Nat) (s : Sto), fzO n s o = some o) : Cl [o] := .cons h cl_nil
theorem cl_none : Cl [none] := .one fun _ _ => rfl
theorem fz_d (n k : Nat) (s : Sto) (x : PyData) : fz n s (k + 1) (.d x) = some (.d x) := rfl
theorem fzO_lst (n : Nat) (s : Sto) (ds : List PyData) : fzO n s (some (.lst (ds.map .d))) = some (some (.lst (ds.map .d))) := by
  show (mapO (fz n s 9) (ds.map .d)).map _ = _
  rw [mapO_id fun x hx => by
    obtain ⟨d, _, rfl⟩ := List.mem_map.mp hx
    rfl]
  rfl
theorem cl_lst (ds : List PyData) : Cl [some (.lst (ds.map .d))] := .one fun n s => fzO_lst n s ds
theorem cl_feed (cs : List Int) (a b c : Int) {r : Sto} (h : Cl r) : Cl (some (feedO cs a b c) :: r) := .cons (fun n s => fz_feed n s cs a b c) h
theorem FeedAt.cl {st r : Sto} (h : FeedAt st r) (k : Cl r) : Cl st := by
  obtain ⟨cs, a, b, c, _, _, rfl⟩ := h
  exact cl_feed cs a b c k
theorem FeedAt.len {st r : Sto} (h : FeedAt st r) : st.length = r.length + 1 := by
  obtain ⟨cs, a, b, c, _, _, rfl⟩ := h
  rfl
theorem FeedAt.app {st r : Sto} (h : FeedAt st r) (m : Sto) : FeedAt (st ++ m) (r ++ m) := by
  obtain ⟨cs, a, b, c, h1, h2, rfl⟩ := h
  exact ⟨cs, a, b, c, h1, h2, rfl⟩
theorem FeedAt.set {st r : Sto} (h : FeedAt st r) (i : Nat) (o : Option O) : FeedAt (st.set (i + 1) o) (r.set i o) := by
  obtain ⟨cs, a, b, c, h1, h2, rfl⟩ := h
  exact ⟨cs, a, b, c, h1, h2, rfl⟩
theorem FeedAt.get {st r : Sto} (h : FeedAt st r) (i : Nat) : st[i + 1]? = r[i]? := by
  obtain ⟨cs, a, b, c, h1, h2, rfl⟩ := h
  rfl
theorem FeedAt.take {st r m : Sto} (h : FeedAt st (r ++ m)) : FeedAt (st.take (r.length + 1)) r := by
  obtain ⟨cs, a, b, c, h1, h2, rfl⟩ := h
  exact ⟨cs, a, b, c, h1, h2, by rw [List.take_succ_cons, List.take_left]⟩
/-- behind a def that draws -/
theorem leave_f {st r m : Sto} {v v' : T} {Q : T → Sto → Prop} (h : FeedAt st (r ++ m)) (hc : Cl r) (hv : fz (r.length + 1) st 9 v = some v') (q : ∀ st', FeedAt st' r → Q v' st') : Ret (leave (r.length + 1) v st) Q := by
  unfold leave
  rw [hv, (show mapO (fzO (r.length + 1) st) (st.take (r.length + 1)) = some (st.take (r.length + 1)) from mapO_id fun o ho => (h.take.cl hc) o ho _ _)]
  exact .ok (q _ h.take)
theorem Ret.eq {α : Type} {r : R α} {a : α} {st : Sto} (h : Ret r fun b s => b = a ∧ s = st) : r = .ok a st := by
  obtain ⟨b, s, e, rfl, rfl⟩ := h
  exact e
theorem w_noX {α : Type} {r : R α} {Q : α → Sto → Prop} (h : Ret r Q) : Ret (noX r) Q := by
  obtain ⟨b, s, e, h⟩ := h
  rw [e]
  exact .ok h
theorem w_cmpF {ft : T → Env → M Env} {fc : Env → M Bool} {fe : Env → M T} {ρ : Env} {x : T} {st : Sto} {Q : Option T → Sto → Prop} (h : Ret (ft x ρ st) fun ρ1 st => Ret (fc ρ1 st) fun b st => (b = true → Ret (fe ρ1 st) fun y st => Q (some y) st) ∧ (b = false → Q none st)) :
    Ret (cmpF ft fc fe ρ x st) Q :=
  w_noX (Ret.bind (h.mono fun _ _ h => Ret.bind (h.mono fun b _ h => by
    cases b with
    | true => exact Ret.bind ((h.1 rfl).mono fun _ _ h => .ok h)
    | false => exact .ok (h.2 rfl))))
section
variable {C : Nat → List T → M T} {n : Nat} {ρ : Env} {st : Sto}
theorem w_tnm {i : Nat} {v : T} {Q : Env → Sto → Prop} (h : Q (ρ.set i (some v)) st) : Ret ((seN C (n + 1)).tg (.nm i) v ρ st) Q := .ok h
theorem w_if0 {Q : Bool → Sto → Prop} (h : Q true st) : Ret (evIfsW (eN C n) [] ρ st) Q := .ok h
theorem w_if1 {e : E} {Q : Bool → Sto → Prop} (h : Ret (eN C n e ρ st) fun x st => Ret (truthM x st) Q) : Ret (evIfsW (eN C n) [e] ρ st) Q :=
  Ret.bind (h.mono fun _ _ h => Ret.bind (h.mono fun b _ h => by cases b <;> exact .ok h))
theorem w_tr {b : Bool} {Q : Bool → Sto → Prop} (h : Q b st) : Ret (truthM (.d (.bool b)) st) Q := .ok h
end
/-- a comprehension that leaves all as it is -/
theorem w_comp {f : T → M (Option T)} (g : T → Option PyData) {st : Sto} {Q : T → Sto → Prop} {xs : List T} (h : ∀ x ∈ xs, ∀ acc : List PyData, f x (st ++ [some (.lst (acc.map .d))]) = .ok ((g x).map .d) (st ++ [some (.lst (acc.map .d))])) (hl : xs.length ≤ sizeLine)
    (q : Q (.d (.list (xs.filterMap g))) (st ++ [none])) : Ret (compL f st.length xs (st ++ [some (.lst [])])) fun _ st2 => Ret (compEnd false st.length st2) Q := by
  have key : ∀ (xs : List T) (acc : List PyData), (∀ x ∈ xs, ∀ acc : List PyData, f x (st ++ [some (.lst (acc.map .d))]) = .ok ((g x).map .d) (st ++ [some (.lst (acc.map .d))])) → acc.length + xs.length ≤ sizeLine →
      compL f st.length xs (st ++ [some (.lst (acc.map .d))]) = .ok () (st ++ [some (.lst ((acc ++ xs.filterMap g).map .d))]) := by
    intro xs
    induction xs with
    | nil => intro acc _ _; simp [compL]
    | cons x xs ih =>
      intro acc h hl
      simp only [List.length_cons] at hl
      have hx := h x List.mem_cons_self acc
      have ht := fun y hy => h y (List.mem_cons_of_mem _ hy)
      simp only [compL]
      rw [hx]
      simp only [R.bind_ok]
      cases e : g x with
      | none =>
        simp only [Option.map_none]
        rw [ih acc ht (by omega), List.filterMap_cons_none e]
      | some y =>
        simp only [Option.map_some]
        rw [cell_get]
        simp only
        rw [if_pos (by rw [List.length_map]; omega), cell_set]
        have := ih (acc ++ [y]) ht (by simp only [List.length_append, List.length_cons, List.length_nil]; omega)
        rw [List.map_append] at this
        rw [show [T.d y] = [y].map T.d from rfl, this, List.filterMap_cons_some e, List.append_assoc]
        rfl
  have := key xs [] h (by simpa using hl)
  rw [List.map_nil] at this
  rw [this]
  refine .ok ?_
  unfold compEnd
  simp only [Bool.false_eq_true, if_false, List.nil_append]
  rw [cell_get]
  simp only
  rw [cell_set, mkLst_map]
  exact .ok q
/-- a comprehension whose turns draw: what holds of each item; one item a turn -/
theorem w_compF {f : T → M (Option T)} (P : PyData → Prop) {st r : Sto} {Q : T → Sto → Prop} {xs : List T} (hf : FeedAt st r) (hc : Cl r)
    (h : ∀ x ∈ xs, ∀ (s r' : Sto), FeedAt s r' → Cl r' → Ret (f x s) fun o s' => ∃ y more, o = some (.d y) ∧ P y ∧ FeedAt s' (r' ++ more) ∧ Cl more) (hl : xs.length ≤ sizeLine)
    (q : ∀ (ys : List PyData) (s' more : Sto), ys.length = xs.length → (∀ y ∈ ys, P y) → FeedAt s' (r ++ none :: more) → Cl more → Q (.d (.list ys)) s') :
    Ret (compL f st.length xs (st ++ [some (.lst [])])) fun _ st2 => Ret (compEnd false st.length st2) Q := by
  have hn := hf.len
  have key : ∀ (xs : List T) (acc : List PyData) (s more : Sto), (∀ x ∈ xs, ∀ (s r' : Sto), FeedAt s r' → Cl r' → Ret (f x s) fun o s' => ∃ y more, o = some (.d y) ∧ P y ∧ FeedAt s' (r' ++ more) ∧ Cl more) → acc.length + xs.length ≤ sizeLine →
      FeedAt s (r ++ some (.lst (acc.map .d)) :: more) → Cl more → (∀ y ∈ acc, P y) → Ret (compL f st.length xs s) fun _ s' => ∃ (ys : List PyData) (more' : Sto), ys.length = acc.length + xs.length ∧ (∀ y ∈ ys, P y) ∧ FeedAt s' (r ++ some (.lst (ys.map .d)) :: more') ∧ Cl more' := by
    intro xs
    induction xs with
    | nil => intro acc s more _ _ fs cm pa; exact .ok ⟨acc, more, rfl, pa, fs, cm⟩
    | cons x xs ih =>
      intro acc s more h hl fs cm pa
      simp only [List.length_cons] at hl
      refine Ret.bind ((h x List.mem_cons_self s _ fs (hc.app (.cons (fun n s => fzO_lst n s acc) cm))).mono fun o s' ⟨y, m2, e, py, f2, c2⟩ => ?_)
      subst e
      simp only
      rw [hn, f2.get, List.append_assoc, List.getElem?_append_right (Nat.le_refl _), Nat.sub_self]
      simp only [List.cons_append, List.getElem?_cons_zero]
      rw [if_pos (by rw [List.length_map]; omega)]
      have f3 := f2.set r.length (some (.lst (acc.map .d ++ [T.d y])))
      rw [List.append_assoc, List.set_append_right _ _ (Nat.le_refl _), Nat.sub_self, List.cons_append, List.set_cons_zero, show acc.map T.d ++ [T.d y] = (acc ++ [y]).map T.d by simp] at f3
      have z := ih (acc ++ [y]) _ (more ++ m2) (fun z hz => h z (List.mem_cons_of_mem _ hz)) (by simp only [List.length_append, List.length_cons, List.length_nil]; omega) f3 (cm.app c2) fun z hz => (List.mem_append.mp hz).elim (pa z) fun q => by
        rw [List.mem_singleton.mp q]; exact py
      rw [show acc.map T.d ++ [T.d y] = (acc ++ [y]).map T.d by simp]
      rw [← hn] at z
      rw [← hn]
      exact z.mono fun _ s' ⟨ys, m', l, a, b, c⟩ => ⟨ys, m', by rw [l]; simp only [List.length_append, List.length_cons, List.length_nil]; omega, a, b, c⟩
  refine (key xs [] _ [] h (by simpa using hl) (hf.app _) cl_nil (fun _ h => nomatch h)).mono fun _ s' ⟨ys, m', l, a, b, c⟩ => ?_
  unfold compEnd
  simp only [Bool.false_eq_true, if_false]
  rw [hn, b.get, List.getElem?_append_right (Nat.le_refl _), Nat.sub_self]
  simp only [List.getElem?_cons_zero]
  rw [mkLst_map]
  have f3 := b.set r.length none
  rw [List.set_append_right _ _ (Nat.le_refl _), Nat.sub_self, List.set_cons_zero] at f3
  refine .ok (q ys _ m' ?_ a f3 c)
  rw [l]
  simp
end Ev

/-! K1b: the law's own reading, the program's functions, of any data that can be shown. -/
namespace Ev
open PySem
/-- what repr can show -/
def Gd (d : PyData) : Prop := reprOk d = true
theorem Gd.p {d : PyData} (h : Gd d) : d.canLay0 = true ∧ d.showable = true ∧ d.depth ≤ 64 ∧ wt d ≤ sizeLine := by
  unfold Gd reprOk at h
  simp only [Bool.and_eq_true, decide_eq_true_eq] at h
  exact ⟨h.1.1.1, h.1.1.2, h.1.2, h.2⟩
theorem wts_mem : ∀ {ds : List PyData} {x : PyData}, x ∈ ds → wt x ≤ wts ds
  | y :: ds, x, h => by
    rw [wts]
    rcases List.mem_cons.mp h with e | e
    · subst e; omega
    · have := wts_mem e; omega
theorem wts_len : ∀ ds : List PyData, ds.length ≤ wts ds
  | [] => Nat.le_refl _
  | x :: ds => by
    rw [wts, List.length_cons]
    have := wts_len ds
    omega
theorem lay_mem : ∀ {ds : List PyData} {x : PyData}, PyData.canLayAll0 ds = true → x ∈ ds → x.canLay0 = true
  | y :: ds, x, h, m => by
    rw [PyData.canLayAll0, Bool.and_eq_true] at h
    rcases List.mem_cons.mp m with e | e
    · subst e; exact h.1
    · exact lay_mem h.2 e
theorem lay_all : ∀ {ds : List PyData}, (∀ x ∈ ds, x.canLay0 = true) → PyData.canLayAll0 ds = true
  | [], _ => rfl
  | x :: ds, h => by
    rw [PyData.canLayAll0, h x List.mem_cons_self, lay_all fun y hy => h y (List.mem_cons_of_mem _ hy)]
    rfl
theorem dep_mem : ∀ {ds : List PyData} {x : PyData}, x ∈ ds → x.depth ≤ PyData.depthAll ds
  | y :: ds, x, m => by
    rw [PyData.depthAll]
    rcases List.mem_cons.mp m with e | e
    · subst e; omega
    · have := dep_mem e; omega
theorem dep_all {n : Nat} : ∀ {ds : List PyData}, (∀ x ∈ ds, x.depth ≤ n) → PyData.depthAll ds ≤ n
  | [], _ => Nat.zero_le _
  | x :: ds, h => by
    rw [PyData.depthAll]
    have a := h x List.mem_cons_self
    have b := dep_all fun y hy => h y (List.mem_cons_of_mem x hy)
    omega
theorem Gd.item {ds : List PyData} (h : Gd (.tuple ds)) {x : PyData} (m : x ∈ ds) : x.canLay0 = true ∧ x.depth ≤ 63 ∧ wt x ≤ sizeLine := by
  obtain ⟨h1, _, h3, h4⟩ := h.p
  rw [PyData.canLay0] at h1
  rw [PyData.depth] at h3
  rw [wt] at h4
  have := dep_mem m
  have := wts_mem m
  exact ⟨lay_mem h1 m, by omega, by omega⟩
theorem Gd.len {ds : List PyData} (h : Gd (.tuple ds)) : ds.length ≤ sizeLine := by
  obtain ⟨_, _, _, h4⟩ := h.p
  rw [wt] at h4
  have := wts_len ds
  omega
theorem shaped_of {l : List PyData} (h1 : ∀ x ∈ l, x.canLay0 = true) (h2 : ∀ x ∈ l, x.depth ≤ 63) : shapedB (.list l) = true := by
  show (PyData.canLayAll0 l && decide (PyData.depthAll l + 1 ≤ 64)) = true
  have := dep_all h2
  rw [lay_all h1, decide_eq_true (by omega)]
  rfl
/-- l == [], l != [] -/
theorem eq_nil {l : List PyData} {st : Sto} (neg : Bool) (h : shapedB (.list l) = true) : eqD neg st (.d (.list l)) (.d (.list [])) = .ok (.d (.bool (xor neg l.isEmpty))) st := by
  show (if (shapedB (.list l) && shapedB (.list [])) = true then R.ok (T.d (.bool (xor neg (PyData.eqv (.list l) (.list []))))) st else .bad) = _
  rw [h]
  have e : PyData.eqv (.list l) (.list []) = l.isEmpty := by cases l <;> rfl
  rw [e]
  rfl
section
variable (wf k : Nat) {st : Sto} {Q : T → Sto → Prop}
/-- a def that gives data and leaves all as it was -/
theorem w_data {g : Nat} {f : Fn} {vs : List T} {x : PyData} (hΓ : Γ g = some f) (hk : f.keep = false) (hl : vs.length = f.np) (hc : Cl st) (h : RetS (evSsW (sN (callF Γ wf k) wf 40) f.body (startE f vs) st) (fun _ _ => False) fun v s => v = .d x ∧ ∃ more, s = st ++ more) :
    callF Γ wf (k + 1) g vs st = .ok (.d x) st := by
  have e : callF Γ wf (k + 1) g vs st = runF (callF Γ wf k) wf f vs st := by
    show (match Γ g with | some f => runF (callF Γ wf k) wf f vs | none => fun _ => .bad) st = _
    rw [hΓ]
  rw [e]
  refine Ret.eq (w_run hk hl (h.mono (fun _ _ z => z.elim) fun v s ⟨e1, more, e2⟩ => ?_))
  subst e1 e2
  exact .of (leave_more hc.s) ⟨rfl, rfl⟩
/-! ### is_name, by the law -/
theorem name2_str (x : Str) (hx : x.length ≤ sizeLine) (hs : PyData.strOk x = true) : RetS (evSsW (sN (callF Γ wf k) wf 40) f10.body [some (.d (.str x)), none] st) (fun _ _ => False) fun v s => v = .d (.bool (isNameD (.str x))) ∧ ∃ more, s = st ++ more := by
  have len : lenT st (.d (.str x)) = some x.length := if_pos hx
  have test : ∀ b : Bool, (decide (1 ≤ (x.length : Int)) && decide ((x.length : Int) ≤ 8)) = b →
      sW wf k (f10.body.getD 0 .pass) [some (.d (.str x)), none] st = (if b then .nx [some (.d (.str x)), none] st else .rt (.d (.bool false)) st) := by
    intro b hb
    show R.toS (R.bind (R.bind (match lenT st (.d (.str x)) with | some n => (R.ok (T.d (.int n)) st : R T) | none => .bad) _) _) _ _ = _
    rw [len]
    subst hb
    show R.toS (R.bind (chM .le (T.d (.int x.length)) _ (T.d (.bool (decide (1 ≤ (x.length : Int))))) _) _) _ _ = _
    by_cases h1 : 1 ≤ (x.length : Int)
    · rw [decide_eq_true h1]
      show R.toS (notM (T.d (.bool (decide ((x.length : Int) ≤ 8)))) _) _ _ = _
      by_cases h2 : (x.length : Int) ≤ 8
      · rw [decide_eq_true h2]; rfl
      · rw [decide_eq_false h2]; rfl
    · rw [decide_eq_false h1]; rfl
  cases hb : (decide (1 ≤ (x.length : Int)) && decide ((x.length : Int) ≤ 8)) with
  | false =>
    have e : isNameD (.str x) = false := by
      show (decide (1 ≤ (x.length : Int)) && decide ((x.length : Int) ≤ 8) && x.cps.toList.all fun c => subL [c] letters) = false
      rw [hb]; rfl
    have r : evSsW (sN (callF Γ wf k) wf 40) f10.body [some (.d (.str x)), none] st = .rt (.d (.bool false)) st := ev_rt (test false hb)
    rw [r, e]
    exact .rt ⟨rfl, [], by simp⟩
  | true =>
    have e : isNameD (.str x) = x.cps.toList.all fun c => subL [c] letters := by
      show (decide (1 ≤ (x.length : Int)) && decide ((x.length : Int) ≤ 8) && x.cps.toList.all fun c => subL [c] letters) = _
      rw [hb]; rfl
    have two : f10.body = [f10.body.getD 0 .pass, f10.body.getD 1 .pass] := rfl
    rw [two]
    show RetS (evSsW (sW wf k) [f10.body.getD 0 .pass, f10.body.getD 1 .pass] [some (.d (.str x)), none] st) _ _
    rw [ev_nx (test true hb)]
    refine RetS.cons (s_ret (wf := wf) (m := 39) ?_)
    let g : T → Option PyData := fun t => match t with
      | .d (.str z) => if subL z.cps.toList letters then none else some (.str z)
      | _ => none
    have items : seqM (.d (.str x)) st = .ok (x.cps.toList.map fun c => T.d (.str ⟨#[c]⟩)) st := rfl
    refine w_bin (w_cmp (w_seq (w_var rfl (.of items ?_))))
    refine w_comp g (fun t ht acc => ?_) ?_ ?_
    · obtain ⟨c, hc, rfl⟩ := List.mem_map.mp ht
      have sub : bin .notin (.d (.str ⟨#[c]⟩)) (.d (.str ⟨letters.toArray⟩)) (st ++ [some (.lst (acc.map .d))]) = .ok (.d (.bool (xor true (subL [c] letters)))) (st ++ [some (.lst (acc.map .d))]) := rfl
      refine Ret.eq (w_cmpF (w_tnm (w_if1 (w_bin (w_var rfl (w_str (.of sub (w_tr ⟨fun hb2 => w_var rfl ?_, fun hb2 => ?_⟩))))))))
      · have : g (.d (.str ⟨#[c]⟩)) = some (.str ⟨#[c]⟩) := if_neg (by rw [show subL (⟨#[c]⟩ : Str).cps.toList letters = subL [c] letters from rfl]; simpa using hb2)
        rw [this]
        exact ⟨rfl, rfl⟩
      · have : g (.d (.str ⟨#[c]⟩)) = none := if_pos (by rw [show subL (⟨#[c]⟩ : Str).cps.toList letters = subL [c] letters from rfl]; simpa using hb2)
        rw [this]
        exact ⟨rfl, rfl⟩
    · rw [List.length_map, Array.length_toList]
      exact hx
    · refine w_disp (w_e0 ⟨Nat.zero_le _, .ok ?_⟩)
      have good : ∀ y ∈ (x.cps.toList.map fun c => T.d (.str ⟨#[c]⟩)).filterMap g, y.canLay0 = true ∧ y.depth ≤ 63 := by
        intro y hy
        obtain ⟨t, ht, hg⟩ := List.mem_filterMap.mp hy
        obtain ⟨c, hc, rfl⟩ := List.mem_map.mp ht
        have : y = .str ⟨#[c]⟩ := by
          by_cases q : subL [c] letters = true
          · rw [show g (.d (.str ⟨#[c]⟩)) = none from if_pos q] at hg; cases hg
          · rw [show g (.d (.str ⟨#[c]⟩)) = some (.str ⟨#[c]⟩) from if_neg q] at hg
            exact (Option.some.inj hg).symm
        subst this
        refine ⟨?_, Nat.zero_le _⟩
        unfold PyData.strOk at hs
        rw [Array.all_eq_true'] at hs
        have := hs c (Array.mem_toList_iff.mp hc)
        show (#[c].all (· < 0x110000)) = true
        simpa using this
      have sh := shaped_of (fun y hy => (good y hy).1) fun y hy => (good y hy).2
      refine .of (eq_nil false sh) ⟨?_, [none], rfl⟩
      rw [e]
      congr 2
      rw [Bool.false_xor]
      generalize x.cps.toList = l
      induction l with
      | nil => rfl
      | cons c l ih =>
        rw [List.map_cons, List.all_cons]
        by_cases q : subL [c] letters = true
        · rw [List.filterMap_cons_none (show g (.d (.str ⟨#[c]⟩)) = none from if_pos q), ih, q]; rfl
        · have q' : subL [c] letters = false := by simpa using q
          rw [List.filterMap_cons_some (show g (.d (.str ⟨#[c]⟩)) = some (.str ⟨#[c]⟩) from if_neg q), q']; rfl
theorem Gd.str {x : Str} (h1 : (PyData.str x).canLay0 = true) (h2 : wt (.str x) ≤ sizeLine) : x.length ≤ sizeLine ∧ PyData.strOk x = true := by
  rw [PyData.canLay0] at h1
  rw [wt] at h2
  exact ⟨by omega, h1⟩
theorem call_name2 (d : PyData) (h1 : d.canLay0 = true) (h2 : wt d ≤ sizeLine) (hc : Cl st) : callF Γ wf (k + 1) 10 [.d d] st = .ok (.d (.bool (isNameD d))) st := by
  refine w_data wf k (f := f10) rfl rfl rfl hc ?_
  cases d with
  | str x => exact name2_str wf k x (Gd.str h1 h2).1 (Gd.str h1 h2).2
  | _ => exact ⟨rfl, [], by simp⟩
theorem call_name1 (d : PyData) (h1 : d.canLay0 = true) (h2 : wt d ≤ sizeLine) (hc : Cl st) : callF Γ wf (k + 1) 3 [.d d] st = .ok (.d (.bool (isNameD d))) st :=
  call_name wf k d (fun x e => by subst e; exact (Gd.str h1 h2).1) hc.s
end
end Ev

/-! K1c: is_names, by the program and by the law. -/
namespace Ev
open PySem
def ltD : PyData → PyData → Bool
  | .str x, .str y => strLt x y
  | _, _ => false
def ascD (ds : List PyData) : Bool := (ds.zip ds.tail).all fun p => ltD p.1 p.2
def isNamesD : PyData → Bool
  | .tuple ds => ds.all isNameD && ascD ds
  | _ => false
theorem all_bools {st : Sto} (l : List Bool) : bfAll (.d (.list (l.map .bool))) st = .ok (.d (.bool (l.all id))) st := by
  have e : boolsOf ((l.map PyData.bool).map T.d) = some l := by
    rw [List.map_map]
    have := bools_all (fun b : Bool => b) l
    rw [List.map_id'] at this
    exact this
  show (match boolsOf ((l.map PyData.bool).map T.d) with | some bs => R.ok (T.d (.bool (bs.all id))) st | none => .bad) = _
  rw [e]
theorem name_is {x : PyData} (h : isNameD x = true) : ∃ z, x = .str z := by
  cases x <;> first | exact ⟨_, rfl⟩ | cases h
theorem cut1 {α : Type} (xs : List α) : cutL xs (some 1) none = xs.tail := by
  cases xs with
  | nil => rfl
  | cons a r =>
    unfold cutL sIx
    have : min (1 : Int).toNat (a :: r).length = 1 := by
      simp only [List.length_cons]
      show min 1 _ = 1
      omega
    simp only [show ¬ ((1 : Int) < 0) by decide, if_false, this, List.drop_succ_cons, List.drop_zero, List.tail_cons]
    rw [List.take_of_length_le]
    simp
theorem zip_map : ∀ ds es : List PyData, zipT (ds.map .d) (es.map .d) = (ds.zip es).map fun p => T.d (.tuple [p.1, p.2])
  | [], _ => by simp [zipT]
  | _ :: _, [] => by simp [zipT]
  | a :: ds, b :: es => by
    rw [List.map_cons, List.map_cons, List.zip_cons_cons, List.map_cons, ← zip_map ds es]
    rfl
theorem fm_all {α β γ : Type} (f : α → β) (g : β → Option γ) (h : α → γ) : ∀ (l : List α), (∀ a ∈ l, g (f a) = some (h a)) → (l.map f).filterMap g = l.map h
  | [], _ => rfl
  | a :: l, e => by rw [List.map_cons, List.filterMap_cons_some (e a List.mem_cons_self), fm_all f g h l fun b hb => e b (List.mem_cons_of_mem _ hb)]; rfl
theorem rng_get : ∀ (n : Nat) (lo : Int), rngT lo n = (List.range n).map fun (j : Nat) => T.d (.int (lo + (j : Int)))
  | 0, _ => rfl
  | n + 1, lo => by
    rw [rngT, rng_get n (lo + 1), List.range_succ_eq_map, List.map_cons, List.map_map]
    congr 1
    · simp
    · congr 1
      funext j
      simp only [Function.comp]
      congr 2
      omega
theorem asc_iff (ds : List PyData) : ascD ds = true ↔ ∀ (j : Nat) (a b : PyData), ds[j]? = some a → ds[j + 1]? = some b → ltD a b = true := by
  induction ds with
  | nil => simp [ascD]
  | cons x r ih =>
    cases r with
    | nil =>
      simp only [ascD, List.tail_cons, List.zip_nil_right, List.all_nil, true_iff]
      intro j a b _ h
      simp at h
    | cons y r =>
      have e : ascD (x :: y :: r) = (ltD x y && ascD (y :: r)) := rfl
      rw [e, Bool.and_eq_true, ih]
      constructor
      · rintro ⟨h1, h2⟩ j a b ha hb
        cases j with
        | zero => simp at ha hb; subst ha; subst hb; exact h1
        | succ j => exact h2 j a b (by simpa using ha) (by simpa using hb)
      · intro h
        exact ⟨h 0 x y rfl rfl, fun j a b ha hb => h (j + 1) a b (by simpa using ha) (by simpa using hb)⟩
theorem rng2_ok {st : Sto} {i j : Int} (h1 : small62 i = true) (h2 : small62 j = true) : rng2M (.d (.int i)) (.d (.int j)) st = .ok (rngT i (j - i).toNat) st := by
  unfold rng2M
  dsimp only
  rw [h1, h2]
  rfl
section
variable (wf k : Nat) {st : Sto}
theorem call_names (d : PyData) (h : Gd d) (hc : Cl st) : callF Γ wf (k + 2) 4 [.d d] st = .ok (.d (.bool (isNamesD d))) st := by
  refine w_data wf (k + 1) (f := f4) rfl rfl rfl hc ?_
  cases d with
  | tuple ds =>
    show RetS (evSsW (sN (callF Γ wf (k + 1)) wf 40) f4.body [some (.d (.tuple ds)), none, none] st) _ _
    have len := h.len
    let g : T → Option PyData := fun t => match t with
      | .d x => some (.bool (isNameD x))
      | _ => none
    have fm : (ds.map T.d).filterMap g = (ds.map isNameD).map .bool := by rw [fm_map T.d g (fun x => PyData.bool (isNameD x)) (fun _ => rfl), List.map_map]; rfl
    have tup : isM .tuple (.d (.tuple ds)) st = .ok (.d (.bool true)) st := rfl
    have items : seqM (.d (.tuple ds)) st = .ok (ds.map .d) st := rfl
    refine RetS.cons (s_ite (w_or (w_not (w_isI (w_var rfl (.of tup (w_tr ⟨false, rfl, fun _ => ?_, fun z => nomatch z⟩)))))))
    refine w_not (w_bf (w_cmp (w_seq (w_var rfl (.of items (w_comp g (fun t ht acc => ?_) (by rw [List.length_map]; exact len) ?_))))))
    · obtain ⟨x, hx, rfl⟩ := List.mem_map.mp ht
      refine Ret.eq (w_cmpF (w_tnm (w_if0 ⟨fun _ => w_call (w_es (w_var rfl (w_e0 (.of (call_name1 wf k x (h.item hx).1 (h.item hx).2.2 (hc.app (cl_lst acc))) ⟨rfl, rfl⟩)))), fun z => nomatch z⟩)))
    rw [fm]
    refine .of (all_bools _) (w_tr (w_tr ⟨fun hb => ?_, fun hb => ?_⟩))
    · refine RetS.cons (s_ret (w_bl ?_))
      have : isNamesD (.tuple ds) = false := by
        show (ds.all isNameD && ascD ds) = false
        have : ds.all isNameD = false := by simpa [List.all_map] using hb
        rw [this]; rfl
      rw [this]
      exact ⟨rfl, [none], rfl⟩
    · have all : ds.all isNameD = true := by simpa [List.all_map] using hb
      have sl : slc (.d (.tuple ds)) (some 1) none (st ++ [none]) = .ok (.d (.tuple ds.tail)) (st ++ [none]) := by
        show R.ok (mkTup (cutL (ds.map T.d) (some 1) none)) (st ++ [none]) = _
        rw [cut1, ← List.map_tail, mkTup_map]
      have zp : zipM (.d (.tuple ds)) (.d (.tuple ds.tail)) (st ++ [none]) = .ok ((ds.zip ds.tail).map fun p => T.d (.tuple [p.1, p.2])) (st ++ [none]) := by
        show R.ok (zipT (ds.map T.d) (ds.tail.map T.d)) (st ++ [none]) = _
        rw [zip_map]
      let g2 : T → Option PyData := fun t => match t with
        | .d (.tuple [a, b]) => some (.bool (ltD a b))
        | _ => none
      have fm2 : ((ds.zip ds.tail).map fun p => T.d (.tuple [p.1, p.2])).filterMap g2 = ((ds.zip ds.tail).map fun p => ltD p.1 p.2).map .bool := by
        rw [fm_map (fun p : PyData × PyData => T.d (.tuple [p.1, p.2])) g2 (fun p => PyData.bool (ltD p.1 p.2)) (fun _ => rfl), List.map_map]; rfl
      have pt : ∀ {Q : Option Int → Sto → Prop} {n : Nat} {ρ : Env} {s : Sto}, Q (some 1) s → Ret (evPtW (eN (callF Γ wf (k + 1)) (n + 1)) (.cint 1) ρ s) Q := fun h => .of rfl h
      refine RetS.nil ?_
      refine RetS.cons <| s_ret <| w_bf <| w_cmp <| w_zip <| w_var rfl <| w_slc <| w_var rfl <| pt <| w_pt0 <| .of sl <| .of zp <| w_comp g2 (fun t ht acc => ?_) ?_ ?_
      · obtain ⟨⟨a, b⟩, hp, rfl⟩ := List.mem_map.mp ht
        have m1 := List.of_mem_zip hp
        obtain ⟨x, rfl⟩ := name_is (List.all_eq_true.mp all _ m1.1)
        obtain ⟨y, rfl⟩ := name_is (List.all_eq_true.mp all _ (List.mem_of_mem_tail m1.2))
        rfl
      · rw [List.length_map, List.length_zip]
        omega
      · rw [fm2]
        refine .of (all_bools _) ⟨?_, [none, none], by simp⟩
        show T.d (.bool _) = T.d (.bool (ds.all isNameD && ascD ds))
        rw [all, List.all_map]
        rfl
  | _ => exact ⟨rfl, [], by simp⟩
theorem atI_nat {α : Type} {xs : List α} {i : Nat} {x : α} (h : xs[i]? = some x) : atI xs (i : Int) = some x := by
  have hi := (List.getElem?_eq_some_iff.mp h).1
  unfold atI ixN
  rw [if_pos (by omega), if_pos (by omega)]
  simpa using h
theorem call_set (d : PyData) (h : Gd d) (hc : Cl st) : callF Γ wf (k + 2) 11 [.d d] st = .ok (.d (.bool (isNamesD d))) st := by
  refine w_data wf (k + 1) (f := f11) rfl rfl rfl hc ?_
  cases d with
  | tuple ds =>
    show RetS (evSsW (sN (callF Γ wf (k + 1)) wf 40) f11.body [some (.d (.tuple ds)), none, none] st) _ _
    have len := h.len
    let g : T → Option PyData := fun t => match t with
      | .d x => if isNameD x then none else some x
      | _ => none
    have mem : ∀ y ∈ (ds.map T.d).filterMap g, y ∈ ds := by
      intro y hy
      obtain ⟨t, ht, hg⟩ := List.mem_filterMap.mp hy
      obtain ⟨x, hx, rfl⟩ := List.mem_map.mp ht
      have hg : (if isNameD x then none else some x) = some y := hg
      split at hg
      · cases hg
      · cases hg; exact hx
    have emp : ((ds.map T.d).filterMap g).isEmpty = ds.all isNameD := by
      clear mem h len
      induction ds with
      | nil => rfl
      | cons x ds ih =>
        rw [List.map_cons, List.all_cons]
        by_cases q : isNameD x = true
        · rw [List.filterMap_cons_none (show g (.d x) = none from if_pos q), ih, q]; rfl
        · have q' : isNameD x = false := by simpa using q
          rw [List.filterMap_cons_some (show g (.d x) = some x from if_neg q), q']; rfl
    have second : ds.all isNameD = true → RetS (evSsW (sN (callF Γ wf (k + 1)) wf 40) [f11.body.getD 1 .pass] [some (.d (.tuple ds)), none, none] (st ++ [none])) (fun _ _ => False) fun v s => v = .d (.bool (isNamesD (.tuple ds))) ∧ ∃ more, s = st ++ more := by
      intro all
      have ln : bf .len (.d (.tuple ds)) (st ++ [none]) = .ok (.d (.int ds.length)) (st ++ [none]) := by
        show R.ok (T.d (.int ((ds.map T.d).length : Nat))) (st ++ [none]) = _
        rw [List.length_map]
      have l62 : ds.length < 2 ^ 62 := by
        have : sizeLine = 16777216 := rfl
        omega
      have rg : rng2M (.d (.int 1)) (.d (.int ds.length)) (st ++ [none]) = .ok ((List.range (ds.length - 1)).map fun (j : Nat) => T.d (.int (1 + (j : Int)))) (st ++ [none]) := by
        have s2 : small62 (ds.length : Int) = true := by
          unfold small62
          rw [decide_eq_true (by omega), decide_eq_true (by omega)]
          rfl
        rw [rng2_ok (by decide) s2, rng_get]
        have : ((ds.length : Int) - 1).toNat = ds.length - 1 := by omega
        rw [this]
      let g2 : T → Option PyData := fun t => match t with
        | .d (.int i) => if ltD (ds.getD (i - 1).toNat .none) (ds.getD i.toNat .none) then none else some (.int i)
        | _ => none
      have at_ : ∀ j : Nat, j < ds.length - 1 → ∃ x y, ds[j]? = some (.str x) ∧ ds[j + 1]? = some (.str y) ∧ g2 (.d (.int (1 + (j : Int)))) = if strLt x y then none else some (.int (1 + j)) := by
        intro j hj
        obtain ⟨x, hx⟩ := name_is (List.all_eq_true.mp all ds[j] (List.getElem_mem _))
        obtain ⟨y, hy⟩ := name_is (List.all_eq_true.mp all (ds[j + 1]'(by omega)) (List.getElem_mem _))
        have h1 : ds[j]? = some (.str x) := by rw [List.getElem?_eq_getElem (by omega), hx]
        have h2 : ds[j + 1]? = some (.str y) := by rw [List.getElem?_eq_getElem (by omega), hy]
        refine ⟨x, y, h1, h2, ?_⟩
        show (if ltD (ds.getD (1 + (j : Int) - 1).toNat .none) (ds.getD (1 + (j : Int)).toNat .none) then none else some (PyData.int (1 + j))) = _
        have e1 : (1 + (j : Int) - 1).toNat = j := by omega
        have e2 : (1 + (j : Int)).toNat = j + 1 := by omega
        rw [e1, e2, List.getD_eq_getElem?_getD, List.getD_eq_getElem?_getD, h1, h2]
        rfl
      show RetS (evSsW (sN (callF Γ wf (k + 1)) wf 40) f11.body.tail _ _) _ _
      refine RetS.cons ?_
      refine s_ret ?_
      refine w_bin ?_
      refine w_cmp ?_
      refine w_rng2 ?_
      refine w_int ?_
      refine w_bf ?_
      refine w_var rfl ?_
      refine .of ln ?_
      refine .of rg ?_
      refine w_comp g2 (fun t ht acc => ?_) ?_ ?_
      · obtain ⟨j, hj, rfl⟩ := List.mem_map.mp ht
        have hj := List.mem_range.mp hj
        obtain ⟨x, y, h1, h2, h3⟩ := at_ j hj
        rw [h3]
        have i1 : ∀ s, idx (.d (.tuple ds)) (.d (.int (1 + (j : Int)))) s = .ok (.d (.str y)) s := fun s => by
          show (match atI (ds.map T.d) (1 + (j : Int)) with | some v => R.ok v s | none => .bad) = _
          have : atI (ds.map T.d) ((j + 1 : Nat) : Int) = some (.d (.str y)) := atI_nat (by rw [List.getElem?_map, h2]; rfl)
          rw [show (1 + (j : Int)) = ((j + 1 : Nat) : Int) by omega, this]
        have i2 : ∀ s, idx (.d (.tuple ds)) (.d (.int (1 + (j : Int) - 1))) s = .ok (.d (.str x)) s := fun s => by
          show (match atI (ds.map T.d) (1 + (j : Int) - 1) with | some v => R.ok v s | none => .bad) = _
          have : atI (ds.map T.d) (j : Int) = some (.d (.str x)) := atI_nat (by rw [List.getElem?_map, h1]; rfl)
          rw [show (1 + (j : Int) - 1) = (j : Int) by omega, this]
        have sb : ∀ s, bin .sub (.d (.int (1 + (j : Int)))) (.d (.int 1)) s = .ok (.d (.int (1 + (j : Int) - 1))) s := fun s => rfl
        have le : ∀ s, bin .le (.d (.str y)) (.d (.str x)) s = .ok (.d (.bool (!strLt x y))) s := fun s => rfl
        refine Ret.eq <| w_cmpF <| w_tnm <| w_if1 <| w_bin <| w_idx <| w_var rfl <| w_var rfl <| .of (i1 _) <| w_idx <| w_var rfl <| w_bin <| w_var rfl <| w_int <| .of (sb _) <| .of (i2 _) <| .of (le _) <| w_tr ⟨fun q => w_var rfl ?_, fun q => ?_⟩
        · have q : strLt x y = false := by simpa using q
          rw [q]
          exact ⟨rfl, rfl⟩
        · have q : strLt x y = true := by simpa using q
          rw [q]
          exact ⟨rfl, rfl⟩
      · rw [List.length_map, List.length_range]
        omega
      · have sh2 := shaped_of (l := ((List.range (ds.length - 1)).map fun (j : Nat) => T.d (.int (1 + (j : Int)))).filterMap g2) (fun y hy => by
            obtain ⟨t, ht, hg⟩ := List.mem_filterMap.mp hy
            obtain ⟨j, hj, rfl⟩ := List.mem_map.mp ht
            obtain ⟨x, z, h1, h2, h3⟩ := at_ j (List.mem_range.mp hj)
            rw [h3] at hg
            split at hg
            · cases hg
            · cases hg; rfl) (fun y hy => by
            obtain ⟨t, ht, hg⟩ := List.mem_filterMap.mp hy
            obtain ⟨j, hj, rfl⟩ := List.mem_map.mp ht
            obtain ⟨x, z, h1, h2, h3⟩ := at_ j (List.mem_range.mp hj)
            rw [h3] at hg
            split at hg
            · cases hg
            · cases hg; exact Nat.zero_le _)
        refine w_disp (w_e0 ⟨Nat.zero_le _, .ok (.of (eq_nil false sh2) ⟨?_, [none, none], by simp⟩)⟩)
        refine congrArg T.d (congrArg PyData.bool ?_)
        show _ = (ds.all isNameD && ascD ds)
        rw [all, Bool.false_xor, Bool.true_and, Bool.eq_iff_iff, asc_iff, List.isEmpty_iff, List.filterMap_eq_nil_iff]
        constructor
        · intro hn j a b ha hb
          have hj : j < ds.length - 1 := by
            have := (List.getElem?_eq_some_iff.mp hb).1
            omega
          obtain ⟨x, y, h1, h2, h3⟩ := at_ j hj
          have := hn _ (List.mem_map.mpr ⟨j, List.mem_range.mpr hj, rfl⟩)
          rw [h3] at this
          rw [h1] at ha
          rw [h2] at hb
          cases ha
          cases hb
          show strLt x y = true
          split at this
          · assumption
          · cases this
        · intro hn t ht
          obtain ⟨j, hj, rfl⟩ := List.mem_map.mp ht
          obtain ⟨x, y, h1, h2, h3⟩ := at_ j (List.mem_range.mp hj)
          rw [h3, if_pos (show strLt x y = true from hn j _ _ h1 h2)]
    have tup : isM .tuple (.d (.tuple ds)) st = .ok (.d (.bool true)) st := rfl
    have items : seqM (.d (.tuple ds)) st = .ok (ds.map .d) st := rfl
    refine RetS.cons (s_ite (w_or (w_not (w_isI (w_var rfl (.of tup (w_tr ⟨false, rfl, fun _ => ?_, fun z => nomatch z⟩)))))))
    refine w_bin (w_cmp (w_seq (w_var rfl (.of items (w_comp g (fun t ht acc => ?_) (by rw [List.length_map]; exact len) ?_)))))
    · obtain ⟨x, hx, rfl⟩ := List.mem_map.mp ht
      refine Ret.eq (w_cmpF (w_tnm (w_if1 (w_not (w_call (w_es (w_var rfl (w_e0 (.of (call_name2 wf k x (h.item hx).1 (h.item hx).2.2 (hc.app (cl_lst acc))) (w_tr (w_tr ⟨fun q => w_var rfl ?_, fun q => ?_⟩)))))))))))
      · have q : isNameD x = false := by simpa using q
        have : g (.d x) = some x := if_neg (by rw [q]; decide)
        rw [this]
        exact ⟨rfl, rfl⟩
      · have q : isNameD x = true := by simpa using q
        have : g (.d x) = none := if_pos q
        rw [this]
        exact ⟨rfl, rfl⟩
    have sh := shaped_of (l := (ds.map T.d).filterMap g) (fun y hy => (h.item (mem y hy)).1) fun y hy => (h.item (mem y hy)).2.1
    refine w_disp (w_e0 ⟨Nat.zero_le _, .ok (.of (eq_nil true sh) ?_)⟩)
    rw [emp]
    refine w_tr ⟨fun hb => ?_, fun hb => ?_⟩
    · refine RetS.cons (s_ret (w_bl ?_))
      have : isNamesD (.tuple ds) = false := by
        show (ds.all isNameD && ascD ds) = false
        have : ds.all isNameD = false := by simpa using hb
        rw [this]; rfl
      rw [this]
      exact ⟨rfl, [none], rfl⟩
    · exact RetS.nil (second (by simpa using hb))
  | _ => exact ⟨rfl, [], by simp⟩
end
end Ev

/-! K1d: _law_is_right says True of all data that can be shown. -/
namespace Ev
open PySem
def four (d : PyData) : PyData := .list [.bool (isIntD d), .bool (isNumD d), .bool (isNameD d), .bool (isNamesD d)]
theorem four_ok : ∀ a b c e : Bool, reprOk (.list [.list [.bool a, .bool b, .bool c, .bool e], .list [.bool a, .bool b, .bool c, .bool e]]) = true := by decide
theorem strEq_self (x : Str) : strEq x x = true := by rw [strEq_iff]; simp
theorem repr_ok {d : PyData} {st : Sto} (h : Gd d) : bf .repr (.d d) st = .ok (.d (.str d.shown)) st := by
  show (if reprOk d = true then R.ok (T.d (.str d.shown)) st else .bad) = _
  rw [if_pos (show reprOk d = true from h)]
section
variable (wf k : Nat) {st : Sto}
theorem call_right (d : PyData) (h : Gd d) (hc : Cl st) : callF Γ wf (k + 3) 14 [.d d] st = .ok (.d (.bool true)) st := by
  refine w_data wf (k + 2) (f := f14) rfl rfl rfl hc ?_
  show RetS (evSsW (sN (callF Γ wf (k + 2)) wf 40) f14.body [some (.d d), none, none, none, none] st) _ _
  obtain ⟨h1, h2, h3, h4⟩ := h.p
  have c9 := call_num2 wf (k + 1) d hc.s
  have c10 := call_name2 wf (k + 1) d h1 h4 hc
  have c11 := call_set wf k d h hc
  have c1 := call_int wf (k + 1) d hc.s
  have c2 := call_num wf k d hc.s
  have c3 := call_name1 wf (k + 1) d h1 h4 hc
  have c4 := call_names wf k d h hc
  have i0 : ∀ (n : Nat) (e1 e2 e3 e4 : Option T), eN (callF Γ wf (k + 2)) (n + 4) (.and (.isI (.var 0) .int) (.not (.isI (.var 0) .bool))) [some (.d d), e1, e2, e3, e4] st = .ok (.d (.bool (isIntD d))) st := by
    intro n e1 e2 e3 e4
    cases d <;> rfl
  have ad : bin .add (.d (.list [.bool (isIntD d), .bool (isNumD d)])) (.d (.list [.bool (isNameD d), .bool (isNamesD d)])) st = .ok (.d (four d)) st := rfl
  have sz : ∀ n : Nat, n ≤ 8 → n ≤ sizeLine := fun n hn => Nat.le_trans hn (by decide)
  refine RetS.cons <| s_nm <| w_bf <| w_var rfl <| .of (repr_ok h) ?_
  refine RetS.cons <| s_nm <| w_disp <| w_es <| .of (i0 _ _ _ _ _) <| w_es <| w_call <| w_es <| w_var rfl <| w_e0 <| .of c9 <| w_e0 ⟨sz _ (by simp), ?_⟩
  refine .ok ?_
  refine RetS.cons <| s_nm <| w_bin <| w_var rfl <| w_disp <| w_es <| w_call <| w_es <| w_var rfl <| w_e0 <| .of c10 <| w_es <| w_call <| w_es <| w_var rfl <| w_e0 <| .of c11 <| w_e0 ⟨sz _ (by simp), ?_⟩
  refine .ok <| .of ad ?_
  refine RetS.cons <| s_nm <| w_disp <| w_es <| w_call <| w_es <| w_var rfl <| w_e0 <| .of c1 <| w_es <| w_call <| w_es <| w_var rfl <| w_e0 <| .of c2 <| w_es <| w_call <| w_es <| w_var rfl <| w_e0 <| .of c3 <| w_es <| w_call <| w_es <| w_var rfl <| w_e0 <| .of c4 <| w_e0 ⟨sz _ (by simp), ?_⟩
  refine .ok ?_
  refine RetS.cons <| s_nm <| w_disp <| w_es <| w_callK <| w_e0 <| w_es <| w_var rfl <| w_e0 <| .of c1 <| w_es <| w_callK <| w_e0 <| w_es <| w_var rfl <| w_e0 <| .of c2 <| w_es <| w_callK <| w_e0 <| w_es <| w_var rfl <| w_e0 <| .of c3 <| w_es <| w_callK <| w_e0 <| w_es <| w_var rfl <| w_e0 <| .of c4 <| w_e0 ⟨sz _ (by simp), ?_⟩
  refine .ok ?_
  have g2 : Gd (.list [four d, four d]) := four_ok _ _ _ _
  have same : ∀ x : Str, bin .eq (.d (.str x)) (.d (.str x)) st = .ok (.d (.bool true)) st := fun x => by
    show R.ok (T.d (.bool (xor false (strEq x x)))) st = _
    rw [strEq_self]
    rfl
  refine RetS.cons <| s_ret <| w_and <| w_bin <| w_bf <| w_disp <| w_es <| w_var rfl <| w_es <| w_var rfl <| w_e0 ⟨sz _ (by simp), ?_⟩
  refine .ok ?_
  refine .of (repr_ok g2) <| w_bf <| w_disp <| w_es <| w_var rfl <| w_es <| w_var rfl <| w_e0 ⟨sz _ (by simp), ?_⟩
  refine .ok ?_
  refine .of (repr_ok g2) <| .of (same _) ⟨true, rfl, fun _ => ?_, fun z => nomatch z⟩
  exact w_bin <| w_bf <| w_var rfl <| .of (repr_ok h) <| w_var rfl <| .of (same _) ⟨rfl, [], by simp⟩
end
end Ev

/-! K1e: what is drawn: strange values, spoilt ones. -/
namespace Ev
open PySem
def oddA : List PyData := [.none, .bool true, .bool false, .int (0), .int (1), .int (2), .int (-1), .int (100000000000000000000000000000000000000000000000000000000000), .str ⟨#[]⟩, .str ⟨#[97]⟩, .str ⟨#[65]⟩, .str ⟨#[97, 32, 98]⟩, .str ⟨#[97, 98, 99, 100, 101, 102, 103, 104, 105]⟩, .str ⟨#[97, 49]⟩, .str ⟨#[110, 111, 110, 101]⟩, .tuple [], .list [], .tuple [.int (0)]]
def oddB : List PyData := [.list [.str ⟨#[97]⟩], .tuple [.str ⟨#[97]⟩], .tuple [.str ⟨#[97]⟩, .str ⟨#[98]⟩], .tuple [.str ⟨#[98]⟩, .str ⟨#[97]⟩], .tuple [.str ⟨#[97]⟩, .str ⟨#[97]⟩], .tuple [.str ⟨#[97]⟩, .int (1)], .list [.str ⟨#[97]⟩, .int (1)], .tuple [.str ⟨#[97]⟩, .bool true], .tuple [.tuple [.str ⟨#[97]⟩, .int (1)]]]
def oddC : List PyData := [.tuple [.str ⟨#[97]⟩, .int (0)], .tuple [.int (1), .str ⟨#[97]⟩], .tuple [.str ⟨#[115, 101, 108, 108]⟩, .str ⟨#[97]⟩], .tuple [.str ⟨#[97, 112, 97, 114, 116]⟩, .str ⟨#[97]⟩], .tuple [.str ⟨#[97]⟩, .tuple [.str ⟨#[97]⟩, .str ⟨#[98]⟩]], .tuple [.tuple []], .str ⟨#[112, 97, 114, 116]⟩]
def conA : List PyData := [.none, .bool true, .bool false, .int (0), .int (1), .int (-1), .int (7), .int (100000000000000000000000000000000000000000000000000000000000), .int (-10000000000000000000000000000000000000000000000000000000000), .str ⟨#[]⟩, .str ⟨#[97]⟩, .str ⟨#[122]⟩, .str ⟨#[97, 98, 99, 100, 101, 102, 103, 104]⟩, .str ⟨#[97, 98, 99, 100, 101, 102, 103, 104, 105]⟩, .str ⟨#[65]⟩, .str ⟨#[97, 66]⟩]
def conB : List PyData := [.str ⟨#[97, 49]⟩, .str ⟨#[49]⟩, .str ⟨#[32, 97]⟩, .str ⟨#[97, 32]⟩, .str ⟨#[97, 32, 98]⟩, .str ⟨#[45]⟩, .str ⟨#[97, 45, 98]⟩, .str ⟨#[110, 111, 110, 101]⟩, .str ⟨#[116, 114, 117, 101]⟩, .tuple [], .list [], .tuple [.tuple []], .tuple [.str ⟨#[97]⟩], .list [.str ⟨#[97]⟩], .tuple [.str ⟨#[65]⟩]]
def conC : List PyData := [.tuple [.str ⟨#[]⟩], .tuple [.str ⟨#[97]⟩, .str ⟨#[98]⟩], .tuple [.str ⟨#[98]⟩, .str ⟨#[97]⟩], .tuple [.str ⟨#[97]⟩, .str ⟨#[97]⟩], .tuple [.str ⟨#[97]⟩, .str ⟨#[97, 98]⟩], .tuple [.str ⟨#[97, 98]⟩, .str ⟨#[97]⟩], .tuple [.str ⟨#[98]⟩, .str ⟨#[97, 97]⟩], .tuple [.str ⟨#[97, 97]⟩, .str ⟨#[98]⟩]]
def conD : List PyData := [.tuple [.str ⟨#[97]⟩, .none], .tuple [.str ⟨#[97]⟩, .int (1)], .tuple [.int (1)], .tuple [.bool true], .tuple [.tuple [.str ⟨#[97]⟩]], .tuple [.str ⟨#[97]⟩, .str ⟨#[98]⟩, .str ⟨#[98]⟩], .tuple [.str ⟨#[97]⟩, .str ⟨#[99]⟩, .str ⟨#[98]⟩], .tuple [.str ⟨#[97, 98, 99, 100, 101, 102, 103, 104, 105]⟩]]
/-- small data -/
def smB (x : PyData) : Bool := x.canLay0 && x.showable && decide (x.depth ≤ 8) && decide (wt x ≤ 4000)
def Sm (x : PyData) : Prop := smB x = true
theorem Sm.p {x : PyData} (h : Sm x) : x.canLay0 = true ∧ x.showable = true ∧ x.depth ≤ 8 ∧ wt x ≤ 4000 := by
  unfold Sm smB at h
  simp only [Bool.and_eq_true, decide_eq_true_eq] at h
  exact ⟨h.1.1.1, h.1.1.2, h.1.2, h.2⟩
theorem Gd.mk {x : PyData} (h1 : x.canLay0 = true) (h2 : x.showable = true) (h3 : x.depth ≤ 64) (h4 : wt x ≤ sizeLine) : Gd x := by
  unfold Gd reprOk
  rw [h1, h2, decide_eq_true h3, decide_eq_true h4]
  rfl
theorem line_big : 1000000 ≤ sizeLine := by decide
theorem Sm.gd {x : PyData} (h : Sm x) : Gd x := by
  obtain ⟨h1, h2, h3, h4⟩ := h.p
  have := line_big
  exact .mk h1 h2 (by omega) (by omega)
theorem show_all : ∀ {ds : List PyData}, (∀ x ∈ ds, x.showable = true) → PyData.showableAll ds = true
  | [], _ => rfl
  | x :: ds, h => by
    rw [PyData.showableAll, h x List.mem_cons_self, show_all fun y hy => h y (List.mem_cons_of_mem _ hy)]
    rfl
theorem wts_le {n : Nat} : ∀ {ds : List PyData}, (∀ x ∈ ds, wt x ≤ n) → wts ds ≤ ds.length * (n + 2)
  | [], _ => by simp [wts]
  | x :: ds, h => by
    rw [wts, List.length_cons, Nat.succ_mul]
    have a := h x List.mem_cons_self
    have b := wts_le fun y hy => h y (List.mem_cons_of_mem x hy)
    omega
theorem gd_all {ds : List PyData} (h : ∀ x ∈ ds, Sm x) (hl : ds.length ≤ 100) : Gd (.tuple ds) ∧ Gd (.list ds) := by
  have a1 := lay_all fun x hx => (h x hx).p.1
  have a2 := show_all fun x hx => (h x hx).p.2.1
  have a3 := dep_all fun x hx => (h x hx).p.2.2.1
  have a4 := wts_le fun x hx => (h x hx).p.2.2.2
  have : ds.length * (4000 + 2) ≤ 100 * (4000 + 2) := Nat.mul_le_mul_right _ hl
  have := line_big
  exact ⟨.mk (by rw [PyData.canLay0]; exact a1) (by rw [PyData.showable]; exact a2) (by rw [PyData.depth]; omega) (by rw [wt]; omega), .mk (by rw [PyData.canLay0]; exact a1) (by rw [PyData.showable]; exact a2) (by rw [PyData.depth]; omega) (by rw [wt]; omega)⟩
/-- a name that is drawn -/
def Nm (x : PyData) : Prop := ∃ z : Str, x = .str z ∧ PyData.strOk z = true ∧ z.length ≤ 20
theorem Nm.sm {x : PyData} (h : Nm x) : Sm x := by
  obtain ⟨z, rfl, h1, h2⟩ := h
  unfold Sm smB
  rw [PyData.canLay0, PyData.showable, PyData.depth, wt, h1, decide_eq_true (by omega), decide_eq_true (by omega)]
  rfl
section
variable (wf k : Nat) {st r : Sto}
theorem w_draw {n : Int} {Q : T → Sto → Prop} (hf : FeedAt st r) (hc : Cl r) (h1 : 0 < n) (h2 : n < 1000) (q : ∀ (i : Int) (s : Sto), 0 ≤ i → i < n → FeedAt s r → Q (.d (.int i)) s) : Ret (callF Γ wf (k + 1) 6 [.ref 0, .d (.int n)] st) Q := by
  obtain ⟨i, s, a, b, c, d⟩ := draw_call wf k n hf hc.c h1 (by omega)
  exact .of d (q i s a b c)
/-- a def that draws and gives data -/
theorem w_drawn {g : Nat} {f : Fn} {vs : List T} {Q : T → Sto → Prop} (P : PyData → Prop) (hΓ : Γ g = some f) (hk : f.keep = false) (hl : vs.length = f.np) (hf : FeedAt st r) (hc : Cl r)
    (h : RetS (evSsW (sN (callF Γ wf k) wf 40) f.body (startE f vs) st) (fun _ _ => False) fun v s => ∃ x more, fz (r.length + 1) s 9 v = some (.d x) ∧ P x ∧ FeedAt s (r ++ more)) (q : ∀ (x : PyData) (s : Sto), P x → FeedAt s r → Q (.d x) s) : Ret (callF Γ wf (k + 1) g vs st) Q := by
  have e : callF Γ wf (k + 1) g vs st = runF (callF Γ wf k) wf f vs st := by
    show (match Γ g with | some f => runF (callF Γ wf k) wf f vs | none => fun _ => .bad) st = _
    rw [hΓ]
  rw [e]
  refine w_run hk hl (h.mono (fun _ _ z => z.elim) fun v s ⟨x, more, e1, px, e2⟩ => ?_)
  rw [hf.len]
  exact leave_f e2 hc e1 fun s' h => q x s' px h
theorem atI_in {α : Type} {xs : List α} {i : Int} (h1 : 0 ≤ i) (h2 : i < xs.length) : ∃ x, atI xs i = some x ∧ x ∈ xs ∧ xs[i.toNat]? = some x := by
  have hn : i.toNat < xs.length := by omega
  refine ⟨xs[i.toNat], ?_, List.getElem_mem hn, List.getElem?_eq_getElem hn⟩
  unfold atI ixN
  rw [if_pos h1, if_pos h2]
  exact List.getElem?_eq_getElem hn
theorem idx_seq {v : T} {xs : List PyData} {i : Int} {st : Sto} (hs : seqOf st v = some (xs.map .d)) (hd : dctOf st v = none) (hn : ∀ z, v ≠ .d (.str z)) (h1 : 0 ≤ i) (h2 : i < xs.length) : ∃ x ∈ xs, idx v (.d (.int i)) st = .ok (.d x) st := by
  obtain ⟨t, e1, e2, _⟩ := atI_in (xs := xs.map T.d) h1 (by rw [List.length_map]; exact h2)
  obtain ⟨x, hx, rfl⟩ := List.mem_map.mp e2
  refine ⟨x, hx, ?_⟩
  have : idx v (.d (.int i)) st = (match dctOf st v, toKy (.d (.int i)) with
    | some kvs, some k => (match dGet k kvs with
      | some v => .ok v st
      | none => .bad)
    | _, _ => match seqOf st v, T.d (.int i) with
      | some xs, .d (.int k) => (match atI xs k with
        | some v => .ok v st
        | none => .bad)
      | _, _ => .bad) := by
    unfold idx
    split
    · exact absurd rfl (hn _)
    · rfl
  rw [this, hd, hs]
  show (match atI (xs.map T.d) i with | some v => R.ok v st | none => .bad) = _
  rw [e1]
theorem w_any {xs : List PyData} {Q : T → Sto → Prop} (hx : 0 < xs.length) (hx2 : xs.length < 1000) (hf : FeedAt st r) (hc : Cl r) (q : ∀ x ∈ xs, ∀ s : Sto, FeedAt s r → Q (.d x) s) : Ret (callF Γ wf (k + 2) 7 [.ref 0, .d (.list xs)] st) Q := by
  refine w_drawn wf (k + 1) (f := f7) (fun x => x ∈ xs) rfl rfl rfl hf hc ?_ fun x s h1 h2 => q x h1 s h2
  show RetS (evSsW (sN (callF Γ wf (k + 1)) wf 40) f7.body [some (.ref 0), some (.d (.list xs))] st) _ _
  have ln : bf .len (.d (.list xs)) st = .ok (.d (.int xs.length)) st := by
    show R.ok (T.d (.int ((xs.map T.d).length : Nat))) st = _
    rw [List.length_map]
  refine RetS.cons <| s_ret <| w_idx <| w_var rfl <| w_call <| w_es <| w_var rfl <| w_es <| w_bf <| w_var rfl <| .of ln <| w_e0 ?_
  refine w_draw wf k hf hc (by omega) (by omega) fun i s h1 h2 f2 => ?_
  obtain ⟨x, m, e⟩ := idx_seq (v := .d (.list xs)) (st := s) rfl rfl nofun h1 h2
  exact .of e ⟨x, [], rfl, m, by rw [List.append_nil]; exact f2⟩
theorem odd_sm : ∀ x ∈ oddA ++ oddB ++ oddC, Sm x := by
  have h : ((oddA ++ oddB ++ oddC).all smB) = true := by decide +kernel
  exact fun x hx => List.all_eq_true.mp h x hx
theorem w_strange {Q : T → Sto → Prop} (hf : FeedAt st r) (hc : Cl r) (q : ∀ (x : PyData) (s : Sto), Sm x → FeedAt s r → Q (.d x) s) : Ret (callF Γ wf (k + 3) 12 [.ref 0] st) Q := by
  refine w_drawn wf (k + 2) (f := f12) Sm rfl rfl rfl hf hc ?_ q
  show RetS (evSsW (sN (callF Γ wf (k + 2)) wf 40) f12.body [some (.ref 0), none] st) _ _
  have e1 : ∀ e2 : Option T, eN (callF Γ wf (k + 2)) 40 ((match f12.body with | .asg _ e :: _ => e | _ => .cnon)) [some (.ref 0), e2] st = .ok (.d (.list oddA)) st := fun _ => rfl
  have e2 : eN (callF Γ wf (k + 2)) 40 ((match f12.body with | _ :: .asg _ e :: _ => e | _ => .cnon)) [some (.ref 0), some (.d (.list oddA))] st = .ok (.d (.list (oddA ++ oddB))) st := rfl
  have e3 : eN (callF Γ wf (k + 2)) 39 ((match f12.body with | _ :: _ :: .ret (.call _ (_ :: e :: _)) :: _ => e | _ => .cnon)) [some (.ref 0), some (.d (.list (oddA ++ oddB)))] st = .ok (.d (.list (oddA ++ oddB ++ oddC))) st := rfl
  refine RetS.cons <| s_nm <| .of (e1 _) ?_
  refine RetS.cons <| s_nm <| .of e2 ?_
  refine RetS.cons <| s_ret <| w_call <| w_es <| w_var rfl <| w_es <| .of e3 <| w_e0 ?_
  exact w_any wf k (by decide) (by decide) hf hc fun x hx s f2 => ⟨x, [], rfl, odd_sm x hx, by rw [List.append_nil]; exact f2⟩
/-! ### slices -/
theorem cut_map {α β : Type} (f : α → β) (xs : List α) (lo hi : Option Int) : cutL (xs.map f) lo hi = (cutL xs lo hi).map f := by
  unfold cutL
  rw [List.length_map, List.map_take, List.map_drop]
theorem cut_mem {α : Type} {xs : List α} {lo hi : Option Int} {x : α} (h : x ∈ cutL xs lo hi) : x ∈ xs := List.mem_of_mem_drop (List.mem_of_mem_take h)
theorem cut_len {α : Type} (xs : List α) (lo hi : Option Int) : (cutL xs lo hi).length ≤ xs.length := by
  unfold cutL
  rw [List.length_take, List.length_drop]
  omega
/-- a tuple of small data -/
def Tu (n : Nat) (v : T) : Prop := ∃ es, v = .d (.tuple es) ∧ (∀ x ∈ es, Sm x) ∧ es.length ≤ n
theorem slc_tu {n : Nat} {v : T} {lo hi : Option Int} {st : Sto} {Q : T → Sto → Prop} (h : Tu n v) (q : ∀ v, Tu n v → Q v st) : Ret (slc v lo hi st) Q := by
  obtain ⟨es, rfl, h1, h2⟩ := h
  refine .of (a := .d (.tuple (cutL es lo hi))) (st' := st) ?_ (q _ ⟨_, rfl, fun x hx => h1 x (cut_mem hx), Nat.le_trans (cut_len _ _ _) h2⟩)
  show R.ok (mkTup (cutL (es.map T.d) lo hi)) st = _
  rw [cut_map, mkTup_map]
theorem rev_tu {n : Nat} {v : T} {st : Sto} {Q : T → Sto → Prop} (h : Tu n v) (q : ∀ v, Tu n v → Q v st) : Ret (rev v st) Q := by
  obtain ⟨es, rfl, h1, h2⟩ := h
  refine .of (a := .d (.tuple es.reverse)) (st' := st) ?_ (q _ ⟨_, rfl, fun x hx => h1 x (List.mem_reverse.mp hx), by rw [List.length_reverse]; exact h2⟩)
  show R.ok (mkTup (es.map T.d).reverse) st = _
  rw [← List.map_reverse, mkTup_map]
theorem add_tu {n m : Nat} {v u : T} {st : Sto} {Q : T → Sto → Prop} (h : Tu n v) (h' : Tu m u) (hz : n + m ≤ 1000) (q : ∀ v, Tu (n + m) v → Q v st) : Ret (bin .add v u st) Q := by
  obtain ⟨es, rfl, h1, h2⟩ := h
  obtain ⟨fs, rfl, h3, h4⟩ := h'
  refine .of (a := .d (.tuple (es ++ fs))) (st' := st) ?_ (q _ ⟨_, rfl, fun x hx => (List.mem_append.mp hx).elim (h1 x) (h3 x), by rw [List.length_append]; omega⟩)
  show (if (es.map T.d).length + (fs.map T.d).length ≤ sizeLine then R.ok (mkTup (es.map T.d ++ fs.map T.d)) st else .bad) = _
  have := line_big
  rw [if_pos (by rw [List.length_map, List.length_map]; omega), ← List.map_append, mkTup_map]
theorem tup_one {x : PyData} {st : Sto} {Q : T → Sto → Prop} (h : Sm x) (q : ∀ v, Tu 1 v → Q v st) : Ret (tupM [.d x] st) Q := .of rfl (q (.d (.tuple [x])) ⟨[x], rfl, fun y hy => by rw [List.mem_singleton.mp hy]; exact h, Nat.le_refl _⟩)
theorem w_pti {C : Nat → List T → M T} {n i : Nat} {ρ : Env} {j : Int} {st : Sto} {Q : Option Int → Sto → Prop} (e : ρ[i]? = some (some (.d (.int j)))) (h : Q (some j) st) : Ret (evPtW (eN C (n + 1)) (.var i) ρ st) Q :=
  Ret.bind (w_var e (.of rfl h))
theorem w_ptj {C : Nat → List T → M T} {n i : Nat} {ρ : Env} {j m : Int} {st : Sto} {Q : Option Int → Sto → Prop} (e : ρ[i]? = some (some (.d (.int j)))) (h : Q (some (j + m)) st) : Ret (evPtW (eN C (n + 2)) (.bin .add (.var i) (.cint m)) ρ st) Q :=
  Ret.bind (w_bin (w_var e (w_int (.of rfl (.of rfl h)))))
section
variable (wf k : Nat) {st r : Sto}
/-- what a text is spoilt to -/
theorem spoil_str {x : Str} {Q : T → Sto → Prop} (hf : FeedAt st r) (hc : Cl r) (q : ∀ (y : PyData) (s : Sto), Sm y → FeedAt s r → Q (.d y) s) : Ret (callF Γ wf (k + 4) 13 [.ref 0, .d (.str x)] st) Q := by
  refine w_drawn wf (k + 3) (f := f13) Sm rfl rfl rfl hf hc ?_ q
  show RetS (evSsW (sN (callF Γ wf (k + 3)) wf 40) f13.body [some (.ref 0), some (.d (.str x)), none, none, none, none] st) _ _
  refine RetS.cons <| s_ite <| w_and <| w_isI <| w_var rfl <| .of rfl ⟨false, rfl, nofun, fun _ => w_tr ⟨nofun, fun _ => .nil ?_⟩⟩
  refine RetS.cons <| s_par <| w_call <| w_es <| w_var rfl <| w_es <| w_int <| w_e0 ?_
  refine w_draw wf (k + 2) hf hc (by decide) (by decide) fun i s h1 h2 f2 => ?_
  refine w_call <| w_es <| w_var rfl <| w_e0 <| w_strange wf k f2 hc fun y s2 hy f3 => ?_
  refine RetS.cons <| s_ite <| w_and <| w_isI <| w_var rfl <| .of rfl ⟨false, rfl, nofun, fun _ => w_tr ⟨nofun, fun _ => .nil ?_⟩⟩
  refine RetS.cons <| s_ite <| w_and <| w_isI <| w_var rfl <| .of rfl ⟨false, rfl, nofun, fun _ => w_tr ⟨nofun, fun _ => .nil ?_⟩⟩
  exact RetS.cons <| s_ret <| w_var rfl ⟨y, [], rfl, hy, by rw [List.append_nil]; exact f3⟩
theorem gt_ok (i j : Int) (st : Sto) : bin .gt (.d (.int i)) (.d (.int j)) st = .ok (.d (.bool (decide (j < i)))) st := rfl
theorem lt_ok (i j : Int) (st : Sto) : bin .lt (.d (.int i)) (.d (.int j)) st = .ok (.d (.bool (decide (i < j)))) st := rfl
theorem len_tup (ds : List PyData) (st : Sto) : bf .len (.d (.tuple ds)) st = .ok (.d (.int ds.length)) st := by
  show R.ok (T.d (.int ((ds.map T.d).length : Nat))) st = _
  rw [List.length_map]
theorem eqi_ok (i j : Int) (st : Sto) : bin .eq (.d (.int i)) (.d (.int j)) st = .ok (.d (.bool (PyData.eqv (.int i) (.int j)))) st := by
  show R.ok (T.d (.bool (xor false (PyData.eqv (.int i) (.int j))))) st = _
  rw [Bool.false_xor]
theorem spoil_tup {ds : List PyData} {Q : T → Sto → Prop} (hd : ∀ x ∈ ds, Nm x) (hl : 0 < ds.length) (hl2 : ds.length ≤ 10) (hf : FeedAt st r) (hc : Cl r) (q : ∀ (y : PyData) (s : Sto), Gd y → FeedAt s r → Q (.d y) s) : Ret (callF Γ wf (k + 5) 13 [.ref 0, .d (.tuple ds)] st) Q := by
  refine w_drawn wf (k + 4) (f := f13) Gd rfl rfl rfl hf hc ?_ q
  show RetS (evSsW (sN (callF Γ wf (k + 4)) wf 40) f13.body [some (.ref 0), some (.d (.tuple ds)), none, none, none, none] st) _ _
  have tu : Tu 10 (.d (.tuple ds)) := ⟨ds, rfl, fun x hx => (hd x hx).sm, hl2⟩
  have fin : ∀ {n : Nat} {v : T}, Tu n v → n ≤ 100 → ∃ y, v = .d y ∧ Gd y := fun {n v} h hn => by
    obtain ⟨es, rfl, h1, h2⟩ := h
    exact ⟨_, rfl, (gd_all h1 (by omega)).1⟩
  -- behind the first test
  have rest : ∀ (s : Sto), FeedAt s r → RetS (evSsW (sN (callF Γ wf (k + 4)) wf 40) f13.body.tail [some (.ref 0), some (.d (.tuple ds)), none, none, none, none] s) (fun _ _ => False) fun v s => ∃ x more, fz (r.length + 1) s 9 v = some (.d x) ∧ Gd x ∧ FeedAt s (r ++ more) := by
    intro s fs
    refine RetS.cons <| s_par <| w_call <| w_es <| w_var rfl <| w_es <| w_int <| w_e0 ?_
    refine w_draw wf (k + 3) fs hc (by decide) (by decide) fun i s h1 h2 f2 => ?_
    refine w_call <| w_es <| w_var rfl <| w_e0 <| w_strange wf (k + 1) f2 hc fun y s2 hy f3 => ?_
    refine RetS.cons <| s_ite <| w_and <| w_isI <| w_var rfl <| .of rfl ⟨true, rfl, fun _ => ?_, nofun⟩
    refine w_bin <| w_var rfl <| w_int <| .of (lt_ok _ _ _) <| w_tr ⟨fun hi => ?_, fun _ => .nil ?_⟩
    · have hi : i < 5 := of_decide_eq_true hi
      refine RetS.cons <| s_nm <| w_call <| w_es <| w_var rfl <| w_es <| w_bin <| w_bf <| w_var rfl <| .of (len_tup _ _) <| w_int <| .of rfl <| w_e0 ?_
      refine w_draw wf (k + 3) f3 hc (by omega) (by omega) fun j s3 j1 j2 f4 => ?_
      refine RetS.cons <| s_nm <| w_disp <| w_es <| w_bin <| w_slc <| w_var rfl <| w_pt0 <| w_pti rfl <| slc_tu tu fun v1 t1 => ?_
      refine w_slc <| w_var rfl <| w_ptj rfl <| w_pt0 <| slc_tu tu fun v2 t2 => add_tu t1 t2 (by decide) fun va ta => ?_
      refine w_es <| w_bin <| w_bin <| w_slc <| w_var rfl <| w_pt0 <| w_pti rfl <| slc_tu tu fun v1 t1 => ?_
      refine w_slc <| w_var rfl <| w_pti rfl <| w_ptj rfl <| slc_tu tu fun v2 t2 => add_tu t1 t2 (by decide) fun v3 t3 => ?_
      refine w_slc <| w_var rfl <| w_pti rfl <| w_pt0 <| slc_tu tu fun v4 t4 => add_tu t3 t4 (by decide) fun vb tb => ?_
      refine w_es <| w_bin <| w_bin <| w_slc <| w_var rfl <| w_pt0 <| w_pti rfl <| slc_tu tu fun v1 t1 => ?_
      refine w_tup <| w_es <| w_var rfl <| w_e0 <| tup_one hy fun v2 t2 => add_tu t1 t2 (by decide) fun v3 t3 => ?_
      refine w_slc <| w_var rfl <| w_pti rfl <| w_pt0 <| slc_tu tu fun v4 t4 => add_tu t3 t4 (by decide) fun vc tc => ?_
      refine w_e0 ⟨Nat.le_trans (by simp : _ ≤ 3) (by decide), .ok ?_⟩
      obtain ⟨a, rfl, a1, a2⟩ := ta
      obtain ⟨b, rfl, b1, b2⟩ := tb
      obtain ⟨c, rfl, c1, c2⟩ := tc
      have isr : ∀ xs : List T, recvOk .append (s3 ++ [some (.lst xs)]) (.ref s3.length) = true := fun xs => by
        show (match (s3 ++ [some (.lst xs)])[s3.length]? with | some (some (.lst _)) => true | _ => false) = true
        rw [cell_get]
      refine RetS.cons <| s_ex <| w_mt <| w_var rfl ⟨isr _, ?_⟩
      refine w_bin <| w_bin <| w_slc <| w_var rfl <| w_pt0 <| w_pti rfl <| slc_tu tu fun v1 t1 => ?_
      refine w_rev <| w_slc <| w_var rfl <| w_pti rfl <| w_ptj rfl <| slc_tu tu fun v2 t2 => rev_tu t2 fun v2 t2 => add_tu t1 t2 (by decide) fun v3 t3 => ?_
      refine w_slc <| w_var rfl <| w_ptj rfl <| w_pt0 <| slc_tu tu fun v4 t4 => add_tu t3 t4 (by decide) fun vd td => ?_
      obtain ⟨d, rfl, d1, d2⟩ := td
      have app : mt .append (.ref s3.length) (.d (.tuple d)) (s3 ++ [some (.lst [.d (.tuple a), .d (.tuple b), .d (.tuple c)])]) = .ok (.d .none) (s3 ++ [some (.lst ([PyData.tuple a, .tuple b, .tuple c, .tuple d].map .d))]) := by
        show (match (s3 ++ [some (O.lst [T.d (.tuple a), T.d (.tuple b), T.d (.tuple c)])])[s3.length]? with | some (some (.lst xs)) => (if xs.length < sizeLine then R.ok (T.d .none) ((s3 ++ [some (O.lst [T.d (.tuple a), T.d (.tuple b), T.d (.tuple c)])]).set s3.length (some (.lst (xs ++ [T.d (.tuple d)])))) else .bad) | _ => .bad) = _
        rw [cell_get]
        show (if [T.d (.tuple a), T.d (.tuple b), T.d (.tuple c)].length < sizeLine then _ else _) = _
        rw [if_pos (Nat.lt_of_le_of_lt (by simp : _ ≤ 3) (by decide)), cell_set]
        rfl
      refine .of app ?_
      have four : ∀ x ∈ [PyData.tuple a, .tuple b, .tuple c, .tuple d], Gd x := by
        intro x hx
        simp only [List.mem_cons, List.not_mem_nil, or_false] at hx
        rcases hx with rfl | rfl | rfl | rfl
        · exact (gd_all a1 (by omega)).1
        · exact (gd_all b1 (by omega)).1
        · exact (gd_all c1 (by omega)).1
        · exact (gd_all d1 (by omega)).1
      have f5 := f4.app [some (.lst ([PyData.tuple a, .tuple b, .tuple c, .tuple d].map .d))]
      refine RetS.cons <| s_ret <| w_ite <| w_bin <| w_var rfl <| w_int <| .of (eqi_ok _ _ _) <| w_tr ⟨fun _ => ?_, fun hi4 => ?_⟩
      · have cp : ∀ s : Sto, ofM (.d (.tuple ds)) s = .ok (ds.map .d) s := fun s => rfl
        refine w_of <| w_var rfl <| .of (cp _) <| .of (a := .d (.list ds)) ?_ ⟨.list ds, _, rfl, (gd_all (fun x hx => (hd x hx).sm) (by omega)).2, f5⟩
        show R.ok (mkLst (ds.map T.d)) _ = _
        rw [mkLst_map]
      · have ne : i ≠ 4 := fun e => by
          subst e
          cases hi4
        have sq : seqOf (s3 ++ [some (.lst ([PyData.tuple a, .tuple b, .tuple c, .tuple d].map .d))]) (.ref s3.length) = some ([PyData.tuple a, .tuple b, .tuple c, .tuple d].map .d) := by
          show (match (s3 ++ [some (O.lst ([PyData.tuple a, .tuple b, .tuple c, .tuple d].map .d))])[s3.length]? with | some (some (.lst xs)) => some xs | _ => none) = _
          rw [cell_get]
        have nd : dctOf (s3 ++ [some (.lst ([PyData.tuple a, .tuple b, .tuple c, .tuple d].map .d))]) (.ref s3.length) = none := by
          show (match (s3 ++ [some (O.lst ([PyData.tuple a, .tuple b, .tuple c, .tuple d].map .d))])[s3.length]? with | some (some (.dct xs)) => some xs | _ => none) = _
          rw [cell_get]
        obtain ⟨x, hx, e⟩ := idx_seq sq nd nofun h1 (show i < ([PyData.tuple a, .tuple b, .tuple c, .tuple d].length : Nat) by simp; omega)
        exact w_idx <| w_var rfl <| w_var rfl <| .of e ⟨x, _, rfl, four x hx, f5⟩
    · refine RetS.cons <| s_ite <| w_and <| w_isI <| w_var rfl <| .of rfl ⟨false, rfl, nofun, fun _ => w_tr ⟨nofun, fun _ => .nil ?_⟩⟩
      exact RetS.cons <| s_ret <| w_var rfl ⟨y, [], rfl, hy.gd, by rw [List.append_nil]; exact f3⟩
  refine RetS.cons <| s_ite <| w_and <| w_isI <| w_var rfl <| .of rfl ⟨true, rfl, fun _ => ?_, nofun⟩
  refine w_and <| w_bin <| w_bf <| w_var rfl <| .of (len_tup _ _) <| w_int <| .of (gt_ok _ _ _) ⟨_, rfl, fun _ => ?_, fun z => ?_⟩
  · refine w_bin <| w_call <| w_es <| w_var rfl <| w_es <| w_int <| w_e0 ?_
    refine w_draw wf (k + 3) hf hc (by decide) (by decide) fun i s h1 h2 f2 => ?_
    refine w_int <| .of (gt_ok _ _ _) <| w_tr ⟨fun hi => ?_, fun _ => .nil (rest s f2)⟩
    refine RetS.cons <| s_nm <| w_call <| w_es <| w_var rfl <| w_es <| w_bf <| w_var rfl <| .of (len_tup _ _) <| w_e0 ?_
    refine w_draw wf (k + 3) f2 hc (by omega) (by omega) fun j s3 j1 j2 f3 => ?_
    refine RetS.cons <| s_ret <| w_bin <| w_bin <| w_slc <| w_var rfl <| w_pt0 <| w_pti rfl <| slc_tu tu fun v1 t1 => ?_
    obtain ⟨x, hx, e⟩ := idx_seq (v := .d (.tuple ds)) (st := s3) (xs := ds) rfl rfl nofun j1 j2
    obtain ⟨z, rfl, _, _⟩ := hd x hx
    refine w_tup <| w_es <| w_call <| w_es <| w_var rfl <| w_es <| w_idx <| w_var rfl <| w_var rfl <| .of e <| w_e0 <| spoil_str wf k f3 hc fun y s4 hy f4 => w_e0 <| tup_one hy fun v2 t2 => add_tu t1 t2 (by decide) fun v3 t3 => ?_
    refine w_slc <| w_var rfl <| w_ptj rfl <| w_pt0 <| slc_tu tu fun v4 t4 => add_tu t3 t4 (by decide) fun v5 t5 => ?_
    obtain ⟨y, rfl, gy⟩ := fin t5 (by decide)
    exact ⟨y, [], rfl, gy, by rw [List.append_nil]; exact f4⟩
  · have : decide ((0 : Int) < ds.length) = true := decide_eq_true (by omega)
    rw [this] at z
    cases z
end
end
end Ev

/-! K1g: the names that are drawn. -/
namespace Ev
open PySem
def pooA : List PyData := [.str ⟨#[112, 97, 114, 116]⟩, .str ⟨#[99, 104, 111, 105, 99, 101]⟩, .str ⟨#[112, 97, 99, 107]⟩, .str ⟨#[121, 101, 115]⟩, .str ⟨#[110, 111]⟩, .str ⟨#[98, 117, 105, 108, 100]⟩, .str ⟨#[97, 112, 97, 114, 116]⟩, .str ⟨#[115, 101, 108, 108]⟩, .str ⟨#[108, 97, 109, 112]⟩, .str ⟨#[98, 111, 120]⟩, .str ⟨#[116, 114, 105, 111]⟩, .str ⟨#[108, 105, 103, 104, 116]⟩]
def pooB : List PyData := [.str ⟨#[97]⟩, .str ⟨#[122]⟩, .str ⟨#[122, 122]⟩, .str ⟨#[110, 97, 109, 101]⟩, .str ⟨#[115, 104, 111, 112]⟩, .str ⟨#[108, 105, 110, 101]⟩]
def pooC : List PyData := [.str ⟨#[97]⟩, .str ⟨#[97, 97]⟩, .str ⟨#[97, 97, 97]⟩, .str ⟨#[97, 97, 97, 97]⟩, .str ⟨#[97, 97, 97, 97, 97, 97, 97, 97]⟩, .str ⟨#[97, 98]⟩, .str ⟨#[97, 97, 98]⟩, .str ⟨#[97, 97, 97, 98]⟩, .str ⟨#[98]⟩, .str ⟨#[98, 97]⟩, .str ⟨#[97, 98, 99, 100, 101, 102, 103, 104]⟩, .str ⟨#[97, 98, 99, 100, 101, 102, 103, 105]⟩]
def pooD : List PyData := [.str ⟨#[122, 122, 122, 122, 122, 122, 122, 122]⟩, .str ⟨#[122, 122, 122, 122, 122, 122, 122, 121]⟩, .str ⟨#[122]⟩, .str ⟨#[121]⟩, .str ⟨#[121, 122]⟩, .str ⟨#[122, 121]⟩]
def lettersS : Str := ⟨letters.toArray⟩
def nmB : PyData → Bool
  | .str z => PyData.strOk z && decide (z.length ≤ 20)
  | _ => false
theorem nm_of {x : PyData} (h : nmB x = true) : Nm x := by
  cases x with
  | str z =>
    have h : (PyData.strOk z && decide (z.length ≤ 20)) = true := h
    rw [Bool.and_eq_true, decide_eq_true_eq] at h
    exact ⟨z, rfl, h.1, h.2⟩
  | _ => cases h
theorem nms_of {l : List PyData} (h : l.all nmB = true) : ∀ x ∈ l, Nm x := fun x hx => nm_of (List.all_eq_true.mp h x hx)
/-- a list of names in the store -/
def LstAt (st : Sto) (c : Nat) (xs : List PyData) : Prop := st[c]? = some (some (.lst (xs.map .d)))
theorem seq_at {st : Sto} {c : Nat} {xs : List PyData} (h : LstAt st c xs) : seqOf st (.ref c) = some (xs.map .d) ∧ dctOf st (.ref c) = none ∧ lstOf st (.ref c) = some (xs.map .d) := by
  refine ⟨?_, ?_, ?_⟩
  · show (match st[c]? with | some (some (.lst xs)) => some xs | _ => none) = _
    rw [h]
  · show (match st[c]? with | some (some (.dct xs)) => some xs | _ => none) = _
    rw [h]
  · show (match st[c]? with | some (some (.lst xs)) => some xs | _ => none) = _
    rw [h]
theorem isr_at {st : Sto} {c : Nat} {xs : List PyData} (h : LstAt st c xs) : isLstRef st (.ref c) = true := by
  show (match st[c]? with | some (some (.lst _)) => true | _ => false) = true
  rw [h]
theorem len_at {st : Sto} {c : Nat} {xs : List PyData} (h : LstAt st c xs) : bf .len (.ref c) st = .ok (.d (.int xs.length)) st := by
  have : lenT st (.ref c) = some xs.length := by
    show (match seqOf st (.ref c) with | some xs => some xs.length | none => _) = _
    rw [(seq_at h).1]
    simp
  show (match lenT st (.ref c) with | some n => R.ok (T.d (.int n)) st | none => .bad) = _
  rw [this]
theorem cat_at {st : Sto} {c : Nat} {xs ys : List PyData} (h : LstAt st c xs) (hz : xs.length + ys.length ≤ 1000) : catM (.ref c) (.d (.list ys)) st = .ok ((xs ++ ys).map .d) st := by
  show (match lstOf st (.ref c), lstOf st (.d (.list ys)) with | some xs, some ys => (if xs.length + ys.length ≤ sizeLine then R.ok (xs ++ ys) st else .bad) | _, _ => .bad) = _
  rw [(seq_at h).2.2]
  show (if (xs.map T.d).length + (ys.map T.d).length ≤ sizeLine then R.ok (xs.map T.d ++ ys.map T.d) st else .bad) = _
  have := line_big
  rw [if_pos (by rw [List.length_map, List.length_map]; omega), List.map_append]
theorem new_at (xs : List PyData) (st : Sto) : LstAt (st ++ [some (.lst (xs.map .d))]) st.length xs := cell_get _ _ _
theorem LstAt.app {st : Sto} {c : Nat} {xs : List PyData} (h : LstAt st c xs) (m : Sto) : LstAt (st ++ m) c xs := by
  unfold LstAt at h ⊢
  rw [List.getElem?_append_left (List.getElem?_eq_some_iff.mp h).1]
  exact h
/-- the feed and, behind what the callers have, this def's own cells -/
structure Own (st r m : Sto) : Prop where
  f : FeedAt st (r ++ m)
  c : Cl m
theorem Own.new {st r m : Sto} (h : Own st r m) (xs : List PyData) : Own (st ++ [some (.lst (xs.map .d))]) r (m ++ [some (.lst (xs.map .d))]) := ⟨by rw [← List.append_assoc]; exact h.f.app _, h.c.app (cl_lst xs)⟩
theorem Own.len {st r m : Sto} (h : Own st r m) : st.length = r.length + m.length + 1 := by rw [h.f.len, List.length_append]
theorem cl_set {m : Sto} {o : Option O} (h : Cl m) (ho : Cl [o]) (i : Nat) : Cl (m.set i o) := fun p hp => (List.mem_or_eq_of_mem_set hp).elim (h p) fun e => by
  rw [e]; exact ho o List.mem_cons_self
theorem Own.set {st r m : Sto} (h : Own st r m) {c : Nat} (hc : r.length < c) (xs : List PyData) : Own (st.set c (some (.lst (xs.map .d)))) r (m.set (c - 1 - r.length) (some (.lst (xs.map .d)))) := by
  have f := h.f.set (c - 1) (some (.lst (xs.map .d)))
  rw [show c - 1 + 1 = c by omega, List.set_append_right _ _ (by omega)] at f
  exact ⟨f, cl_set h.c (cl_lst xs) _⟩
theorem Own.more {st r m m' : Sto} (h : FeedAt st ((r ++ m) ++ m')) (c : Cl m) (c' : Cl m') : Own st r (m ++ m') := ⟨by rw [← List.append_assoc]; exact h, c.app c'⟩
theorem Own.keep {st r m st' : Sto} (h : Own st r m) (h' : FeedAt st' (r ++ m)) {c : Nat} {xs : List PyData} (hc : r.length < c) (a : LstAt st c xs) : LstAt st' c xs := by
  unfold LstAt at a ⊢
  obtain ⟨d, rfl⟩ : ∃ d, c = d + 1 := ⟨c - 1, by omega⟩
  rw [h.f.get] at a
  rw [h'.get]
  exact a
theorem append_nm {x y : Str} (h1 : PyData.strOk x = true) (h2 : PyData.strOk y = true) : PyData.strOk (x ++ y) = true := by
  unfold PyData.strOk at h1 h2 ⊢
  have e : (x ++ y).cps = x.cps ++ y.cps := rfl
  rw [e, Array.all_append, h1, h2]
  rfl
theorem len_app (x y : Str) : (x ++ y).length = x.length + y.length := by
  show (x.cps ++ y.cps).size = _
  rw [Array.size_append]
  rfl
theorem add_str {x y : Str} {st : Sto} (h : x.length + y.length ≤ 1000) : bin .add (.d (.str x)) (.d (.str y)) st = .ok (.d (.str (x ++ y))) st := by
  show (if x.length + y.length ≤ sizeLine then R.ok (T.d (.str (x ++ y))) st else .bad) = _
  have := line_big
  rw [if_pos (by omega)]
section
variable (wf k : Nat) {st r : Sto}
/-- behind the making of the pool: slot 4 -/
def PoolI (r : Sto) (n i : Int) (ρ : Env) (st : Sto) : Prop := ∃ (m : Sto) (c : Nat) (pool : List PyData) (x6 x7 x8 x9 : Option T), ρ = [some (.ref 0), some (.d (.int n)), some (.d (.int i)), some (.d (.str lettersS)), some (.ref c), none, x6, x7, x8, x9] ∧
  Own st r m ∧ r.length < c ∧ LstAt st c pool ∧ (∀ x ∈ pool, Nm x) ∧ 6 ≤ pool.length ∧ pool.length ≤ 100
theorem pool_new {st r m : Sto} {n i : Int} {pool : List PyData} (x6 x7 x8 x9 : Option T) (h : Own st r m) (h1 : ∀ x ∈ pool, Nm x) (h2 : 6 ≤ pool.length) (h3 : pool.length ≤ 100) :
    PoolI r n i [some (.ref 0), some (.d (.int n)), some (.d (.int i)), some (.d (.str lettersS)), some (.ref st.length), none, x6, x7, x8, x9] (st ++ [some (.lst (pool.map .d))]) :=
  ⟨_, _, pool, x6, x7, x8, x9, rfl, h.new pool, by have := h.len; omega, new_at pool st, h1, h2, h3⟩
theorem er_map {α β : Type} (f : α → β) : ∀ (l : List α) (i : Nat), (l.map f).eraseIdx i = (l.eraseIdx i).map f
  | [], _ => rfl
  | _ :: _, 0 => rfl
  | a :: l, i + 1 => by
    rw [List.map_cons, List.eraseIdx_cons_succ, List.eraseIdx_cons_succ, List.map_cons, er_map f l i]
/-- n names of a pool are popped -/
theorem pop_ok {st : Sto} {c : Nat} {xs : List PyData} {i : Int} (h : LstAt st c xs) (h1 : 0 ≤ i) (h2 : i < xs.length) (h3 : xs.length ≤ 1000) : ∃ x ∈ xs, mt .popAt (.ref c) (.d (.int i)) st = .ok (.d x) (st.set c (some (.lst ((xs.eraseIdx i.toNat).map .d)))) := by
  have hn : i.toNat < xs.length := by omega
  refine ⟨xs[i.toNat], List.getElem_mem hn, ?_⟩
  show (match st[c]? with | some (some (.lst xs)) => (match ixN xs.length i with | some k => (match xs[k]? with | some v => (if -(2 ^ 63) ≤ i ∧ i < 2 ^ 63 then R.ok v (st.set c (some (.lst (xs.eraseIdx k)))) else .bad) | none => .bad) | none => .bad) | _ => .bad) = _
  rw [h]
  have e : ixN (xs.map T.d).length i = some i.toNat := by
    unfold ixN
    rw [List.length_map, if_pos h1, if_pos h2]
  simp only [e]
  rw [List.getElem?_map, List.getElem?_eq_getElem hn]
  simp only [Option.map_some]
  rw [if_pos ⟨by omega, by omega⟩, er_map]
theorem app_ok {st : Sto} {c : Nat} {xs : List PyData} {x : PyData} (h : LstAt st c xs) (h3 : xs.length ≤ 1000) : mt .append (.ref c) (.d x) st = .ok (.d .none) (st.set c (some (.lst ((xs ++ [x]).map .d)))) := by
  show (match st[c]? with | some (some (.lst xs)) => (if xs.length < sizeLine then R.ok (T.d .none) (st.set c (some (.lst (xs ++ [T.d x])))) else .bad) | _ => .bad) = _
  rw [h]
  have := line_big
  simp only [List.length_map]
  rw [if_pos (by omega), List.map_append]
  rfl
theorem LstAt.set {st : Sto} {c : Nat} {ys : List PyData} (h : LstAt st c ys) (xs : List PyData) : LstAt (st.set c (some (.lst (xs.map .d)))) c xs := by
  unfold LstAt
  rw [List.getElem?_set_self (List.getElem?_eq_some_iff.mp h).1]
theorem LstAt.other {st : Sto} {c c' : Nat} {ys : List PyData} (h : LstAt st c ys) (hn : c' ≠ c) (o : Option O) : LstAt (st.set c' o) c ys := by
  unfold LstAt at h ⊢
  rw [List.getElem?_set_ne hn]
  exact h
/-- behind k turns of the last loop -/
def TagI (r : Sto) (n : Int) (j : Nat) (ρ : Env) (st : Sto) : Prop := ∃ (m : Sto) (c c5 : Nat) (pool tags : List PyData) (x2 x3 x6 x7 x8 x9 : Option T), ρ = [some (.ref 0), some (.d (.int n)), x2, x3, some (.ref c), some (.ref c5), x6, x7, x8, x9] ∧
  Own st r m ∧ r.length < c ∧ r.length < c5 ∧ c ≠ c5 ∧ LstAt st c pool ∧ LstAt st c5 tags ∧ (∀ x ∈ pool, Nm x) ∧ (∀ x ∈ tags, Nm x) ∧ 6 ≤ pool.length + j ∧ pool.length ≤ 100 ∧ tags.length = j
theorem names_end {n i : Int} {ρ : Env} (hn : 1 ≤ n) (hn2 : n ≤ 6) (hc : Cl r) (h : PoolI r n i ρ st) : RetS (evSsW (sN (callF Γ wf (k + 1)) wf 40) (f8.body.drop 6) ρ st) (fun _ _ => False) fun v s => ∃ x more, fz (r.length + 1) s 9 v = some (.d x) ∧ (∃ tags, x = .list tags ∧ tags.length = n.toNat ∧ ∀ y ∈ tags, Nm y) ∧ FeedAt s (r ++ more) := by
  obtain ⟨m, c, pool, x6, x7, x8, x9, rfl, ow, hcr, la, pn, p1, p2⟩ := h
  refine RetS.cons <| s_nm <| w_disp <| w_e0 ⟨Nat.zero_le _, .ok ?_⟩
  refine RetS.cons <| s_for <| w_rng <| w_var rfl <| .of (a := rngT 0 n.toNat) (st' := st ++ [some (.lst [])]) ?_ ?_
  · show (if small62 n = true then R.ok (rngT 0 n.toNat) (st ++ [some (.lst [])]) else .bad) = _
    have : small62 n = true := by
      unfold small62
      rw [decide_eq_true (by omega), decide_eq_true (by omega)]
      rfl
    rw [this]
    rfl
  have len0 : (rngT 0 n.toNat).length = n.toNat := by rw [rng_get, List.length_map, List.length_range]
  refine for_inv (TagI r n) 0 ⟨_, c, st.length, pool, [], _, _, x6, x7, x8, x9, rfl, ow.new [], hcr, by have := ow.len; omega, by have := (List.getElem?_eq_some_iff.mp la).1; omega, la.app _, new_at [] st, pn, nofun, by omega, p2, rfl⟩ ?_ ?_
  · rintro j x ρ st hj ⟨m, c, c5, pool, tags, x2, x3, x6, x7, x8, x9, rfl, ow, hcr, h5r, hne, la, l5, pn, tn, p1, p2, tl⟩
    rw [Nat.zero_add] at p1 tl
    have hj : j < n.toNat := by
      have := (List.getElem?_eq_some_iff.mp hj).1
      omega
    refine RetS.cons <| s_ex <| w_mt <| w_var rfl ⟨isr_at l5, w_mt <| w_var rfl ⟨isr_at la, ?_⟩⟩
    refine w_call <| w_es <| w_var rfl <| w_es <| w_bf <| w_var rfl <| .of (len_at la) <| w_e0 ?_
    refine w_draw wf k ow.f (hc.app ow.c) (by omega) (by omega) fun q s q1 q2 fs => ?_
    have ow1 : Own s r m := ⟨fs, ow.c⟩
    have la1 := ow.keep fs hcr la
    have l51 := ow.keep fs h5r l5
    obtain ⟨y, hy, e⟩ := pop_ok la1 q1 q2 (by omega)
    refine .of e ?_
    have ow2 := ow1.set hcr (pool.eraseIdx q.toNat)
    have la2 := la1.set (pool.eraseIdx q.toNat)
    have l52 := l51.other hne (some (.lst ((pool.eraseIdx q.toNat).map .d)))
    refine .of (app_ok (x := y) l52 (by omega)) ?_
    refine .nil ?_
    have el : (pool.eraseIdx q.toNat).length = pool.length - 1 := List.length_eraseIdx_of_lt (by omega)
    refine ⟨_, c, c5, pool.eraseIdx q.toNat, tags ++ [y], x2, x3, _, x7, x8, x9, rfl, ow2.set h5r (tags ++ [y]), hcr, h5r, hne, la2.other (Ne.symm hne) _, l52.set _, fun z hz => pn z (List.mem_of_mem_eraseIdx hz), fun z hz => ?_, by omega, by omega, by rw [List.length_append, tl]; simp⟩
    rcases List.mem_append.mp hz with z1 | z1
    · exact tn z z1
    · rw [List.mem_singleton.mp z1]
      exact pn y hy
  · rintro ρ st ⟨m, c, c5, pool, tags, x2, x3, x6, x7, x8, x9, rfl, ow, hcr, h5r, hne, la, l5, pn, tn, p1, p2, tl⟩
    rw [len0, Nat.zero_add] at tl
    refine RetS.cons <| s_ret <| w_var rfl ⟨.list tags, m, ?_, ⟨tags, rfl, tl, tn⟩, ow.f⟩
    show (if c5 < r.length + 1 then some (.ref c5) else (match st[c5]? with | some (some (.lst xs)) => (mapO (fz (r.length + 1) st 8) xs).map mkLst | some (some (.dct kvs)) => _ | _ => none)) = _
    rw [if_neg (by omega), l5]
    have : mapO (fz (r.length + 1) st 8) (tags.map T.d) = some (tags.map T.d) := mapO_id fun x hx => by
      obtain ⟨d, _, rfl⟩ := List.mem_map.mp hx
      rfl
    simp only [this, Option.map_some, mkLst_map]
end
end Ev

/-! K1n: the pools. -/
namespace Ev
open PySem
/-- a comprehension that leaves all as it is, its list an object -/
theorem w_compT {f : T → M (Option T)} (g : T → Option PyData) {st : Sto} {Q : T → Sto → Prop} {xs : List T} (h : ∀ x ∈ xs, ∀ acc : List PyData, f x (st ++ [some (.lst (acc.map .d))]) = .ok ((g x).map .d) (st ++ [some (.lst (acc.map .d))])) (hl : xs.length ≤ sizeLine)
    (q : Q (.ref st.length) (st ++ [some (.lst ((xs.filterMap g).map .d))])) : Ret (compL f st.length xs (st ++ [some (.lst [])])) fun _ st2 => Ret (compEnd true st.length st2) Q := by
  have key : ∀ (xs : List T) (acc : List PyData), (∀ x ∈ xs, ∀ acc : List PyData, f x (st ++ [some (.lst (acc.map .d))]) = .ok ((g x).map .d) (st ++ [some (.lst (acc.map .d))])) → acc.length + xs.length ≤ sizeLine →
      compL f st.length xs (st ++ [some (.lst (acc.map .d))]) = .ok () (st ++ [some (.lst ((acc ++ xs.filterMap g).map .d))]) := by
    intro xs
    induction xs with
    | nil => intro acc _ _; simp [compL]
    | cons x xs ih =>
      intro acc h hl
      simp only [List.length_cons] at hl
      have hx := h x List.mem_cons_self acc
      have ht := fun y hy => h y (List.mem_cons_of_mem _ hy)
      simp only [compL]
      rw [hx]
      simp only [R.bind_ok]
      cases e : g x with
      | none =>
        simp only [Option.map_none]
        rw [ih acc ht (by omega), List.filterMap_cons_none e]
      | some y =>
        simp only [Option.map_some]
        rw [cell_get]
        simp only
        rw [if_pos (by rw [List.length_map]; omega), cell_set]
        have := ih (acc ++ [y]) ht (by simp only [List.length_append, List.length_cons, List.length_nil]; omega)
        rw [List.map_append] at this
        rw [show [T.d y] = [y].map T.d from rfl, this, List.filterMap_cons_some e, List.append_assoc]
        rfl
  have := key xs [] h (by simpa using hl)
  rw [List.map_nil, List.nil_append] at this
  rw [this]
  exact .ok (.ok q)
/-- one letter -/
def Le (x : PyData) : Prop := ∃ c ∈ letters, x = .str ⟨#[c]⟩
theorem le_nm {x : PyData} (h : Le x) : ∃ z : Str, x = .str z ∧ PyData.strOk z = true ∧ z.length = 1 := by
  obtain ⟨c, hc, rfl⟩ := h
  refine ⟨_, rfl, ?_, rfl⟩
  have : letters.all (· < 0x110000) = true := by decide
  have := List.all_eq_true.mp this c hc
  show (#[c].all (· < 0x110000)) = true
  simpa using this
theorem glue_ok : ∀ {ys : List PyData}, (∀ y ∈ ys, Le y) → ∃ zs : List Str, strsOf (ys.map .d) = some zs ∧ zs.length = ys.length ∧ (zs.map (·.length)).sum = ys.length ∧ PyData.strOk (Str.join ⟨#[]⟩ zs) = true
  | [], _ => ⟨[], rfl, rfl, rfl, by decide +kernel⟩
  | y :: ys, h => by
    obtain ⟨z, rfl, h1, h2⟩ := le_nm (h y List.mem_cons_self)
    obtain ⟨zs, e1, e2, e3, e4⟩ := glue_ok fun y hy => h y (List.mem_cons_of_mem _ hy)
    refine ⟨z :: zs, ?_, by simp [e2], by simp [e3, h2]; omega, ?_⟩
    · show (strsOf (ys.map T.d)).map (z :: ·) = _
      rw [e1]
      rfl
    · cases zs with
      | nil => exact h1
      | cons a zs => exact append_nm (append_nm h1 (by decide +kernel)) e4
theorem join_ok {ys : List PyData} {st : Sto} (h : ∀ y ∈ ys, Le y) (hl : ys.length ≤ 10) : ∃ z : Str, mt .join (.d (.str ⟨#[]⟩)) (.d (.list ys)) st = .ok (.d (.str z)) st ∧ PyData.strOk z = true ∧ z.length ≤ 10 := by
  obtain ⟨zs, e1, e2, e3, e4⟩ := glue_ok h
  have l0 : (⟨#[]⟩ : Str).length = 0 := rfl
  refine ⟨Txt.join ⟨#[]⟩ zs, ?_, ?_, ?_⟩
  · show (match strsOf (ys.map T.d) with | some ys => (if (ys.map (fun y : Str => y.length)).sum + ys.length * (⟨#[]⟩ : Str).length ≤ 16777216 then R.ok (T.d (.str (Txt.join ⟨#[]⟩ ys))) st else .bad) | none => .bad) = _
    rw [e1]
    simp only
    rw [if_pos (by rw [e3, l0]; omega)]
  · unfold Txt.join
    rw [StrLaws.glued_eq_join]
    exact e4
  · unfold Txt.join
    rw [StrLaws.glued_eq_join]
    have := StrLaws.join_length_le ⟨#[]⟩ zs
    rw [e3, l0] at this
    omega
theorem idx_str {z : Str} {i : Int} {st : Sto} (h1 : 0 ≤ i) (h2 : i < z.cps.toList.length) (hz : z.length ≤ sizeLine) : ∃ c ∈ z.cps.toList, idx (.d (.str z)) (.d (.int i)) st = .ok (.d (.str ⟨#[c]⟩)) st := by
  obtain ⟨c, e1, e2, _⟩ := atI_in h1 h2
  refine ⟨c, e2, ?_⟩
  show (match atI z.cps.toList i with | some c => (if z.length ≤ sizeLine then R.ok (T.d (.str ⟨#[c]⟩)) st else .bad) | none => .bad) = _
  rw [e1]
  simp only
  rw [if_pos hz]
theorem s_asg {C : Nat → List T → M T} {wf m : Nat} {ρ : Env} {st : Sto} {N : Env → Sto → Prop} {V : T → Sto → Prop} {t : Tg} {e : E} (h : Ret (eN C 40 e ρ st) fun v st => Ret ((seN C 40).tg t v ρ st) fun ρ' st => N ρ' st) : RetS (sN C wf (m + 1) (.asg t e) ρ st) N V :=
  RetS.toS (h.mono fun _ _ h => RetS.toS (h.mono fun _ _ h => ⟨h⟩))
def oneL (l : List Nat) : List PyData := l.map fun c => .str ⟨#[c]⟩
theorem oneL_le {l : List Nat} (h : ∀ c ∈ l, c ∈ letters) : ∀ x ∈ oneL l, Le x := fun x hx => by
  obtain ⟨c, hc, rfl⟩ := List.mem_map.mp hx
  exact ⟨c, h c hc, rfl⟩
section
variable (wf k : Nat) {st r : Sto}
/-- [stem + sign for sign in signs]: one name a sign -/
def stemG (z : Str) : T → Option PyData := fun t => match t with
  | .d (.str y) => some (.str (z ++ y))
  | _ => none
theorem stem_fm (z : Str) (l : List Nat) : ((oneL l).map T.d).filterMap (stemG z) = (oneL l).map fun x => match x with | .str y => .str (z ++ y) | _ => .none := by
  refine fm_all T.d (stemG z) (fun x => match x with | .str y => PyData.str (z ++ y) | _ => .none) _ fun x hx => ?_
  obtain ⟨c, _, rfl⟩ := List.mem_map.mp hx
  rfl
theorem stem_nm {z : Str} {l : List Nat} (hl : ∀ c ∈ l, c ∈ letters) (h1 : PyData.strOk z = true) (h2 : z.length ≤ 10) : ∀ x ∈ ((oneL l).map T.d).filterMap (stemG z), Nm x := by
  intro x hx
  rw [stem_fm] at hx
  obtain ⟨y, hy, rfl⟩ := List.mem_map.mp hx
  obtain ⟨w, rfl, a, b⟩ := le_nm (oneL_le hl y hy)
  exact ⟨z ++ w, rfl, append_nm h1 a, by rw [len_app]; omega⟩
theorem stem_len (z : Str) (l : List Nat) : (((oneL l).map T.d).filterMap (stemG z)).length = l.length := by
  rw [stem_fm, List.length_map]
  exact List.length_map ..
theorem names_call {n : Int} {Q : T → Sto → Prop} (hn : 1 ≤ n) (hn2 : n ≤ 6) (hf : FeedAt st r) (hc : Cl r) (q : ∀ (tags : List PyData) (s : Sto), tags.length = n.toNat → (∀ y ∈ tags, Nm y) → FeedAt s r → Q (.d (.list tags)) s) : Ret (callF Γ wf (k + 2) 8 [.ref 0, .d (.int n)] st) Q := by
  refine w_drawn wf (k + 1) (f := f8) (fun x => ∃ tags, x = .list tags ∧ tags.length = n.toNat ∧ ∀ y ∈ tags, Nm y) rfl rfl rfl hf hc ?_ (fun x s ⟨tags, e, l, a⟩ f => by subst e; exact q tags s l a f)
  show RetS (evSsW (sN (callF Γ wf (k + 1)) wf 40) f8.body [some (.ref 0), some (.d (.int n)), none, none, none, none, none, none, none, none] st) _ _
  refine RetS.cons <| s_asg <| w_tup <| w_es <| w_call <| w_es <| w_var rfl <| w_es <| w_int <| w_e0 ?_
  refine w_draw wf k hf hc (by decide) (by decide) fun i s i1 i2 fs => ?_
  refine w_es <| w_str <| w_e0 <| .of (a := .d (.tuple [.int i, .str lettersS])) rfl <| .of (a := [some (.ref 0), some (.d (.int n)), some (.d (.int i)), some (.d (.str lettersS)), none, none, none, none, none, none]) rfl ?_
  have ow : Own s r [] := ⟨by rw [List.append_nil]; exact fs, cl_nil⟩
  have all_le : ∀ c ∈ letters, c ∈ letters := fun _ h => h
  have lets : ofM (.d (.str lettersS)) s = .ok ((oneL letters).map .d) s := rfl
  have rest : ∀ (ρ1 : Env) (s1 : Sto), PoolI r n i ρ1 s1 → RetS (evSsW (sN (callF Γ wf (k + 1)) wf 40) (f8.body.drop 2) ρ1 s1) (fun _ _ => False) fun v s => ∃ x more, fz (r.length + 1) s 9 v = some (.d x) ∧ (∃ tags, x = .list tags ∧ tags.length = n.toNat ∧ ∀ y ∈ tags, Nm y) ∧ FeedAt s (r ++ more) := by
    intro ρ1 s1 p1
    -- style 1
    have eqb : ∀ (i j : Int) (st : Sto), ∃ b, bin .eq (.d (.int i)) (.d (.int j)) st = .ok (.d (.bool b)) st := fun i j st => ⟨_, eqi_ok i j st⟩
    have st1 : ∀ {ρ : Env} {s : Sto}, PoolI r n i ρ s → RetS (sN (callF Γ wf (k + 1)) wf 40 (f8.body.getD 2 .pass) ρ s) (PoolI r n i) fun _ _ => False := by
      rintro ρ s ⟨m, c, pool, x6, x7, x8, x9, rfl, ow, hcr, la, pn, p1, p2⟩
      obtain ⟨b, e⟩ := eqb i 1 s
      refine s_ite <| w_bin <| w_var rfl <| w_int <| .of e <| w_tr ⟨fun _ => ?_, fun _ => .nil ⟨m, c, pool, x6, x7, x8, x9, rfl, ow, hcr, la, pn, p1, p2⟩⟩
      have a1 : eN (callF Γ wf (k + 1)) 40 (match f8.body.getD 2 .pass with | .ite _ (.asg _ e :: _) _ => e | _ => .cnon) [some (.ref 0), some (.d (.int n)), some (.d (.int i)), some (.d (.str lettersS)), some (.ref c), none, x6, x7, x8, x9] s = .ok (.ref s.length) (s ++ [some (.lst (pooA.map .d))]) := rfl
      refine RetS.cons <| s_nm <| .of a1 ?_
      have ow1 := ow.new pooA
      have a2 : ∀ st, eN (callF Γ wf (k + 1)) 39 (match f8.body.getD 2 .pass with | .ite _ [_, .asg _ (.mk _ (.cat _ e))] _ => e | _ => .cnon) [some (.ref 0), some (.d (.int n)), some (.d (.int i)), some (.d (.str lettersS)), some (.ref s.length), none, x6, x7, x8, x9] st = .ok (.d (.list pooB)) st := fun _ => rfl
      refine RetS.cons <| s_nm <| w_cat <| w_var rfl <| .of (a2 _) <| .of (cat_at (new_at pooA s) (by decide)) <| .ok <| .nil ?_
      exact pool_new _ _ _ _ ow1 (nms_of (by decide +kernel)) (by decide) (by decide)
    have st2 : ∀ {ρ : Env} {s : Sto}, PoolI r n i ρ s → RetS (sN (callF Γ wf (k + 1)) wf 40 (f8.body.getD 3 .pass) ρ s) (PoolI r n i) fun _ _ => False := by
      rintro ρ s ⟨m, c, pool, x6, x7, x8, x9, rfl, ow, hcr, la, pn, p1, p2⟩
      obtain ⟨b, e⟩ := eqb i 2 s
      refine s_ite <| w_bin <| w_var rfl <| w_int <| .of e <| w_tr ⟨fun _ => ?_, fun _ => .nil ⟨m, c, pool, x6, x7, x8, x9, rfl, ow, hcr, la, pn, p1, p2⟩⟩
      have a1 : eN (callF Γ wf (k + 1)) 40 (match f8.body.getD 3 .pass with | .ite _ (.asg _ e :: _) _ => e | _ => .cnon) [some (.ref 0), some (.d (.int n)), some (.d (.int i)), some (.d (.str lettersS)), some (.ref c), none, x6, x7, x8, x9] s = .ok (.ref s.length) (s ++ [some (.lst (pooC.map .d))]) := rfl
      refine RetS.cons <| s_nm <| .of a1 ?_
      have ow1 := ow.new pooC
      have a2 : ∀ st, eN (callF Γ wf (k + 1)) 39 (match f8.body.getD 3 .pass with | .ite _ [_, .asg _ (.mk _ (.cat _ e))] _ => e | _ => .cnon) [some (.ref 0), some (.d (.int n)), some (.d (.int i)), some (.d (.str lettersS)), some (.ref s.length), none, x6, x7, x8, x9] st = .ok (.d (.list pooD)) st := fun _ => rfl
      refine RetS.cons <| s_nm <| w_cat <| w_var rfl <| .of (a2 _) <| .of (cat_at (new_at pooC s) (by decide)) <| .ok <| .nil ?_
      exact pool_new _ _ _ _ ow1 (nms_of (by decide +kernel)) (by decide) (by decide)
    have st3 : ∀ {ρ : Env} {s : Sto}, PoolI r n i ρ s → RetS (sN (callF Γ wf (k + 1)) wf 40 (f8.body.getD 4 .pass) ρ s) (PoolI r n i) fun _ _ => False := by
      rintro ρ s ⟨m, c, pool, x6, x7, x8, x9, rfl, ow, hcr, la, pn, p1, p2⟩
      obtain ⟨b, e⟩ := eqb i 3 s
      refine s_ite <| w_bin <| w_var rfl <| w_int <| .of e <| w_tr ⟨fun _ => ?_, fun _ => .nil ⟨m, c, pool, x6, x7, x8, x9, rfl, ow, hcr, la, pn, p1, p2⟩⟩
      refine RetS.cons <| s_nm <| w_mt <| w_str ⟨rfl, w_cmp <| w_rng <| w_call <| w_es <| w_var rfl <| w_es <| w_int <| w_e0 ?_⟩
      refine w_draw wf k ow.f (hc.app ow.c) (by decide) (by decide) fun t s2 t1 t2 f2 => ?_
      have rg : rngM (.d (.int t)) s2 = .ok (rngT 0 t.toNat) s2 := by
        show (if small62 t = true then R.ok (rngT 0 t.toNat) s2 else .bad) = _
        have : small62 t = true := by
          unfold small62
          rw [decide_eq_true (by omega), decide_eq_true (by omega)]
          rfl
        rw [this]
        rfl
      have lr : (rngT 0 t.toNat).length = t.toNat := by rw [rng_get, List.length_map, List.length_range]
      have := line_big
      refine .of rg <| w_compF Le f2 (hc.app ow.c) (fun x hx s r' fs cr => ?_) (by omega) fun ys s3 more yl yp f3 c3 => ?_
      · refine w_cmpF <| w_tnm <| w_if0 ⟨fun _ => ?_, nofun⟩
        refine w_idx <| w_var rfl <| w_call <| w_es <| w_var rfl <| w_es <| w_int <| w_e0 <| w_draw wf k fs cr (by decide) (by decide) fun j s4 j1 j2 f4 => ?_
        obtain ⟨c, hc, e⟩ := idx_str (z := lettersS) (st := s4) j1 (show j < 26 from j2) (by decide)
        exact .of e ⟨_, [], rfl, ⟨c, hc, rfl⟩, by rw [List.append_nil]; exact f4, cl_nil⟩
      obtain ⟨z, e, z1, z2⟩ := join_ok (st := s3) yp (by omega)
      refine .of e ?_
      have ow3 : Own s3 r (m ++ none :: more) := .more f3 ow.c (.cons (fun _ _ => rfl) c3)
      have it : seqM (.d (.str lettersS)) s3 = .ok ((oneL letters).map .d) s3 := rfl
      refine RetS.cons <| s_nm <| w_cmp <| w_seq <| w_var rfl <| .of it <| w_compT (stemG z) (fun x hx acc => ?_) (by decide) ?_
      · obtain ⟨d, hd, rfl⟩ := List.mem_map.mp hx
        obtain ⟨c, hc, rfl⟩ := List.mem_map.mp hd
        refine Ret.eq <| w_cmpF <| w_tnm <| w_if0 ⟨fun _ => w_bin <| w_var rfl <| w_var rfl <| .of (add_str ?_) ⟨rfl, rfl⟩, nofun⟩
        show z.length + 1 ≤ 1000
        omega
      · exact .nil <| pool_new _ _ _ _ ow3 (stem_nm all_le z1 z2) (by rw [stem_len]; decide) (by rw [stem_len]; decide)
    have st4 : ∀ {ρ : Env} {s : Sto}, PoolI r n i ρ s → RetS (sN (callF Γ wf (k + 1)) wf 40 (f8.body.getD 5 .pass) ρ s) (PoolI r n i) fun _ _ => False := by
      rintro ρ s ⟨m, c, pool, x6, x7, x8, x9, rfl, ow, hcr, la, pn, p1, p2⟩
      have go : RetS (evSsW (sN (callF Γ wf (k + 1)) wf 39) (match f8.body.getD 5 .pass with | .ite _ b _ => b | _ => []) [some (.ref 0), some (.d (.int n)), some (.d (.int i)), some (.d (.str lettersS)), some (.ref c), none, x6, x7, x8, x9] s) (PoolI r n i) fun _ _ => False := by
        refine RetS.cons <| s_nm <| w_disp <| w_e0 ⟨Nat.zero_le _, .ok ?_⟩
        have s8 : slc (.d (.str lettersS)) none (some 8) (s ++ [some (.lst [])]) = .ok (.d (.str ⟨(letters.take 8).toArray⟩)) (s ++ [some (.lst [])]) := rfl
        have it : seqM (.d (.str ⟨(letters.take 8).toArray⟩)) (s ++ [some (.lst [])]) = .ok ((oneL (letters.take 8)).map .d) (s ++ [some (.lst [])]) := rfl
        have pt : ∀ {Q : Option Int → Sto → Prop} {n : Nat} {ρ : Env} {s : Sto} {i : Int}, Q (some i) s → Ret (evPtW (eN (callF Γ wf (k + 1)) (n + 1)) (.cint i) ρ s) Q := fun h => .of rfl h
        refine RetS.cons <| s_for <| w_seq <| w_slc <| w_var rfl <| w_pt0 <| pt <| .of s8 <| .of it ?_
        refine for_inv (fun j ρ st => ∃ (m : Sto) (c : Nat) (pool : List PyData) (x6 x7 x8 x9 : Option T), ρ = [some (.ref 0), some (.d (.int n)), some (.d (.int i)), some (.d (.str lettersS)), some (.ref c), none, x6, x7, x8, x9] ∧
          Own st r m ∧ r.length < c ∧ LstAt st c pool ∧ (∀ x ∈ pool, Nm x) ∧ pool.length = 8 * j) 0 ⟨_, s.length, [], x6, x7, x8, x9, rfl, ow.new [], by have := ow.len; omega, new_at [] s, nofun, rfl⟩ ?_ ?_
        · rintro j x ρ s hj ⟨m, c, pool, x6, x7, x8, x9, rfl, ow, hcr, la, pn, p1⟩
          rw [Nat.zero_add] at p1
          have jl : j < 8 := (List.getElem?_eq_some_iff.mp hj).1
          obtain ⟨d, hd, rfl⟩ := List.mem_map.mp (List.mem_of_getElem? hj)
          obtain ⟨a, ha, rfl⟩ := List.mem_map.mp hd
          have ha : a ∈ letters := List.mem_of_mem_take ha
          have s18 : ∀ s, slc (.d (.str lettersS)) (some 18) none s = .ok (.d (.str ⟨(letters.drop 18).toArray⟩)) s := fun s => rfl
          have it : ∀ s, seqM (.d (.str ⟨(letters.drop 18).toArray⟩)) s = .ok ((oneL (letters.drop 18)).map .d) s := fun s => rfl
          have dl : ∀ c ∈ letters.drop 18, c ∈ letters := fun c h => List.mem_of_mem_drop h
          have a1 : PyData.strOk (⟨#[a]⟩ : Str) = true := by
            obtain ⟨z, e, h, _⟩ := le_nm ⟨a, ha, rfl⟩
            cases e
            exact h
          refine RetS.cons <| s_nm <| w_cat <| w_var rfl <| w_cmp <| w_seq <| w_slc <| w_var rfl <| pt <| w_pt0 <| .of (s18 _) <| .of (it _) <| w_comp (stemG ⟨#[a]⟩) (fun x hx acc => ?_) (by decide) ?_
          · obtain ⟨d, hd, rfl⟩ := List.mem_map.mp hx
            obtain ⟨c, hc, rfl⟩ := List.mem_map.mp hd
            exact Ret.eq <| w_cmpF <| w_tnm <| w_if0 ⟨fun _ => w_bin <| w_var rfl <| w_var rfl <| .of (add_str (by decide : 1 + 1 ≤ 1000)) ⟨rfl, rfl⟩, nofun⟩
          · have ow2 : Own (s ++ [none]) r (m ++ [none]) := ⟨by rw [← List.append_assoc]; exact ow.f.app _, ow.c.app cl_none⟩
            have sl := stem_len ⟨#[a]⟩ (letters.drop 18)
            have s8l : (letters.drop 18).length = 8 := rfl
            refine .of (cat_at (la.app [none]) (by omega)) <| .ok <| .nil ⟨_, (s ++ [none]).length, pool ++ _, x6, x7, _, x9, rfl, ow2.new _, by have := ow2.len; omega, new_at _ _, fun x hx => ?_, by rw [List.length_append]; omega⟩
            rcases List.mem_append.mp hx with h | h
            · exact pn x h
            · exact stem_nm dl a1 (by decide : 1 ≤ 10) x h
        · rintro ρ s ⟨m, c, pool, x6, x7, x8, x9, rfl, ow, hcr, la, pn, p1⟩
          have p1 : pool.length = 64 := p1
          exact .nil ⟨m, c, pool, x6, x7, x8, x9, rfl, ow, hcr, la, pn, by omega, by omega⟩
      have stay : RetS (evSsW (sN (callF Γ wf (k + 1)) wf 39) [] [some (.ref 0), some (.d (.int n)), some (.d (.int i)), some (.d (.str lettersS)), some (.ref c), none, x6, x7, x8, x9] s) (PoolI r n i) fun _ _ => False := .nil ⟨m, c, pool, x6, x7, x8, x9, rfl, ow, hcr, la, pn, p1, p2⟩
      obtain ⟨b, e⟩ := eqb i 4 s
      refine s_ite <| w_or <| w_bin <| w_var rfl <| w_bf <| w_var rfl <| .of (len_at la) <| .of (gt_ok _ _ _) ⟨_, rfl, fun _ => ?_, fun _ => w_tr ⟨fun _ => go, fun _ => stay⟩⟩
      exact w_bin <| w_var rfl <| w_int <| .of e <| w_tr ⟨fun _ => go, fun _ => stay⟩
    have two : f8.body.drop 2 = f8.body.getD 2 .pass :: f8.body.getD 3 .pass :: f8.body.getD 4 .pass :: f8.body.getD 5 .pass :: f8.body.drop 6 := rfl
    rw [two]
    refine .cons ((st1 p1).mono (fun ρ s p => .cons ((st2 p).mono (fun ρ s p => .cons ((st3 p).mono (fun ρ s p => .cons ((st4 p).mono (fun ρ s p => names_end wf k hn hn2 hc p) nofun)) nofun)) nofun)) nofun)
  refine RetS.cons <| s_nm <| w_of <| w_var rfl <| .of lets <| .ok ?_
  exact rest _ _ (pool_new _ _ _ _ ow (nms_of (by decide +kernel)) (by decide) (by decide))
end
end Ev

/-! K1l: the law. -/
namespace Ev
open PySem
theorem ins_mem {le : PyData → PyData → Bool} {x y : PyData} : ∀ {l : List PyData}, y ∈ insL le x l → y = x ∨ y ∈ l
  | [], h => .inl (List.mem_singleton.mp h)
  | a :: l, h => by
    unfold insL at h
    split at h
    · exact (List.mem_cons.mp h)
    · rcases List.mem_cons.mp h with e | e
      · exact .inr (e ▸ List.mem_cons_self)
      · exact (ins_mem e).imp id (List.mem_cons_of_mem _)
theorem ins_len {le : PyData → PyData → Bool} {x : PyData} : ∀ (l : List PyData), (insL le x l).length = l.length + 1
  | [] => rfl
  | a :: l => by
    unfold insL
    split
    · rfl
    · rw [List.length_cons, ins_len l, List.length_cons]
theorem sort_mem {le : PyData → PyData → Bool} {y : PyData} : ∀ {l : List PyData}, y ∈ sortL le l → y ∈ l
  | [], h => h
  | a :: l, h => by
    rcases ins_mem h with e | e
    · exact e ▸ List.mem_cons_self
    · exact List.mem_cons_of_mem _ (sort_mem e)
theorem sort_len {le : PyData → PyData → Bool} : ∀ (l : List PyData), (sortL le l).length = l.length
  | [] => rfl
  | a :: l => by
    show (insL le a (sortL le l)).length = _
    rw [ins_len, sort_len l, List.length_cons]
theorem sort_ok {tags : List PyData} (h : ∀ x ∈ tags, Nm x) (st : Sto) : sortM (.d (.list tags)) st = .ok ((sortL leD tags).map .d) st := by
  have so : sortOk tags = true := by
    unfold sortOk
    simp only [Bool.and_eq_true, Bool.or_eq_true, List.all_eq_true]
    refine ⟨⟨fun x hx y hy => ?_, .inr fun x hx => ?_⟩, fun x hx => ?_⟩
    · obtain ⟨a, rfl, _, _⟩ := h x hx
      obtain ⟨b, rfl, _, _⟩ := h y hy
      rfl
    · obtain ⟨a, rfl, _, _⟩ := h x hx
      rfl
    · obtain ⟨a, rfl, e, _⟩ := h x hx
      show ((PyData.str a).canLay0 && decide ((PyData.str a).depth ≤ 64)) = true
      rw [PyData.canLay0, PyData.depth, e]
      rfl
  show (match allD (tags.map T.d) with | some ds => (if sortOk ds then R.ok ((sortL leD ds).map T.d) st else .bad) | none => .bad) = _
  rw [allD_map]
  simp only [so, if_true]
theorem add_list {a b : List PyData} {st : Sto} (h : a.length + b.length ≤ 1000) : bin .add (.d (.list a)) (.d (.list b)) st = .ok (.d (.list (a ++ b))) st := by
  show (if (a.map T.d).length + (b.map T.d).length ≤ sizeLine then R.ok (mkLst (a.map T.d ++ b.map T.d)) st else .bad) = _
  have := line_big
  rw [if_pos (by rw [List.length_map, List.length_map]; omega), ← List.map_append, mkLst_map]
theorem tuple_of (a : List PyData) (st : Sto) : bf .tuple (.d (.list a)) st = .ok (.d (.tuple a)) st := by
  show R.ok (mkTup (a.map T.d)) st = _
  rw [mkTup_map]
section
variable (wf k : Nat) {st r : Sto}
theorem feed_ok (ns : List Int) (h : ns.length ≤ 63) : ∃ s, callF Γ wf (k + 1) 5 [.scr ns] [] = .ok (.ref 0) s ∧ FeedAt s [none] := by
  have e0 : ∀ n ρ, eN (callF Γ wf k) (n + 1) (match f5.body with | [.ret (.dsp _ _ [_, a, _, _])] => a | _ => .cnon) ρ = fun s => .ok (.d (.int 0)) s := fun _ _ => rfl
  have run : Ret (eN (callF Γ wf k) 40 (match f5.body with | [.ret e] => e | _ => .cnon) [some (.scr ns), none] []) fun v s => v = .ref 0 ∧ FeedAt s [none] := by
    have parts : Ret (evEsW (eN (callF Γ wf k) 39) (match f5.body with | [.ret (.dsp _ _ es)] => es | _ => []) [some (.scr ns), none] [some (.dct [])]) fun xs s => ∃ cs : List Int, xs = [.d (.list (cs.map .int)), .d (.int 0), .d (.int 0), .d (.int 0)] ∧ s = [some (.dct []), none] := by
      let g : T → Option PyData := fun t => match t with
        | .d (.int i) => some (.int i)
        | _ => none
      have sl : slc (.scr ns) none (some 63) [some (.dct [])] = .ok (.d (.list ((cutL ns none (some 63)).map .int))) [some (.dct [])] := rfl
      have it : seqM (.d (.list ((cutL ns none (some 63)).map .int))) [some (.dct [])] = .ok (((cutL ns none (some 63)).map PyData.int).map .d) [some (.dct [])] := rfl
      have pt : ∀ {Q : Option Int → Sto → Prop} {n : Nat} {ρ : Env} {s : Sto} {i : Int}, Q (some i) s → Ret (evPtW (eN (callF Γ wf k) (n + 1)) (.cint i) ρ s) Q := fun h => .of rfl h
      have ln := cut_len ns none (some 63)
      have := line_big
      have fm : (((cutL ns none (some 63)).map PyData.int).map T.d).filterMap g = (cutL ns none (some 63)).map PyData.int := by
        rw [List.map_map]
        exact fm_all (T.d ∘ PyData.int) g PyData.int _ fun _ _ => rfl
      refine w_es <| w_cmp <| w_seq <| w_slc <| w_var rfl <| w_pt0 <| pt <| .of sl <| .of it <| w_comp g (fun x hx acc => ?_) (by rw [List.length_map, List.length_map]; omega) ?_
      · obtain ⟨d, hd, rfl⟩ := List.mem_map.mp hx
        obtain ⟨i, _, rfl⟩ := List.mem_map.mp hd
        exact Ret.eq <| w_cmpF <| w_tnm <| w_if0 ⟨fun _ => w_bf <| w_var rfl <| .of rfl ⟨rfl, rfl⟩, nofun⟩
      · rw [fm]
        exact w_es <| w_int <| w_es <| w_int <| w_es <| w_int <| w_e0 ⟨_, rfl, rfl⟩
    obtain ⟨xs, s, e, cs, rfl, rfl⟩ := parts
    refine Ret.bind (.of e ?_)
    exact .of (a := .ref 0) (st' := some (feedO cs 0 0 0) :: [none]) rfl ⟨rfl, cs, 0, 0, 0, Int.le_refl _, Int.le_refl _, rfl⟩
  obtain ⟨v, s, e, rfl, fs⟩ := run
  refine ⟨s, ?_, fs⟩
  show endF true 0 (evSsW (sN (callF Γ wf k) wf 40) f5.body [some (.scr ns), none] []) = _
  have : evSsW (sN (callF Γ wf k) wf 40) f5.body [some (.scr ns), none] [] = .rt (.ref 0) s := by
    show (match R.toS (eN (callF Γ wf k) 40 (match f5.body with | [.ret e] => e | _ => .cnon) [some (.scr ns), none] []) _ (fun v st => SR.rt v st) with | .nx ρ' st' => SR.nx ρ' st' | x => x) = _
    rw [e]
    rfl
  rw [this]
  rfl
/-- [one for one in some if not right(one)] != [] -/
def notAll : E := match f15.body.getD 5 .pass with | .ite c _ _ => c | _ => .cnon
theorem all_right {L : List PyData} {x0 x1 x3 x4 x5 x6 x7 : Option T} {Q : T → Sto → Prop} (hL : ∀ x ∈ L, Gd x) (hl : L.length ≤ 1000) (hc : Cl st) (q : Q (.d (.bool false)) (st ++ [none])) : Ret (eN (callF Γ wf (k + 3)) 40 notAll [x0, x1, some (.d (.list L)), x3, x4, x5, x6, x7] st) Q := by
  have it : seqM (.d (.list L)) st = .ok (L.map .d) st := rfl
  have := line_big
  refine w_bin <| w_cmp <| w_seq <| w_var rfl <| .of it <| w_comp (fun _ => none) (fun x hx acc => ?_) (by rw [List.length_map]; omega) ?_
  · obtain ⟨d, hd, rfl⟩ := List.mem_map.mp hx
    exact Ret.eq <| w_cmpF <| w_tnm <| w_if1 <| w_not <| w_call <| w_es <| w_var rfl <| w_e0 <| .of (call_right wf k d (hL d hd) (hc.app (cl_lst acc))) <| w_tr <| w_tr ⟨nofun, fun _ => ⟨rfl, rfl⟩⟩
  · have fm : (L.map T.d).filterMap (fun _ => (none : Option PyData)) = [] := by
      rw [List.filterMap_eq_nil_iff]
      exact fun _ _ => rfl
    rw [fm]
    exact w_disp <| w_e0 ⟨Nat.zero_le _, .ok <| .of (eq_nil (l := []) true (by decide)) q⟩
theorem con_gd : ∀ x ∈ conA ++ conB ++ conC ++ conD, Gd x := by
  have h : ((conA ++ conB ++ conC ++ conD).all smB) = true := by decide +kernel
  exact fun x hx => Sm.gd (List.all_eq_true.mp h x hx)
/-- between two laps -/
def LapI (j : Nat) (ρ : Env) (st : Sto) : Prop := ∃ (r : Sto) (x0 x2 x3 x4 x5 x6 x7 : Option T), ρ = [x0, some (.ref 0), x2, x3, x4, x5, x6, x7] ∧ FeedAt st r ∧ Cl r
theorem lap {j : Nat} {x : T} {ρ : Env} {st : Sto} (h : LapI j ρ st) : RetS (evSsW (sN (callF Γ wf (k + 6)) wf 39) (match f15.body.getD 6 .pass with | .for_ _ _ b => b | _ => []) (ρ.set 3 (some x)) st) (LapI (j + 1)) fun _ _ => False := by
  obtain ⟨r, x0, x2, x3, x4, x5, x6, x7, rfl, fs, cr⟩ := h
  refine RetS.cons <| s_nm <| w_call <| w_es <| w_var rfl <| w_es <| w_bin <| w_int <| w_call <| w_es <| w_var rfl <| w_es <| w_int <| w_e0 ?_
  refine w_draw wf (k + 5) fs cr (by decide) (by decide) fun i s i1 i2 f1 => .of (a := .d (.int (1 + i))) (st' := s) rfl <| w_e0 ?_
  refine names_call wf (k + 4) (by omega) (by omega) f1 cr fun tags s2 tl tn f2 => ?_
  have sn : ∀ x ∈ sortL leD tags, Nm x := fun x hx => tn x (sort_mem hx)
  have sl : (sortL leD tags).length = tags.length := sort_len tags
  have t1 : 0 < tags.length := by omega
  have t6 : tags.length ≤ 6 := by omega
  refine RetS.cons <| s_nm <| w_bf <| w_sorted <| w_var rfl <| .of (sort_ok tn _) <| .of (a := .d (.list (sortL leD tags))) (st' := s2) (by show R.ok (mkLst _) s2 = _; rw [mkLst_map]) <| .of (tuple_of _ _) ?_
  generalize hg : sortL leD tags = good at sn sl
  have tg : Tu 10 (.d (.tuple good)) := ⟨good, rfl, fun x hx => (sn x hx).sm, by omega⟩
  have pneg : ∀ {Q : Option Int → Sto → Prop} {n : Nat} {ρ : Env} {s : Sto} {i : Int}, Q (some (-i)) s → Ret (evPtW (eN (callF Γ wf (k + 6)) (n + 2)) (.neg (.cint i)) ρ s) Q := fun h => .of rfl h
  have lst : ∀ s : Sto, ofM (.d (.tuple good)) s = .ok (good.map .d) s := fun s => rfl
  have fst : ∀ s : Sto, ∃ z : Str, PyData.strOk z = true ∧ z.length ≤ 20 ∧ idx (.d (.tuple good)) (.d (.int 0)) s = .ok (.d (.str z)) s := fun s => by
    obtain ⟨y, hy, e⟩ := idx_seq (v := .d (.tuple good)) (st := s) (xs := good) rfl rfl nofun (Int.le_refl 0) (by omega)
    obtain ⟨z, rfl, a, b⟩ := sn y hy
    exact ⟨z, a, b, e⟩
  obtain ⟨z, z1, z2, z3⟩ := fst s2
  refine RetS.cons <| s_nm <| w_disp <| w_es <| w_var rfl <| w_es <| w_bf <| w_var rfl <| .of (tuple_of _ _) <| w_es <| w_rev <| w_var rfl <| rev_tu tg fun vr tr => ?_
  refine w_es <| w_bin <| w_var rfl <| w_slc <| w_var rfl <| pneg <| w_pt0 <| slc_tu tg fun vs ts => add_tu tg ts (by decide) fun va ta => ?_
  refine w_es <| w_of <| w_var rfl <| .of (lst _) <| .of (a := .d (.list good)) (st' := s2) (by show R.ok (mkLst _) s2 = _; rw [mkLst_map]) ?_
  refine w_es <| w_idx <| w_var rfl <| w_int <| .of z3 <| w_es <| w_bin <| w_idx <| w_var rfl <| w_int <| .of z3 <| w_str <| .of (add_str (by show z.length + 8 ≤ 1000; omega)) <| w_e0 ⟨Nat.le_trans (by simp : _ ≤ 7) (by decide), ?_⟩
  obtain ⟨br, rfl, r1, r2⟩ := tr
  obtain ⟨ba, rfl, a1, a2⟩ := ta
  refine .of (a := .d (.list [.tuple good, .tuple tags, .tuple br, .tuple ba, .list good, .str z, .str (z ++ ⟨#[97, 98, 99, 100, 101, 102, 103, 104]⟩)])) (st' := s2) rfl ?_
  have L1 : ∀ x ∈ [PyData.tuple good, .tuple tags, .tuple br, .tuple ba, .list good, .str z, .str (z ++ ⟨#[97, 98, 99, 100, 101, 102, 103, 104]⟩)], Gd x := by
    intro x hx
    simp only [List.mem_cons, List.not_mem_nil, or_false] at hx
    rcases hx with rfl | rfl | rfl | rfl | rfl | rfl | rfl
    · exact (gd_all (fun x hx => (sn x hx).sm) (by omega)).1
    · exact (gd_all (fun x hx => (tn x hx).sm) (by omega)).1
    · exact (gd_all r1 (by omega)).1
    · exact (gd_all a1 (by omega)).1
    · exact (gd_all (fun x hx => (sn x hx).sm) (by omega)).2
    · exact (Nm.sm ⟨z, rfl, z1, z2⟩).gd
    · have e8 : PyData.strOk ⟨#[97, 98, 99, 100, 101, 102, 103, 104]⟩ = true := by decide +kernel
      have l8 : (⟨#[97, 98, 99, 100, 101, 102, 103, 104]⟩ : Str).length = 8 := rfl
      have := line_big
      exact .mk (by rw [PyData.canLay0]; exact append_nm z1 e8) rfl (Nat.zero_le _) (by rw [wt, len_app, l8]; omega)
  have rg : rngM (.d (.int 6)) s2 = .ok (rngT 0 6) s2 := rfl
  refine RetS.cons <| s_nm <| w_bin <| w_bin <| w_var rfl <| w_cmp <| w_rng <| w_int <| .of rg ?_
  refine w_compF Gd f2 cr (fun x hx s r' fs cr => ?_) (by decide) fun ys s3 more yl yp f3 c3 => ?_
  · refine w_cmpF <| w_tnm <| w_if0 ⟨fun _ => ?_, nofun⟩
    exact w_call <| w_es <| w_var rfl <| w_es <| w_var rfl <| w_e0 <| spoil_tup wf (k + 1) sn (by omega) (by omega) fs cr fun y s gy f => ⟨y, [], rfl, gy, by rw [List.append_nil]; exact f, cl_nil⟩
  have yl : ys.length = 6 := yl
  have c4 : Cl (r ++ none :: more) := cr.app (.cons (fun _ _ => rfl) c3)
  refine .of (add_list (by rw [yl]; simp)) ?_
  refine w_disp <| w_es <| w_call <| w_es <| w_var rfl <| w_e0 <| w_strange wf (k + 3) f3 c4 fun y s4 hy f4 => w_e0 ⟨Nat.le_trans (by simp : _ ≤ 1) (by decide), ?_⟩
  refine .of (a := .d (.list [y])) (st' := s4) rfl ?_
  refine .of (add_list (by simp [yl])) ?_
  refine RetS.cons <| s_ite ?_
  refine all_right wf (k + 3) (fun x hx => ?_) (by simp [yl]) (f4.cl c4) (w_tr ⟨nofun, fun _ => .nil (.nil ⟨r ++ none :: more ++ [none], _, _, _, _, _, _, _, rfl, f4.app _, c4.app cl_none⟩)⟩)
  rcases List.mem_append.mp hx with hx | hx
  · rcases List.mem_append.mp hx with hx | hx
    · exact L1 x hx
    · exact yp x hx
  · rw [List.mem_singleton.mp hx]
    exact hy.gd
theorem plain_k01 (ns : List Int) (h : ns.length ≤ 63) : ∃ st, callF Γ wf (k + 7) 15 [.scr ns] [] = .ok (.d (.bool true)) st := by
  have run : RetS (evSsW (sN (callF Γ wf (k + 6)) wf 40) f15.body [some (.scr ns), none, none, none, none, none, none, none] []) (fun _ _ => False) fun v s => v = .d (.bool true) := by
    obtain ⟨s0, e0, f0⟩ := feed_ok wf (k + 5) ns h
    refine RetS.cons <| s_nm <| w_call <| w_es <| w_var rfl <| w_e0 <| .of e0 ?_
    have c1 : ∀ x, eN (callF Γ wf (k + 6)) 40 (match f15.body.getD 1 .pass with | .asg _ e => e | _ => .cnon) [some (.scr ns), some (.ref 0), x, none, none, none, none, none] s0 = .ok (.d (.list conA)) s0 := fun _ => rfl
    have c2 : eN (callF Γ wf (k + 6)) 40 (match f15.body.getD 2 .pass with | .asg _ e => e | _ => .cnon) [some (.scr ns), some (.ref 0), some (.d (.list conA)), none, none, none, none, none] s0 = .ok (.d (.list (conA ++ conB))) s0 := rfl
    have c3 : eN (callF Γ wf (k + 6)) 40 (match f15.body.getD 3 .pass with | .asg _ e => e | _ => .cnon) [some (.scr ns), some (.ref 0), some (.d (.list (conA ++ conB))), none, none, none, none, none] s0 = .ok (.d (.list (conA ++ conB ++ conC))) s0 := rfl
    have c4 : eN (callF Γ wf (k + 6)) 40 (match f15.body.getD 4 .pass with | .asg _ e => e | _ => .cnon) [some (.scr ns), some (.ref 0), some (.d (.list (conA ++ conB ++ conC))), none, none, none, none, none] s0 = .ok (.d (.list (conA ++ conB ++ conC ++ conD))) s0 := rfl
    refine RetS.cons <| s_nm <| .of (c1 _) <| RetS.cons <| s_nm <| .of c2 <| RetS.cons <| s_nm <| .of c3 <| RetS.cons <| s_nm <| .of c4 ?_
    refine RetS.cons <| s_ite <| all_right wf (k + 3) con_gd (by decide) (f0.cl cl_none) <| w_tr ⟨nofun, fun _ => .nil ?_⟩
    have rg : rngM (.d (.int 4)) (s0 ++ [none]) = .ok (rngT 0 4) (s0 ++ [none]) := rfl
    refine RetS.cons <| s_for <| w_rng <| w_int <| .of rg ?_
    refine for_inv LapI 0 ⟨[none] ++ [none], _, _, _, _, _, _, _, rfl, f0.app _, cl_none.app cl_none⟩ (fun j x ρ st _ h => (lap wf k h).mono (fun _ _ h => h) nofun) fun ρ st h => ?_
    obtain ⟨r, x0, x2, x3, x4, x5, x6, x7, rfl, fs, cr⟩ := h
    exact RetS.cons <| s_ret <| w_bl rfl
  have e : callF Γ wf (k + 7) 15 [.scr ns] [] = endF false 0 (evSsW (sN (callF Γ wf (k + 6)) wf 40) f15.body [some (.scr ns), none, none, none, none, none, none, none] []) := rfl
  rw [e]
  cases q : evSsW (sN (callF Γ wf (k + 6)) wf 40) f15.body [some (.scr ns), none, none, none, none, none, none, none] [] with
  | rt v s =>
    rw [q] at run
    cases (show v = .d (.bool true) from run.out)
    exact ⟨_, rfl⟩
  | _ => rw [q] at run; exact run.out.elim
end
end Ev

set_option maxRecDepth 100000 in
theorem PySem.Challenge.cw_kitsleft_k01_kinds_told_holds : PySem.Challenge.rw_kitsleft_k01_kinds_told.Holds := by
  exact Ev.law_of fun ns h => Ev.plain_k01 Ev.wF 33 ns h
