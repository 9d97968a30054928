import PyProof.Rows.All
import Wide.All
import OpenK.AllK
import Wide.FinOn
import HandS.ForMost
import HandS.Exc
import HandS.ForExc
import HandS.TupAny
import HandS.TupLe
import HandS.Style
import HandS.Flow
import HandS.IsInst
import HandS.DictComp
import HandS.Walk
import HandS.Zip
import HandS.Deep
import HandS.SetBool
import HandS.SetKeys
import HandS.Conv
import HandS.SortKw
import HandS.ListItems
import KE.GoesEnum
import KE.KItemsList
import PyProof.Rows.Range3
import PyProof.TupleOfStr
import HandS.SortRule
import KE.KSortKeySt
import PySem.Challenge.RW_stylefall_k11_whole_needless_and_lean
set_option Elab.async false
set_option linter.all false
section
set_option maxRecDepth 100000
set_option maxHeartbeats 4000000
namespace Sf
open PySem PySem.Spec L2
open PyProof.Rows hiding St

/-! ### data, stores -/
inductive D where
  | py (d : PyData)
  | ref (n : Nat)
  /-- the law's script -/
  | scr (ns : List Int)

inductive Ob where
  | lst (xs : List D)
  | dS (kvs : List (Str × D))
  | dT (kvs : List (List Str × D))
  | ins (c : Str) (fs : List (Str × D))

abbrev Store := List Ob
/-- an exception of an own class, with its fields -/
structure Ex where
  cls : Str
  fs : List (Str × D)

inductive R (A : Type) where
  | ok (a : A) (S : Store)
  | err (x : Ex) (S : Store)
  | bad
def R.bind {A B : Type} (r : R A) (k : A → Store → R B) : R B := match r with
  | .ok a S => k a S
  | .err x S => .err x S
  | .bad => .bad
@[simp] theorem R.bind_ok {A B : Type} (a : A) (S : Store) (k : A → Store → R B) : (R.ok a S).bind k = k a S := rfl
@[simp] theorem R.bind_err {A B : Type} (x : Ex) (S : Store) (k : A → Store → R B) : (R.err x S : R A).bind k = .err x S := rfl
@[simp] theorem R.bind_bad {A B : Type} (k : A → Store → R B) : (R.bad : R A).bind k = .bad := rfl
def R.of {A : Type} (o : Option A) (S : Store) : R A := match o with
  | some a => .ok a S
  | none => .bad
@[simp] theorem R.of_some {A : Type} (a : A) (S : Store) : R.of (some a) S = .ok a S := rfl
@[simp] theorem R.of_none {A : Type} (S : Store) : R.of (none : Option A) S = .bad := rfl

/-! ### equality of data, as a Bool -/
mutual
def pbeq : PyData → PyData → Bool
  | .none, .none => true
  | .bool a, .bool b => a == b
  | .int a, .int b => a == b
  | .str a, .str b => decide (a = b)
  | .list a, .list b => pbeqL a b
  | .tuple a, .tuple b => pbeqL a b
  | .dict a, .dict b => pbeqK a b
  | _, _ => false
def pbeqL : List PyData → List PyData → Bool
  | [], [] => true
  | x :: xs, y :: ys => pbeq x y && pbeqL xs ys
  | _, _ => false
def pbeqK : List (PyData × PyData) → List (PyData × PyData) → Bool
  | [], [] => true
  | (k, x) :: xs, (j, y) :: ys => pbeq k j && pbeq x y && pbeqK xs ys
  | _, _ => false
end
mutual
theorem pbeq_eq : ∀ a b, pbeq a b = true → a = b
  | .none, b, h => by cases b <;> simp [pbeq] at h ⊢
  | .bool a, b, h => by cases b <;> simp [pbeq] at h ⊢; exact h
  | .int a, b, h => by cases b <;> simp [pbeq] at h ⊢; exact h
  | .str a, b, h => by cases b <;> simp [pbeq] at h ⊢; exact h
  | .list a, b, h => by
    cases b <;> simp [pbeq] at h ⊢
    exact pbeqL_eq a _ h
  | .tuple a, b, h => by
    cases b <;> simp [pbeq] at h ⊢
    exact pbeqL_eq a _ h
  | .dict a, b, h => by
    cases b <;> simp [pbeq] at h ⊢
    exact pbeqK_eq a _ h
theorem pbeqL_eq : ∀ a b, pbeqL a b = true → a = b
  | [], b, h => by cases b <;> simp [pbeqL] at h ⊢
  | x :: xs, b, h => by
    cases b with
    | nil => simp [pbeqL] at h
    | cons y ys =>
      simp [pbeqL] at h
      rw [pbeq_eq x y h.1, pbeqL_eq xs ys h.2]
theorem pbeqK_eq : ∀ a b, pbeqK a b = true → a = b
  | [], b, h => by cases b <;> simp [pbeqK] at h ⊢
  | (k, x) :: xs, b, h => by
    cases b with
    | nil => simp [pbeqK] at h
    | cons p ys =>
      obtain ⟨j, y⟩ := p
      simp [pbeqK] at h
      rw [pbeq_eq k j h.1.1, pbeq_eq x y h.1.2, pbeqK_eq xs ys h.2]
end
mutual
theorem pbeq_refl : ∀ a, pbeq a a = true
  | .none => rfl
  | .bool a => by simp [pbeq]
  | .int a => by simp [pbeq]
  | .str a => by simp [pbeq]
  | .list a => by simp [pbeq]; exact pbeqL_refl a
  | .tuple a => by simp [pbeq]; exact pbeqL_refl a
  | .dict a => by simp [pbeq]; exact pbeqK_refl a
theorem pbeqL_refl : ∀ a, pbeqL a a = true
  | [] => rfl
  | x :: xs => by simp [pbeqL, pbeq_refl x, pbeqL_refl xs]
theorem pbeqK_refl : ∀ a, pbeqK a a = true
  | [] => rfl
  | (k, x) :: xs => by simp [pbeqK, pbeq_refl k, pbeq_refl x, pbeqK_refl xs]
end
def dbeq : D → D → Bool
  | .py a, .py b => pbeq a b
  | .ref n, .ref k => n == k
  | .scr a, .scr b => decide (a = b)
  | _, _ => false
theorem dbeq_eq {a b : D} (h : dbeq a b = true) : a = b := by
  cases a <;> cases b <;> simp [dbeq] at h ⊢
  · exact pbeq_eq _ _ h
  · exact h
  · exact h
@[simp] theorem dbeq_refl (a : D) : dbeq a a = true := by
  cases a <;> simp [dbeq, pbeq_refl]
def dbeqL : List D → List D → Bool
  | [], [] => true
  | x :: xs, y :: ys => dbeq x y && dbeqL xs ys
  | _, _ => false
theorem dbeqL_eq : ∀ {a b : List D}, dbeqL a b = true → a = b
  | [], [], _ => rfl
  | [], _ :: _, h => by simp [dbeqL] at h
  | _ :: _, [], h => by simp [dbeqL] at h
  | x :: xs, y :: ys, h => by
    simp [dbeqL] at h
    rw [dbeq_eq h.1, dbeqL_eq h.2]
@[simp] theorem dbeqL_refl : ∀ a : List D, dbeqL a a = true
  | [] => rfl
  | x :: xs => by simp [dbeqL, dbeqL_refl xs]

/-! ### the core language -/
inductive Bop where
  | add | sub | mul | fdiv | mod | pow
  deriving DecidableEq
inductive Cop where
  | eq | ne | lt | le | gt | ge | isin | notin | is | isnt
  deriving DecidableEq
/-- built-in functions -/
inductive Blt where
  | len | int | str | repr | list | tuple | dict | sorted | all | any | sum | max | min
  deriving DecidableEq
/-- methods of built-in types -/
inductive Met where
  | append | extend | insert | pop | index | count | get | items | update | values | join
  deriving DecidableEq
/-- classes that isinstance is asked for -/
inductive Ty where
  | int | str | bool | tuple | list | dict
  deriving DecidableEq
/-- targets -/
inductive Tg where
  | one (i : Nat) | many (is : List Nat)
  deriving DecidableEq
mutual
inductive CE where
  | loc (i : Nat)
  | con (d : PyData)
  | glo (x : Str) (d : PyData)
  | tup (es : CEs)
  | lst (mu : Bool) (es : CEs)
  | dic (mu : Bool) (es : CEs)
  | bop (mu : Bool) (o : Bop) (a b : CE)
  | neg (a : CE)
  | cmp (o : Cop) (a b : CE)
  | cmp2 (o p : Cop) (a b c : CE)
  | and (a b : CE)
  | or (a b : CE)
  | not (a : CE)
  | ite (c a b : CE)
  | idx (a b : CE)
  | sli (a : CE) (lo hi : CO)
  | rev (a : CE)
  | call (mu : Bool) (f : Str) (es : CEs)
  | blt (mu : Bool) (b : Blt) (es : CEs)
  | sortLen (a : CE)
  | isi (a : CE) (T : Ty)
  | met (mu : Bool) (m : Met) (o : CE) (es : CEs)
  | lc (mu : Bool) (elt : CE) (own : List Nat) (t : Tg) (it : CI) (c : CO)
  | lc2 (mu : Bool) (elt : CE) (own : List Nat) (t : Tg) (it : CI) (c : CO) (t2 : Tg) (it2 : CI) (c2 : CO)
  | dc (mu : Bool) (k v : CE) (own : List Nat) (t : Tg) (it : CI) (c : CO)
  | dc2 (mu : Bool) (k v : CE) (own : List Nat) (t : Tg) (it : CI) (c : CO) (t2 : Tg) (it2 : CI) (c2 : CO)
  | setLen (elt : CE) (own : List Nat) (t : Tg) (it : CI) (c : CO)
  | setSort (elt : CE) (own : List Nat) (t : Tg) (it : CI) (c : CO)
  | setSort2 (elt : CE) (own : List Nat) (t : Tg) (it : CI) (c : CO) (t2 : Tg) (it2 : CI) (c2 : CO)
inductive CEs where
  | nil
  | cons (e : CE) (es : CEs)
inductive CO where
  | none
  | some (e : CE)
inductive CI where
  | seq (e : CE) | rng1 (a : CE) | rng2 (a b : CE) | enu (e : CE) | zip (a b : CE) | keys (e : CE) | items (e : CE) | vals (e : CE)
end
mutual
inductive CS where
  | exp (e : CE)
  | asg (i : Nat) (e : CE)
  | par (is : List Nat) (es : CEs)
  | unp (is : List Nat) (e : CE)
  | sub (o i e : CE)
  | aug (i : Nat) (o : Bop) (e : CE)
  | ret (e : CE)
  | ite (c : CE) (a b : CSs)
  | loop (t : Tg) (it : CI) (b : CSs)
  | whl (c : CE) (b : CSs)
  | brk | cnt | pass | rais
inductive CSs where
  | nil
  | cons (s : CS) (ss : CSs)
end
end Sf
end
section
set_option maxRecDepth 100000
set_option maxHeartbeats 4000000
namespace Sf
open PySem PySem.Spec L2
open PyProof.Rows hiding St

/-! ### what is read of a value -/
def fits (n : Nat) : Bool := Nat.blt n 1000000
inductive Vw where
  | lst (xs : List D) | tup (xs : List D) | str (x : Str) | dS (kvs : List (Str × D)) | dT (kvs : List (List Str × D)) | no
def sKeys : List (PyData × PyData) → Option (List (Str × D))
  | [] => some []
  | (.str k, d) :: r => match sKeys r with
    | some l => some ((k, .py d) :: l)
    | none => none
  | _ => none
def strsOf : List PyData → Option (List Str)
  | [] => some []
  | .str x :: r => match strsOf r with
    | some l => some (x :: l)
    | none => none
  | _ => none
def tKeys : List (PyData × PyData) → Option (List (List Str × D))
  | [] => some []
  | (.tuple k, d) :: r => match strsOf k, tKeys r with
    | some x, some l => some ((x, .py d) :: l)
    | _, _ => none
  | _ => none
def view (S : Store) : D → Vw
  | .py (.list xs) => .lst (xs.map .py)
  | .py (.tuple xs) => .tup (xs.map .py)
  | .py (.str x) => .str x
  | .py (.dict kvs) => match sKeys kvs with
    | some l => .dS l
    | none => match tKeys kvs with
      | some l => .dT l
      | none => .no
  | .py _ => .no
  | .ref n => match S[n]? with
    | some (.lst xs) => .lst xs
    | some (.dS k) => .dS k
    | some (.dT k) => .dT k
    | _ => .no
  | .scr ns => .lst (ns.map fun i => .py (.int i))
def pys : List D → Option (List PyData)
  | [] => some []
  | .py d :: r => match pys r with
    | some l => some (d :: l)
    | none => none
  | _ => none
def pyKv {A : Type} (f : A → PyData) : List (A × D) → Option (List (PyData × PyData))
  | [] => some []
  | (k, .py d) :: r => match pyKv f r with
    | some l => some ((f k, d) :: l)
    | none => none
  | _ => none
def tupK (k : List Str) : PyData := .tuple (k.map .str)
/-- a value as data -/
def frzD (S : Store) : D → Option PyData
  | .py d => some d
  | .ref n => match S[n]? with
    | some (.lst xs) => (pys xs).map .list
    | some (.dS kvs) => (pyKv .str kvs).map .dict
    | some (.dT kvs) => if kvs.isEmpty then none else (pyKv tupK kvs).map .dict
    | _ => none
  | .scr ns => some (.list (ns.map .int))
def strsD : List D → Option (List Str)
  | [] => some []
  | .py (.str x) :: r => match strsD r with
    | some l => some (x :: l)
    | none => none
  | _ => none
def intsD : List D → Option (List Int)
  | [] => some []
  | .py (.int x) :: r => match intsD r with
    | some l => some (x :: l)
    | none => none
  | _ => none
def blsD : List D → Option (List Bool)
  | [] => some []
  | .py (.bool x) :: r => match blsD r with
    | some l => some (x :: l)
    | none => none
  | _ => none

/-! ### tables -/
section
variable {A : Type} [DecidableEq A]
def dget (kvs : List (A × D)) (k : A) : Option D := (kvs.find? fun kv => decide (kv.1 = k)).map (·.2)
def dput (kvs : List (A × D)) (k : A) (v : D) : List (A × D) :=
  if (kvs.any fun kv => decide (kv.1 = k)) = true then kvs.map (fun kv => if kv.1 = k then (kv.1, v) else kv) else kvs ++ [(k, v)]
end

/-! ### making -/
def mkLst (mu : Bool) (xs : List D) (S : Store) : R D :=
  if fits xs.length then
    if mu then .ok (.ref S.length) (S ++ [.lst xs]) else match pys xs with
      | some l => .ok (.py (.list l)) S
      | none => .bad
  else .bad
def mkTup (xs : List D) (S : Store) : R D :=
  if fits xs.length then match pys xs with
    | some l => .ok (.py (.tuple l)) S
    | none => .bad
  else .bad
def mkDS (mu : Bool) (kvs : List (Str × D)) (S : Store) : R D :=
  if fits kvs.length then
    if mu then .ok (.ref S.length) (S ++ [.dS kvs]) else match pyKv .str kvs with
      | some l => .ok (.py (.dict l)) S
      | none => .bad
  else .bad
def bl (b : Bool) : D := .py (.bool b)
def mergeS (kvs more : List (Str × D)) : List (Str × D) := more.foldl (fun acc kv => dput acc kv.1 kv.2) kvs
/-- a dict of pairs, one behind the other -/
def mkDC (mu : Bool) (ps : List (Str × D)) (S : Store) : R D := if fits ps.length then mkDS mu (mergeS [] ps) S else .bad

/-! ### truth, comparisons, operators -/
def seqTruth (S : Store) (d : D) : Option Bool := match view S d with
  | .lst xs => some (!xs.isEmpty)
  | .tup xs => some (!xs.isEmpty)
  | .str x => if fits x.length then some (x.length != 0) else none
  | _ => none
def truth (S : Store) (d : D) : Option Bool := match d with
  | .py .none => some false
  | .py (.bool b) => some b
  | .py (.int i) => some (i != 0)
  | _ => seqTruth S d
def flatP : PyData → Bool
  | .none | .bool _ | .int _ | .str _ => true
  | _ => false
def strLt (a b : Str) : Bool := decide (a.cps.toList < b.cps.toList)
def inD (S : Store) (x y : D) : Option Bool := match view S y with
  | .str z => match x with
    | .py (.str ⟨⟨[c]⟩⟩) => some (decide (c ∈ z.cps.toList))
    | _ => none
  | .lst ys => match x, pys ys with
    | .py d, some l => if flatP d && l.all flatP then some (l.any fun e => PyData.eqv e d) else none
    | _, _ => none
  | .tup ys => match x, pys ys with
    | .py d, some l => if flatP d && l.all flatP then some (l.any fun e => PyData.eqv e d) else none
    | _, _ => none
  | .dS kvs => match x with
    | .py (.str k) => some (dget kvs k).isSome
    | _ => none
  | .dT kvs => match x with
    | .py (.tuple k) => match strsOf k with
      | some t => some (dget kvs t).isSome
      | none => none
    | _ => none
  | .no => none
def eqG (S : Store) (a b : D) : Option Bool := match frzD S a, frzD S b with
  | some x, some y => if SeqAt.shaped x && SeqAt.shaped y then some (PyData.eqv x y) else none
  | _, _ => none
def eqD (S : Store) (a b : D) : Option Bool := match a, b with
  | .py (.str x), .py (.str y) => some (decide (x = y))
  | _, _ => eqG S a b
def cmpD (S : Store) (o : Cop) (a b : D) : Option Bool := match o with
  | .eq => eqD S a b
  | .ne => (eqD S a b).map (!·)
  | .lt => match a, b with
    | .py (.int i), .py (.int j) => some (decide (i < j))
    | .py (.str i), .py (.str j) => some (strLt i j)
    | _, _ => none
  | .le => match a, b with
    | .py (.int i), .py (.int j) => some (decide (i ≤ j))
    | _, _ => none
  | .gt => match a, b with
    | .py (.int i), .py (.int j) => some (decide (j < i))
    | _, _ => none
  | .ge => match a, b with
    | .py (.int i), .py (.int j) => some (decide (j ≤ i))
    | _, _ => none
  | .isin => inD S a b
  | .notin => (inD S a b).map (!·)
  | .is => match a, b with
    | .py .none, .py .none => some true
    | _, .py .none => some false
    | .py (.bool c), .py (.bool d) => some (decide (c = d))
    | _, .py (.bool _) => some false
    | _, _ => none
  | .isnt => match a, b with
    | .py .none, .py .none => some false
    | _, .py .none => some true
    | .py (.bool c), .py (.bool d) => some (!decide (c = d))
    | _, .py (.bool _) => some true
    | _, _ => none
def small64 (i : Int) : Bool := decide (-(2 ^ 64) < i) && decide (i < 2 ^ 64)
def catD (mu : Bool) (a b : D) (S : Store) : R D := match view S a, view S b with
  | .lst x, .lst y => mkLst mu (x ++ y) S
  | _, _ => .bad
def bopD (mu : Bool) (o : Bop) (a b : D) (S : Store) : R D := match o with
  | .add => match a, b with
    | .py (.int i), .py (.int j) => .ok (.py (.int (i + j))) S
    | .py (.str i), .py (.str j) => if fits (i.length + j.length) then .ok (.py (.str (i ++ j))) S else .bad
    | .py (.tuple x), .py (.tuple y) => if fits (x.length + y.length) then .ok (.py (.tuple (x ++ y))) S else .bad
    | .scr _, _ => .bad
    | _, .scr _ => .bad
    | _, _ => catD mu a b S
  | .sub => match a, b with
    | .py (.int i), .py (.int j) => .ok (.py (.int (i - j))) S
    | _, _ => .bad
  | .mul => match a, b with
    | .py (.int i), .py (.int j) => if small64 i || small64 j then .ok (.py (.int (i * j))) S else .bad
    | _, _ => .bad
  | .fdiv => match a, b with
    | .py (.int i), .py (.int j) => if decide (0 < j) && decide (j < 1073741824) then .ok (.py (.int (i / j))) S else .bad
    | _, _ => .bad
  | .mod => match a, b with
    | .py (.int i), .py (.int j) => if decide (0 < j) then .ok (.py (.int (i % j))) S else .bad
    | _, _ => .bad
  | .pow => match a, b with
    | .py (.int i), .py (.int j) => if decide (0 ≤ j) && decide (j ≤ 1000) && small64 i then .ok (.py (.int (i ^ j.toNat))) S else .bad
    | _, _ => .bad

/-! ### places -/
def idxD (S : Store) (a b : D) : Option D := match view S a with
  | .lst xs => match b with
    | .py (.int i) => atI xs i
    | _ => none
  | .tup xs => match b with
    | .py (.int i) => atI xs i
    | _ => none
  | .str z => match b with
    | .py (.int i) => if fits z.length then (atI z.cps.toList i).map fun c => .py (.str ⟨#[c]⟩) else none
    | _ => none
  | .dS kvs => match b with
    | .py (.str k) => dget kvs k
    | _ => none
  | .dT kvs => match b with
    | .py (.tuple k) => match strsOf k with
      | some t => dget kvs t
      | none => none
    | _ => none
  | .no => none
def cutD {A : Type} (xs : List A) (lo hi : Option Int) : List A := (xs.drop (HT.sIx xs.length 0 lo)).take (HT.sIx xs.length xs.length hi - HT.sIx xs.length 0 lo)
def intO : Option D → Option (Option Int)
  | none => some none
  | some (.py (.int i)) => some (some i)
  | _ => none
def sliD (S : Store) (a : D) (lo hi : Option Int) : Option D := match a with
  | .py (.list xs) => some (.py (.list (cutD xs lo hi)))
  | .py (.tuple xs) => some (.py (.tuple (cutD xs lo hi)))
  | _ => none

/-! ### sorting (insertion, stable) -/
def insB {A : Type} (le : A → A → Bool) (x : A) : List A → List A
  | [] => [x]
  | y :: r => if le x y then x :: y :: r else y :: insB le x r
def sortB {A : Type} (le : A → A → Bool) : List A → List A
  | [] => []
  | x :: r => insB le x (sortB le r)
def strLe (a b : Str) : Bool := !strLt b a
def lexLt : List Str → List Str → Bool
  | [], [] => false
  | [], _ :: _ => true
  | _ :: _, [] => false
  | a :: r, b :: s => if a = b then lexLt r s else strLt a b
def lexLe (a b : List Str) : Bool := !lexLt b a
def tupsOf : List PyData → Option (List (List Str))
  | [] => some []
  | .tuple k :: r => match strsOf k, tupsOf r with
    | some x, some l => some (x :: l)
    | _, _ => none
  | _ => none
/-- texts -/
def sortP (l : List PyData) : Option (List PyData) := match strsOf l with
  | some xs => some ((sortB strLe xs).map .str)
  | none => none
def lenT : PyData → Option Nat
  | .tuple xs => some xs.length
  | _ => none
def lensT : List PyData → Option (List (Nat × PyData))
  | [] => some []
  | d :: r => match lenT d, lensT r with
    | some n, some l => some ((n, d) :: l)
    | _, _ => none

/-! ### built-in functions -/
def lenD (S : Store) (d : D) : Option Nat := match view S d with
  | .lst xs => some xs.length
  | .tup xs => some xs.length
  | .str x => if fits x.length then some x.length else none
  | .dS kvs => some kvs.length
  | _ => none
/-- pairs for dict(..) -/
def pairsS : List PyData → Option (List (Str × D))
  | [] => some []
  | .tuple [.str k, v] :: r => match pairsS r with
    | some l => some ((k, .py v) :: l)
    | none => none
  | _ => none
def itemsD (S : Store) (d : D) : Option (List D) := match view S d with
  | .lst xs => some xs
  | .tup xs => some xs
  | _ => none
def bltD (mu : Bool) (b : Blt) (ds : List D) (S : Store) : R D := match b, ds with
  | .len, [d] => match lenD S d with
    | some n => .ok (.py (.int n)) S
    | none => .bad
  | .int, [.py (.int i)] => .ok (.py (.int i)) S
  | .list, [d] => match itemsD S d with
    | some xs => mkLst mu xs S
    | none => .bad
  | .tuple, [d] => match d with
    | .scr _ => .bad
    | _ => match itemsD S d with
      | some xs => mkTup xs S
      | none => .bad
  | .dict, [d] => match view S d with
    | .dS kvs => mkDS mu kvs S
    | .lst xs => match pys xs with
      | some l => match pairsS l with
        | some kvs => mkDS mu (mergeS [] kvs) S
        | none => .bad
      | none => .bad
    | _ => .bad
  | .all, [d] => match view S d with
    | .lst xs => match blsD xs with
      | some bs => .ok (bl (bs.all id)) S
      | none => .bad
    | _ => .bad
  | .any, [d] => match view S d with
    | .lst xs => match blsD xs with
      | some bs => .ok (bl (bs.any id)) S
      | none => .bad
    | _ => .bad
  | .sum, [d] => match view S d with
    | .lst xs => match intsD xs with
      | some ns => .ok (.py (.int ns.sum)) S
      | none => .bad
    | _ => .bad
  | .sorted, [d] => match view S d with
    | .dS kvs => if Nat.blt kvs.length 64 then mkLst mu ((sortB strLe (kvs.map (·.1))).map fun x => .py (.str x)) S else .bad
    | .lst xs => match pys xs with
      | some l => match sortP l with
        | some r => mkLst mu (r.map .py) S
        | none => .bad
      | none => .bad
    | .tup xs => match pys xs with
      | some l => match sortP l with
        | some r => mkLst mu (r.map .py) S
        | none => .bad
      | none => .bad
    | _ => .bad
  | .repr, [d] => match frzD S d with
    | some x => if SeqAt.shaped x && x.showable && x.intsShort 13 && Nat.ble x.weight 1000000 then .ok (.py (.str x.shown)) S else .bad
    | none => .bad
  | .max, [.py (.int i), .py (.int j)] => .ok (.py (.int (if j > i then j else i))) S
  | .min, [.py (.int i), .py (.int j)] => .ok (.py (.int (if j < i then j else i))) S
  | _, _ => .bad
/-- isinstance of a built-in class -/
def Ty.name : Ty → String
  | .int => "int" | .str => "str" | .bool => "bool" | .tuple => "tuple" | .list => "list" | .dict => "dict"
def tyName (S : Store) : D → Option String
  | .py .none => some "NoneType"
  | .py (.bool _) => some "bool"
  | .py (.int _) => some "int"
  | .py (.str _) => some "str"
  | .py (.tuple _) => some "tuple"
  | .py (.list _) => some "list"
  | .py (.dict kvs) => if (sKeys kvs).isSome then some "dict" else none
  | .ref n => match S[n]? with
    | some (.lst _) => some "list"
    | some (.dS _) => some "dict"
    | some (.dT _) => some "dict"
    | _ => none
  | .scr _ => some "list"
def subTy (a : String) (b : Ty) : Bool := a == b.name || (a == "bool" && b == .int)
def isiD (S : Store) (d : D) (T : Ty) : Option Bool := (tyName S d).map fun a => subTy a T

/-! ### methods -/
/-- what stands ahead of the dot is of the right kind -/
def recv (m : Met) (S : Store) (x : D) : Bool := match m, view S x with
  | .append, .lst _ => true
  | .extend, .lst _ => true
  | .insert, .lst _ => true
  | .pop, .lst _ => true
  | .index, .lst _ => true
  | .count, .lst _ => true
  | .get, .dS _ => true
  | .items, .dS _ => true
  | .update, .dS _ => true
  | .values, .dS _ => true
  | .join, .str _ => true
  | _, _ => false
def metD (mu : Bool) (m : Met) (o : D) (ds : List D) (S : Store) : R D := match m, ds with
  | .append, [x] => match o with
    | .ref n => match S[n]? with
      | some (.lst xs) => if fits xs.length then .ok (.py .none) (S.set n (.lst (xs ++ [x]))) else .bad
      | _ => .bad
    | _ => .bad
  | .items, [] => match view S o with
    | .dS kvs => match pyKv .str kvs with
      | some l => .ok (.py (.list (l.map fun p => .tuple [p.1, p.2]))) S
      | none => .bad
    | _ => .bad
  | _, _ => .bad
def putD (o i v : D) (S : Store) : Option Store := match o with
  | .ref n => match S[n]?, i with
    | some (.lst xs), .py (.int k) => match ixN xs.length k with
      | some j => some (S.set n (.lst (xs.set j v)))
      | none => none
    | some (.dS kvs), .py (.str k) => if fits kvs.length then some (S.set n (.dS (dput kvs k v))) else none
    | some (.dT kvs), .py (.tuple k) => match strsOf k with
      | some t => if fits kvs.length then some (S.set n (.dT (dput kvs t v))) else none
      | none => none
    | _, _ => none
  | _ => none

/-! ### targets, loops -/
abbrev Rho := List (Option D)
def setAll : List Nat → List D → Rho → Option Rho
  | [], [], r => some r
  | i :: is, d :: ds, r => setAll is ds (r.set i (some d))
  | _, _, _ => none
def bindT (t : Tg) (d : D) (r : Rho) : Option Rho := match t with
  | .one i => some (r.set i (some d))
  | .many is => match d with
    | .py (.tuple xs) => setAll is (xs.map .py) r
    | _ => none
def wipeD (r : Rho) : List Nat → Rho
  | [] => r
  | v :: vs => (wipeD r vs).set v none
/-- the list that is walked stands as it was -/
structure Src where
  items : List D
  guard : Option (Nat × List D)
def Src.stands (c : Src) (S : Store) : Bool := match c.guard with
  | none => true
  | some (n, ys) => match S[n]? with
    | some (.lst xs) => dbeqL xs ys
    | _ => false
/-- one turn a thing; each tells a thing or none -/
def loopC {A : Type} (ok : Store → Bool) (f : D → Store → R (Option A)) : List D → Store → R (List A)
  | [], S => .ok [] S
  | x :: xs, S => (f x S).bind fun o S1 => if ok S1 then (loopC ok f xs S1).bind fun ys S2 => .ok (match o with
    | some y => y :: ys
    | none => ys) S2 else .bad
inductive Fl where
  | nx (r : Rho) | rt (d : D) | bk (r : Rho) | ct (r : Rho)
def loopF (ok : Store → Bool) (f : D → Rho → Store → R Fl) : List D → Rho → Store → R Fl
  | [], r, S => .ok (.nx r) S
  | x :: xs, r, S => (f x r S).bind fun fl S1 => match fl with
    | .nx r1 => if ok S1 then loopF ok f xs r1 S1 else .bad
    | .ct r1 => if ok S1 then loopF ok f xs r1 S1 else .bad
    | .bk r1 => .ok (.nx r1) S1
    | .rt d => .ok (.rt d) S1
def loopW (c : Rho → Store → R Bool) (f : Rho → Store → R Fl) : Nat → Rho → Store → R Fl
  | 0, _, _ => .bad
  | n + 1, r, S => (c r S).bind fun b S1 => if b then (f r S1).bind fun fl S2 => match fl with
    | .nx r1 => loopW c f n r1 S2
    | .ct r1 => loopW c f n r1 S2
    | .bk r1 => .ok (.nx r1) S2
    | .rt d => .ok (.rt d) S2 else .ok (.nx r) S1
def rangeD (lo hi : Int) : List D := (List.range (hi - lo).toNat).map fun k => .py (.int (lo + (k : Nat)))
def enumD : Nat → List PyData → List D
  | _, [] => []
  | n, d :: r => .py (.tuple [.int n, d]) :: enumD (n + 1) r
def zipD : List PyData → List PyData → List D
  | a :: r, b :: s => .py (.tuple [a, b]) :: zipD r s
  | _, _ => []
def srcOf (S : Store) (d : D) : Option Src := match d with
  | .scr _ => none
  | .ref n => match S[n]? with
    | some (.lst xs) => some ⟨xs, some (n, xs)⟩
    | _ => none
  | .py (.list xs) => some ⟨xs.map .py, none⟩
  | .py (.tuple xs) => some ⟨xs.map .py, none⟩
  | .py (.str x) => some ⟨x.cps.toList.map fun c => .py (.str ⟨#[c]⟩), none⟩
  | _ => none
def enuOf (S : Store) (d : D) : Option Src := match d with
  | .ref n => match S[n]? with
    | some (.lst xs) => match pys xs with
      | some l => some ⟨enumD 0 l, some (n, xs)⟩
      | none => none
    | _ => none
  | .py (.list xs) => some ⟨enumD 0 xs, none⟩
  | .py (.tuple xs) => some ⟨enumD 0 xs, none⟩
  | _ => none
def rng (a b : D) : Option Src := match a, b with
  | .py (.int i), .py (.int j) => if decide (-(2 ^ 62) ≤ i) && decide (i < 2 ^ 62) && decide (-(2 ^ 62) ≤ j) && decide (j < 2 ^ 62) then some ⟨rangeD i j, none⟩ else none
  | _, _ => none

/-- the pairs of a display, keys and values by turns -/
def pairsD : List D → Option (List (Str × D))
  | [] => some []
  | .py (.str k) :: v :: r => match pairsD r with
    | some l => some ((k, v) :: l)
    | none => none
  | _ => none

/-! ### the evaluator -/
abbrev Gam := Bool → Str → List D → Store → R D
mutual
def evE (G : Gam) : CE → Rho → Store → R D
  | .loc i, r, S => match r[i]? with
    | some (some d) => .ok d S
    | _ => .bad
  | .con d, _, S => .ok (.py d) S
  | .glo _ d, _, S => .ok (.py d) S
  | .tup es, r, S => (evEs G es r S).bind fun ds S1 => mkTup ds S1
  | .lst mu es, r, S => (evEs G es r S).bind fun ds S1 => mkLst mu ds S1
  | .dic mu es, r, S => (evEs G es r S).bind fun ds S1 => match pairsD ds with
    | some kvs => if Nat.ble kvs.length 15 then mkDS mu (mergeS [] kvs) S1 else .bad
    | none => .bad
  | .bop mu o a b, r, S => (evE G a r S).bind fun x S1 => (evE G b r S1).bind fun y S2 => bopD mu o x y S2
  | .neg a, r, S => (evE G a r S).bind fun x S1 => match x with
    | .py (.int i) => .ok (.py (.int (-i))) S1
    | _ => .bad
  | .cmp o a b, r, S => (evE G a r S).bind fun x S1 => (evE G b r S1).bind fun y S2 => R.of ((cmpD S2 o x y).map bl) S2
  | .cmp2 o p a b c, r, S => (evE G a r S).bind fun x S1 => (evE G b r S1).bind fun y S2 => match cmpD S2 o x y with
    | some true => (evE G c r S2).bind fun z S3 => R.of ((cmpD S3 p y z).map bl) S3
    | some false => .ok (bl false) S2
    | none => .bad
  | .and a b, r, S => (evE G a r S).bind fun x S1 => match truth S1 x with
    | some true => evE G b r S1
    | some false => .ok x S1
    | none => .bad
  | .or a b, r, S => (evE G a r S).bind fun x S1 => match truth S1 x with
    | some true => .ok x S1
    | some false => evE G b r S1
    | none => .bad
  | .not a, r, S => (evE G a r S).bind fun x S1 => R.of ((truth S1 x).map fun b => bl !b) S1
  | .ite c a b, r, S => (evE G c r S).bind fun x S1 => match truth S1 x with
    | some true => evE G a r S1
    | some false => evE G b r S1
    | none => .bad
  | .idx a b, r, S => (evE G a r S).bind fun x S1 => (evE G b r S1).bind fun y S2 => R.of (idxD S2 x y) S2
  | .sli a lo hi, r, S => (evE G a r S).bind fun x S1 => (evO G lo r S1).bind fun l S2 => match intO l with
    | some i => (evO G hi r S2).bind fun h S3 => match intO h with
      | some j => R.of (sliD S3 x i j) S3
      | none => .bad
    | none => .bad
  | .rev a, r, S => .bad
  | .call mu f es, r, S => (evEs G es r S).bind fun ds S1 => G mu f ds S1
  | .blt mu b es, r, S => (evEs G es r S).bind fun ds S1 => bltD mu b ds S1
  | .sortLen a, r, S => (evE G a r S).bind fun x S1 => match view S1 x with
    | .lst xs => match pys xs with
      | some l => match lensT l with
        | some t => mkLst false ((sortB (fun p q => Nat.ble p.1 q.1) t).map fun p => .py p.2) S1
        | none => .bad
      | none => .bad
    | _ => .bad
  | .isi a T, r, S => (evE G a r S).bind fun x S1 => R.of ((isiD S1 x T).map bl) S1
  | .met mu m o es, r, S => (evE G o r S).bind fun x S1 => if recv m S1 x then (evEs G es r S1).bind fun ds S2 => metD mu m x ds S2 else .bad
  | .lc mu elt own t it c, r, S => (evI G it r S).bind fun src S1 => (loopC src.stands (fun x S2 => match bindT t x (wipeD r own) with
    | some r1 => (evC G c r1 S2).bind fun b S3 => if b then (evE G elt r1 S3).bind fun y S4 => .ok (some y) S4 else .ok none S3
    | none => .bad) src.items S1).bind fun ys S5 => mkLst mu ys S5
  | .lc2 mu elt own t it c t2 it2 c2, r, S => .bad
  | .dc mu k v own t it c, r, S => (evI G it r S).bind fun src S1 => (loopC src.stands (fun x S2 => match bindT t x (wipeD r own) with
    | some r1 => (evC G c r1 S2).bind fun b S3 => if b then (evE G k r1 S3).bind fun y S4 => match y with
        | .py (.str z) => (evE G v r1 S4).bind fun w S5 => .ok (some (z, w)) S5
        | _ => .bad else .ok none S3
    | none => .bad) src.items S1).bind fun ys S5 => mkDC mu ys S5
  | .dc2 mu k v own t it c t2 it2 c2, r, S => .bad
  | .setLen elt own t it c, r, S => .bad
  | .setSort elt own t it c, r, S => .bad
  | .setSort2 elt own t it c t2 it2 c2, r, S => .bad
def evEs (G : Gam) : CEs → Rho → Store → R (List D)
  | .nil, _, S => .ok [] S
  | .cons e es, r, S => (evE G e r S).bind fun d S1 => (evEs G es r S1).bind fun ds S2 => .ok (d :: ds) S2
def evO (G : Gam) : CO → Rho → Store → R (Option D)
  | .none, _, S => .ok none S
  | .some e, r, S => (evE G e r S).bind fun d S1 => .ok (some d) S1
def evC (G : Gam) : CO → Rho → Store → R Bool
  | .none, _, S => .ok true S
  | .some e, r, S => (evE G e r S).bind fun d S1 => R.of (truth S1 d) S1
def evI (G : Gam) : CI → Rho → Store → R Src
  | .seq e, r, S => (evE G e r S).bind fun d S1 => R.of (srcOf S1 d) S1
  | .rng1 a, r, S => (evE G a r S).bind fun d S1 => R.of (rng (.py (.int 0)) d) S1
  | .rng2 a b, r, S => (evE G a r S).bind fun d S1 => (evE G b r S1).bind fun e S2 => R.of (rng d e) S2
  | .enu e, r, S => (evE G e r S).bind fun d S1 => R.of (enuOf S1 d) S1
  | .zip a b, r, S => .bad
  | .keys e, r, S => .bad
  | .items e, r, S => .bad
  | .vals e, r, S => .bad
end
mutual
def exS (G : Gam) (F : Nat) : CS → Rho → Store → R Fl
  | .exp e, r, S => (evE G e r S).bind fun _ S1 => .ok (.nx r) S1
  | .asg i e, r, S => (evE G e r S).bind fun d S1 => .ok (.nx (r.set i (some d))) S1
  | .par is es, r, S => (evEs G es r S).bind fun ds S1 => R.of ((setAll is ds r).map .nx) S1
  | .unp is e, r, S => (evE G e r S).bind fun d S1 => R.of ((bindT (.many is) d r).map .nx) S1
  | .sub o i e, r, S => (evE G e r S).bind fun v S1 => (evE G o r S1).bind fun x S2 => (evE G i r S2).bind fun k S3 => match putD x k v S3 with
    | some S4 => .ok (.nx r) S4
    | none => .bad
  | .aug i o e, r, S => match r[i]? with
    | some (some x) => (evE G e r S).bind fun y S1 => match o, x, y with
      | .add, .py (.int a), .py (.int b) => .ok (.nx (r.set i (some (.py (.int (a + b)))))) S1
      | _, _, _ => .bad
    | _ => .bad
  | .ret e, r, S => (evE G e r S).bind fun d S1 => .ok (.rt d) S1
  | .ite c a b, r, S => (evE G c r S).bind fun x S1 => match truth S1 x with
    | some true => exSs G F a r S1
    | some false => exSs G F b r S1
    | none => .bad
  | .loop t it b, r, S => (evI G it r S).bind fun src S1 => loopF src.stands (fun x r1 S2 => match bindT t x r1 with
    | some r2 => exSs G F b r2 S2
    | none => .bad) src.items r S1
  | .whl c b, r, S => loopW (fun r1 S1 => (evE G c r1 S1).bind fun d S2 => R.of (truth S2 d) S2) (fun r1 S1 => exSs G F b r1 S1) F r S
  | .brk, r, S => .ok (.bk r) S
  | .cnt, r, S => .ok (.ct r) S
  | .pass, r, S => .ok (.nx r) S
  | .rais, _, _ => .bad
def exSs (G : Gam) (F : Nat) : CSs → Rho → Store → R Fl
  | .nil, r, S => .ok (.nx r) S
  | .cons s ss, r, S => (exS G F s r S).bind fun fl S1 => match fl with
    | .nx r1 => exSs G F ss r1 S1
    | .ct r1 => .ok (.ct r1) S1
    | .bk r1 => .ok (.bk r1) S1
    | .rt d => .ok (.rt d) S1
end

/-! ### own defs -/
/-- a def: its parameters, its names, its body -/
structure Fn where
  ps : Nat
  n : Nat
  body : CSs
abbrev Tab := Str → Option Fn
def startD (fn : Fn) (ds : List D) : Rho := ds.map some ++ List.replicate (fn.n - fn.ps) none
def endD : Fl → Store → R D
  | .rt d, S => .ok d S
  | .nx _, S => .ok (.py .none) S
  | _, _ => .bad
/-- the def's own run -/
def runF (T : Tab) (F : Nat) (G : Gam) (f : Str) (ds : List D) (S : Store) : R D := match T f with
  | some fn => if ds.length = fn.ps then (exSs G F fn.body (startD fn ds) S).bind endD else .bad
  | none => .bad
def isPy : D → Bool
  | .py _ => true
  | _ => false
def closedD (n : Nat) : D → Bool
  | .ref k => Nat.blt k n
  | _ => true
def closedO (n : Nat) : Ob → Bool
  | .lst xs => xs.all (closedD n)
  | .dS kvs => kvs.all fun p => closedD n p.2
  | .dT kvs => kvs.all fun p => closedD n p.2
  | .ins _ fs => fs.all fun p => closedD n p.2
/-- the end of a call upon data alone: it ran in a store of its own -/
def endP (mu : Bool) (S : Store) : D → Store → R D
  | .py d, _ => .ok (.py d) S
  | .ref n, S' => if mu then match S'[n]? with
      | some (.lst xs) => match pys xs with
        | some _ => .ok (.ref S.length) (S ++ [.lst xs])
        | none => .bad
      | _ => .bad
    else match frzD S' (.ref n) with
      | some d => .ok (.py d) S
      | none => .bad
  | .scr _, _ => .bad
/-- the end of a call that was handed things of the store: what is new and cannot be reached goes -/
def endC (S : Store) (d : D) (S' : Store) : R D :=
  if isPy d && (S'.take S.length).all (closedO S.length) then .ok d (S'.take S.length) else .ok d S'
def call (T : Tab) (F : Nat) : Nat → Gam
  | 0, _, _, _, _ => .bad
  | n + 1, mu, f, ds, S => if ds.all isPy then (runF T F (call T F n) f ds []).bind (endP mu S) else (runF T F (call T F n) f ds S).bind (endC S)
end Sf
end
section
set_option maxRecDepth 100000
set_option maxHeartbeats 4000000
namespace Sf
open PySem PySem.Spec L2
open PyProof.Rows hiding St

/-! ### how data lie in the abstract heap; m: the places of the store's things -/
/-- the places of the things of the callers' stores, and of this one -/
structure Mu where
  z : List Addr
  l : List Addr
instance : Membership Addr Mu := ⟨fun m a => a ∈ m.z ∨ a ∈ m.l⟩
theorem Mu.mem {a : Addr} {m : Mu} : a ∈ m ↔ a ∈ m.z ∨ a ∈ m.l := Iff.rfl
def Mu.push (m : Mu) (p : Addr) : Mu := ⟨m.z, m.l ++ [p]⟩
def keyP : Key → PyData
  | .inl i => .int i
  | .inr x => .str x
def tkeyP (k : List Key) : PyData := .tuple (k.map keyP)
mutual
inductive Rp (K : PySem.W.Frag) (H : Hp) (m : Mu) : PyData → V → Prop
  | non : Rp K H m .none .non
  | bl (b : Bool) : Rp K H m (.bool b) (.bl b)
  | int (i : Int) : Rp K H m (.int i) (.int i)
  | str (x : Str) : Rp K H m (.str x) (.str x)
  | lst {a : Addr} {vs : List V} {xs : List PyData} : H a = some (.lst vs) → a ∉ m → RpAll K H m xs vs → Rp K H m (.list xs) (.ref a)
  | tup {a : Addr} {vs : List V} {xs : List PyData} : H a = some (.tup vs) → a ∉ m → RpAll K H m xs vs → Rp K H m (.tuple xs) (.ref a)
  | dk {a : Addr} {ks : List (Key × V)} {kvs : List (PyData × PyData)} : H a = some (.dK ks) → a ∉ m → RpKv K H m kvs ks → Rp K H m (.dict kvs) (.ref a)
  | dt {a : Addr} {ks : List (List Key × V)} {kvs : List (PyData × PyData)} : H a = some (.dT ks) → a ∉ m → RpKt K H m kvs ks → kvs ≠ [] → Rp K H m (.dict kvs) (.ref a)
inductive RpAll (K : PySem.W.Frag) (H : Hp) (m : Mu) : List PyData → List V → Prop
  | nil : RpAll K H m [] []
  | cons {d : PyData} {ds : List PyData} {v : V} {vs : List V} : Rp K H m d v → RpAll K H m ds vs → RpAll K H m (d :: ds) (v :: vs)
inductive RpKv (K : PySem.W.Frag) (H : Hp) (m : Mu) : List (PyData × PyData) → List (Key × V) → Prop
  | nil : RpKv K H m [] []
  | cons {k : Key} {d : PyData} {ds : List (PyData × PyData)} {v : V} {vs : List (Key × V)} : Rp K H m d v → RpKv K H m ds vs → RpKv K H m ((keyP k, d) :: ds) ((k, v) :: vs)
inductive RpKt (K : PySem.W.Frag) (H : Hp) (m : Mu) : List (PyData × PyData) → List (List Key × V) → Prop
  | nil : RpKt K H m [] []
  | cons {k : List Key} {d : PyData} {ds : List (PyData × PyData)} {v : V} {vs : List (List Key × V)} : Rp K H m d v → RpKt K H m ds vs → RpKt K H m ((tkeyP k, d) :: ds) ((k, v) :: vs)
end
def RpD (K : PySem.W.Frag) (H : Hp) (m : Mu) : D → V → Prop
  | .py d, v => Rp K H m d v
  | .ref n, v => ∃ a, m.l[n]? = some a ∧ v = .ref a
  | .scr ns, v => ∃ a, v = .ref a ∧ ((Rd H a (.lst (ns.map V.int)) ∧ a ∉ m) ∨ SqL K (fun _ => none) a (ns.map V.int))
abbrev RpDs (K : PySem.W.Frag) (H : Hp) (m : Mu) : List D → List V → Prop := Paired (RpD K H m)
abbrev KvD (K : PySem.W.Frag) (H : Hp) (m : Mu) : List (Str × D) → List (Key × V) → Prop := Paired fun p q => q.1 = Sum.inr p.1 ∧ RpD K H m p.2 q.2
abbrev KtD (K : PySem.W.Frag) (H : Hp) (m : Mu) : List (List Str × D) → List (List Key × V) → Prop := Paired fun p q => q.1 = p.1.map Sum.inr ∧ RpD K H m p.2 q.2
def ObR (K : PySem.W.Frag) (H : Hp) (m : Mu) (a : Addr) : Ob → Prop
  | .lst xs => ∃ vs, H a = some (.lst vs) ∧ RpDs K H m xs vs
  | .dS kvs => ∃ ks, H a = some (.dK ks) ∧ KvD K H m kvs ks
  | .dT kvs => ∃ ks, H a = some (.dT ks) ∧ KtD K H m kvs ks
  | .ins _ _ => False
structure StOk (K : PySem.W.Frag) (H : Hp) (m : Mu) (S : Store) : Prop where
  nd : m.l.Nodup
  len : S.length = m.l.length
  ob : ∀ (i : Nat) (a : Addr) (o : Ob), m.l[i]? = some a → S[i]? = some o → ObR K H m a o
  zs : ∀ a ∈ m.z, ∃ o, H a = some o
  dis : ∀ a ∈ m.z, a ∉ m.l

/-! ### going on: new things, and what stood stands -/
structure Ext (m : Mu) (H : Hp) (m' : Mu) (H' : Hp) : Prop where
  z : m'.z = m.z
  pre : ∃ n, m'.l = m.l ++ n ∧ ∀ a ∈ n, H a = none
  keep : ∀ a o, a ∉ m.l → H a = some o → H' a = some o
  all : ∀ a ∈ m'.l, ∃ o, H' a = some o
theorem Ext.trans {m m1 m2 : Mu} {H H1 H2 : Hp} (a : Ext m H m1 H1) (b : Ext m1 H1 m2 H2) : Ext m H m2 H2 := by
  obtain ⟨n, e, f⟩ := a.pre
  obtain ⟨k, e2, f2⟩ := b.pre
  have nin : ∀ {x : Addr} {o : HO}, x ∉ m.l → H x = some o → x ∉ m1.l := fun {x o} hx ho hm => by
    rw [e] at hm
    rcases List.mem_append.mp hm with z | z
    · exact hx z
    · rw [f x z] at ho; cases ho
  refine ⟨b.z.trans a.z, ⟨n ++ k, by rw [e2, e, List.append_assoc], fun x hx => ?_⟩, fun x o hx ho => b.keep x o (nin hx ho) (a.keep x o hx ho), b.all⟩
  rcases List.mem_append.mp hx with z | z
  · exact f x z
  · have h1 : H1 x = none := f2 x z
    cases q : H x with
    | none => rfl
    | some o =>
      by_cases hm : x ∈ m.l
      · obtain ⟨o', ho'⟩ := a.all x (by rw [e]; exact List.mem_append_left _ hm)
        rw [h1] at ho'; cases ho'
      · rw [a.keep x o hm q] at h1; cases h1
theorem Ext.not {m m' : Mu} {H H' : Hp} (a : Ext m H m' H') {x : Addr} {o : HO} (hx : x ∉ m) (ho : H x = some o) : x ∉ m' := fun hm => by
  obtain ⟨n, e, f⟩ := a.pre
  rcases hm with z | z
  · rw [a.z] at z; exact hx (.inl z)
  · rw [e] at z
    rcases List.mem_append.mp z with z | z
    · exact hx (.inr z)
    · rw [f x z] at ho; cases ho
theorem Ext.kp {m m' : Mu} {H H' : Hp} (a : Ext m H m' H') {x : Addr} {o : HO} (hx : x ∉ m) (ho : H x = some o) : H' x = some o := a.keep x o (fun z => hx (.inr z)) ho
theorem Ext.rd {m m' : Mu} {H H' : Hp} (a : Ext m H m' H') {x : Addr} {u : HO} (hx : x ∉ m) (ho : Rd H x u) : Rd H' x u ∧ x ∉ m' := by
  rcases ho with z | ⟨o, z⟩
  · exact ⟨.inl (a.kp hx z), a.not hx z⟩
  · exact ⟨.inr ⟨o, a.kp hx z⟩, a.not hx z⟩
section
variable {K : PySem.W.Frag} {H H' : Hp} {m m' : Mu}
theorem StOk.all {S : Store} (s : StOk K H m S) : ∀ a ∈ m.l, ∃ o, H a = some o := fun a ha => by
  obtain ⟨i, hi, e⟩ := List.getElem_of_mem ha
  have hm : m.l[i]? = some a := by rw [List.getElem?_eq_getElem hi, e]
  have hS : i < S.length := by rw [s.len]; exact hi
  have ho := s.ob i a S[i] hm (List.getElem?_eq_getElem hS)
  cases q : S[i] with
  | lst xs => rw [q] at ho; obtain ⟨vs, h, _⟩ := ho; exact ⟨_, h⟩
  | dS xs => rw [q] at ho; obtain ⟨vs, h, _⟩ := ho; exact ⟨_, h⟩
  | dT xs => rw [q] at ho; obtain ⟨vs, h, _⟩ := ho; exact ⟨_, h⟩
  | ins c fs => rw [q] at ho; exact ho.elim
theorem StOk.refl {S : Store} (s : StOk K H m S) : Ext m H m H := ⟨rfl, ⟨[], by simp, fun _ h => nomatch h⟩, fun _ _ _ h => h, s.all⟩
mutual
theorem Rp.ext (e : Ext m H m' H') : ∀ (d : PyData) (v : V), Rp K H m d v → Rp K H' m' d v
  | .none, _, h => by cases h; exact .non
  | .bool b, _, h => by cases h; exact .bl b
  | .int i, _, h => by cases h; exact .int i
  | .str x, _, h => by cases h; exact .str x
  | .list xs, _, h => by
    cases h with
    | lst h1 h2 h3 => exact .lst (e.kp h2 h1) (e.not h2 h1) (RpAll.ext e xs _ h3)
  | .tuple xs, _, h => by
    cases h with
    | tup h1 h2 h3 => exact .tup (e.kp h2 h1) (e.not h2 h1) (RpAll.ext e xs _ h3)
  | .dict kvs, _, h => by
    cases h with
    | dk h1 h2 h3 => exact .dk (e.kp h2 h1) (e.not h2 h1) (RpKv.ext e kvs _ h3)
    | dt h1 h2 h3 h4 => exact .dt (e.kp h2 h1) (e.not h2 h1) (RpKt.ext e kvs _ h3) h4
theorem RpAll.ext (e : Ext m H m' H') : ∀ (ds : List PyData) (vs : List V), RpAll K H m ds vs → RpAll K H' m' ds vs
  | [], _, h => by cases h; exact .nil
  | d :: ds, _, h => by
    cases h with
    | cons h1 h2 => exact .cons (Rp.ext e d _ h1) (RpAll.ext e ds _ h2)
theorem RpKv.ext (e : Ext m H m' H') : ∀ (ds : List (PyData × PyData)) (vs : List (Key × V)), RpKv K H m ds vs → RpKv K H' m' ds vs
  | [], _, h => by cases h; exact .nil
  | (k, d) :: ds, _, h => by
    cases h with
    | cons h1 h2 => exact .cons (Rp.ext e d _ h1) (RpKv.ext e ds _ h2)
theorem RpKt.ext (e : Ext m H m' H') : ∀ (ds : List (PyData × PyData)) (vs : List (List Key × V)), RpKt K H m ds vs → RpKt K H' m' ds vs
  | [], _, h => by cases h; exact .nil
  | (k, d) :: ds, _, h => by
    cases h with
    | cons h1 h2 => exact .cons (Rp.ext e d _ h1) (RpKt.ext e ds _ h2)
end
theorem RpD.ext (e : Ext m H m' H') {d : D} {v : V} (h : RpD K H m d v) : RpD K H' m' d v := by
  cases d with
  | py d => exact Rp.ext e d v h
  | ref n =>
    obtain ⟨a, h1, h2⟩ := h
    obtain ⟨k, e1, _⟩ := e.pre
    refine ⟨a, ?_, h2⟩
    rw [e1, List.getElem?_append_left (List.getElem?_eq_some_iff.mp h1).1]
    exact h1
  | scr ns =>
    obtain ⟨a, h1, h2⟩ := h
    exact ⟨a, h1, h2.elim (fun z => .inl (e.rd z.2 z.1)) .inr⟩
theorem Paired.mono2 {A B : Type} {F G : A → B → Prop} {l1 : List A} {l2 : List B} (h : Paired F l1 l2) (f : ∀ a b, F a b → G a b) : Paired G l1 l2 := Paired.mapP h f
theorem RpDs.ext (e : Ext m H m' H') {ds : List D} {vs : List V} (h : RpDs K H m ds vs) : RpDs K H' m' ds vs := Paired.mapP h fun _ _ z => z.ext e

/-! ### names -/
def LocOk (K : PySem.W.Frag) (H : Hp) (m : Mu) (r : Rho) (σ : St) : Prop := r.length = σ.length ∧ ∀ (i : Nat) (d : D), r[i]? = some (some d) → ∃ v, σ[i]? = some (some v) ∧ RpD K H m d v
theorem LocOk.ext (e : Ext m H m' H') {r : Rho} {σ : St} (h : LocOk K H m r σ) : LocOk K H' m' r σ := ⟨h.1, fun i d q => by
  obtain ⟨v, h1, h2⟩ := h.2 i d q
  exact ⟨v, h1, h2.ext e⟩⟩
theorem LocOk.set {r : Rho} {σ : St} {d : D} {v : V} (h : LocOk K H m r σ) (i : Nat) (q : RpD K H m d v) : LocOk K H m (r.set i (some d)) (σ.set i (some v)) := by
  refine ⟨by simp [h.1], fun j e z => ?_⟩
  by_cases hj : j = i
  · subst hj
    have hl : j < r.length := by
      have := (List.getElem?_eq_some_iff.mp z).1
      simpa using this
    rw [List.getElem?_set_self hl] at z
    cases z
    exact ⟨v, by rw [List.getElem?_set_self (by rw [← h.1]; exact hl)], q⟩
  · rw [List.getElem?_set_ne (Ne.symm hj)] at z
    obtain ⟨u, h1, h2⟩ := h.2 j e z
    exact ⟨u, by rw [List.getElem?_set_ne (Ne.symm hj)]; exact h1, h2⟩
theorem LocOk.wipe {r : Rho} {σ : St} (h : LocOk K H m r σ) : ∀ own : List Nat, LocOk K H m (wipeD r own) (wipe σ own)
  | [] => h
  | i :: own => by
    have ih := LocOk.wipe h own
    refine ⟨by simp [wipeD, L2.wipe, ih.1], fun j e z => ?_⟩
    unfold wipeD at z
    by_cases hj : j = i
    · subst hj
      by_cases hl : j < (wipeD r own).length
      · rw [List.getElem?_set_self hl] at z; cases z
      · rw [List.getElem?_eq_none (by simpa using hl)] at z; cases z
    · rw [List.getElem?_set_ne (Ne.symm hj)] at z
      obtain ⟨u, h1, h2⟩ := ih.2 j e z
      exact ⟨u, by unfold L2.wipe; rw [List.getElem?_set_ne (Ne.symm hj)]; exact h1, h2⟩

/-! ### lists of data -/
theorem RpAll.ds : ∀ {ds : List PyData} {vs : List V}, RpAll K H m ds vs → RpDs K H m (ds.map .py) vs
  | [], _, h => by cases h; exact .nil
  | d :: ds, _, h => by
    cases h with
    | cons h1 h2 => exact .cons h1 (RpAll.ds h2)
theorem pys_all : ∀ {xs : List D} {l : List PyData} {vs : List V}, pys xs = some l → RpDs K H m xs vs → RpAll K H m l vs
  | [], l, _, e, h => by
    cases h
    have e : l = [] := by simpa [pys] using e.symm
    subst e
    exact .nil
  | .py d :: r, l, _, e, h => by
    cases h with
    | cons h1 h2 =>
      unfold pys at e
      cases q : pys r with
      | none => rw [q] at e; cases e
      | some k =>
        rw [q] at e
        cases e
        exact .cons h1 (pys_all q h2)
  | .ref n :: r, _, _, e, _ => by simp [pys] at e
  | .scr n :: r, _, _, e, _ => by simp [pys] at e
theorem pys_map : ∀ {xs : List D} {l : List PyData}, pys xs = some l → xs = l.map .py
  | [], l, e => by
    have e : l = [] := by simpa [pys] using e.symm
    subst e
    rfl
  | .py d :: r, l, e => by
    unfold pys at e
    cases q : pys r with
    | none => rw [q] at e; cases e
    | some k =>
      rw [q] at e
      cases e
      rw [pys_map q]
      rfl
  | .ref n :: r, _, e => by simp [pys] at e
  | .scr n :: r, _, e => by simp [pys] at e
@[simp] theorem pys_py : ∀ l : List PyData, pys (l.map .py) = some l
  | [] => rfl
  | d :: l => by simp [pys, pys_py l]
theorem RpAll.length : ∀ {ds : List PyData} {vs : List V}, RpAll K H m ds vs → ds.length = vs.length
  | [], _, h => by cases h; rfl
  | d :: ds, _, h => by
    cases h with
    | cons h1 h2 => simp [RpAll.length h2]
theorem RpDs.get {ds : List D} {vs : List V} (h : RpDs K H m ds vs) {i : Nat} {d : D} (e : ds[i]? = some d) : ∃ v, vs[i]? = some v ∧ RpD K H m d v := paired_get h e
theorem RpDs.append : ∀ {ds es : List D} {vs us : List V}, RpDs K H m ds vs → RpDs K H m es us → RpDs K H m (ds ++ es) (vs ++ us)
  | _, _, _, _, .nil, q => q
  | _, _, _, _, .cons r t, q => .cons r (RpDs.append t q)

/-! ### what is read -/
theorem view_dict_ne {S : Store} (kvs : List (PyData × PyData)) {w : Vw} (h1 : ∀ l, w ≠ .dS l) (h2 : (∀ l, w ≠ .dT l) ∧ w ≠ .no) : view S (.py (.dict kvs)) ≠ w := by
  intro e
  simp only [view] at e
  cases q : sKeys kvs with
  | some l => rw [q] at e; exact h1 l e.symm
  | none =>
    rw [q] at e
    cases q2 : tKeys kvs with
    | some l => rw [q2] at e; exact h2.1 l e.symm
    | none => rw [q2] at e; exact h2.2 e.symm
theorem view_lst {S : Store} {d : D} {v : V} {xs : List D} (s : StOk K H m S) (h : RpD K H m d v) (e : view S d = .lst xs) : ∃ a vs, v = .ref a ∧ SqL K H a vs ∧ RpDs K H m xs vs := by
  cases d with
  | py d =>
    cases d with
    | list ys =>
      cases h with
      | lst h1 h2 h3 =>
        have e : ys.map .py = xs := by simpa [view] using e
        subst e
        exact ⟨_, _, rfl, SqL.of h1, h3.ds⟩
    | dict kvs => exact absurd e (view_dict_ne kvs (fun _ z => nomatch z) ⟨fun _ z => (nomatch z), fun z => (nomatch z)⟩)
    | _ => simp [view] at e
  | ref n =>
    obtain ⟨a, h1, h2⟩ := h
    unfold view at e
    cases q : S[n]? with
    | none => simp [q] at e
    | some o =>
      have ho := s.ob n a o h1 q
      cases o with
      | lst ys =>
        simp [q] at e
        subst e
        obtain ⟨vs, z1, z2⟩ := ho
        exact ⟨a, vs, h2, SqL.of z1, z2⟩
      | _ => simp [q] at e
  | scr ns =>
    obtain ⟨a, h1, h2⟩ := h
    have e : (ns.map fun i => D.py (.int i)) = xs := by simpa [view] using e
    subst e
    refine ⟨a, ns.map V.int, h1, ?_, ?_⟩
    · rcases h2 with z | z
      · exact .inl z.1
      · rcases z with z | z
        · rcases z with z | ⟨o, z⟩ <;> cases z
        · exact .inr z
    · clear h2 h1 e
      induction ns with
      | nil => exact .nil
      | cons n ns ih => exact .cons (.int n) ih
theorem view_lstX {S : Store} {d : D} {v : V} {xs : List D} (s : StOk K H m S) (h : RpD K H m d v) (e : view S d = .lst xs) (hn : ∀ ns, d ≠ .scr ns) : ∃ a vs, v = .ref a ∧ H a = some (.lst vs) ∧ RpDs K H m xs vs := by
  cases d with
  | py d =>
    cases d with
    | list ys =>
      cases h with
      | lst h1 h2 h3 =>
        have e : ys.map .py = xs := by simpa [view] using e
        subst e
        exact ⟨_, _, rfl, h1, h3.ds⟩
    | dict kvs => exact absurd e (view_dict_ne kvs (fun _ z => nomatch z) ⟨fun _ z => (nomatch z), fun z => (nomatch z)⟩)
    | _ => simp [view] at e
  | ref n =>
    obtain ⟨a, h1, h2⟩ := h
    unfold view at e
    cases q : S[n]? with
    | none => simp [q] at e
    | some o =>
      have ho := s.ob n a o h1 q
      cases o with
      | lst ys =>
        simp [q] at e
        subst e
        obtain ⟨vs, z1, z2⟩ := ho
        exact ⟨a, vs, h2, z1, z2⟩
      | _ => simp [q] at e
  | scr ns => exact absurd rfl (hn ns)
theorem view_tup {S : Store} {d : D} {v : V} {xs : List D} (s : StOk K H m S) (h : RpD K H m d v) (e : view S d = .tup xs) : ∃ a vs, v = .ref a ∧ H a = some (.tup vs) ∧ a ∉ m ∧ RpDs K H m xs vs := by
  cases d with
  | py d =>
    cases d with
    | tuple ys =>
      cases h with
      | tup h1 h2 h3 =>
        have e : ys.map .py = xs := by simpa [view] using e
        subst e
        exact ⟨_, _, rfl, h1, h2, h3.ds⟩
    | dict kvs => exact absurd e (view_dict_ne kvs (fun _ z => nomatch z) ⟨fun _ z => (nomatch z), fun z => (nomatch z)⟩)
    | _ => simp [view] at e
  | ref n =>
    unfold view at e
    cases q : S[n]? with
    | none => simp [q] at e
    | some o => cases o <;> simp [q] at e
  | scr ns => simp [view] at e
theorem view_str {S : Store} {d : D} {v : V} {x : Str} (h : RpD K H m d v) (e : view S d = .str x) : v = .str x ∧ d = .py (.str x) := by
  cases d with
  | py d =>
    cases d with
    | str y =>
      cases h
      have e : y = x := by simpa [view] using e
      subst e
      exact ⟨rfl, rfl⟩
    | dict kvs => exact absurd e (view_dict_ne kvs (fun _ z => nomatch z) ⟨fun _ z => (nomatch z), fun z => (nomatch z)⟩)
    | _ => simp [view] at e
  | ref n =>
    unfold view at e
    cases q : S[n]? with
    | none => simp [q] at e
    | some o => cases o <;> simp [q] at e
  | scr ns => simp [view] at e
theorem sKeys_kv : ∀ {kvs : List (PyData × PyData)} {l : List (Str × D)} {ks : List (Key × V)}, sKeys kvs = some l → RpKv K H m kvs ks → KvD K H m l ks
  | [], l, ks, e, h => by
    cases h
    cases e
    exact .nil
  | (k, d) :: r, l, ks, e, h => by
    cases h with
    | @cons k _ _ _ _ h1 h2 =>
      cases k with
      | inl i => simp [keyP, sKeys] at e
      | inr x =>
        simp only [keyP, sKeys] at e
        cases q : sKeys r with
        | none => rw [q] at e; cases e
        | some n =>
          rw [q] at e
          cases e
          exact .cons ⟨rfl, h1⟩ (sKeys_kv q h2)
theorem sKeys_kt : ∀ {kvs : List (PyData × PyData)} {l : List (Str × D)} {ks : List (List Key × V)}, sKeys kvs = some l → RpKt K H m kvs ks → kvs = []
  | [], l, ks, e, h => by
    rfl
  | (k, d) :: r, l, ks, e, h => by
    cases h with
    | cons h1 h2 => simp [tkeyP, sKeys] at e
theorem strsOf_keys : ∀ {k : List Key} {x : List Str}, strsOf (k.map keyP) = some x → k = x.map Sum.inr
  | [], x, e => by
    cases e
    rfl
  | .inl i :: r, x, e => by simp [keyP, strsOf] at e
  | .inr y :: r, x, e => by
    simp only [List.map_cons, keyP, strsOf] at e
    cases q : strsOf (r.map keyP) with
    | none => rw [q] at e; cases e
    | some n =>
      rw [q] at e
      cases e
      rw [strsOf_keys q]
      rfl
theorem tKeys_kt : ∀ {kvs : List (PyData × PyData)} {l : List (List Str × D)} {ks : List (List Key × V)}, tKeys kvs = some l → RpKt K H m kvs ks → KtD K H m l ks
  | [], l, ks, e, h => by
    cases h
    cases e
    exact .nil
  | (k, d) :: r, l, ks, e, h => by
    cases h with
    | @cons k _ _ _ _ h1 h2 =>
      simp only [tkeyP, tKeys] at e
      cases q : strsOf (k.map keyP) with
      | none => rw [q] at e; cases e
      | some x =>
        rw [q] at e
        cases q2 : tKeys r with
        | none => rw [q2] at e; cases e
        | some n =>
          rw [q2] at e
          cases e
          exact .cons ⟨strsOf_keys q, h1⟩ (tKeys_kt q2 h2)
theorem tKeys_kv : ∀ {kvs : List (PyData × PyData)} {l : List (List Str × D)} {ks : List (Key × V)}, tKeys kvs = some l → RpKv K H m kvs ks → l = [] ∧ ks = [] ∧ kvs = []
  | [], l, ks, e, h => by
    cases h
    cases e
    exact ⟨rfl, rfl, rfl⟩
  | (k, d) :: r, l, ks, e, h => by
    cases h with
    | @cons k _ _ _ _ h1 h2 => cases k <;> simp [keyP, tKeys] at e
/-- a dict with text keys -/
theorem viewS {S : Store} {d : D} {v : V} {xs : List (Str × D)} (s : StOk K H m S) (h : RpD K H m d v) (e : view S d = .dS xs) :
    ∃ a ks, v = .ref a ∧ H a = some (.dK ks) ∧ KvD K H m xs ks := by
  cases d with
  | py d =>
    cases d with
    | dict kvs =>
      simp only [view] at e
      cases q : sKeys kvs with
      | none =>
        simp only [q] at e
        split at e <;> cases e
      | some l =>
        simp only [q] at e
        cases e
        cases h with
        | dk h1 h2 h3 => exact ⟨_, _, rfl, h1, sKeys_kv q h3⟩
        | dt h1 h2 h3 h4 => exact absurd (sKeys_kt q h3) h4
    | _ => simp [view] at e
  | ref n =>
    obtain ⟨a, h1, h2⟩ := h
    unfold view at e
    cases q : S[n]? with
    | none => simp [q] at e
    | some o =>
      have ho := s.ob n a o h1 q
      cases o with
      | dS ys =>
        simp [q] at e
        subst e
        obtain ⟨vs, z1, z2⟩ := ho
        exact ⟨a, vs, h2, z1, z2⟩
      | _ => simp [q] at e
  | scr ns => simp [view] at e
theorem viewT {S : Store} {d : D} {v : V} {xs : List (List Str × D)} (s : StOk K H m S) (h : RpD K H m d v) (e : view S d = .dT xs) :
    ∃ a ks, v = .ref a ∧ H a = some (.dT ks) ∧ KtD K H m xs ks := by
  cases d with
  | py d =>
    cases d with
    | dict kvs =>
      simp only [view] at e
      cases q : sKeys kvs with
      | some l => simp [q] at e
      | none =>
        simp only [q] at e
        cases q2 : tKeys kvs with
        | none => simp [q2] at e
        | some l =>
          simp only [q2] at e
          cases e
          cases h with
          | dk h1 h2 h3 =>
            obtain ⟨_, _, rfl⟩ := tKeys_kv q2 h3
            cases q
          | dt h1 h2 h3 h4 => exact ⟨_, _, rfl, h1, tKeys_kt q2 h3⟩
    | _ => simp [view] at e
  | ref n =>
    obtain ⟨a, h1, h2⟩ := h
    unfold view at e
    cases q : S[n]? with
    | none => simp [q] at e
    | some o =>
      have ho := s.ob n a o h1 q
      cases o with
      | dT ys =>
        simp [q] at e
        subst e
        obtain ⟨vs, z1, z2⟩ := ho
        exact ⟨a, vs, h2, z1, z2⟩
      | _ => simp [q] at e
  | scr ns => simp [view] at e
theorem view_dS {S : Store} {d : D} {v : V} {xs : List (Str × D)} (s : StOk K H m S) (h : RpD K H m d v) (e : view S d = .dS xs) : ∃ a ks, v = .ref a ∧ Rd H a (.dK ks) ∧ KvD K H m xs ks := by
  obtain ⟨a, ks, h1, h2, h3⟩ := viewS s h e
  exact ⟨a, ks, h1, .inl h2, h3⟩
theorem view_dT {S : Store} {d : D} {v : V} {xs : List (List Str × D)} (s : StOk K H m S) (h : RpD K H m d v) (e : view S d = .dT xs) : ∃ a ks, v = .ref a ∧ Rd H a (.dT ks) ∧ KtD K H m xs ks := by
  obtain ⟨a, ks, h1, h2, h3⟩ := viewT s h e
  exact ⟨a, ks, h1, .inl h2, h3⟩
end
end Sf
end
section
set_option maxRecDepth 100000
set_option maxHeartbeats 4000000
namespace Sf
open PySem PySem.Spec L2
open PyProof.Rows hiding St

section
variable {K : PySem.W.Frag} {H H' : Hp} {m m' : Mu} {S : Store} {p a : Addr} {o : HO} {ob : Ob}

/-! ### things laid, things written -/
theorem ObR.ext (e : Ext m H m' H') (h : ObR K H m a ob) (ha : H' a = H a) : ObR K H' m' a ob := by
  cases ob with
  | lst xs => obtain ⟨vs, h1, h2⟩ := h; exact ⟨vs, by rw [ha]; exact h1, h2.ext e⟩
  | dS xs => obtain ⟨vs, h1, h2⟩ := h; exact ⟨vs, by rw [ha]; exact h1, Paired.mapP h2 fun _ _ z => ⟨z.1, z.2.ext e⟩⟩
  | dT xs => obtain ⟨vs, h1, h2⟩ := h; exact ⟨vs, by rw [ha]; exact h1, Paired.mapP h2 fun _ _ z => ⟨z.1, z.2.ext e⟩⟩
  | ins c fs => exact h.elim
theorem StOk.out (st : StOk K H m S) (hp : H p = none) : p ∉ m := fun hm => by
  rcases hm with hm | hm
  · obtain ⟨o, ho⟩ := st.zs p hm
    rw [hp] at ho; cases ho
  · obtain ⟨o, ho⟩ := st.all p hm
    rw [hp] at ho; cases ho
theorem StOk.ne (st : StOk K H m S) (hp : H p = none) (ha : a ∈ m.l) : a ≠ p := fun e => st.out hp (.inr (e ▸ ha))
/-- a new thing that is no thing of the store -/
theorem StOk.ext_new (st : StOk K H m S) (hp : H p = none) : Ext m H m (upd H p o) :=
  ⟨rfl, ⟨[], by simp, fun _ h => nomatch h⟩, fun b u _ h => by rw [upd_ne (ne_of_none h hp)]; exact h, fun b hb => by
    obtain ⟨u, hu⟩ := st.all b hb
    exact ⟨u, by rw [upd_ne (ne_of_none hu hp)]; exact hu⟩⟩
theorem StOk.keep (st : StOk K H m S) (e : Ext m H m H') (k : ∀ a ∈ m.l, H' a = H a) : StOk K H' m S :=
  ⟨st.nd, st.len, fun i b u h1 h2 => (st.ob i b u h1 h2).ext e (k b (List.mem_of_getElem? h1)), fun b hb => by
    obtain ⟨o, ho⟩ := st.zs b hb
    exact ⟨o, e.keep b o (st.dis b hb) ho⟩, st.dis⟩
theorem StOk.new (st : StOk K H m S) (hp : H p = none) : StOk K (upd H p o) m S :=
  st.keep (st.ext_new hp) fun b hb => upd_ne (st.ne hp hb)
/-- a new thing of the store -/
theorem StOk.ext_push (st : StOk K H m S) (hp : H p = none) : Ext m H (m.push p) (upd H p o) :=
  ⟨rfl, ⟨[p], rfl, fun b hb => by rw [List.mem_singleton.mp hb]; exact hp⟩, fun b u _ h => by rw [upd_ne (ne_of_none h hp)]; exact h, fun b hb => by
    rcases List.mem_append.mp hb with z | z
    · obtain ⟨u, hu⟩ := st.all b z
      exact ⟨u, by rw [upd_ne (ne_of_none hu hp)]; exact hu⟩
    · rw [List.mem_singleton.mp z]; exact ⟨o, upd_same⟩⟩
theorem StOk.push (st : StOk K H m S) (hp : H p = none) (h : ObR K (upd H p o) (m.push p) p ob) : StOk K (upd H p o) (m.push p) (S ++ [ob]) := by
  refine ⟨?_, by simp [st.len, Mu.push], fun i b u h1 h2 => ?_, fun b hb => ?_, fun b hb => ?_⟩
  · show (m.l ++ [p]).Nodup
    rw [List.nodup_append]
    exact ⟨st.nd, by simp, fun x hx y hy => by rw [List.mem_singleton.mp hy]; exact st.ne hp hx⟩
  · have h1 : (m.l ++ [p])[i]? = some b := h1
    by_cases hi : i < m.l.length
    · rw [List.getElem?_append_left hi] at h1
      rw [List.getElem?_append_left (by rw [st.len]; exact hi)] at h2
      exact (st.ob i b u h1 h2).ext (st.ext_push hp) (upd_ne (st.ne hp (List.mem_of_getElem? h1)))
    · have hl : i < (m.l ++ [p]).length := (List.getElem?_eq_some_iff.mp h1).1
      have hi' : i = m.l.length := by simp at hl; omega
      subst hi'
      rw [List.getElem?_append_right (Nat.le_refl _), Nat.sub_self] at h1
      rw [← st.len, List.getElem?_append_right (Nat.le_refl _), Nat.sub_self] at h2
      cases h1
      cases h2
      exact h
  · obtain ⟨u, hu⟩ := st.zs b hb
    exact ⟨u, by rw [upd_ne (ne_of_none hu hp)]; exact hu⟩
  · intro z
    rcases List.mem_append.mp z with z | z
    · exact st.dis b hb z
    · rw [List.mem_singleton.mp z] at hb
      exact st.out hp (.inl hb)
/-- a thing of the store is changed -/
theorem StOk.ext_set (st : StOk K H m S) {n : Nat} (hn : m.l[n]? = some a) : Ext m H m (upd H a o) :=
  ⟨rfl, ⟨[], by simp, fun _ h => nomatch h⟩, fun b u hb h => by
    rw [upd_ne (fun e => hb (by rw [e]; exact List.mem_of_getElem? hn))]; exact h, fun b hb => by
    by_cases hba : b = a
    · rw [hba]; exact ⟨o, upd_same⟩
    · obtain ⟨u, hu⟩ := st.all b hb
      exact ⟨u, by rw [upd_ne hba]; exact hu⟩⟩
theorem StOk.set (st : StOk K H m S) {n : Nat} (hn : m.l[n]? = some a) (h : ObR K (upd H a o) m a ob) : StOk K (upd H a o) m (S.set n ob) := by
  refine ⟨st.nd, by simp [st.len], fun i b u h1 h2 => ?_, fun b hb => ?_, st.dis⟩
  · by_cases hi : i = n
    · subst hi
      rw [hn] at h1; cases h1
      have hl : i < S.length := by
        have := (List.getElem?_eq_some_iff.mp h2).1
        simpa using this
      rw [List.getElem?_set_self hl] at h2
      cases h2
      exact h
    · rw [List.getElem?_set_ne (Ne.symm hi)] at h2
      exact (st.ob i b u h1 h2).ext (st.ext_set hn) (upd_ne fun e => hi (nodup_ix2 st.nd h1 (e ▸ hn)))
  · obtain ⟨u, hu⟩ := st.zs b hb
    exact ⟨u, by rw [upd_ne (fun e => st.dis b hb (by rw [e]; exact List.mem_of_getElem? hn))]; exact hu⟩
where
  nodup_ix2 {l : List Addr} (hN : l.Nodup) {i j : Nat} {x : Addr} (a : l[i]? = some x) (b : l[j]? = some x) : i = j := nd_ix hN a b

/-! ### an end -/
def Fin {A : Type} (K : PySem.W.Frag) (m : Mu) (H : Hp) (r : R A) (Q : A → Store → Mu → Hp → Prop) : Prop := match r with
  | .ok x S => ∀ m' H', Ext m H m' H' → StOk K H' m' S → Q x S m' H'
  | .err _ _ => False
  | .bad => False
theorem Fin.mono {A : Type} {r : R A} {Q Q' : A → Store → Mu → Hp → Prop} (h : Fin K m H r Q) (f : ∀ x S m' H', Ext m H m' H' → StOk K H' m' S → Q x S m' H' → Q' x S m' H') : Fin K m H r Q' := by
  cases r with
  | ok x S => exact fun m' H' e s => f x S m' H' e s (h m' H' e s)
  | err x S => exact h
  | bad => exact h
theorem Fin.ext {A : Type} {r : R A} {Q : A → Store → Mu → Hp → Prop} (h : Fin K m H r Q) (e : Ext m H m' H') : Fin K m' H' r Q := by
  cases r with
  | ok x S => exact fun m2 H2 e2 s => h m2 H2 (e.trans e2) s
  | err x S => exact h
  | bad => exact h
theorem Fin.bind {A B : Type} {r : R A} {k : A → Store → R B} {Q : B → Store → Mu → Hp → Prop} (h : Fin K m H (r.bind k) Q) : Fin K m H r (fun x S1 m1 H1 => Fin K m1 H1 (k x S1) Q) := by
  cases r with
  | ok x S => exact fun m' H' e s => Fin.ext h e
  | err x S => exact h
  | bad => exact h
theorem Fin.of {A : Type} {x : Option A} {S : Store} {Q : A → Store → Mu → Hp → Prop} (h : Fin K m H (R.of x S) Q) (st : StOk K H m S) : ∃ y, x = some y ∧ Q y S m H := by
  cases x with
  | none => exact h.elim
  | some y => exact ⟨y, rfl, h m H st.refl st⟩
/-- what is wanted of a value -/
abbrev ValQ (K : PySem.W.Frag) (Q : VK) : D → Store → Mu → Hp → Prop := fun d _ m' H' => ∀ v, RpD K H' m' d v → Q v H'
def rdE (K : PySem.W.Frag) (G : Gam) (c : CE) : TE := fun σ H Q => ∃ m r S, LocOk K H m r σ ∧ StOk K H m S ∧ Fin K m H (evE G c r S) (ValQ K Q)
def rdA (K : PySem.W.Frag) (G : Gam) (c : CEs) : TA := fun σ H Q => ∃ m r S, LocOk K H m r σ ∧ StOk K H m S ∧ Fin K m H (evEs G c r S) (fun ds _ m' H' => ∀ vs, RpDs K H' m' ds vs → Q vs H')
def rdT (K : PySem.W.Frag) (G : Gam) (c : CE) : TT := fun σ H Q => ∃ m r S, LocOk K H m r σ ∧ StOk K H m S ∧ Fin K m H (evE G c r S) (fun d S' _ H' => ∃ b, truth S' d = some b ∧ Q b H')
end
theorem _root_.L2.PE.mono {X : Cx} {e : PySem.Expr} {t t' : TE} (h : PE X e t) (f : ∀ σ H Q, t' σ H Q → t σ H Q) : PE X e t' := ⟨fun pins s σ H Q I q => h.run pins s σ H Q I (f σ H Q q)⟩
theorem _root_.L2.PT.mono {X : Cx} {e : PySem.Expr} {t t' : TT} (h : PT X e t) (f : ∀ σ H Q, t' σ H Q → t σ H Q) : PT X e t' := ⟨fun pins s σ H Q I q => h.run pins s σ H Q I (f σ H Q q)⟩
theorem _root_.L2.PA.mono {X : Cx} {e : List PySem.Expr} {t t' : TA} (h : PA X e t) (f : ∀ σ H Q, t' σ H Q → t σ H Q) : PA X e t' := ⟨fun pos pins s σ H Q I q => h.run pos pins s σ H Q I (f σ H Q q)⟩
theorem _root_.L2.PS.mono {X : Cx} {e : PySem.Stmt} {t t' : TS} (h : PS X e t) (f : ∀ D σ H, t' D σ H → t D σ H) : PS X e t' := ⟨fun pins s σ H D I q => h.run pins s σ H D I (f D σ H q)⟩
theorem _root_.L2.PSs.mono {X : Cx} {e : List PySem.Stmt} {t t' : TS} (h : PSs X e t) (f : ∀ D σ H, t' D σ H → t D σ H) : PSs X e t' := ⟨fun pins s σ H D I q => h.run pins s σ H D I (f D σ H q)⟩

section
variable {X : Cx} {G : Gam}
/-! ### names, constants -/
theorem se_loc {i : Nat} {x : Str} {pos : Pos} (hN : X.N[i]? = some x) (hv : Vis X.env.scope x) (hd : (x == ("__debug__" : Str)) = false) (hcd : (x == ("__classdict__" : Str)) = false) : PE X (.Name x pos) (rdE X.K G (.loc i)) :=
  (pe_var hN hv hd hcd).mono fun σ H Q ⟨m, r, S, lo, st, h⟩ => by
    simp only [evE] at h
    cases q : r[i]? with
    | none => rw [q] at h; exact h.elim
    | some z =>
      cases z with
      | none => rw [q] at h; exact h.elim
      | some d =>
        rw [q] at h
        obtain ⟨v, h1, h2⟩ := lo.2 i d q
        exact ⟨v, h1, h m H st.refl st v h2⟩
theorem se_con {v : V} {d : PyData} {e : PySem.Expr} (h : PE X e (tC v)) (r : ∀ H m, Rp X.K H m d v) : PE X e (rdE X.K G (.con d)) :=
  h.mono fun σ H Q ⟨m, _, S, _, st, h⟩ => h m H st.refl st v (r H m)
theorem se_glo {v : V} {d : PyData} {e : PySem.Expr} {x : Str} (h : PE X e (tC v)) (r : ∀ H m, Rp X.K H m d v) : PE X e (rdE X.K G (.glo x d)) :=
  h.mono fun σ H Q ⟨m, _, S, _, st, h⟩ => h m H st.refl st v (r H m)

/-! ### argument lists, displays -/
theorem sa_nil : PA X [] (rdA X.K G .nil) := pa_nil.mono fun σ H Q ⟨m, r, S, lo, st, h⟩ => h m H st.refl st [] .nil
theorem sa_cons {e : PySem.Expr} {es : List PySem.Expr} {c : CE} {cs : CEs} (ha : PE X e (rdE X.K G c)) (hr : PA X es (rdA X.K G cs)) (hs : starEach (e :: es) X.env = (false, eval e X.env) :: starEach es X.env) : PA X (e :: es) (rdA X.K G (.cons c cs)) :=
  (pa_cons ha hr hs).mono fun σ H Q ⟨m, r, S, lo, st, h⟩ => by
    simp only [evEs] at h
    refine ⟨m, r, S, lo, st, h.bind.mono fun d S1 m1 H1 e1 s1 h1 v rp => ?_⟩
    refine ⟨m1, r, S1, lo.ext e1, s1, h1.bind.mono fun ds S2 m2 H2 e2 s2 h2 vs rps => ?_⟩
    exact h2 m2 H2 s2.refl s2 (v :: vs) (.cons (rp.ext e2) rps)
theorem fits_line {n : Nat} (h : fits n = true) : n < 1000000 := by
  unfold fits at h
  exact Nat.blt_eq.mp h
theorem line_big {n : Nat} (h : n < 1000000) : n + n + 10 ≤ sizeLine := by rw [sizeLine_eq]; omega
theorem mkTup_ok {K : PySem.W.Frag} {H : Hp} {m : Mu} {S : Store} {ds : List D} {vs : List V} {Q : VK} (st : StOk K H m S) (rs : RpDs K H m ds vs) (h : Fin K m H (mkTup ds S) (ValQ K Q)) :
    vs.length ≤ sizeLine ∧ ∀ p, H p = none → Q (.ref p) (upd H p (.tup vs)) := by
  unfold mkTup at h
  cases q : fits ds.length with
  | false => rw [q] at h; exact h.elim
  | true =>
    rw [q] at h
    have hl := line_big (fits_line q)
    have el := Paired.length rs
    cases q2 : pys ds with
    | none => rw [q2] at h; exact h.elim
    | some l =>
      rw [q2] at h
      refine ⟨by omega, fun p hp => ?_⟩
      have e := st.ext_new (o := .tup vs) hp
      exact h m _ e (st.new hp) _ (.tup upd_same (st.out hp) (RpAll.ext e _ _ (pys_all q2 rs)))
theorem mkLst_ok {K : PySem.W.Frag} {H : Hp} {m : Mu} {S : Store} {ds : List D} {vs : List V} {Q : VK} {mu : Bool} (st : StOk K H m S) (rs : RpDs K H m ds vs) (h : Fin K m H (mkLst mu ds S) (ValQ K Q)) :
    vs.length < 1000000 ∧ ∀ p, H p = none → Q (.ref p) (upd H p (.lst vs)) := by
  unfold mkLst at h
  cases q : fits ds.length with
  | false => rw [q] at h; exact h.elim
  | true =>
    rw [q] at h
    have hl := fits_line q
    have el := Paired.length rs
    cases mu with
    | false =>
      cases q2 : pys ds with
      | none => rw [q2] at h; exact h.elim
      | some l =>
        rw [q2] at h
        refine ⟨by omega, fun p hp => ?_⟩
        have e := st.ext_new (o := .lst vs) hp
        exact h m _ e (st.new hp) _ (.lst upd_same (st.out hp) (RpAll.ext e _ _ (pys_all q2 rs)))
    | true =>
      refine ⟨by omega, fun p hp => ?_⟩
      have e := st.ext_push (o := .lst vs) hp
      refine h (m.push p) _ e (st.push hp ⟨vs, upd_same, rs.ext e⟩) _ ⟨p, ?_, rfl⟩
      show (m.l ++ [p])[S.length]? = some p
      rw [st.len, List.getElem?_append_right (Nat.le_refl _), Nat.sub_self]
      rfl
theorem se_tup {es : List PySem.Expr} {cs : CEs} {x1 : Nat} {pos : Pos} (h : PA X es (rdA X.K G cs)) : PE X (.Tuple es x1 pos) (rdE X.K G (.tup cs)) :=
  (pe_tup h).mono fun σ H Q ⟨m, r, S, lo, st, h⟩ => by
    simp only [evE] at h
    exact ⟨m, r, S, lo, st, h.bind.mono fun ds S1 m1 H1 e1 s1 h1 vs rps => mkTup_ok s1 rps h1⟩
theorem se_lst {es : List PySem.Expr} {cs : CEs} {mu : Bool} {pos : Pos} (h : PA X es (rdA X.K G cs)) : PE X (.List es pos) (rdE X.K G (.lst mu cs)) :=
  (pe_lst h).mono fun σ H Q ⟨m, r, S, lo, st, h⟩ => by
    simp only [evE] at h
    refine ⟨m, r, S, lo, st, h.bind.mono fun ds S1 m1 H1 e1 s1 h1 vs rps => ?_⟩
    obtain ⟨z1, z2⟩ := mkLst_ok s1 rps h1
    have := line_big z1
    exact ⟨by omega, z2⟩
end
end Sf
end
section
set_option maxRecDepth 100000
set_option maxHeartbeats 4000000
namespace Sf
open PySem PySem.Spec L2
open PyProof.Rows hiding St

section
variable {K : PySem.W.Frag} {H H' : Hp} {m m' : Mu} {S : Store}

/-! ### truth -/
theorem isEmpty_ds {xs : List D} {vs : List V} (h : RpDs K H m xs vs) : (!xs.isEmpty) = !vs.isEmpty := by
  cases h <;> rfl
theorem truth_ok {d : D} {v : V} {b : Bool} (st : StOk K H m S) (h : RpD K H m d v) (e : truth S d = some b) : TruV K v H b := by
  have seq : ∀ {d : D}, RpD K H m d v → seqTruth S d = some b → TruV K v H b := fun {d} h e => by
    unfold seqTruth at e
    split at e
    · rename_i xs q
      obtain ⟨a, vs, rfl, h1, h2⟩ := view_lst st h q
      cases e
      exact .inl ⟨vs, h1, isEmpty_ds h2⟩
    · rename_i xs q
      obtain ⟨a, vs, rfl, h1, _, h2⟩ := view_tup st h q
      cases e
      exact .inr (.inl ⟨vs, SqT.of h1, isEmpty_ds h2⟩)
    · rename_i x q
      obtain ⟨rfl, rfl⟩ := view_str h q
      split at e
      · rename_i hf
        cases e
        have := line_big (fits_line hf)
        refine ⟨by omega, ?_⟩
        cases q2 : x.length with
        | zero => rfl
        | succ n => rfl
      · cases e
    · cases e
  cases d with
  | py d =>
    cases d with
    | none => cases h; cases e; rfl
    | bool c => cases h; cases e; rfl
    | int i => cases h; cases e; rfl
    | str x => exact seq h e
    | list x => exact seq h e
    | tuple x => exact seq h e
    | dict x => exact seq h e
  | ref n => exact seq h e
  | scr ns => exact seq h e
@[simp] theorem truth_bl (b : Bool) : truth S (bl b) = some b := rfl

/-! ### deep equality -/
mutual
theorem Rp.dp : ∀ (d : PyData) (v : V), d.canLay0 = true → Rp K H m d v → Dp K H v d
  | .none, _, _, h => by cases h; exact .non
  | .bool b, _, _, h => by cases h; exact .bl b
  | .int i, _, _, h => by cases h; exact .int i
  | .str x, _, _, h => by cases h; exact .str x
  | .list xs, _, c, h => by
    cases h with
    | lst h1 h2 h3 => exact .lst (SqL.of h1) (RpAll.dp xs _ (by simpa [PyData.canLay0] using c) h3)
  | .tuple xs, _, c, h => by
    cases h with
    | tup h1 h2 h3 => exact .tup (SqT.of h1) (RpAll.dp xs _ (by simpa [PyData.canLay0] using c) h3)
  | .dict kvs, _, c, h => by simp [PyData.canLay0] at c
theorem RpAll.dp : ∀ (ds : List PyData) (vs : List V), PyData.canLayAll0 ds = true → RpAll K H m ds vs → DpAll K H vs ds
  | [], _, _, h => by cases h; exact .nil
  | d :: ds, _, c, h => by
    cases h with
    | cons h1 h2 =>
      have c : d.canLay0 = true ∧ PyData.canLayAll0 ds = true := by simpa [PyData.canLayAll0] using c
      exact .cons (Rp.dp d _ c.1 h1) (RpAll.dp ds _ c.2 h2)
end
theorem frz_dp {d : D} {v : V} {x : PyData} (st : StOk K H m S) (h : RpD K H m d v) (e : frzD S d = some x) (c : SeqAt.shaped x = true) : Dp K H v x := by
  have c := SeqAt.canLay_of_shaped c
  cases d with
  | py d =>
    cases e
    exact Rp.dp _ _ c h
  | ref n =>
    obtain ⟨a, h1, rfl⟩ := h
    unfold frzD at e
    cases q : S[n]? with
    | none => simp [q] at e
    | some o =>
      have ho := st.ob n a o h1 q
      cases o with
      | lst ys =>
        simp only [q] at e
        obtain ⟨vs, z1, z2⟩ := ho
        cases q2 : pys ys with
        | none => rw [q2] at e; cases e
        | some l =>
          rw [q2] at e
          cases e
          exact .lst (SqL.of z1) (RpAll.dp _ _ (by simpa [PyData.canLay0] using c) (pys_all q2 z2))
      | dS kvs =>
        simp only [q] at e
        cases q2 : pyKv PyData.str kvs with
        | none => rw [q2] at e; cases e
        | some l =>
          rw [q2] at e
          cases e
          simp [PyData.canLay0] at c
      | dT kvs =>
        simp only [q] at e
        split at e
        · cases e
        cases q2 : pyKv tupK kvs with
        | none => rw [q2] at e; cases e
        | some l =>
          rw [q2] at e
          cases e
          simp [PyData.canLay0] at c
      | ins c fs => exact ho.elim
  | scr ns =>
    cases e
    obtain ⟨a, vs, rfl, h1, h2⟩ := view_lst (xs := ns.map fun i => .py (.int i)) st h rfl
    refine .lst h1 (RpAll.dp (K := K) (H := H) (m := m) _ _ (by simpa [PyData.canLay0] using c) (pys_all ?_ h2))
    have z : (ns.map fun i => D.py (.int i)) = (ns.map PyData.int).map .py := by rw [List.map_map]; rfl
    rw [z, pys_py]
theorem eqG_ok {a b : D} {x y : V} {r : Bool} (st : StOk K H m S) (ha : RpD K H m a x) (hb : RpD K H m b y) (e : eqG S a b = some r) :
    ∃ d c, Dp K H x d ∧ Dp K H y c ∧ SeqAt.shaped d = true ∧ SeqAt.shaped c = true ∧ r = PyData.eqv d c := by
  unfold eqG at e
  cases q1 : frzD S a with
  | none => rw [q1] at e; cases e
  | some d =>
    cases q2 : frzD S b with
    | none => rw [q1, q2] at e; cases e
    | some c =>
      rw [q1, q2] at e
      simp only at e
      split at e
      · rename_i hs
        have hs := Bool.and_eq_true_iff.mp hs
        cases e
        exact ⟨d, c, frz_dp st ha q1 hs.1, frz_dp st hb q2 hs.2, hs.1, hs.2, rfl⟩
      · cases e

theorem eqD_ok {a b : D} {x y : V} {r : Bool} (st : StOk K H m S) (ha : RpD K H m a x) (hb : RpD K H m b y) (e : eqD S a b = some r) :
    (∃ z w, x = .str z ∧ y = .str w ∧ r = decide (z = w)) ∨ ∃ d c, Dp K H x d ∧ Dp K H y c ∧ SeqAt.shaped d = true ∧ SeqAt.shaped c = true ∧ r = PyData.eqv d c := by
  unfold eqD at e
  split at e
  · cases ha
    cases hb
    cases e
    exact .inl ⟨_, _, rfl, rfl, rfl⟩
  · exact .inr (eqG_ok st ha hb e)

/-! ### in -/
theorem flat_eqV : ∀ {d e : PyData} {v u : V}, flatP d = true → flatP e = true → Rp K H m d v → Rp K H m e u → eqV v u = PyData.eqv d e := by
  intro d e v u fd fe h1 h2
  cases d <;> simp [flatP] at fd <;> cases h1 <;> cases e <;> simp [flatP] at fe <;> cases h2 <;> simp [eqV, PyData.eqv]
theorem flat_V {d : PyData} {v : V} (f : flatP d = true) (h : Rp K H m d v) : flatV v = true := by
  cases d <;> simp [flatP] at f <;> cases h <;> rfl
theorem flat_all : ∀ {ds : List PyData} {vs : List V}, ds.all flatP = true → RpAll K H m ds vs → vs.all flatV = true
  | [], _, _, h => by cases h; rfl
  | d :: ds, _, c, h => by
    cases h with
    | cons h1 h2 =>
      have c : flatP d = true ∧ ds.all flatP = true := by simpa using c
      simp only [List.all_cons, Bool.and_eq_true]
      exact ⟨flat_V c.1 h1, flat_all c.2 h2⟩
theorem flat_in {x : PyData} {xv : V} (fx : flatP x = true) (hx : Rp K H m x xv) : ∀ {ds : List PyData} {vs : List V}, ds.all flatP = true → RpAll K H m ds vs → inV xv vs = ds.any fun e => PyData.eqv e x
  | [], _, _, h => by cases h; rfl
  | d :: ds, _, c, h => by
    cases h with
    | cons h1 h2 =>
      have c : flatP d = true ∧ ds.all flatP = true := by simpa using c
      have ih := flat_in fx hx c.2 h2
      unfold inV at ih ⊢
      simp only [List.any_cons]
      rw [ih, flat_eqV c.1 fx h1 hx]

/-! ### tables -/
theorem KvD.get : ∀ {kvs : List (Str × D)} {ks : List (Key × V)} (k : Str), KvD K H m kvs ks → match dget kvs k with
    | some d => ∃ v, valV ks (.inr k) = some v ∧ RpD K H m d v
    | none => valV ks (.inr k) = none
  | [], _, k, h => by cases h; rfl
  | (j, d) :: r, _, k, h => by
    cases h with
    | @cons _ q _ _ h1 h2 =>
      obtain ⟨i, v⟩ := q
      obtain ⟨e, rv⟩ := h1
      have e : i = Sum.inr j := e
      subst e
      have ih := KvD.get k h2
      by_cases hk : j = k
      · subst hk
        simp only [dget, List.find?_cons, decide_true, Option.map_some]
        exact ⟨v, valV_pos rfl, rv⟩
      · have hk2 : ¬ (Sum.inr j : Key) = Sum.inr k := fun z => hk (Sum.inr.inj z)
        have e1 : dget ((j, d) :: r) k = dget r k := by simp [dget, List.find?_cons, hk]
        rw [e1, valV_neg (p := (Sum.inr j, v)) hk2]
        exact ih
theorem inr_map {a b : List Str} (h : (a.map Sum.inr : List Key) = b.map Sum.inr) : a = b := (List.map_inj_right (f := (Sum.inr : Str → Key)) fun _ _ e => Sum.inr.inj e).mp h
theorem KtD.get : ∀ {kvs : List (List Str × D)} {ks : List (List Key × V)} (k : List Str), KtD K H m kvs ks → match dget kvs k with
    | some d => ∃ v, valV ks (k.map Sum.inr) = some v ∧ RpD K H m d v
    | none => valV ks (k.map Sum.inr) = none
  | [], _, k, h => by cases h; rfl
  | (j, d) :: r, _, k, h => by
    cases h with
    | @cons _ q _ _ h1 h2 =>
      obtain ⟨i, v⟩ := q
      obtain ⟨e, rv⟩ := h1
      have e : i = j.map Sum.inr := e
      subst e
      have ih := KtD.get k h2
      by_cases hk : j = k
      · subst hk
        simp only [dget, List.find?_cons, decide_true, Option.map_some]
        exact ⟨v, valV_pos rfl, rv⟩
      · have hk2 : ¬ (j.map Sum.inr : List Key) = k.map Sum.inr := fun z => hk (inr_map z)
        have e1 : dget ((j, d) :: r) k = dget r k := by simp [dget, List.find?_cons, hk]
        rw [e1, valV_neg (p := (j.map Sum.inr, v)) hk2]
        exact ih
theorem strsOf_rp : ∀ {k : List PyData} {x : List Str} {vs : List V}, strsOf k = some x → RpAll K H m k vs → vs = (x.map Sum.inr : List Key).map kV
  | [], x, _, e, h => by
    cases h
    cases e
    rfl
  | d :: r, x, _, e, h => by
    cases h with
    | cons h1 h2 =>
      cases d with
      | str y =>
        simp only [strsOf] at e
        cases q : strsOf r with
        | none => rw [q] at e; cases e
        | some n =>
          rw [q] at e
          cases e
          cases h1
          rw [strsOf_rp q h2]
          rfl
      | _ => simp [strsOf] at e
/-- what a dict holds at a key, by its view -/
theorem dget_S {d : D} {v : V} {kvs : List (Str × D)} (st : StOk K H m S) (h : RpD K H m d v) (e : view S d = .dS kvs) (k : Str) : ∃ a, v = .ref a ∧ ∃ o, DGet H a (.str k) o ∧ match dget kvs k with
    | some d => ∃ u, o = some u ∧ RpD K H m d u
    | none => o = none := by
  obtain ⟨a, ks, rfl, h1, h2⟩ := view_dS st h e
  refine ⟨a, rfl, valV ks (.inr k), .inl ⟨ks, .inr k, h1, rfl, rfl⟩, ?_⟩
  have := h2.get k
  cases q : dget kvs k with
  | none => rw [q] at this; exact this
  | some y => rw [q] at this; exact this
theorem dget_T {d : D} {v : V} {kvs : List (List Str × D)} {k : List PyData} {t : List Str} {u : V} (st : StOk K H m S) (h : RpD K H m d v) (e : view S d = .dT kvs) (hk : strsOf k = some t) (hu : Rp K H m (.tuple k) u) :
    ∃ a, v = .ref a ∧ ∃ o, DGet H a u o ∧ match dget kvs t with
    | some d => ∃ u, o = some u ∧ RpD K H m d u
    | none => o = none := by
  obtain ⟨a, ks, rfl, h1, h2⟩ := view_dT st h e
  cases hu with
  | tup z1 z2 z3 =>
    refine ⟨a, rfl, valV ks (t.map Sum.inr), .inr ⟨ks, t.map Sum.inr, _, h1, rfl, by rw [z1, strsOf_rp hk z3], rfl⟩, ?_⟩
    have := h2.get t
    cases q : dget kvs t with
    | none => rw [q] at this; exact this
    | some y => rw [q] at this; exact this
end
end Sf
end
section
set_option maxRecDepth 100000
set_option maxHeartbeats 4000000
namespace Sf
open PySem PySem.Spec L2
open PyProof.Rows hiding St

section
variable {X : Cx} {G : Gam}
/-! ### operators -/
def rBop (K : PySem.W.Frag) (mu : Bool) (o : Bop) : R2 := fun x y H Q => ∃ m S a b, StOk K H m S ∧ RpD K H m a x ∧ RpD K H m b y ∧ Fin K m H (bopD mu o a b S) (ValQ K Q)
def opOf : Bop → Operator
  | .add => .Add | .sub => .Sub | .mul => .Mult | .fdiv => .FloorDiv | .mod => .Mod | .pow => .Pow
theorem fin_py {K : PySem.W.Frag} {H : Hp} {m : Mu} {S : Store} {d : PyData} {v : V} {Q : VK} (st : StOk K H m S) (r : Rp K H m d v) (h : Fin K m H (R.ok (D.py d) S) (ValQ K Q)) : Q v H := h m H st.refl st v r
theorem RpAll.append {K : PySem.W.Frag} {H : Hp} {m : Mu} : ∀ {xs ys : List PyData} {vs us : List V}, RpAll K H m xs vs → RpAll K H m ys us → RpAll K H m (xs ++ ys) (vs ++ us)
  | [], _, _, _, h, q => by cases h; exact q
  | d :: ds, _, _, _, h, q => by
    cases h with
    | cons h1 h2 => exact .cons h1 (RpAll.append h2 q)
theorem addTup_ok {K : PySem.W.Frag} {H : Hp} {m : Mu} {S : Store} {x y : List PyData} {v u : V} {Q : VK} (st : StOk K H m S) (hx : Rp K H m (.tuple x) v) (hy : Rp K H m (.tuple y) u)
    (hf : fits (x.length + y.length) = true) (h : Fin K m H (R.ok (D.py (.tuple (x ++ y))) S) (ValQ K Q)) : rCatA K v u H Q := by
  cases hx with
  | @tup a vs _ a1 a2 a3 =>
    cases hy with
    | @tup b us _ b1 b2 b3 =>
      have e1 := a3.length
      have e2 := b3.length
      have hl := line_big (fits_line hf)
      refine ⟨a, b, vs, us, rfl, rfl, SqT.of a1, SqT.of b1, by omega, fun z => ?_, fun _ z => ?_, fun _ _ p hp => ?_⟩
      · subst z
        have : x = [] := by cases x with
          | nil => rfl
          | cons c r => simp at e1
        subst this
        exact fin_py st (.tup b1 b2 b3) h
      · subst z
        have : y = [] := by cases y with
          | nil => rfl
          | cons c r => simp at e2
        subst this
        rw [List.append_nil] at h
        exact fin_py st (.tup a1 a2 a3) h
      · have e := st.ext_new (o := .tup (vs ++ us)) hp
        exact h m _ e (st.new hp) _ (.tup upd_same (st.out hp) (RpAll.ext e _ _ (a3.append b3)))
theorem ob_add {mu : Bool} : OpR X (binaryOp .Add) (rBop X.K mu .add) := by
  intro pins s σ H x y v u Q I rx ry h
  obtain ⟨m, S, a, b, st, ra, rb, h⟩ := h
  have lists : (∀ ns, a ≠ .scr ns) → (∀ ns, b ≠ .scr ns) → Fin X.K m H (catD mu a b S) (ValQ X.K Q) → wpAny (model X.prog X.w) X.A (binaryOp .Add v u) (EP X pins σ Q) X.xe s := fun na nb h => by
    unfold catD at h
    split at h
    · rename_i xs ys q1 q2
      obtain ⟨p, vs, rfl, h1, h2⟩ := view_lstX st ra q1 na
      obtain ⟨p', us, rfl, h3, h4⟩ := view_lstX st rb q2 nb
      obtain ⟨z1, z2⟩ := mkLst_ok st (h2.append h4) h
      rw [List.length_append] at z1
      have := line_big z1
      exact op_cat pins s σ H _ _ v u Q I rx ry ⟨p, p', vs, us, rfl, rfl, h1, h3, by omega, z2⟩
    · exact h.elim
  simp only [bopD] at h
  split at h
  · cases ra; cases rb
    exact op_add pins s σ H _ _ v u Q I rx ry ⟨_, _, rfl, rfl, fin_py st (.int _) h⟩
  · cases ra; cases rb
    split at h
    · rename_i hf
      have := line_big (fits_line hf)
      exact op_add_str pins s σ H _ _ v u Q I rx ry ⟨_, _, rfl, rfl, by omega, fin_py st (.str _) h⟩
    · exact h.elim
  · split at h
    · rename_i hf
      exact op_catA pins s σ H _ _ v u Q I rx ry (addTup_ok st ra rb hf h)
    · exact h.elim
  · exact h.elim
  · exact h.elim
  · refine lists (fun ns e => ?_) (fun ns e => ?_) h
    · clear lists h; simp_all
    · clear lists h; simp_all
theorem ob_sub {mu : Bool} : OpR X (binaryOp .Sub) (rBop X.K mu .sub) := by
  intro pins s σ H x y v u Q I rx ry h
  obtain ⟨m, S, a, b, st, ra, rb, h⟩ := h
  simp only [bopD] at h
  split at h
  · cases ra; cases rb
    exact op_sub pins s σ H _ _ v u Q I rx ry ⟨_, _, rfl, rfl, fin_py st (.int _) h⟩
  · exact h.elim
theorem small64_ok {i : Int} (h : small64 i = true) : -(2 ^ 64) < i ∧ i < 2 ^ 64 := by
  unfold small64 at h
  have h := Bool.and_eq_true_iff.mp h
  exact ⟨of_decide_eq_true h.1, of_decide_eq_true h.2⟩
theorem ob_mul {mu : Bool} : OpR X (binaryOp .Mult) (rBop X.K mu .mul) := by
  intro pins s σ H x y v u Q I rx ry h
  obtain ⟨m, S, a, b, st, ra, rb, h⟩ := h
  simp only [bopD] at h
  split at h
  · cases ra; cases rb
    split at h
    · rename_i hf
      refine op_mul pins s σ H _ _ v u Q I rx ry ⟨_, _, rfl, rfl, ?_, fin_py st (.int _) h⟩
      rcases Bool.or_eq_true_iff.mp hf with z | z
      · exact .inl (small64_ok z)
      · exact .inr (small64_ok z)
    · exact h.elim
  · exact h.elim
theorem ob_fdiv {mu : Bool} : OpR X (binaryOp .FloorDiv) (rBop X.K mu .fdiv) := by
  intro pins s σ H x y v u Q I rx ry h
  obtain ⟨m, S, a, b, st, ra, rb, h⟩ := h
  simp only [bopD] at h
  split at h
  · cases ra; cases rb
    split at h
    · rename_i hf
      have hf := Bool.and_eq_true_iff.mp hf
      exact op_fdiv pins s σ H _ _ v u Q I rx ry ⟨_, _, rfl, rfl, ⟨of_decide_eq_true hf.1, of_decide_eq_true hf.2⟩, fin_py st (.int _) h⟩
    · exact h.elim
  · exact h.elim
theorem ob_mod {mu : Bool} : OpR X (binaryOp .Mod) (rBop X.K mu .mod) := by
  intro pins s σ H x y v u Q I rx ry h
  obtain ⟨m, S, a, b, st, ra, rb, h⟩ := h
  simp only [bopD] at h
  split at h
  · cases ra; cases rb
    split at h
    · rename_i hf
      exact op_mod pins s σ H _ _ v u Q I rx ry ⟨_, _, rfl, rfl, of_decide_eq_true hf, fin_py st (.int _) h⟩
    · exact h.elim
  · exact h.elim
theorem ob_pow {mu : Bool} : OpR X (binaryOp .Pow) (rBop X.K mu .pow) := by
  intro pins s σ H x y v u Q I rx ry h
  obtain ⟨m, S, a, b, st, ra, rb, h⟩ := h
  simp only [bopD] at h
  split at h
  · rename_i i j
    cases ra; cases rb
    split at h
    · rename_i hf
      have hf := Bool.and_eq_true_iff.mp hf
      have hf1 := Bool.and_eq_true_iff.mp hf.1
      have h64 := small64_ok hf.2
      have hj : j ≤ 1000 := of_decide_eq_true hf1.2
      exact op_pow pins s σ H _ _ v u Q I rx ry ⟨_, _, rfl, rfl, ⟨of_decide_eq_true hf1.1, by omega, by omega⟩, fin_py st (.int _) h⟩
    · exact h.elim
  · exact h.elim
theorem ob_all {mu : Bool} : ∀ o : Bop, OpR X (binaryOp (opOf o)) (rBop X.K mu o)
  | .add => ob_add | .sub => ob_sub | .mul => ob_mul | .fdiv => ob_fdiv | .mod => ob_mod | .pow => ob_pow
theorem se_bop {mu : Bool} {o : Bop} {a b : PySem.Expr} {c d : CE} {pos : Pos} (ha : PE X a (rdE X.K G c)) (hb : PE X b (rdE X.K G d)) : PE X (.BinOp a (opOf o) b pos) (rdE X.K G (.bop mu o c d)) :=
  (pe_op (ob_all o) ha hb).mono fun σ H Q ⟨m, r, S, lo, st, h⟩ => by
    simp only [evE] at h
    refine ⟨m, r, S, lo, st, h.bind.mono fun d1 S1 m1 H1 e1 s1 h1 v1 rp1 => ?_⟩
    refine ⟨m1, r, S1, lo.ext e1, s1, h1.bind.mono fun d2 S2 m2 H2 e2 s2 h2 v2 rp2 => ?_⟩
    exact ⟨m2, S2, d1, d2, s2, rp1.ext e2, rp2, h2⟩
theorem se_neg {a : PySem.Expr} {c : CE} {pos : Pos} (ha : PE X a (rdE X.K G c)) : PE X (.UnaryOp .USub a pos) (rdE X.K G (.neg c)) :=
  (pe_un un_neg ha).mono fun σ H Q ⟨m, r, S, lo, st, h⟩ => by
    simp only [evE] at h
    refine ⟨m, r, S, lo, st, h.bind.mono fun d1 S1 m1 H1 e1 s1 h1 v1 rp1 => ?_⟩
    split at h1
    · cases rp1
      exact ⟨_, rfl, fin_py s1 (.int _) h1⟩
    · exact h1.elim

/-! ### comparisons -/
def rCop (K : PySem.W.Frag) (o : Cop) : R2 := fun x y H Q => ∃ m S a b r, StOk K H m S ∧ RpD K H m a x ∧ RpD K H m b y ∧ cmpD S o a b = some r ∧ Q (.bl r) H
def copOf : Cop → CmpOp
  | .eq => .Eq | .ne => .NotEq | .lt => .Lt | .le => .LtE | .gt => .Gt | .ge => .GtE | .isin => .In | .notin => .NotIn | .is => .Is | .isnt => .IsNot
theorem oc_eq (hu : X.A.units + 64 < cLine) : OpR X (compareOp .Eq) (rCop X.K .eq) := by
  intro pins s σ H x y v u Q I rx ry h
  obtain ⟨m, S, a, b, r, st, ra, rb, e, q⟩ := h
  rcases eqD_ok st ra rb e with ⟨z, w, rfl, rfl, rfl⟩ | ⟨d, c, h1, h2, h3, h4, rfl⟩
  · refine op_eq pins s σ H _ _ v u Q I rx ry ⟨rfl, ?_⟩
    simpa using q
  · exact op_eqD hu pins s σ H _ _ v u Q I rx ry ⟨d, c, h1, h2, h3, h4, q⟩
theorem oc_ne (hu : X.A.units + 64 < cLine) : OpR X (compareOp .NotEq) (rCop X.K .ne) := by
  intro pins s σ H x y v u Q I rx ry h
  obtain ⟨m, S, a, b, r, st, ra, rb, e, q⟩ := h
  have e : (eqD S a b).map (!·) = some r := e
  cases q1 : eqD S a b with
  | none => rw [q1] at e; cases e
  | some r0 =>
    rw [q1] at e
    cases e
    rcases eqD_ok st ra rb q1 with ⟨z, w, rfl, rfl, rfl⟩ | ⟨d, c, h1, h2, h3, h4, rfl⟩
    · refine op_ne pins s σ H _ _ v u Q I rx ry ⟨rfl, ?_⟩
      simpa using q
    · exact op_neD hu pins s σ H _ _ v u Q I rx ry ⟨d, c, h1, h2, h3, h4, q⟩
theorem oc_lt : OpR X (compareOp .Lt) (rCop X.K .lt) := by
  intro pins s σ H x y v u Q I rx ry h
  obtain ⟨m, S, a, b, r, st, ra, rb, e, q⟩ := h
  simp only [cmpD] at e
  split at e
  · cases ra; cases rb; cases e
    exact op_lt pins s σ H _ _ v u Q I rx ry ⟨_, _, rfl, rfl, q⟩
  · cases ra; cases rb; cases e
    exact op_lt_str pins s σ H _ _ v u Q I rx ry ⟨_, _, rfl, rfl, q⟩
  · cases e
theorem oc_le : OpR X (compareOp .LtE) (rCop X.K .le) := by
  intro pins s σ H x y v u Q I rx ry h
  obtain ⟨m, S, a, b, r, st, ra, rb, e, q⟩ := h
  simp only [cmpD] at e
  split at e
  · cases ra; cases rb; cases e
    exact op_le pins s σ H _ _ v u Q I rx ry ⟨_, _, rfl, rfl, q⟩
  · cases e
theorem oc_gt : OpR X (compareOp .Gt) (rCop X.K .gt) := by
  intro pins s σ H x y v u Q I rx ry h
  obtain ⟨m, S, a, b, r, st, ra, rb, e, q⟩ := h
  simp only [cmpD] at e
  split at e
  · cases ra; cases rb; cases e
    exact op_gt pins s σ H _ _ v u Q I rx ry ⟨_, _, rfl, rfl, q⟩
  · cases e
theorem oc_ge : OpR X (compareOp .GtE) (rCop X.K .ge) := by
  intro pins s σ H x y v u Q I rx ry h
  obtain ⟨m, S, a, b, r, st, ra, rb, e, q⟩ := h
  simp only [cmpD] at e
  split at e
  · cases ra; cases rb; cases e
    exact op_ge pins s σ H _ _ v u Q I rx ry ⟨_, _, rfl, rfl, q⟩
  · cases e
theorem non_iff {K : PySem.W.Frag} {H : Hp} {m : Mu} {a : D} {x : V} (h : RpD K H m a x) : (x = .non ↔ a = .py .none) := by
  cases a with
  | py d =>
    cases d with
    | none => cases h; simp
    | bool b => cases h; simp
    | int i => cases h; simp
    | str s => cases h; simp
    | list l => cases h; simp
    | tuple l => cases h; simp
    | dict l => cases h <;> simp
  | ref n => obtain ⟨b, _, rfl⟩ := h; simp
  | scr ns => obtain ⟨b, rfl, _⟩ := h; simp
theorem bl_iff {K : PySem.W.Frag} {H : Hp} {m : Mu} {a : D} {x : V} {c : Bool} (h : RpD K H m a x) : (x = .bl c ↔ a = .py (.bool c)) := by
  cases a with
  | py d =>
    cases d with
    | none => cases h; simp
    | bool b => cases h; simp
    | int i => cases h; simp
    | str s => cases h; simp
    | list l => cases h; simp
    | tuple l => cases h; simp
    | dict l => cases h <;> simp
  | ref n => obtain ⟨b, _, rfl⟩ := h; simp
  | scr ns => obtain ⟨b, rfl, _⟩ := h; simp
theorem plain_bl {x : V} {v : Value} {c : Bool} (r : RelV x v) : plainIs v (.bool c) = true ∧ (v = .bool c ↔ x = .bl c) := by
  cases x with
  | non => cases r; exact ⟨rfl, by simp⟩
  | bl b => cases r; exact ⟨rfl, by simp⟩
  | int i => obtain ⟨t, rfl⟩ := r; exact ⟨rfl, by simp⟩
  | str i => obtain ⟨t, rfl⟩ := r; exact ⟨rfl, by simp⟩
  | byt i => obtain ⟨t, rfl⟩ := r; exact ⟨rfl, by simp⟩
  | flt i => obtain ⟨t, rfl⟩ := r; exact ⟨rfl, by simp⟩
  | ref a => cases r; exact ⟨rfl, by simp⟩
  | ty n => cases r; exact ⟨rfl, by simp⟩
theorem oc_is : OpR X (compareOp .Is) (rCop X.K .is) := by
  intro pins s σ H x y v u Q I rx ry h
  obtain ⟨m, S, a, b, r, st, ra, rb, e, q⟩ := h
  simp only [cmpD] at e
  split at e
  · cases ra; cases rb; cases e
    exact op_isN pins s σ H _ _ v u Q I rx ry ⟨rfl, q⟩
  · rename_i hn
    cases rb; cases e
    refine op_isN pins s σ H _ _ v u Q I rx ry ⟨rfl, ?_⟩
    rw [decide_eq_false fun z => hn ((non_iff ra).mp z)]
    exact q
  · cases ra; cases rb; cases e
    exact op_isBl pins s σ H _ _ v u Q I rx ry ⟨_, _, rfl, rfl, q⟩
  · rename_i hn
    cases rb; cases e
    cases ry
    obtain ⟨p1, p2⟩ := plain_bl (c := _) rx
    exact wpAny_is_other p1 (fun z => hn _ ((bl_iff ra).mp (p2.mp z))) ⟨.bl false, H, I, rfl, q⟩
  · cases e
theorem oc_isnt : OpR X (compareOp .IsNot) (rCop X.K .isnt) := by
  intro pins s σ H x y v u Q I rx ry h
  obtain ⟨m, S, a, b, r, st, ra, rb, e, q⟩ := h
  simp only [cmpD] at e
  split at e
  · cases ra; cases rb; cases e
    exact op_notN pins s σ H _ _ v u Q I rx ry ⟨rfl, q⟩
  · rename_i hn
    cases rb; cases e
    refine op_notN pins s σ H _ _ v u Q I rx ry ⟨rfl, ?_⟩
    rw [decide_eq_false fun z => hn ((non_iff ra).mp z)]
    exact q
  · cases ra; cases rb; cases e
    exact op_notBl pins s σ H _ _ v u Q I rx ry ⟨_, _, rfl, rfl, q⟩
  · rename_i hn
    cases rb; cases e
    cases ry
    obtain ⟨p1, p2⟩ := plain_bl (c := _) rx
    exact wpAny_isNot_other p1 (fun z => hn _ ((bl_iff ra).mp (p2.mp z))) ⟨.bl true, H, I, rfl, q⟩
  · cases e
/-- both ways of in -/
theorem inD_ok {neg : Bool} {pins : List (Addr × Obj)} {s : Shared} {σ : L2.St} {H : Hp} {x y : V} {v u : Value} {Q : VK} {m : Mu} {S : Store} {a b : D} {r : Bool} (hu : X.A.units + 1 < cLine)
    (I : Inv X pins σ H s) (rx : RelV x v) (ry : RelV y u) (st : StOk X.K H m S) (ra : RpD X.K H m a x) (rb : RpD X.K H m b y) (e : inD S a b = some r) (q : Q (.bl (if neg then !r else r)) H) :
    wpAny (model X.prog X.w) X.A (compareOp (if neg then .NotIn else .In) v u) (EP X pins σ Q) X.xe s := by
  have seq : ∀ {l : List PyData} {d : PyData} {p : Addr} {vs : List V}, y = .ref p → (SqL X.K H p vs ∨ SqT X.K H p vs) → RpAll X.K H m l vs → Rp X.K H m d x → flatP d = true → l.all flatP = true → r = (l.any fun z => PyData.eqv z d) →
      wpAny (model X.prog X.w) X.A (compareOp (if neg then .NotIn else .In) v u) (EP X pins σ Q) X.xe s := by
    intro l d p vs ey hs hl hd f1 f2 er
    subst ey
    have e1 := flat_in f1 hd f2 hl
    cases neg with
    | false => exact op_in_seq pins s σ H _ _ v u Q I rx ry ⟨p, vs, rfl, hs, flat_V f1 hd, flat_all f2 hl, by rw [e1, ← er]; exact q⟩
    | true => exact op_notIn_seq pins s σ H _ _ v u Q I rx ry ⟨p, vs, rfl, hs, flat_V f1 hd, flat_all f2 hl, by rw [e1, ← er]; exact q⟩
  have dic : ∀ {p : Addr} {o : Option V}, y = .ref p → DGet H p x o → r = o.isSome → wpAny (model X.prog X.w) X.A (compareOp (if neg then .NotIn else .In) v u) (EP X pins σ Q) X.xe s := by
    intro p o ey g er
    subst ey
    cases ry
    subst er
    cases neg with
    | false => exact d_in hu I g rx fun s' J => ⟨.bl o.isSome, H, J, rfl, q⟩
    | true => exact d_notIn hu I g rx fun s' J => ⟨.bl !o.isSome, H, J, rfl, q⟩
  unfold inD at e
  split at e
  · rename_i z q1
    obtain ⟨rfl, rfl⟩ := view_str rb q1
    split at e
    · cases ra
      cases e
      cases neg with
      | false => exact op_in_sign pins s σ H _ _ v u Q I rx ry ⟨_, z, rfl, rfl, q⟩
      | true => exact op_notIn_sign pins s σ H _ _ v u Q I rx ry ⟨_, z, rfl, rfl, q⟩
    · cases e
  · rename_i ys q1
    obtain ⟨p, vs, e1, h1, h2⟩ := view_lst st rb q1
    split at e
    · rename_i d l q2
      split at e
      · rename_i hf
        have hf := Bool.and_eq_true_iff.mp hf
        cases e
        exact seq e1 (.inl h1) (pys_all q2 h2) ra hf.1 hf.2 rfl
      · cases e
    · cases e
  · rename_i ys q1
    obtain ⟨p, vs, e1, h1, _, h2⟩ := view_tup st rb q1
    split at e
    · rename_i d l q2
      split at e
      · rename_i hf
        have hf := Bool.and_eq_true_iff.mp hf
        cases e
        exact seq e1 (.inr (SqT.of h1)) (pys_all q2 h2) ra hf.1 hf.2 rfl
      · cases e
    · cases e
  · rename_i kvs q1
    split at e
    · rename_i k
      cases ra
      cases e
      obtain ⟨p, e1, o, g, z⟩ := dget_S st rb q1 k
      refine dic e1 g ?_
      cases q3 : dget kvs k with
      | none => rw [q3] at z; have z : o = none := z; rw [z]; rfl
      | some d => rw [q3] at z; obtain ⟨w, e3, _⟩ := z; rw [e3]; rfl
    · cases e
  · rename_i kvs q1
    split at e
    · rename_i k
      split at e
      · rename_i t q2
        cases e
        obtain ⟨p, e1, o, g, z⟩ := dget_T st rb q1 q2 ra
        refine dic e1 g ?_
        cases q3 : dget kvs t with
        | none => rw [q3] at z; have z : o = none := z; rw [z]; rfl
        | some d => rw [q3] at z; obtain ⟨w, e3, _⟩ := z; rw [e3]; rfl
      · cases e
    · cases e
  · cases e
end
end Sf
end
section
set_option maxRecDepth 100000
set_option maxHeartbeats 4000000
namespace Sf
open PySem PySem.Spec L2
open PyProof.Rows hiding St
theorem _root_.L2.PW.mono {X : Cx} {e : PySem.Expr} {t t' : TT} (h : PW X e t) (f : ∀ σ H Q, t' σ H Q → t σ H Q) : PW X e t' := ⟨fun wh pins s σ H Q I q => h.run wh pins s σ H Q I (f σ H Q q)⟩

section
variable {X : Cx} {G : Gam}
theorem oc_in (hu : X.A.units + 1 < cLine) : OpR X (compareOp .In) (rCop X.K .isin) := by
  intro pins s σ H x y v u Q I rx ry h
  obtain ⟨m, S, a, b, r, st, ra, rb, e, q⟩ := h
  exact inD_ok (neg := false) hu I rx ry st ra rb e q
theorem oc_notin (hu : X.A.units + 1 < cLine) : OpR X (compareOp .NotIn) (rCop X.K .notin) := by
  intro pins s σ H x y v u Q I rx ry h
  obtain ⟨m, S, a, b, r, st, ra, rb, e, q⟩ := h
  have e : (inD S a b).map (!·) = some r := e
  cases q1 : inD S a b with
  | none => rw [q1] at e; cases e
  | some r0 =>
    rw [q1] at e
    cases e
    exact inD_ok (neg := true) hu I rx ry st ra rb q1 q
theorem oc_all (hu : X.A.units + 64 < cLine) : ∀ o : Cop, OpR X (compareOp (copOf o)) (rCop X.K o)
  | .eq => oc_eq hu | .ne => oc_ne hu | .lt => oc_lt | .le => oc_le | .gt => oc_gt | .ge => oc_ge | .isin => oc_in (by omega) | .notin => oc_notin (by omega) | .is => oc_is | .isnt => oc_isnt

/-- from a comparison's end -/
theorem cop_of {K : PySem.W.Frag} {H : Hp} {m : Mu} {S : Store} {o : Cop} {a b : D} {x y : V} {Q : D → Store → Mu → Hp → Prop} {P : VK} (st : StOk K H m S) (ra : RpD K H m a x) (rb : RpD K H m b y)
    (h : Fin K m H (R.of ((cmpD S o a b).map bl) S) Q) (f : ∀ r, Q (bl r) S m H → P (.bl r) H) : rCop K o x y H P := by
  cases q : cmpD S o a b with
  | none => rw [q] at h; exact h.elim
  | some r =>
    rw [q] at h
    exact ⟨m, S, a, b, r, st, ra, rb, q, f r (h m H st.refl st)⟩
theorem se_cmp (hu : X.A.units + 64 < cLine) {o : Cop} {a b : PySem.Expr} {c d : CE} {pos : Pos} (ha : PE X a (rdE X.K G c)) (hb : PE X b (rdE X.K G d)) (hm : behindInMarks (copOf o) b = false) : PE X (.Compare a [copOf o] [b] pos) (rdE X.K G (.cmp o c d)) :=
  (pe_cmpR (oc_all hu o) ha hb hm).mono fun σ H Q ⟨m, r, S, lo, st, h⟩ => by
    simp only [evE] at h
    refine ⟨m, r, S, lo, st, h.bind.mono fun d1 S1 m1 H1 e1 s1 h1 v1 rp1 => ?_⟩
    refine ⟨m1, r, S1, lo.ext e1, s1, h1.bind.mono fun d2 S2 m2 H2 e2 s2 h2 v2 rp2 => ?_⟩
    exact cop_of s2 (rp1.ext e2) rp2 h2 fun r q => q _ (.bl r)
theorem st_cmp (hu : X.A.units + 64 < cLine) {o : Cop} {a b : PySem.Expr} {c d : CE} {pos : Pos} (ha : PE X a (rdE X.K G c)) (hb : PE X b (rdE X.K G d)) (hm : behindInMarks (copOf o) b = false) : PT X (.Compare a [copOf o] [b] pos) (rdT X.K G (.cmp o c d)) :=
  (pt_cmpR (oc_all hu o) ha hb hm).mono fun σ H Q ⟨m, r, S, lo, st, h⟩ => by
    simp only [evE] at h
    refine ⟨m, r, S, lo, st, h.bind.mono fun d1 S1 m1 H1 e1 s1 h1 v1 rp1 => ?_⟩
    refine ⟨m1, r, S1, lo.ext e1, s1, h1.bind.mono fun d2 S2 m2 H2 e2 s2 h2 v2 rp2 => ?_⟩
    refine cop_of s2 (rp1.ext e2) rp2 h2 fun r q => ?_
    obtain ⟨b, e, q⟩ := q
    cases e
    exact ⟨r, rfl, q⟩
/-- the first link of a chain -/
theorem cop_link {K : PySem.W.Frag} {H : Hp} {m : Mu} {S : Store} {o : Cop} {a b : D} {x y : V} {k : R D} {Q : D → Store → Mu → Hp → Prop} {P : VK} (st : StOk K H m S) (ra : RpD K H m a x) (rb : RpD K H m b y)
    (h : Fin K m H (match cmpD S o a b with
      | some true => k
      | some false => .ok (bl false) S
      | none => .bad) Q) (f : Fin K m H k Q → P (.bl true) H) (g : Q (bl false) S m H → P (.bl false) H) : rCop K o x y H P := by
  cases q : cmpD S o a b with
  | none => rw [q] at h; exact h.elim
  | some r =>
    rw [q] at h
    refine ⟨m, S, a, b, r, st, ra, rb, q, ?_⟩
    cases r with
    | true => exact f h
    | false => exact g (h m H st.refl st)
theorem se_cmp2 (hu : X.A.units + 64 < cLine) {o p : Cop} {a b e : PySem.Expr} {c d f : CE} {pos : Pos} (ha : PE X a (rdE X.K G c)) (hb : PE X b (rdE X.K G d)) (he : PE X e (rdE X.K G f)) (hm : lastMarks [copOf o, copOf p] [b, e] = false) :
    PE X (.Compare a [copOf o, copOf p] [b, e] pos) (rdE X.K G (.cmp2 o p c d f)) :=
  (pe_chain (oc_all hu o) (oc_all hu p) ha hb he hm).mono fun σ H Q ⟨m, r, S, lo, st, h⟩ => by
    simp only [evE] at h
    refine ⟨m, r, S, lo, st, h.bind.mono fun d1 S1 m1 H1 e1 s1 h1 v1 rp1 => ?_⟩
    refine ⟨m1, r, S1, lo.ext e1, s1, h1.bind.mono fun d2 S2 m2 H2 e2 s2 h2 v2 rp2 => ?_⟩
    refine cop_link s2 (rp1.ext e2) rp2 h2 (fun h3 => ⟨true, rfl, ?_⟩) (fun q => ⟨false, rfl, q _ (.bl false)⟩)
    refine ⟨m2, r, S2, (lo.ext e1).ext e2, s2, h3.bind.mono fun d3 S3 m3 H3 e3 s3 h4 v3 rp3 => ?_⟩
    exact cop_of s3 (rp2.ext e3) rp3 h4 fun r q => q _ (.bl r)
theorem st_cmp2 (hu : X.A.units + 64 < cLine) {o p : Cop} {a b e : PySem.Expr} {c d f : CE} {pos : Pos} (ha : PE X a (rdE X.K G c)) (hb : PE X b (rdE X.K G d)) (he : PE X e (rdE X.K G f)) (hm : lastMarks [copOf o, copOf p] [b, e] = false) :
    PT X (.Compare a [copOf o, copOf p] [b, e] pos) (rdT X.K G (.cmp2 o p c d f)) :=
  (pt_chain (oc_all hu o) (oc_all hu p) ha hb he hm).mono fun σ H Q ⟨m, r, S, lo, st, h⟩ => by
    simp only [evE] at h
    refine ⟨m, r, S, lo, st, h.bind.mono fun d1 S1 m1 H1 e1 s1 h1 v1 rp1 => ?_⟩
    refine ⟨m1, r, S1, lo.ext e1, s1, h1.bind.mono fun d2 S2 m2 H2 e2 s2 h2 v2 rp2 => ?_⟩
    refine cop_link s2 (rp1.ext e2) rp2 h2 (fun h3 => ⟨true, rfl, ?_⟩) (fun q => ⟨false, rfl, ?_⟩)
    · refine ⟨m2, r, S2, (lo.ext e1).ext e2, s2, h3.bind.mono fun d3 S3 m3 H3 e3 s3 h4 v3 rp3 => ?_⟩
      refine cop_of s3 (rp2.ext e3) rp3 h4 fun r q => ?_
      obtain ⟨b, e, q⟩ := q
      cases e
      exact ⟨r, rfl, q⟩
    · obtain ⟨b, e, q⟩ := q
      cases e
      exact ⟨false, rfl, q⟩

/-! ### truth: and, or, not, if -/
/-- from a value's truth -/
theorem truth_of {K : PySem.W.Frag} {H : Hp} {m : Mu} {S : Store} {A : Type} {d : D} {v : V} {k1 k2 : R A} {Q : A → Store → Mu → Hp → Prop} (st : StOk K H m S) (rd : RpD K H m d v)
    (h : Fin K m H (match truth S d with
      | some true => k1
      | some false => k2
      | none => .bad) Q) : ∃ b, truth S d = some b ∧ TruV K v H b ∧ (b = true → Fin K m H k1 Q) ∧ (b = false → Fin K m H k2 Q) := by
  cases q : truth S d with
  | none => rw [q] at h; exact h.elim
  | some b =>
    rw [q] at h
    refine ⟨b, rfl, truth_ok st rd q, ?_, ?_⟩
    · intro e; subst e; exact h
    · intro e; subst e; exact h
theorem se_and {a b : PySem.Expr} {rest : List PySem.Expr} {c d : CE} {pos : Pos} (ha : PE X a (rdE X.K G c)) (hb : PE X (.BoolOp .And (b :: rest) pos) (rdE X.K G d)) : PE X (.BoolOp .And (a :: b :: rest) pos) (rdE X.K G (.and c d)) :=
  (pe_andT ha hb).mono fun σ H Q ⟨m, r, S, lo, st, h⟩ => by
    simp only [evE] at h
    refine ⟨m, r, S, lo, st, h.bind.mono fun d1 S1 m1 H1 e1 s1 h1 v1 rp1 => ?_⟩
    obtain ⟨b, _, hb, k1, k2⟩ := truth_of s1 rp1 h1
    refine ⟨b, hb, ?_⟩
    cases b with
    | true => exact ⟨m1, r, S1, lo.ext e1, s1, k1 rfl⟩
    | false => exact k2 rfl m1 H1 s1.refl s1 v1 rp1
theorem se_or {a b : PySem.Expr} {rest : List PySem.Expr} {c d : CE} {pos : Pos} (ha : PE X a (rdE X.K G c)) (hb : PE X (.BoolOp .Or (b :: rest) pos) (rdE X.K G d)) : PE X (.BoolOp .Or (a :: b :: rest) pos) (rdE X.K G (.or c d)) :=
  (pe_orT ha hb).mono fun σ H Q ⟨m, r, S, lo, st, h⟩ => by
    simp only [evE] at h
    refine ⟨m, r, S, lo, st, h.bind.mono fun d1 S1 m1 H1 e1 s1 h1 v1 rp1 => ?_⟩
    obtain ⟨b, _, hb, k1, k2⟩ := truth_of s1 rp1 h1
    refine ⟨b, hb, ?_⟩
    cases b with
    | true => exact k1 rfl m1 H1 s1.refl s1 v1 rp1
    | false => exact ⟨m1, r, S1, lo.ext e1, s1, k2 rfl⟩
theorem se_not {a : PySem.Expr} {c : CE} {pos : Pos} (ha : PE X a (rdE X.K G c)) : PE X (.UnaryOp .Not a pos) (rdE X.K G (.not c)) :=
  (pe_notT ha).mono fun σ H Q ⟨m, r, S, lo, st, h⟩ => by
    simp only [evE] at h
    refine ⟨m, r, S, lo, st, h.bind.mono fun d1 S1 m1 H1 e1 s1 h1 v1 rp1 => ?_⟩
    cases q : truth S1 d1 with
    | none => rw [q] at h1; exact h1.elim
    | some b =>
      rw [q] at h1
      exact ⟨b, truth_ok s1 rp1 q, h1 m1 H1 s1.refl s1 _ (.bl _)⟩
theorem sw_and1 {a : PySem.Expr} {c : CE} {pos : Pos} (ha : PT X a (rdT X.K G c)) : PW X (.BoolOp .And [a] pos) (rdT X.K G c) := pw_and1 ha
theorem sw_or1 {a : PySem.Expr} {c : CE} {pos : Pos} (ha : PT X a (rdT X.K G c)) : PW X (.BoolOp .Or [a] pos) (rdT X.K G c) := pw_or1 ha
theorem sw_and {a b : PySem.Expr} {rest : List PySem.Expr} {c d : CE} {pos : Pos} (ha : PT X a (rdT X.K G c)) (hb : PW X (.BoolOp .And (b :: rest) pos) (rdT X.K G d)) : PW X (.BoolOp .And (a :: b :: rest) pos) (rdT X.K G (.and c d)) :=
  (pw_and ha hb).mono fun σ H Q ⟨m, r, S, lo, st, h⟩ => by
    simp only [evE] at h
    refine ⟨m, r, S, lo, st, h.bind.mono fun d1 S1 m1 H1 e1 s1 h1 => ?_⟩
    cases q : truth S1 d1 with
    | none => rw [q] at h1; exact h1.elim
    | some b =>
      rw [q] at h1
      refine ⟨b, rfl, ?_⟩
      cases b with
      | true => exact ⟨m1, r, S1, lo.ext e1, s1, h1⟩
      | false =>
        obtain ⟨b, e, z⟩ := h1 m1 H1 s1.refl s1
        rw [q] at e
        cases e
        exact z
theorem sw_or {a b : PySem.Expr} {rest : List PySem.Expr} {c d : CE} {pos : Pos} (ha : PT X a (rdT X.K G c)) (hb : PW X (.BoolOp .Or (b :: rest) pos) (rdT X.K G d)) : PW X (.BoolOp .Or (a :: b :: rest) pos) (rdT X.K G (.or c d)) :=
  (pw_or ha hb).mono fun σ H Q ⟨m, r, S, lo, st, h⟩ => by
    simp only [evE] at h
    refine ⟨m, r, S, lo, st, h.bind.mono fun d1 S1 m1 H1 e1 s1 h1 => ?_⟩
    cases q : truth S1 d1 with
    | none => rw [q] at h1; exact h1.elim
    | some b =>
      rw [q] at h1
      refine ⟨b, rfl, ?_⟩
      cases b with
      | true =>
        obtain ⟨b, e, z⟩ := h1 m1 H1 s1.refl s1
        rw [q] at e
        cases e
        exact z
      | false => exact ⟨m1, r, S1, lo.ext e1, s1, h1⟩
theorem st_not {a : PySem.Expr} {c : CE} {pos : Pos} (ha : PT X a (rdT X.K G c)) : PT X (.UnaryOp .Not a pos) (rdT X.K G (.not c)) :=
  (pt_not ha).mono fun σ H Q ⟨m, r, S, lo, st, h⟩ => by
    simp only [evE] at h
    refine ⟨m, r, S, lo, st, h.bind.mono fun d1 S1 m1 H1 e1 s1 h1 => ?_⟩
    cases q : truth S1 d1 with
    | none => rw [q] at h1; exact h1.elim
    | some b =>
      rw [q] at h1
      obtain ⟨c, e, z⟩ := h1 m1 H1 s1.refl s1
      cases e
      exact ⟨b, rfl, z⟩
/-- any other expression as a test -/
theorem st_val {a : PySem.Expr} {c : CE} (ha : PE X a (rdE X.K G c)) (he : ∀ whole, isTrue a X.env whole = (do let v ← whole; standAt a.pos; holding [v] (truthy v))) : PT X a (rdT X.K G c) :=
  (pt_truth ha he).mono fun σ H Q ⟨m, r, S, lo, st, h⟩ => by
    refine ⟨m, r, S, lo, st, h.mono fun d1 S1 m1 H1 e1 s1 h1 v1 rp1 => ?_⟩
    obtain ⟨b, e, z⟩ := h1
    exact ⟨b, truth_ok s1 rp1 e, z⟩
theorem se_ite {t a b : PySem.Expr} {ct c d : CE} {pos : Pos} (ht : PT X t (rdT X.K G ct)) (ha : PE X a (rdE X.K G c)) (hb : PE X b (rdE X.K G d)) : PE X (.IfExp t a b pos) (rdE X.K G (.ite ct c d)) :=
  (pe_ifExp ht ha hb).mono fun σ H Q ⟨m, r, S, lo, st, h⟩ => by
    simp only [evE] at h
    refine ⟨m, r, S, lo, st, h.bind.mono fun d1 S1 m1 H1 e1 s1 h1 => ?_⟩
    cases q : truth S1 d1 with
    | none => rw [q] at h1; exact h1.elim
    | some b =>
      rw [q] at h1
      refine ⟨b, rfl, ?_⟩
      cases b with
      | true => exact ⟨m1, r, S1, lo.ext e1, s1, h1⟩
      | false => exact ⟨m1, r, S1, lo.ext e1, s1, h1⟩

/-! ### places -/
def rIdx (K : PySem.W.Frag) : R2 := fun x y H Q => ∃ m S a b d, StOk K H m S ∧ RpD K H m a x ∧ RpD K H m b y ∧ idxD S a b = some d ∧ ∀ v, RpD K H m d v → Q v H
theorem atI_rel {K : PySem.W.Frag} {H : Hp} {m : Mu} {xs : List D} {vs : List V} {i : Int} {d : D} (h : RpDs K H m xs vs) (e : atI xs i = some d) : ∃ v, atI vs i = some v ∧ RpD K H m d v := by
  unfold atI at e ⊢
  rw [← Paired.length h]
  cases q : ixN xs.length i with
  | none => rw [q] at e; cases e
  | some j =>
    rw [q] at e
    obtain ⟨v, h1, h2⟩ := RpDs.get h (show xs[j]? = some d from e)
    exact ⟨v, h1, h2⟩
/-- a dict's item, by values -/
theorem ix_dict (hu : X.A.units + 1 < cLine) : IxR X (fun x y H Q => ∃ a v, x = .ref a ∧ DGet H a y (some v) ∧ Q v H) := by
  intro ve se pins s σ H x y v u Q I rx ry h hs
  obtain ⟨a, d, rfl, g, q⟩ := h
  cases rx
  have hT := dict_typeIs I g
  have go : wpAny (model X.prog X.w) X.A (getItem (.ref a) u) (EP X pins σ Q) X.xe s :=
    d_getItem hu I g ry fun w1 s1 I1 r1 => ⟨d, H, I1, r1, q⟩
  have last : wpAny (model X.prog X.w) X.A (subscripted se false (.ref a) u)
      (fun r t => wpAny (model X.prog X.w) X.A (letTemporaryGo ve (.ref a) r >>= fun _ => pure r) (EP X pins σ Q) X.xe t) X.xe s := by
    rw [hs]
    refine wpAny_operating (thn go fun r t z => ?_)
    exact wpAny_bind (wpAny_letTemporaryGo (wpAny_pure z))
  unfold subscriptTail
  refine wpAny_bind ?_
  rw [getitemInPython_of_ne hT.not_modules]
  refine wpAny_bind (wpAny_specialOf hT PySem.F.slot_dict_getitem.lookup ?_)
  first
    | exact wpAny_pure (wpAny_bind last)
    | exact wpAny_bind (wpAny_pure (wpAny_bind last))
    | exact wpAny_bind last
theorem ix_all (hu : X.A.units + 1 < cLine) : IxR X (rIdx X.K) := by
  intro ve se pins s σ H x y v u Q I rx ry h hs
  obtain ⟨m, S, a, b, d, st, ra, rb, e, q⟩ := h
  unfold idxD at e
  split at e
  · rename_i xs q1
    obtain ⟨p, vs, rfl, h1, h2⟩ := view_lst st ra q1
    split at e
    · cases rb
      obtain ⟨w, h3, h4⟩ := atI_rel h2 e
      exact ix_list ve se pins s σ H _ _ v u Q I rx ry ⟨p, vs, _, w, rfl, rfl, h1, h3, q w h4⟩ hs
    · cases e
  · rename_i xs q1
    obtain ⟨p, vs, rfl, h1, _, h2⟩ := view_tup st ra q1
    split at e
    · cases rb
      obtain ⟨w, h3, h4⟩ := atI_rel h2 e
      exact ix_tup ve se pins s σ H _ _ v u Q I rx ry ⟨p, vs, _, w, rfl, rfl, SqT.of h1, h3, q w h4⟩ hs
    · cases e
  · rename_i z q1
    obtain ⟨rfl, rfl⟩ := view_str ra q1
    split at e
    · rename_i i
      cases rb
      split at e
      · rename_i hf
        have := line_big (fits_line hf)
        cases q2 : atI z.cps.toList i with
        | none => rw [q2] at e; cases e
        | some c =>
          rw [q2] at e
          cases e
          exact ix_str ve se pins s σ H _ _ v u Q I rx ry ⟨z, i, c, rfl, rfl, by omega, q2, q _ (.str _)⟩ hs
      · cases e
    · cases e
  · rename_i kvs q1
    split at e
    · rename_i k
      cases rb
      obtain ⟨p, rfl, o, g, z⟩ := dget_S st ra q1 k
      rw [e] at z
      obtain ⟨w, rfl, h4⟩ := z
      exact ix_dict hu ve se pins s σ H _ _ v u Q I rx ry ⟨p, w, rfl, g, q w h4⟩ hs
    · cases e
  · rename_i kvs q1
    split at e
    · split at e
      · rename_i t q2
        obtain ⟨p, rfl, o, g, z⟩ := dget_T st ra q1 q2 rb
        rw [e] at z
        obtain ⟨w, rfl, h4⟩ := z
        exact ix_dict hu ve se pins s σ H _ _ v u Q I rx ry ⟨p, w, rfl, g, q w h4⟩ hs
      · cases e
    · cases e
  · cases e
theorem se_idx (hu : X.A.units + 1 < cLine) {a b : PySem.Expr} {c d : CE} {pos : Pos} (ha : PE X a (rdE X.K G c)) (hb : PE X b (rdE X.K G d)) (hs : PlainIx b) : PE X (.Subscript a b pos) (rdE X.K G (.idx c d)) :=
  (pe_ix (ix_all hu) ha hb hs).mono fun σ H Q ⟨m, r, S, lo, st, h⟩ => by
    simp only [evE] at h
    refine ⟨m, r, S, lo, st, h.bind.mono fun d1 S1 m1 H1 e1 s1 h1 v1 rp1 => ?_⟩
    refine ⟨m1, r, S1, lo.ext e1, s1, h1.bind.mono fun d2 S2 m2 H2 e2 s2 h2 v2 rp2 => ?_⟩
    obtain ⟨d, e, q⟩ := h2.of s2
    exact ⟨m2, S2, d1, d2, d, s2, rp1.ext e2, rp2, e, q⟩

/-! ### slices -/
def rdO (K : PySem.W.Frag) (G : Gam) (c : CO) : TO := fun σ H Q => ∃ m r S, LocOk K H m r σ ∧ StOk K H m S ∧ Fin K m H (evO G c r S) (fun d _ m' H' => ∃ i, intO d = some i ∧ Q i H')
theorem so_none : PO X none (rdO X.K G .none) := ⟨fun pins s σ H Q I ⟨m, r, S, lo, st, h⟩ => by
  obtain ⟨i, e, q⟩ := h m H st.refl st
  cases e
  exact po_none.run pins s σ H Q I q⟩
theorem so_some {e : PySem.Expr} {c : CE} (he : PE X e (rdE X.K G c)) : PO X (some e) (rdO X.K G (.some c)) := ⟨fun pins s σ H Q I ⟨m, r, S, lo, st, h⟩ => by
  simp only [evO] at h
  refine (po_some he).run pins s σ H Q I ⟨m, r, S, lo, st, h.bind.mono fun d1 S1 m1 H1 e1 s1 h1 v1 rp1 => ?_⟩
  obtain ⟨i, e, q⟩ := h1 m1 H1 s1.refl s1
  cases d1 with
  | py d =>
    cases d with
    | int j =>
      cases e
      cases rp1
      exact ⟨j, rfl, q⟩
    | _ => simp [intO] at e
  | _ => simp [intO] at e⟩
theorem cutV_rel {K : PySem.W.Frag} {H : Hp} {m : Mu} {xs : List PyData} {vs : List V} {lo hi : Option Int} (h : RpAll K H m xs vs) : RpAll K H m (cutD xs lo hi) (cutV vs lo hi) := by
  have dr : ∀ {xs : List PyData} {vs : List V} (n : Nat), RpAll K H m xs vs → RpAll K H m (xs.drop n) (vs.drop n) := by
    intro xs
    induction xs with
    | nil => intro vs n h; cases h; simp; exact .nil
    | cons x xs ih =>
      intro vs n h
      cases h with
      | cons h1 h2 =>
        cases n with
        | zero => exact .cons h1 h2
        | succ n => exact ih n h2
  have tk : ∀ {xs : List PyData} {vs : List V} (n : Nat), RpAll K H m xs vs → RpAll K H m (xs.take n) (vs.take n) := by
    intro xs
    induction xs with
    | nil => intro vs n h; cases h; simp; exact .nil
    | cons x xs ih =>
      intro vs n h
      cases h with
      | cons h1 h2 =>
        cases n with
        | zero => exact .nil
        | succ n => exact .cons h1 (ih n h2)
  unfold cutD cutV
  rw [← h.length]
  exact tk _ (dr _ h)
theorem cutD_whole {A : Type} (xs : List A) (lo hi : Option Int) (h : HT.sIx xs.length 0 lo = 0 ∧ HT.sIx xs.length xs.length hi = xs.length) : cutD xs lo hi = xs := by
  unfold cutD
  rw [h.1, h.2]
  simp
def rSli (K : PySem.W.Frag) : V → Option Int → Option Int → Hp → VK → Prop := fun x lo hi H Q => ∃ m S a d, StOk K H m S ∧ RpD K H m a x ∧ sliD S a lo hi = some d ∧ ∀ m' H', Ext m H m' H' → StOk K H' m' S → ∀ v, RpD K H' m' d v → Q v H'
theorem sl_all : SlR X (rSli X.K) := by
  intro pins s σ H x v vl vu lo hi sl Q I rx hs pl pu h
  obtain ⟨m, S, a, d, st, ra, e, q⟩ := h
  unfold sliD at e
  split at e
  · cases e
    cases ra with
    | @lst p vs xs h1 h2 h3 =>
      refine sl_list pins s σ H _ v vl vu lo hi sl Q I rx hs pl pu ⟨p, vs, rfl, SqL.of h1, fun p' hp => ?_⟩
      have e := st.ext_new (o := .lst (cutV vs lo hi)) hp
      exact q m _ e (st.new hp) _ (.lst upd_same (st.out hp) (RpAll.ext e _ _ (cutV_rel h3)))
  · cases e
    cases ra with
    | @tup p vs xs h1 h2 h3 =>
      refine sl_tupA pins s σ H _ v vl vu lo hi sl Q I rx hs pl pu ⟨p, vs, rfl, SqT.of h1, fun z => ?_, fun _ p' hp => ?_⟩
      · rw [← h3.length] at z
        rw [cutD_whole _ _ _ z] at q
        exact q m H st.refl st _ (.tup h1 h2 h3)
      · have e := st.ext_new (o := .tup (cutV vs lo hi)) hp
        exact q m _ e (st.new hp) _ (.tup upd_same (st.out hp) (RpAll.ext e _ _ (cutV_rel h3)))
  · cases e
theorem se_sli {a : PySem.Expr} {el eh : Option PySem.Expr} {c : CE} {l h : CO} {p2 pos : Pos} (ha : PE X a (rdE X.K G c)) (hl : PO X el (rdO X.K G l)) (hh : PO X eh (rdO X.K G h)) : PE X (.Subscript a (.Slice el eh none p2) pos) (rdE X.K G (.sli c l h)) :=
  (pe_slice sl_all ha hl hh).mono fun σ H Q ⟨m, r, S, lo, st, h⟩ => by
    simp only [evE] at h
    refine ⟨m, r, S, lo, st, h.bind.mono fun d1 S1 m1 H1 e1 s1 h1 v1 rp1 => ?_⟩
    refine ⟨m1, r, S1, lo.ext e1, s1, h1.bind.mono fun d2 S2 m2 H2 e2 s2 h2 => ?_⟩
    split at h2
    · rename_i i q
      refine ⟨i, q, m2, r, S2, (lo.ext e1).ext e2, s2, h2.bind.mono fun d3 S3 m3 H3 e3 s3 h3 => ?_⟩
      split at h3
      · rename_i j q2
        cases q3 : sliD S3 d1 i j with
        | none => rw [q3] at h3; exact h3.elim
        | some d =>
          rw [q3] at h3
          exact ⟨j, q2, m3, S3, d1, d, s3, (rp1.ext e2).ext e3, q3, h3⟩
      · exact h3.elim
    · exact h2.elim
end
end Sf
end
section
set_option maxRecDepth 100000
set_option maxHeartbeats 4000000
namespace Sf
open PySem PySem.Spec L2
open PyProof.Rows hiding St

section
variable {X : Cx} {G : Gam}
/-! ### built-in functions -/
def rBlt (K : PySem.W.Frag) (mu : Bool) (b : Blt) : List V → Hp → VK → Prop := fun vs H Q => ∃ m S ds, StOk K H m S ∧ RpDs K H m ds vs ∧ Fin K m H (bltD mu b ds S) (ValQ K Q)
theorem one_of {K : PySem.W.Frag} {H : Hp} {m : Mu} {d : D} {vs : List V} (h : RpDs K H m [d] vs) : ∃ v, vs = [v] ∧ RpD K H m d v := by
  cases h with
  | cons h1 h2 => cases h2; exact ⟨_, rfl, h1⟩
theorem two_of {K : PySem.W.Frag} {H : Hp} {m : Mu} {d e : D} {vs : List V} (h : RpDs K H m [d, e] vs) : ∃ v u, vs = [v, u] ∧ RpD K H m d v ∧ RpD K H m e u := by
  cases h with
  | cons h1 h2 =>
    obtain ⟨u, rfl, h3⟩ := one_of h2
    exact ⟨_, _, rfl, h1, h3⟩
theorem KvD.length {K : PySem.W.Frag} {H : Hp} {m : Mu} {kvs : List (Str × D)} {ks : List (Key × V)} (h : KvD K H m kvs ks) : kvs.length = ks.length := Paired.length h
theorem cb_len {mu : Bool} : CallR X (.builtin "len") (rBlt X.K mu .len) := by
  intro pins s σ H vs us Q I r h
  obtain ⟨m, S, ds, st, rs, h⟩ := h
  cases ds with
  | nil => exact h.elim
  | cons d t =>
    cases t with
    | cons _ _ => exact h.elim
    | nil =>
      obtain ⟨v, rfl, rd⟩ := one_of rs
      simp only [bltD] at h
      unfold lenD at h
      cases q : view S d with
      | lst xs =>
        rw [q] at h
        obtain ⟨a, ws, rfl, h1, h2⟩ := view_lst st rd q
        refine call_len_seq pins s σ H _ us Q I r ⟨a, ws, rfl, .inl h1, ?_⟩
        rw [← Paired.length h2]
        exact fin_py st (.int _) h
      | tup xs =>
        rw [q] at h
        obtain ⟨a, ws, rfl, h1, _, h2⟩ := view_tup st rd q
        refine call_len_seq pins s σ H _ us Q I r ⟨a, ws, rfl, .inr (SqT.of h1), ?_⟩
        rw [← Paired.length h2]
        exact fin_py st (.int _) h
      | str x =>
        rw [q] at h
        obtain ⟨rfl, rfl⟩ := view_str rd q
        cases q2 : fits x.length with
        | false => simp only [q2] at h; exact h.elim
        | true =>
          simp only [q2] at h
          have := line_big (fits_line q2)
          exact call_len_str pins s σ H _ us Q I r ⟨x, rfl, by omega, fin_py st (.int _) h⟩
      | dS kvs =>
        rw [q] at h
        obtain ⟨a, ks, rfl, h1, h2⟩ := view_dS st rd q
        obtain ⟨u, rfl, ru⟩ := vals1 r
        cases ru
        refine d_len I h1 fun t s' J => ⟨.int ks.length, H, J, ⟨t, rfl⟩, ?_⟩
        rw [← h2.length]
        exact fin_py st (.int _) h
      | dT kvs => rw [q] at h; exact h.elim
      | no => rw [q] at h; exact h.elim
theorem ct_int {mu : Bool} : CallR X (.type "int") (rBlt X.K mu .int) := by
  intro pins s σ H vs us Q I r h
  obtain ⟨m, S, ds, st, rs, h⟩ := h
  unfold bltD at h
  split at h <;> first | contradiction | exact h.elim | skip
  obtain ⟨v, rfl, rd⟩ := one_of rs
  cases rd
  exact call_int1 pins s σ H _ us Q I r (.inl ⟨_, rfl, fin_py st (.int _) h⟩)
theorem ct_list {mu : Bool} : CallR X (.type "list") (rBlt X.K mu .list) := by
  intro pins s σ H vs us Q I r h
  obtain ⟨m, S, ds, st, rs, h⟩ := h
  unfold bltD at h
  split at h <;> first | contradiction | exact h.elim | skip
  obtain ⟨v, rfl, rd⟩ := one_of rs
  rename_i d _
  unfold itemsD at h
  cases q : view S d with
  | lst xs =>
    rw [q] at h
    obtain ⟨a, ws, rfl, h1, h2⟩ := view_lst st rd q
    obtain ⟨z1, z2⟩ := mkLst_ok st h2 h
    exact call_list_of pins s σ H _ us Q I r ⟨a, ws, rfl, .inl h1, z2⟩
  | tup xs =>
    rw [q] at h
    obtain ⟨a, ws, rfl, h1, _, h2⟩ := view_tup st rd q
    obtain ⟨z1, z2⟩ := mkLst_ok st h2 h
    exact call_list_of pins s σ H _ us Q I r ⟨a, ws, rfl, .inr (SqT.of h1), z2⟩
  | _ => rw [q] at h; exact h.elim
theorem ct_tuple {mu : Bool} : CallR X (.type "tuple") (rBlt X.K mu .tuple) := by
  intro pins s σ H vs us Q I r h
  obtain ⟨m, S, ds, st, rs, h⟩ := h
  unfold bltD at h
  split at h <;> first | contradiction | exact h.elim | skip
  rename_i d _
  obtain ⟨v, rfl, rd⟩ := one_of rs
  split at h
  · exact h.elim
  · rename_i nz
    unfold itemsD at h
    cases q : view S d with
    | lst xs =>
      rw [q] at h
      obtain ⟨a, ws, rfl, h1, h2⟩ := view_lst st rd q
      obtain ⟨z1, z2⟩ := mkTup_ok st h2 h
      exact call_tuple_of pins s σ H _ us Q I r ⟨a, ws, rfl, .inl ⟨h1, z2⟩⟩
    | tup xs =>
      rw [q] at h
      have rd0 := rd
      obtain ⟨a, ws, rfl, h1, _, h2⟩ := view_tup st rd q
      refine call_tuple_of pins s σ H _ us Q I r ⟨a, ws, rfl, .inr ⟨SqT.of h1, ?_⟩⟩
      unfold mkTup at h
      simp only at h
      cases q2 : fits xs.length with
      | false => simp only [q2] at h; exact h.elim
      | true =>
        simp only [q2] at h
        cases q3 : pys xs with
        | none => rw [q3] at h; exact h.elim
        | some l =>
          rw [q3] at h
          refine h m H st.refl st _ ?_
          cases d with
          | py d =>
            cases d with
            | tuple ys =>
              simp only [view] at q
              cases q
              rw [pys_py] at q3
              cases q3
              exact rd0
            | dict kvs => exact absurd q (view_dict_ne kvs (fun _ z => nomatch z) ⟨fun _ z => (nomatch z), fun z => (nomatch z)⟩)
            | _ => simp [view] at q
          | ref n =>
            unfold view at q
            cases q5 : S[n]? with
            | none => simp [q5] at q
            | some o => cases o <;> simp [q5] at q
          | scr ns => simp [view] at q
    | _ => rw [q] at h; exact h.elim
theorem bls_of {K : PySem.W.Frag} {H : Hp} {m : Mu} : ∀ {xs : List D} {bs : List Bool} {vs : List V}, blsD xs = some bs → RpDs K H m xs vs → vs = bs.map V.bl
  | [], bs, _, e, h => by
    cases h
    cases e
    rfl
  | d :: r, bs, _, e, h => by
    cases h with
    | cons h1 h2 =>
      cases d with
      | py d =>
        cases d with
        | bool b =>
          simp only [blsD] at e
          cases q : blsD r with
          | none => rw [q] at e; cases e
          | some l =>
            rw [q] at e
            cases e
            cases h1
            rw [bls_of q h2]
            rfl
        | _ => simp [blsD] at e
      | _ => simp [blsD] at e
theorem ints_of {K : PySem.W.Frag} {H : Hp} {m : Mu} : ∀ {xs : List D} {bs : List Int} {vs : List V}, intsD xs = some bs → RpDs K H m xs vs → vs = bs.map V.int
  | [], bs, _, e, h => by
    cases h
    cases e
    rfl
  | d :: r, bs, _, e, h => by
    cases h with
    | cons h1 h2 =>
      cases d with
      | py d =>
        cases d with
        | int b =>
          simp only [intsD] at e
          cases q : intsD r with
          | none => rw [q] at e; cases e
          | some l =>
            rw [q] at e
            cases e
            cases h1
            rw [ints_of q h2]
            rfl
        | _ => simp [intsD] at e
      | _ => simp [intsD] at e
theorem cb_all (hc : X.calm = true) {mu : Bool} : CallR X (.builtin "all") (rBlt X.K mu .all) := by
  intro pins s σ H vs us Q I r h
  obtain ⟨m, S, ds, st, rs, h⟩ := h
  unfold bltD at h
  split at h <;> first | contradiction | exact h.elim | skip
  rename_i d _
  obtain ⟨v, rfl, rd⟩ := one_of rs
  cases q : view S d with
  | lst xs =>
    rw [q] at h
    obtain ⟨a, ws, rfl, h1, h2⟩ := view_lst st rd q
    cases q2 : blsD xs with
    | none => simp only [q2] at h; exact h.elim
    | some bs =>
      simp only [q2] at h
      have := bls_of q2 h2
      subst this
      exact cr_all hc pins s σ H _ us Q I r ⟨a, bs, rfl, h1, fin_py st (.bl _) h⟩
  | _ => rw [q] at h; exact h.elim
theorem cb_any (hc : X.calm = true) {mu : Bool} : CallR X (.builtin "any") (rBlt X.K mu .any) := by
  intro pins s σ H vs us Q I r h
  obtain ⟨m, S, ds, st, rs, h⟩ := h
  unfold bltD at h
  split at h <;> first | contradiction | exact h.elim | skip
  rename_i d _
  obtain ⟨v, rfl, rd⟩ := one_of rs
  cases q : view S d with
  | lst xs =>
    rw [q] at h
    obtain ⟨a, ws, rfl, h1, h2⟩ := view_lst st rd q
    cases q2 : blsD xs with
    | none => simp only [q2] at h; exact h.elim
    | some bs =>
      simp only [q2] at h
      have := bls_of q2 h2
      subst this
      exact cr_any hc pins s σ H _ us Q I r ⟨a, bs, rfl, h1, fin_py st (.bl _) h⟩
  | _ => rw [q] at h; exact h.elim
theorem cb_sum (hc : X.calm = true) {mu : Bool} : CallR X (.builtin "sum") (rBlt X.K mu .sum) := by
  intro pins s σ H vs us Q I r h
  obtain ⟨m, S, ds, st, rs, h⟩ := h
  unfold bltD at h
  split at h <;> first | contradiction | exact h.elim | skip
  rename_i d _
  obtain ⟨v, rfl, rd⟩ := one_of rs
  cases q : view S d with
  | lst xs =>
    rw [q] at h
    obtain ⟨a, ws, rfl, h1, h2⟩ := view_lst st rd q
    cases q2 : intsD xs with
    | none => simp only [q2] at h; exact h.elim
    | some bs =>
      simp only [q2] at h
      have := ints_of q2 h2
      subst this
      exact cr_sum hc pins s σ H _ us Q I r ⟨a, bs, rfl, h1, fin_py st (.int _) h⟩
  | _ => rw [q] at h; exact h.elim
theorem cb_max (hc : X.calm = true) {mu : Bool} : CallR X (.builtin "max") (rBlt X.K mu .max) := by
  intro pins s σ H vs us Q I r h
  obtain ⟨m, S, ds, st, rs, h⟩ := h
  unfold bltD at h
  split at h <;> first | contradiction | exact h.elim | skip
  obtain ⟨v, w, rfl, rd, re⟩ := two_of rs
  cases rd
  cases re
  exact call_max2 hc pins s σ H _ us Q I r ⟨_, _, rfl, fin_py st (.int _) h⟩
theorem cb_min (hc : X.calm = true) {mu : Bool} : CallR X (.builtin "min") (rBlt X.K mu .min) := by
  intro pins s σ H vs us Q I r h
  obtain ⟨m, S, ds, st, rs, h⟩ := h
  unfold bltD at h
  split at h <;> first | contradiction | exact h.elim | skip
  obtain ⟨v, w, rfl, rd, re⟩ := two_of rs
  cases rd
  cases re
  exact call_min2 hc pins s σ H _ us Q I r ⟨_, _, rfl, fin_py st (.int _) h⟩

/-! ### dicts of pairs -/
theorem KvD.any {K : PySem.W.Frag} {H : Hp} {m : Mu} (k : Str) : ∀ {kvs : List (Str × D)} {ks : List (Key × V)}, KvD K H m kvs ks → (kvs.any fun kv => decide (kv.1 = k)) = ks.any fun kv => decide (kv.1 = Sum.inr k)
  | [], _, h => by cases h; rfl
  | (j, d) :: r, _, h => by
    cases h with
    | @cons _ q _ _ h1 h2 =>
      obtain ⟨i, v⟩ := q
      obtain ⟨e, rv⟩ := h1
      have e : i = Sum.inr j := e
      subst e
      simp only [List.any_cons, KvD.any k h2]
      congr 1
      by_cases hk : j = k
      · subst hk; simp
      · simp [hk]
theorem KvD.put {K : PySem.W.Frag} {H : Hp} {m : Mu} {kvs : List (Str × D)} {ks : List (Key × V)} {d : D} {v : V} (h : KvD K H m kvs ks) (k : Str) (r : RpD K H m d v) : KvD K H m (dput kvs k d) (putK ks (.inr k) v) := by
  unfold dput putK
  rw [h.any k]
  cases (ks.any fun kv => decide (kv.1 = Sum.inr k)) with
  | false =>
    simp only [Bool.false_eq_true, if_false]
    have ap : ∀ {l : List (Str × D)} {n : List (Key × V)}, KvD K H m l n → KvD K H m (l ++ [(k, d)]) (n ++ [(Sum.inr k, v)]) := by
      intro l n q
      induction q with
      | nil => exact .cons ⟨rfl, r⟩ .nil
      | cons a b ih => exact .cons a ih
    exact ap h
  | true =>
    simp only [if_true]
    have mp : ∀ {l : List (Str × D)} {n : List (Key × V)}, KvD K H m l n → KvD K H m (l.map fun kv => if kv.1 = k then (kv.1, d) else kv) (n.map fun kv => if kv.1 = Sum.inr k then (kv.1, v) else kv) := by
      intro l n q
      induction q with
      | nil => exact .nil
      | @cons x y _ _ a b ih =>
        refine .cons ?_ ih
        obtain ⟨j, e⟩ := x
        obtain ⟨i, u⟩ := y
        obtain ⟨e1, e2⟩ := a
        have e1 : i = Sum.inr j := e1
        subst e1
        by_cases hk : j = k
        · subst hk; simp; exact r
        · simp [hk]; exact e2
    exact mp h
theorem KvD.merge {K : PySem.W.Frag} {H : Hp} {m : Mu} : ∀ {more : List (Str × D)} {ms : List (Key × V)} {kvs : List (Str × D)} {ks : List (Key × V)}, KvD K H m more ms → KvD K H m kvs ks → KvD K H m (mergeS kvs more) (mergeK ks ms)
  | [], _, _, _, h, q => by cases h; exact q
  | (k, d) :: r, _, _, _, h, q => by
    cases h with
    | @cons _ y _ _ h1 h2 =>
      obtain ⟨i, v⟩ := y
      obtain ⟨e, rv⟩ := h1
      have e : i = Sum.inr k := e
      subst e
      show KvD K H m (mergeS (dput _ k d) r) (mergeK (putK _ (.inr k) v) _)
      exact KvD.merge h2 (q.put k rv)
theorem KvD.ext {K : PySem.W.Frag} {H H' : Hp} {m m' : Mu} (e : Ext m H m' H') {kvs : List (Str × D)} {ks : List (Key × V)} (h : KvD K H m kvs ks) : KvD K H' m' kvs ks := Paired.mapP h fun _ _ z => ⟨z.1, z.2.ext e⟩
theorem pyKv_of {K : PySem.W.Frag} {H : Hp} {m : Mu} : ∀ {kvs : List (Str × D)} {l : List (PyData × PyData)} {ks : List (Key × V)}, pyKv .str kvs = some l → KvD K H m kvs ks → RpKv K H m l ks
  | [], l, _, e, h => by
    cases h
    cases e
    exact .nil
  | (k, d) :: r, l, _, e, h => by
    cases h with
    | @cons _ y _ _ h1 h2 =>
      obtain ⟨i, v⟩ := y
      obtain ⟨e1, rv⟩ := h1
      have e1 : i = Sum.inr k := e1
      subst e1
      cases d with
      | py d =>
        simp only [pyKv] at e
        cases q : pyKv PyData.str r with
        | none => rw [q] at e; cases e
        | some n =>
          rw [q] at e
          cases e
          exact .cons (k := .inr k) rv (pyKv_of q h2)
      | ref n => simp [pyKv] at e
      | scr n => simp [pyKv] at e
theorem mkDS_ok {K : PySem.W.Frag} {H : Hp} {m : Mu} {S : Store} {kvs : List (Str × D)} {ks : List (Key × V)} {Q : VK} {mu : Bool} (st : StOk K H m S) (rs : KvD K H m kvs ks) (h : Fin K m H (mkDS mu kvs S) (ValQ K Q)) :
    ks.length < 1000000 ∧ ∀ p, H p = none → Q (.ref p) (upd H p (.dK ks)) := by
  unfold mkDS at h
  cases q : fits kvs.length with
  | false => rw [q] at h; exact h.elim
  | true =>
    rw [q] at h
    have hl := fits_line q
    have el := rs.length
    cases mu with
    | false =>
      cases q2 : pyKv PyData.str kvs with
      | none => rw [q2] at h; exact h.elim
      | some l =>
        rw [q2] at h
        refine ⟨by omega, fun p hp => ?_⟩
        have e := st.ext_new (o := .dK ks) hp
        exact h m _ e (st.new hp) _ (.dk upd_same (st.out hp) (RpKv.ext e _ _ (pyKv_of q2 rs)))
    | true =>
      refine ⟨by omega, fun p hp => ?_⟩
      have e := st.ext_push (o := .dK ks) hp
      refine h (m.push p) _ e (st.push hp ⟨ks, upd_same, rs.ext e⟩) _ ⟨p, ?_, rfl⟩
      show (m.l ++ [p])[S.length]? = some p
      rw [st.len, List.getElem?_append_right (Nat.le_refl _), Nat.sub_self]
      rfl
theorem pairs_of {K : PySem.W.Frag} {H : Hp} {m : Mu} : ∀ {l : List PyData} {kvs : List (Str × D)} {vs : List V}, pairsS l = some kvs → RpAll K H m l vs →
    ∃ (ps : List Addr) (ks : List (Key × V)), vs = ps.map V.ref ∧ Paired (fun p kv => SqT K H p [kV kv.1, kv.2]) ps ks ∧ KvD K H m kvs ks
  | [], kvs, _, e, h => by
    cases h
    cases e
    exact ⟨[], [], rfl, .nil, .nil⟩
  | d :: r, kvs, _, e, h => by
    cases h with
    | @cons _ _ v vs h1 h2 =>
      unfold pairsS at e
      split at e <;> first | contradiction | skip
      rename_i k x rr z
      obtain ⟨z1, z2⟩ := z
      cases q : pairsS r with
      | none => rw [q] at e; cases e
      | some l =>
        rw [q] at e
        cases e
        obtain ⟨ps, ks, e1, e2, e3⟩ := pairs_of q h2
        cases h1 with
        | @tup a ws _ t1 t2 t3 =>
          cases t3 with
          | cons t4 t5 =>
            cases t5 with
            | cons t6 t7 =>
              cases t7
              cases t4
              exact ⟨a :: ps, (.inr k, _) :: ks, by rw [e1]; rfl, .cons (SqT.of t1) e2, .cons ⟨rfl, t6⟩ e3⟩
theorem ct_dict (hc : X.calm = true) {mu : Bool} : CallR X (.type "dict") (rBlt X.K mu .dict) := by
  intro pins s σ H vs us Q I r h
  obtain ⟨m, S, ds, st, rs, h⟩ := h
  unfold bltD at h
  split at h <;> first | contradiction | exact h.elim | skip
  rename_i d _
  obtain ⟨v, rfl, rd⟩ := one_of rs
  cases q : view S d with
  | lst xs =>
    rw [q] at h
    obtain ⟨a, ws, rfl, h1, h2⟩ := view_lst st rd q
    cases q2 : pys xs with
    | none => simp only [q2] at h; exact h.elim
    | some l =>
      simp only [q2] at h
      cases q3 : pairsS l with
      | none => simp only [q3] at h; exact h.elim
      | some kvs =>
        simp only [q3] at h
        obtain ⟨ps, ks, e1, e2, e3⟩ := pairs_of q3 (pys_all q2 h2)
        subst e1
        obtain ⟨z1, z2⟩ := mkDS_ok st (e3.merge .nil) h
        exact call_dictP hc pins s σ H _ us Q I r ⟨a, ps, ks, rfl, h1, e2, z2⟩
  | dS kvs =>
    rw [q] at h
    obtain ⟨a, ks, rfl, h1, h2⟩ := view_dS st rd q
    obtain ⟨z1, z2⟩ := mkDS_ok st h2 h
    obtain ⟨u, rfl, ru⟩ := vals1 r
    cases ru
    exact d_copyOf I h1 fun p s' hp J => ⟨.ref p, _, J, rfl, z2 p hp⟩
  | _ => rw [q] at h; exact h.elim
end
end Sf
end
section
set_option maxRecDepth 100000
set_option maxHeartbeats 4000000
namespace Sf
open PySem PySem.Spec L2
open PyProof.Rows hiding St

section
variable {X : Cx} {G : Gam}
/-! ### calls of built-in functions -/
def Blt.name : Blt → Str
  | .len => "len" | .int => "int" | .str => "str" | .repr => "repr" | .list => "list" | .tuple => "tuple" | .dict => "dict" | .sorted => "sorted" | .all => "all" | .any => "any" | .sum => "sum" | .max => "max" | .min => "min"
theorem blt_rd {mu : Bool} {b : Blt} {cs : CEs} {σ : L2.St} {H : Hp} {Q : VK} (h : rdE X.K G (.blt mu b cs) σ H Q) : tCB (rBlt X.K mu b) (rdA X.K G cs) σ H Q := by
  obtain ⟨m, r, S, lo, st, h⟩ := h
  simp only [evE] at h
  exact ⟨m, r, S, lo, st, h.bind.mono fun ds S1 m1 H1 e1 s1 h1 vs rps => ⟨m1, S1, ds, s1, rps, h1⟩⟩
theorem se_bltF {mu : Bool} {b : Blt} {id : String} {e : PySem.Expr} {es : List PySem.Expr} {cs : CEs} {p pos : Pos} (hc : CallR X (.builtin id) (rBlt X.K mu b)) (hg : Gl X b.name) (hm : X.mg b.name = none) (hv : bootBuiltins b.name = some (.builtin id))
    (ha : PA X (e :: es) (rdA X.K G cs)) (hn : b.name ≠ "__name__") (hdb : (b.name == ("__debug__" : Str)) = false) (he : starEach (e :: es) X.env = (false, eval e X.env) :: starEach es X.env) (hpl : (backTo pos (starEach es X.env)).any (·.1) = false) :
    PE X (.Call (.Name b.name p) (e :: es) [] pos) (rdE X.K G (.blt mu b cs)) := (pe_callB hc hg hm hv ha hn hdb he hpl).mono fun _ _ _ => blt_rd
theorem se_bltT {mu : Bool} {b : Blt} {id : String} {e : PySem.Expr} {es : List PySem.Expr} {cs : CEs} {p pos : Pos} (hc : CallR X (.type id) (rBlt X.K mu b)) (hg : Gl X b.name) (hm : X.mg b.name = none) (hv : bootBuiltins b.name = some (.type id))
    (ha : PA X (e :: es) (rdA X.K G cs)) (hn : b.name ≠ "__name__") (hdb : (b.name == ("__debug__" : Str)) = false) (he : starEach (e :: es) X.env = (false, eval e X.env) :: starEach es X.env) (hpl : (backTo pos (starEach es X.env)).any (·.1) = false) :
    PE X (.Call (.Name b.name p) (e :: es) [] pos) (rdE X.K G (.blt mu b cs)) := (pe_callTy hc hg hm hv ha hn hdb he hpl).mono fun _ _ _ => blt_rd
/-- the built-in functions that are served -/
def Blt.on : Blt → Bool
  | .str | .repr | .sorted => false
  | _ => true
theorem se_blt (hcalm : X.calm = true) {mu : Bool} {b : Blt} (hon : b.on = true) {e : PySem.Expr} {es : List PySem.Expr} {cs : CEs} {p pos : Pos} (hg : Gl X b.name) (hm : X.mg b.name = none)
    (ha : PA X (e :: es) (rdA X.K G cs)) (he : starEach (e :: es) X.env = (false, eval e X.env) :: starEach es X.env) (hpl : (backTo pos (starEach es X.env)).any (·.1) = false) :
    PE X (.Call (.Name b.name p) (e :: es) [] pos) (rdE X.K G (.blt mu b cs)) := by
  cases b with
  | len => exact se_bltF (id := "len") cb_len hg hm (by decide +kernel) ha (by decide) (by decide) he hpl
  | int => exact se_bltT (id := "int") ct_int hg hm (by decide +kernel) ha (by decide) (by decide) he hpl
  | list => exact se_bltT (id := "list") ct_list hg hm (by decide +kernel) ha (by decide) (by decide) he hpl
  | tuple => exact se_bltT (id := "tuple") ct_tuple hg hm (by decide +kernel) ha (by decide) (by decide) he hpl
  | dict => exact se_bltT (id := "dict") (ct_dict hcalm) hg hm (by decide +kernel) ha (by decide) (by decide) he hpl
  | all => exact se_bltF (id := "all") (cb_all hcalm) hg hm (by decide +kernel) ha (by decide) (by decide) he hpl
  | any => exact se_bltF (id := "any") (cb_any hcalm) hg hm (by decide +kernel) ha (by decide) (by decide) he hpl
  | sum => exact se_bltF (id := "sum") (cb_sum hcalm) hg hm (by decide +kernel) ha (by decide) (by decide) he hpl
  | max => exact se_bltF (id := "max") (cb_max hcalm) hg hm (by decide +kernel) ha (by decide) (by decide) he hpl
  | min => exact se_bltF (id := "min") (cb_min hcalm) hg hm (by decide +kernel) ha (by decide) (by decide) he hpl
  | str => cases hon
  | repr => cases hon
  | sorted => cases hon

/-! ### isinstance -/
theorem kitB_of {a : String} {T : Ty} (h : a ∈ ["NoneType", "bool", "int", "str", "tuple", "list", "dict"]) : kitB a T.name = some (subTy a T) := by
  have all : (["NoneType", "bool", "int", "str", "tuple", "list", "dict"].all fun a => [Ty.int, .str, .bool, .tuple, .list, .dict].all fun T => kitB a T.name == some (subTy a T)) = true := by decide +kernel
  have h1 := List.all_eq_true.mp all a h
  have h2 := List.all_eq_true.mp h1 T (by cases T <;> simp)
  exact beq_iff_eq.mp h2
theorem tyX_of {K : PySem.W.Frag} {H : Hp} {m : Mu} {S : Store} {d : D} {v : V} {a : String} (st : StOk K H m S) (r : RpD K H m d v) (e : tyName S d = some a) : TyX K H v (.type a) ∧ a ∈ ["NoneType", "bool", "int", "str", "tuple", "list", "dict"] := by
  cases d with
  | py d =>
    cases d with
    | none => cases r; cases e; exact ⟨.base .non, by simp⟩
    | bool b => cases r; cases e; exact ⟨.base (.bl b), by simp⟩
    | int i => cases r; cases e; exact ⟨.base (.int i), by simp⟩
    | str x => cases r; cases e; exact ⟨.base (.str x), by simp⟩
    | list l =>
      cases e
      cases r with
      | lst h1 h2 h3 => exact ⟨.base (.lst h1), by simp⟩
    | tuple l =>
      cases e
      cases r with
      | tup h1 h2 h3 => exact ⟨.base (.tup h1), by simp⟩
    | dict l =>
      simp only [tyName] at e
      cases q : sKeys l with
      | none => rw [q] at e; cases e
      | some k =>
        rw [q] at e
        cases e
        cases r with
        | dk h1 h2 h3 =>
          exact ⟨.base (.dK h1), by simp⟩
        | dt h1 h2 h3 h4 => exact absurd (sKeys_kt q h3) h4
  | ref n =>
    obtain ⟨p, h1, rfl⟩ := r
    unfold tyName at e
    cases q : S[n]? with
    | none => simp [q] at e
    | some o =>
      have ho := st.ob n p o h1 q
      cases o with
      | lst xs =>
        simp [q] at e
        subst e
        obtain ⟨vs, z, _⟩ := ho
        exact ⟨.base (.lst z), by simp⟩
      | dS xs =>
        simp [q] at e
        subst e
        obtain ⟨vs, z, _⟩ := ho
        exact ⟨.base (.dK z), by simp⟩
      | dT xs =>
        simp [q] at e
        subst e
        obtain ⟨vs, z, _⟩ := ho
        exact ⟨.base (.dT z), by simp⟩
      | ins c fs => exact ho.elim
  | scr ns =>
    cases e
    obtain ⟨p, rfl, h⟩ := r
    refine ⟨?_, by simp⟩
    rcases h with ⟨z, _⟩ | z
    · rcases z with z | ⟨o, z⟩
      · exact .base (.lst z)
      · exact .base (.frz z)
    · rcases z with z | ⟨o, its, n, h1, h2, _⟩
      · rcases z with z | ⟨o, z⟩ <;> cases z
      · exact .kList h1 h2
theorem se_isi {T : Ty} {e : PySem.Expr} {c : CE} {p p2 pos : Pos} (he : PE X e (rdE X.K G c)) (hg : Gl X "isinstance") (hm : X.mg "isinstance" = none) (hg2 : Gl X (Str.ofString T.name)) (hm2 : X.mg (Str.ofString T.name) = none)
    (hs : starEach (e :: [.Name (Str.ofString T.name) p2]) X.env = (false, eval e X.env) :: starEach [.Name (Str.ofString T.name) p2] X.env) (hs2 : starEach [.Name (Str.ofString T.name) p2] X.env = (false, eval (.Name (Str.ofString T.name) p2) X.env) :: starEach [] X.env)
    (hpl : (backTo pos (starEach [.Name (Str.ofString T.name) p2] X.env)).any (·.1) = false) :
    PE X (.Call (.Name "isinstance" p) [e, .Name (Str.ofString T.name) p2] [] pos) (rdE X.K G (.isi c T)) := by
  have hT : PE X (.Name (Str.ofString T.name) p2) (tC (.ty T.name)) := by
    cases T with
    | int => exact pe_bltn (v := .ty "int") hg2 hm2 (u := .type "int") (by decide +kernel) rfl (by decide) (by decide)
    | str => exact pe_bltn (v := .ty "str") hg2 hm2 (u := .type "str") (by decide +kernel) rfl (by decide) (by decide)
    | bool => exact pe_bltn (v := .ty "bool") hg2 hm2 (u := .type "bool") (by decide +kernel) rfl (by decide) (by decide)
    | tuple => exact pe_bltn (v := .ty "tuple") hg2 hm2 (u := .type "tuple") (by decide +kernel) rfl (by decide) (by decide)
    | list => exact pe_bltn (v := .ty "list") hg2 hm2 (u := .type "list") (by decide +kernel) rfl (by decide) (by decide)
    | dict => exact pe_bltn (v := .ty "dict") hg2 hm2 (u := .type "dict") (by decide +kernel) rfl (by decide) (by decide)
  refine (pe_callB call_isi hg hm (by decide +kernel) (pa_cons he (pa_cons hT pa_nil hs2) hs) (by decide) (by decide) hs hpl).mono fun σ H Q h => ?_
  obtain ⟨m, r, S, lo, st, h⟩ := h
  simp only [evE] at h
  refine ⟨m, r, S, lo, st, h.bind.mono fun d S1 m1 H1 e1 s1 h1 v rp => ?_⟩
  obtain ⟨y, e2, q⟩ := h1.of s1
  unfold isiD at e2
  cases q3 : tyName S1 d with
  | none => rw [q3] at e2; cases e2
  | some a =>
    rw [q3] at e2
    cases e2
    obtain ⟨t1, t2⟩ := tyX_of s1 rp q3
    exact ⟨v, .ty T.name, .type a, .type T.name, subTy a T, rfl, .ty _, t1, kit_ty (kitB_of t2), q _ (.bl _)⟩

/-! ### methods -/
theorem mtr_append {mu : Bool} : MtR X "list.append" (fun x vs H Q => ∃ m S o ds, StOk X.K H m S ∧ RpD X.K H m o x ∧ RpDs X.K H m ds vs ∧ Fin X.K m H (metD mu .append o ds S) (ValQ X.K Q)) := by
  intro pins s σ H x xs v us Q I rx rs h
  obtain ⟨m, S, o, ds, st, ro, rds, h⟩ := h
  unfold metD at h
  split at h <;> first | contradiction | exact h.elim | skip
  rename_i y _
  obtain ⟨w, rfl, rw0⟩ := one_of rds
  split at h
  · rename_i n
    obtain ⟨a, hn, rfl⟩ := ro
    split at h
    · rename_i ys q
      obtain ⟨vs, z1, z2⟩ := st.ob n a _ hn q
      split at h
      · rename_i hf
        have hl := fits_line hf
        have el := Paired.length z2
        have := line_big hl
        refine mt_append pins s σ H _ _ v us Q I rx rs ⟨a, vs, w, rfl, rfl, z1, by omega, ?_⟩
        have e := st.ext_set (o := .lst (vs ++ [w])) hn
        refine h m _ e (st.set hn ⟨vs ++ [w], upd_same, ?_⟩) _ .non
        exact (z2.append (.cons rw0 .nil)).ext e
      · exact h.elim
    · exact h.elim
  · exact h.elim
theorem view_list_ty {K : PySem.W.Frag} {H : Hp} {m : Mu} {S : Store} {d : D} {v : V} {xs : List D} (st : StOk K H m S) (h : RpD K H m d v) (e : view S d = .lst xs) : tyV K "list" v H := by
  obtain ⟨a, vs, rfl, h1, _⟩ := view_lst st h e
  exact .inl ⟨rfl, vs, h1⟩
theorem se_append {mu : Bool} {o e : PySem.Expr} {co ce : CE} {apos cpos : Pos} (ho : PE X o (rdE X.K G co)) (he : PE X e (rdE X.K G ce)) (hbase : attributeBase o "append" X.env (eval o X.env) = eval o X.env) (hline : (apos.endLine == cpos.line) = true)
    (hfew : ((backTo cpos (starEach [e] X.env)).all (fun x => !x.1) && (backToKw cpos (keywordEach [] X.env)).all (fun x => x.1.isSome) && decide ([e].length + ([] : List Keyword).length + (if ([] : List Keyword).isEmpty then 0 else 1) < 30)) = true)
    (hs : starEach [e] X.env = (false, eval e X.env) :: starEach [] X.env) :
    PE X (.Call (.Attribute o "append" apos) [e] [] cpos) (rdE X.K G (.met mu .append co (.cons ce .nil))) := by
  refine (pe_bm PySem.F.plainAttrs_list PySem.F.slot_list_append PySem.F.type_list_append (mtr_append (mu := mu)) ho (sa_cons he sa_nil hs) hbase hfew hline hs rfl).mono fun σ H Q h => ?_
  obtain ⟨m, r, S, lo, st, h⟩ := h
  simp only [evE] at h
  refine ⟨m, r, S, lo, st, h.bind.mono fun d S1 m1 H1 e1 s1 h1 v rp => ?_⟩
  split at h1
  · rename_i hr
    unfold recv at hr
    cases q : view S1 d with
    | lst xs => exact ⟨view_list_ty s1 rp q, m1, r, S1, lo.ext e1, s1, h1.bind.mono fun ds S2 m2 H2 e2 s2 h2 vs rps => ⟨m2, S2, d, ds, s2, rp.ext e2, rps, h2⟩⟩
    | _ => rw [q] at hr; cases hr
  · exact h1.elim
end
end Sf
end
section
set_option maxRecDepth 100000
set_option maxHeartbeats 4000000
namespace Sf
open PySem PySem.Spec L2
open PyProof.Rows hiding St

/-! ### own defs: what a def promises, where no repr is under way -/
structure FnG (P : Program) (w : World) (K : PySem.W.Frag) (mg : Str → Option Value) (base : Heap) (k : Nat) (f : Addr) (fd : FuncData) (ps : List Str) (sp : Sp) : Prop where
  len : ∀ vs H Q E, sp vs H Q E → vs.length = ps.length
  run : ∀ (A : Around) (outer : List Env) (s : Shared) (H : Hp) (args : Args) (us : List Value) (vs : List V) (Q : VK) (E : XK), Room k A → A.guards = some [] → Env0 P w K mg base A outer s H → BindsTo s fd args (ps.zip us) → Vals vs us → sp vs H Q E →
    codeAny (model P w) A (.call (.ref f) args) (CR (L2.CX P w) outer P w H s Q E) s
/-- the promise of a run -/
def spR (K : PySem.W.Frag) (g : List D → Store → R D) : Sp := fun vs H Q _ => ∃ m S ds, StOk K H m S ∧ RpDs K H m ds vs ∧ Fin K m H (g ds S) (ValQ K Q)
section
variable {X : Cx} {G : Gam}
theorem run_fnG {k : Nat} {f : Addr} {fd : FuncData} {ps : List Str} {sp : Sp} {pins : List (Addr × Obj)} {σ : L2.St} {H : Hp} {s : Shared} {Q : VK} {us : List Value} {vs : List V} (F : FnG X.prog X.w X.K X.mg X.base k f fd ps sp) (hr : Room k X.A) (hg : X.A.guards = some [])
    (hb : Binds X.K fd ps []) (I : Inv X pins σ H s) (r : Vals vs us) (h : sp vs H Q E0) : wpAny (model X.prog X.w) X.A (PySem.call (.ref f) us) (EP X pins σ Q) X.xe s := by
  have hl : (us ++ []).length = ps.length := by rw [List.append_nil, ← r.length]; exact F.len _ _ _ _ h
  have hbs := hb s us I.kIn hl
  rw [List.append_nil] at hbs
  refine wpAny_call (codeAny_mono (F.run X.A X.stack s H ⟨us, []⟩ us vs Q E0 hr hg I.env0 hbs r h) fun z s' hq => ?_)
  cases z with
  | error e => exact passL pins σ H s e s' I hq
  | ok fl =>
    cases fl with
    | ret u => exact I.after hq
    | next => exact hq.elim
    | brk => exact hq.elim
    | cont => exact hq.elim
theorem pe_callG {k : Nat} {f : Addr} {fd : FuncData} {ps : List Str} {sp : Sp} {x : Str} {p pos : Pos} {e : PySem.Expr} {es : List PySem.Expr} {t : TA} (F : FnG X.prog X.w X.K X.mg X.base k f fd ps sp) (hr : Room k X.A) (hg : X.A.guards = some []) (hgl : Gl X x) (hm : X.mg x = some (.ref f))
    (hk : PySem.W.keepIn X.K (.ref f) = true) (hb : Binds X.K fd ps []) (ha : PA X (e :: es) t) (hdb : (x == ("__debug__" : Str)) = false) (he : starEach (e :: es) X.env = (false, eval e X.env) :: starEach es X.env) (hpl : (backTo pos (starEach es X.env)).any (·.1) = false) :
    PE X (.Call (.Name x p) (e :: es) [] pos) (fun σ H Q => t σ H fun vs H1 => sp vs H1 Q E0) := by
  refine ⟨fun pins s σ H Q I h => wpAny_Call_Name_kw (ld_glob I hgl hm ?_ hdb)⟩
  refine PySem.W.callWith_K (h₀ := X.base) I.ok.mod.kin hk (thn (ha.run pos pins s σ H _ I h) ?_) he hpl
  intro us s1 z
  obtain ⟨vs, H1, I1, r, q⟩ := z
  exact ⟨I1.kIn, run_fnG F hr hg hb I1 r q⟩
theorem pe_callG0 {k : Nat} {f : Addr} {fd : FuncData} {ps : List Str} {sp : Sp} {x : Str} {p pos : Pos} (F : FnG X.prog X.w X.K X.mg X.base k f fd ps sp) (hr : Room k X.A) (hg : X.A.guards = some []) (hgl : Gl X x) (hm : X.mg x = some (.ref f))
    (hk : PySem.W.keepIn X.K (.ref f) = true) (hb : Binds X.K fd ps []) (hdb : (x == ("__debug__" : Str)) = false) : PE X (.Call (.Name x p) [] [] pos) (fun σ H Q => sp [] H Q E0) := by
  refine ⟨fun pins s σ H Q I h => wpAny_Call_Name_kw (ld_glob I hgl hm ?_ hdb)⟩
  exact PySem.W.callWith_K0 I.kIn hk (run_fnG (us := []) F hr hg hb I .nil h)
end

/-! ### the ends of a call -/
section
variable {K : PySem.W.Frag} {H H' : Hp} {m m' : Mu} {S : Store}
mutual
theorem Rp.sub (e : ∀ a, a ∈ m' → a ∈ m) : ∀ (d : PyData) (v : V), Rp K H m d v → Rp K H m' d v
  | .none, _, h => by cases h; exact .non
  | .bool b, _, h => by cases h; exact .bl b
  | .int i, _, h => by cases h; exact .int i
  | .str x, _, h => by cases h; exact .str x
  | .list xs, _, h => by
    cases h with
    | lst h1 h2 h3 => exact .lst h1 (fun z => h2 (e _ z)) (RpAll.sub e xs _ h3)
  | .tuple xs, _, h => by
    cases h with
    | tup h1 h2 h3 => exact .tup h1 (fun z => h2 (e _ z)) (RpAll.sub e xs _ h3)
  | .dict kvs, _, h => by
    cases h with
    | dk h1 h2 h3 => exact .dk h1 (fun z => h2 (e _ z)) (RpKv.sub e kvs _ h3)
    | dt h1 h2 h3 h4 => exact .dt h1 (fun z => h2 (e _ z)) (RpKt.sub e kvs _ h3) h4
theorem RpAll.sub (e : ∀ a, a ∈ m' → a ∈ m) : ∀ (ds : List PyData) (vs : List V), RpAll K H m ds vs → RpAll K H m' ds vs
  | [], _, h => by cases h; exact .nil
  | d :: ds, _, h => by
    cases h with
    | cons h1 h2 => exact .cons (Rp.sub e d _ h1) (RpAll.sub e ds _ h2)
theorem RpKv.sub (e : ∀ a, a ∈ m' → a ∈ m) : ∀ (ds : List (PyData × PyData)) (vs : List (Key × V)), RpKv K H m ds vs → RpKv K H m' ds vs
  | [], _, h => by cases h; exact .nil
  | (k, d) :: ds, _, h => by
    cases h with
    | cons h1 h2 => exact .cons (Rp.sub e d _ h1) (RpKv.sub e ds _ h2)
theorem RpKt.sub (e : ∀ a, a ∈ m' → a ∈ m) : ∀ (ds : List (PyData × PyData)) (vs : List (List Key × V)), RpKt K H m ds vs → RpKt K H m' ds vs
  | [], _, h => by cases h; exact .nil
  | (k, d) :: ds, _, h => by
    cases h with
    | cons h1 h2 => exact .cons (Rp.sub e d _ h1) (RpKt.sub e ds _ h2)
end
/-- the store of a call upon data alone -/
def Mu.inner (m : Mu) : Mu := ⟨m.z ++ m.l, []⟩
theorem Mu.inner_mem {a : Addr} : a ∈ m.inner ↔ a ∈ m := by
  simp [Mu.mem, Mu.inner]
theorem StOk.inner (st : StOk K H m S) : StOk K H m.inner [] := by
  refine ⟨List.nodup_nil, rfl, fun i a o h1 _ => by simp [Mu.inner] at h1, fun a ha => ?_, fun a _ z => nomatch z⟩
  rcases List.mem_append.mp ha with z | z
  · exact st.zs a z
  · exact st.all a z
theorem RpDs.inner : ∀ {ds : List D} {vs : List V}, ds.all isPy = true → RpDs K H m ds vs → RpDs K H m.inner ds vs
  | [], _, _, h => by cases h; exact .nil
  | d :: ds, _, e, h => by
    cases h with
    | cons h1 h2 =>
      have e : isPy d = true ∧ ds.all isPy = true := by simpa using e
      refine .cons ?_ (RpDs.inner e.2 h2)
      cases d with
      | py d => exact Rp.sub (fun a z => Mu.inner_mem.mp z) d _ h1
      | ref n => cases e.1
      | scr n => cases e.1
/-- all that stood stands -/
theorem inner_ext (st : StOk K H m S) (e : Ext m.inner H m' H') : Ext m H m H' ∧ StOk K H' m S ∧ ∀ a, a ∈ m → a ∈ m' := by
  have kp : ∀ a o, H a = some o → H' a = some o := fun a o h => e.keep a o (fun z => nomatch z) h
  have e0 : Ext m H m H' := ⟨rfl, ⟨[], by simp, fun _ h => nomatch h⟩, fun a o _ h => kp a o h, fun a ha => by
    obtain ⟨o, ho⟩ := st.all a ha
    exact ⟨o, kp a o ho⟩⟩
  refine ⟨e0, st.keep e0 fun a ha => ?_, fun a ha => ?_⟩
  · obtain ⟨o, ho⟩ := st.all a ha
    rw [ho, kp a o ho]
  · refine .inl ?_
    rw [e.z]
    rcases ha with z | z
    · exact List.mem_append_left _ z
    · exact List.mem_append_right _ z
theorem frz_list {d : PyData} {S' : Store} {n : Nat} {v : V} (st' : StOk K H' m' S') (h : RpD K H' m' (.ref n) v) (e : frzD S' (.ref n) = some d) : ∃ a, v = .ref a ∧ m'.l[n]? = some a ∧
    ((∃ xs l vs, d = .list l ∧ S'[n]? = some (.lst xs) ∧ pys xs = some l ∧ H' a = some (.lst vs) ∧ RpDs K H' m' xs vs) ∨
     (∃ kvs l ks, d = .dict l ∧ S'[n]? = some (.dS kvs) ∧ pyKv PyData.str kvs = some l ∧ H' a = some (.dK ks) ∧ KvD K H' m' kvs ks) ∨
     (∃ kvs l ks, d = .dict l ∧ S'[n]? = some (.dT kvs) ∧ pyKv tupK kvs = some l ∧ H' a = some (.dT ks) ∧ KtD K H' m' kvs ks ∧ kvs ≠ [])) := by
  obtain ⟨a, hn, rfl⟩ := h
  refine ⟨a, rfl, hn, ?_⟩
  unfold frzD at e
  cases q : S'[n]? with
  | none => simp [q] at e
  | some o =>
    have ho := st'.ob n a o hn q
    cases o with
    | lst xs =>
      simp only [q] at e
      obtain ⟨vs, z1, z2⟩ := ho
      cases q2 : pys xs with
      | none => rw [q2] at e; cases e
      | some l =>
        rw [q2] at e
        cases e
        exact .inl ⟨xs, l, vs, rfl, rfl, q2, z1, z2⟩
    | dS xs =>
      simp only [q] at e
      obtain ⟨vs, z1, z2⟩ := ho
      cases q2 : pyKv PyData.str xs with
      | none => rw [q2] at e; cases e
      | some l =>
        rw [q2] at e
        cases e
        exact .inr (.inl ⟨xs, l, vs, rfl, rfl, q2, z1, z2⟩)
    | dT xs =>
      simp only [q] at e
      obtain ⟨vs, z1, z2⟩ := ho
      split at e
      · cases e
      rename_i ne
      cases q2 : pyKv tupK xs with
      | none => rw [q2] at e; cases e
      | some l =>
        rw [q2] at e
        cases e
        exact .inr (.inr ⟨xs, l, vs, rfl, rfl, q2, z1, z2, fun z => ne (by rw [z]; rfl)⟩)
    | ins c fs => exact ho.elim

theorem pyKt_of {K : PySem.W.Frag} {H : Hp} {m : Mu} : ∀ {kvs : List (List Str × D)} {l : List (PyData × PyData)} {ks : List (List Key × V)}, pyKv tupK kvs = some l → KtD K H m kvs ks → RpKt K H m l ks
  | [], l, _, e, h => by
    cases h
    cases e
    exact .nil
  | (k, d) :: r, l, _, e, h => by
    cases h with
    | @cons _ y _ _ h1 h2 =>
      obtain ⟨i, v⟩ := y
      obtain ⟨e1, rv⟩ := h1
      have e1 : i = k.map Sum.inr := e1
      subst e1
      cases d with
      | py d =>
        simp only [pyKv] at e
        cases q : pyKv tupK r with
        | none => rw [q] at e; cases e
        | some n =>
          rw [q] at e
          cases e
          have ek : tupK k = tkeyP (k.map Sum.inr) := by
            unfold tupK tkeyP
            rw [List.map_map]
            rfl
          rw [ek]
          exact .cons rv (pyKt_of q h2)
      | ref n => simp [pyKv] at e
      | scr n => simp [pyKv] at e
theorem pyKv_ne {A : Type} {f : A → PyData} {kvs : List (A × D)} {l : List (PyData × PyData)} (e : pyKv f kvs = some l) (h : kvs ≠ []) : l ≠ [] := by
  cases kvs with
  | nil => exact absurd rfl h
  | cons p r =>
    obtain ⟨k, d⟩ := p
    cases d with
    | py d =>
      simp only [pyKv] at e
      cases q : pyKv f r with
      | none => rw [q] at e; cases e
      | some n => rw [q] at e; cases e; simp
    | ref n => simp [pyKv] at e
    | scr n => simp [pyKv] at e
theorem endP_ok {mu : Bool} {r : R D} {Q : VK} (st : StOk K H m S) (h : Fin K m H (r.bind (endP mu S)) (ValQ K Q)) : Fin K m.inner H r (ValQ K Q) := by
  cases r with
  | err x S' => exact h
  | bad => exact h
  | ok d S' =>
    intro m' H' e st' v rv
    obtain ⟨e0, st0, sub⟩ := inner_ext st e
    have h : Fin K m H (endP mu S d S') (ValQ K Q) := h
    cases d with
    | py d => exact h m H' e0 st0 v (Rp.sub sub d v rv)
    | scr ns => exact h.elim
    | ref n =>
      simp only [endP] at h
      cases mu with
      | false =>
        simp only [Bool.false_eq_true, if_false] at h
        cases q : frzD S' (.ref n) with
        | none => rw [q] at h; exact h.elim
        | some d =>
          rw [q] at h
          obtain ⟨a, rfl, hn, z⟩ := frz_list st' rv q
          have na : a ∉ m := fun ha => by
            have : a ∈ m'.z := by
              rw [e.z]
              rcases ha with z | z
              · exact List.mem_append_left _ z
              · exact List.mem_append_right _ z
            exact st'.dis a this (List.mem_of_getElem? hn)
          refine h m H' e0 st0 _ ?_
          rcases z with ⟨xs, l, vs, rfl, _, q2, z1, z2⟩ | ⟨kvs, l, ks, rfl, _, q2, z1, z2⟩ | ⟨kvs, l, ks, rfl, _, q2, z1, z2, ne⟩
          · exact .lst z1 na (RpAll.sub sub _ _ (pys_all q2 z2))
          · exact .dk z1 na (RpKv.sub sub _ _ (pyKv_of q2 z2))
          · exact .dt z1 na (RpKt.sub sub _ _ (pyKt_of q2 z2)) (pyKv_ne q2 ne)
      | true =>
        simp only [if_true] at h
        cases q : S'[n]? with
        | none => rw [q] at h; exact h.elim
        | some o =>
          cases o with
          | lst xs =>
            simp only [q] at h
            cases q2 : pys xs with
            | none => rw [q2] at h; exact h.elim
            | some l =>
              rw [q2] at h
              obtain ⟨a, hn, rfl⟩ := rv
              obtain ⟨vs, z1, z2⟩ := st'.ob n a _ hn q
              have fresh : H a = none := by
                obtain ⟨k, ek, fk⟩ := e.pre
                refine fk a ?_
                have : a ∈ m'.l := List.mem_of_getElem? hn
                rw [ek] at this
                exact this
              have na : a ∉ m := st.out fresh
              have e1 : Ext m H (m.push a) H' := ⟨rfl, ⟨[a], rfl, fun b hb => by rw [List.mem_singleton.mp hb]; exact fresh⟩, e0.keep, fun b hb => by
                rcases List.mem_append.mp hb with z | z
                · exact e0.all b z
                · rw [List.mem_singleton.mp z]; exact ⟨_, z1⟩⟩
              have sub2 : ∀ b, b ∈ m.push a → b ∈ m' := fun b hb => by
                rcases hb with z | z
                · exact sub b (.inl z)
                · rcases List.mem_append.mp z with z | z
                  · exact sub b (.inr z)
                  · rw [List.mem_singleton.mp z]; exact .inr (List.mem_of_getElem? hn)
              refine h (m.push a) H' e1 ?_ _ ⟨a, ?_, rfl⟩
              · refine ⟨?_, by simp [st.len, Mu.push], fun i b u h1 h2 => ?_, st0.zs, fun b hb z => ?_⟩
                · show (m.l ++ [a]).Nodup
                  rw [List.nodup_append]
                  exact ⟨st.nd, by simp, fun x hx y hy => by rw [List.mem_singleton.mp hy]; exact fun z => na (.inr (z ▸ hx))⟩
                · have h1 : (m.l ++ [a])[i]? = some b := h1
                  by_cases hi : i < m.l.length
                  · rw [List.getElem?_append_left hi] at h1
                    rw [List.getElem?_append_left (by rw [st.len]; exact hi)] at h2
                    refine (st.ob i b u h1 h2).ext e1 ?_
                    obtain ⟨o, ho⟩ := st.all b (List.mem_of_getElem? h1)
                    rw [ho, e.keep b o (fun z => nomatch z) ho]
                  · have hl : i < (m.l ++ [a]).length := (List.getElem?_eq_some_iff.mp h1).1
                    have hi' : i = m.l.length := by simp at hl; omega
                    subst hi'
                    rw [List.getElem?_append_right (Nat.le_refl _), Nat.sub_self] at h1
                    rw [← st.len, List.getElem?_append_right (Nat.le_refl _), Nat.sub_self] at h2
                    cases h1
                    cases h2
                    refine ⟨vs, z1, ?_⟩
                    rw [pys_map q2]
                    exact (RpAll.sub sub2 _ _ (pys_all q2 z2)).ds
                · rcases List.mem_append.mp z with z | z
                  · exact st.dis b hb z
                  · rw [List.mem_singleton.mp z] at hb
                    exact na (.inl hb)
              · show (m.l ++ [a])[S.length]? = some a
                rw [st.len, List.getElem?_append_right (Nat.le_refl _), Nat.sub_self]
                rfl
          | _ => simp only [q] at h; exact h.elim
/-- what is new and cannot be reached goes -/
theorem cut_D {d : D} {v : V} (e : ∃ k, m'.l = m.l ++ k) (ez : m'.z = m.z) (c : closedD m.l.length d = true) (h : RpD K H m' d v) : RpD K H m d v := by
  obtain ⟨k, e⟩ := e
  have sub : ∀ a, a ∈ m → a ∈ m' := fun a ha => by
    rcases ha with z | z
    · exact .inl (by rw [ez]; exact z)
    · exact .inr (by rw [e]; exact List.mem_append_left _ z)
  cases d with
  | py d => exact Rp.sub sub d v h
  | ref n =>
    obtain ⟨a, h1, h2⟩ := h
    have hn : n < m.l.length := by
      unfold closedD at c
      exact Nat.blt_eq.mp c
    rw [e, List.getElem?_append_left hn] at h1
    exact ⟨a, h1, h2⟩
  | scr ns =>
    obtain ⟨a, h1, h2⟩ := h
    exact ⟨a, h1, h2.elim (fun z => .inl ⟨z.1, fun q => z.2 (sub a q)⟩) .inr⟩
theorem paired_all {A B : Type} {F G : A → B → Prop} {p : A → Bool} (f : ∀ a b, p a = true → F a b → G a b) : ∀ {xs : List A} {ys : List B}, xs.all p = true → Paired F xs ys → Paired G xs ys
  | _, _, _, .nil => .nil
  | x :: _, _, h, .cons r t => by
    rw [List.all_cons, Bool.and_eq_true] at h
    exact .cons (f _ _ h.1 r) (paired_all f h.2 t)
theorem cut_O {o : Ob} {a : Addr} (e : ∃ k, m'.l = m.l ++ k) (ez : m'.z = m.z) (c : closedO m.l.length o = true) (h : ObR K H m' a o) : ObR K H m a o := by
  cases o with
  | lst xs =>
    obtain ⟨vs, h1, h2⟩ := h
    exact ⟨vs, h1, paired_all (p := closedD m.l.length) (F := RpD K H m') (G := RpD K H m) (fun _ _ c z => cut_D e ez c z) c h2⟩
  | dS xs =>
    obtain ⟨vs, h1, h2⟩ := h
    exact ⟨vs, h1, paired_all (p := fun (p : Str × D) => closedD m.l.length p.2) (fun (_ : Str × D) (_ : Key × V) c z => ⟨z.1, cut_D e ez c z.2⟩) c h2⟩
  | dT xs =>
    obtain ⟨vs, h1, h2⟩ := h
    exact ⟨vs, h1, paired_all (p := fun (p : List Str × D) => closedD m.l.length p.2) (fun (_ : List Str × D) (_ : List Key × V) c z => ⟨z.1, cut_D e ez c z.2⟩) c h2⟩
  | ins c fs => exact h.elim
theorem endC_ok {r : R D} {Q : VK} (st : StOk K H m S) (h : Fin K m H (r.bind (endC S)) (ValQ K Q)) : Fin K m H r (ValQ K Q) := by
  cases r with
  | err x S' => exact h
  | bad => exact h
  | ok d S' =>
    intro m' H' e st' v rv
    have h : Fin K m H (endC S d S') (ValQ K Q) := h
    unfold endC at h
    split at h
    · rename_i hc
      have hc := Bool.and_eq_true_iff.mp hc
      have eS := st.len
      obtain ⟨k, ek, fk⟩ := e.pre
      have e0 : Ext m H m H' := ⟨rfl, ⟨[], by simp, fun _ h => nomatch h⟩, e.keep, fun a ha => e.all a (by rw [ek]; exact List.mem_append_left _ ha)⟩
      refine h m H' e0 ?_ v (cut_D ⟨k, ek⟩ e.z ?_ rv)
      · refine ⟨st.nd, ?_, fun i a o h1 h2 => ?_, fun a ha => ?_, st.dis⟩
        · have := st'.len
          rw [ek, List.length_append] at this
          rw [List.length_take]
          omega
        · have hi : i < m.l.length := (List.getElem?_eq_some_iff.mp h1).1
          have h3 : S'[i]? = some o := by
            rw [List.getElem?_take_of_lt (by omega)] at h2
            exact h2
          have h4 : m'.l[i]? = some a := by rw [ek, List.getElem?_append_left hi]; exact h1
          refine cut_O ⟨k, ek⟩ e.z ?_ (st'.ob i a o h4 h3)
          have := List.all_eq_true.mp hc.2 o (List.mem_of_getElem? h2)
          rw [eS] at this
          exact this
        · exact st'.zs a (by rw [e.z]; exact ha)
      · cases d with
        | py d => rfl
        | ref n => cases hc.1
        | scr n => cases hc.1
    · exact h m' H' e st' v rv
end
section
variable {X : Cx}
/-- a call of an own def -/
theorem call_spR {T : Tab} {F : Nat} {n : Nat} {mu : Bool} {f : Str} {K : PySem.W.Frag} {H : Hp} {m : Mu} {S : Store} {ds : List D} {vs : List V} {Q : VK} (st : StOk K H m S) (rs : RpDs K H m ds vs) (h : Fin K m H (call T F (n + 1) mu f ds S) (ValQ K Q)) :
    spR K (runF T F (call T F n) f) vs H Q E0 := by
  simp only [call] at h
  split at h
  · rename_i hp
    exact ⟨m.inner, [], ds, st.inner, rs.inner hp, endP_ok st h⟩
  · exact ⟨m, S, ds, st, rs, endC_ok st h⟩
end
end Sf
end
section
set_option maxRecDepth 100000
set_option maxHeartbeats 4000000
namespace Sf
open PySem PySem.Spec L2
open PyProof.Rows hiding St

/-! ### targets -/
section
variable {X : Cx} {G : Gam}
def Tg.slots : Tg → List Nat
  | .one i => [i]
  | .many is => is
/-- unlike in some slots alone -/
def Wiped (is : List Nat) (σ σ' : L2.St) : Prop := ∀ own : List Nat, (∀ i ∈ is, i ∈ own) → wipe σ' own = wipe σ own
theorem wipe_get (σ : L2.St) (own : List Nat) (j : Nat) : (wipe σ own)[j]? = if j ∈ own then (if j < σ.length then some none else none) else σ[j]? := by
  induction own with
  | nil => simp [L2.wipe]
  | cons i own ih =>
    unfold L2.wipe
    by_cases hj : j = i
    · subst hj
      simp only [List.mem_cons, true_or, if_true]
      by_cases hl : j < σ.length
      · rw [List.getElem?_set_self (by rw [wipe_length]; exact hl), if_pos hl]
      · rw [List.getElem?_eq_none (by rw [List.length_set, wipe_length]; omega), if_neg hl]
    · rw [List.getElem?_set_ne (Ne.symm hj), ih]
      simp [hj]
theorem wipe_set {σ : L2.St} {own : List Nat} {i : Nat} (h : i ∈ own) (v : Option V) : wipe (σ.set i v) own = wipe σ own := by
  apply List.ext_getElem?
  intro j
  rw [wipe_get, wipe_get, List.length_set]
  by_cases hj : j ∈ own
  · rw [if_pos hj, if_pos hj]
  · rw [if_neg hj, if_neg hj, List.getElem?_set_ne]
    intro e
    exact hj (e ▸ h)
theorem wipe_wipe (σ : L2.St) (own : List Nat) : wipe (wipe σ own) own = wipe σ own := by
  apply List.ext_getElem?
  intro j
  rw [wipe_get, wipe_length]
  by_cases hj : j ∈ own
  · rw [if_pos hj, wipe_get, if_pos hj]
  · rw [if_neg hj]
def gsOf : List Nat → TGs
  | [] => gNil
  | i :: is => gCons (gName i) (gsOf is)
theorem gs_ok {K : PySem.W.Frag} {H : Hp} {m : Mu} {Q : L2.St → Hp → Prop} : ∀ {is : List Nat} {ds : List D} {vs : List V} {r r' : Rho} {σ : L2.St}, setAll is ds r = some r' → RpDs K H m ds vs → LocOk K H m r σ → (∀ σ', LocOk K H m r' σ' → Wiped is σ σ' → Q σ' H) → gsOf is vs σ H Q
  | [], [], _, r, r', σ, e, h, lo, q => by
    cases h
    cases e
    exact ⟨rfl, q σ lo fun _ _ => rfl⟩
  | [], _ :: _, _, _, _, _, e, _, _, _ => by simp [setAll] at e
  | _ :: _, [], _, _, _, _, e, _, _, _ => by simp [setAll] at e
  | i :: is, d :: ds, _, r, r', σ, e, h, lo, q => by
    cases h with
    | cons h1 h2 => exact ⟨_, _, rfl, gs_ok (show setAll is ds (r.set i (some d)) = some r' from e) h2 (lo.set i h1) fun σ' lo' w => q σ' lo' fun own ho => (w own fun j hj => ho j (List.mem_cons_of_mem _ hj)).trans (wipe_set (ho i List.mem_cons_self) _)⟩
/-- a target, from a value that lies so -/
def gT (K : PySem.W.Frag) (t : Tg) : TG := fun v σ H Q => ∃ m r d r', LocOk K H m r σ ∧ RpD K H m d v ∧ bindT t d r = some r' ∧ ∀ σ', LocOk K H m r' σ' → Wiped t.slots σ σ' → Q σ' H
theorem _root_.L2.PG.mono {X : Cx} {e : PySem.Expr} {t t' : TG} (h : PG X e t) (f : ∀ v σ H Q, t' v σ H Q → t v σ H Q) : PG X e t' := ⟨fun pins s σ H v u Q I r q => h.run pins s σ H v u Q I r (f v σ H Q q)⟩
theorem sg_one {i : Nat} {e : PySem.Expr} (h : PG X e (gName i)) : PG X e (gT X.K (.one i)) :=
  h.mono fun v σ H Q ⟨m, r, d, r', lo, rd, e, q⟩ => by
    cases e
    exact q _ (lo.set i rd) fun own ho => wipe_set (ho i (by simp [Tg.slots])) _
theorem sg_many {is : List Nat} {e : PySem.Expr} (h : PG X e (gTup X.K is.length (gsOf is))) : PG X e (gT X.K (.many is)) :=
  h.mono fun v σ H Q ⟨m, r, d, r', lo, rd, e, q⟩ => by
    unfold bindT at e
    cases d with
    | py d =>
      cases d with
      | tuple xs =>
        cases rd with
        | @tup a vs _ h1 h2 h3 =>
          have e : setAll is (xs.map .py) r = some r' := e
          have hl : ∀ {is : List Nat} {ds : List D} {r r' : Rho}, setAll is ds r = some r' → is.length = ds.length := by
            intro is
            induction is with
            | nil => intro ds r r' e; cases ds with
              | nil => rfl
              | cons _ _ => simp [setAll] at e
            | cons i is ih => intro ds r r' e; cases ds with
              | nil => simp [setAll] at e
              | cons d ds => exact congrArg (· + 1) (ih (show setAll is ds (r.set i (some d)) = some r' from e))
          refine ⟨a, vs, rfl, SqT.of h1, ?_, gs_ok e h3.ds lo q⟩
          rw [← h3.length, hl e, List.length_map]
      | _ => simp at e
    | ref n => simp at e
    | scr ns => simp at e

/-! ### statements -/
def flQ (K : PySem.W.Frag) (E : Ends) : Fl → Store → Mu → Hp → Prop := fun fl _ m H => match fl with
  | .nx r => ∀ σ, LocOk K H m r σ → E.nx σ H
  | .rt d => ∀ v, RpD K H m d v → E.rt v H
  | .bk r => ∀ σ, LocOk K H m r σ → E.bk σ H
  | .ct r => ∀ σ, LocOk K H m r σ → E.ct σ H
def rdS (K : PySem.W.Frag) (G : Gam) (F : Nat) (c : CS) : TS := fun E σ H => ∃ m r S, LocOk K H m r σ ∧ StOk K H m S ∧ Fin K m H (exS G F c r S) (flQ K E)
def rdSs (K : PySem.W.Frag) (G : Gam) (F : Nat) (c : CSs) : TS := fun E σ H => ∃ m r S, LocOk K H m r σ ∧ StOk K H m S ∧ Fin K m H (exSs G F c r S) (flQ K E)
variable {F : Nat}
theorem ss_nil : PSs X [] (rdSs X.K G F .nil) := pss_nil.mono fun E σ H ⟨m, r, S, lo, st, h⟩ => h m H st.refl st σ lo
theorem ss_cons {st : PySem.Stmt} {rest : List PySem.Stmt} {c : CS} {cs : CSs} (h1 : PS X st (rdS X.K G F c)) (h2 : PSs X rest (rdSs X.K G F cs)) : PSs X (st :: rest) (rdSs X.K G F (.cons c cs)) :=
  (pss_cons h1 h2).mono fun E σ H ⟨m, r, S, lo, st, h⟩ => by
    simp only [exSs] at h
    refine ⟨m, r, S, lo, st, h.bind.mono fun fl S1 m1 H1 e1 s1 h1 => ?_⟩
    cases fl with
    | nx r1 => exact fun σ' lo' => ⟨m1, r1, S1, lo', s1, h1⟩
    | rt d => exact h1 m1 H1 s1.refl s1
    | bk r1 => exact h1 m1 H1 s1.refl s1
    | ct r1 => exact h1 m1 H1 s1.refl s1
theorem sx_exp {e : PySem.Expr} {c : CE} {pos : Pos} (he : PE X e (rdE X.K G c)) (hs : swapsWith e none pos.line X.env = pure false) : PS X (.Expr e pos) (rdS X.K G F (.exp c)) :=
  (ps_expr he hs).mono fun E σ H ⟨m, r, S, lo, st, h⟩ => by
    simp only [exS] at h
    refine ⟨m, r, S, lo, st, h.bind.mono fun d S1 m1 H1 e1 s1 h1 v rv => ?_⟩
    exact h1 m1 H1 s1.refl s1 σ (lo.ext e1)
theorem sx_doc {x : Str} {j : Nat} {pos pos' : Pos} : PS X (.Expr (.Constant (.str x) j pos) pos') (rdS X.K G F .pass) :=
  ps_doc.mono fun E σ H ⟨m, r, S, lo, st, h⟩ => h m H st.refl st σ lo
theorem sx_pass {pos : Pos} : PS X (.Pass pos) (rdS X.K G F .pass) := ps_pass.mono fun E σ H ⟨m, r, S, lo, st, h⟩ => h m H st.refl st σ lo
theorem sx_brk {pos : Pos} : PS X (.Break pos) (rdS X.K G F .brk) := ps_break.mono fun E σ H ⟨m, r, S, lo, st, h⟩ => h m H st.refl st σ lo
theorem sx_cnt {pos : Pos} : PS X (.Continue pos) (rdS X.K G F .cnt) := ps_continue.mono fun E σ H ⟨m, r, S, lo, st, h⟩ => h m H st.refl st σ lo
theorem sx_rais {st : PySem.Stmt} : PS X st (rdS X.K G F .rais) := ps_never.mono fun E σ H ⟨m, r, S, lo, st, h⟩ => h
theorem sx_ret {e : PySem.Expr} {c : CE} {pos : Pos} (he : PE X e (rdE X.K G c)) : PS X (.Return (some e) pos) (rdS X.K G F (.ret c)) :=
  (ps_ret he).mono fun E σ H ⟨m, r, S, lo, st, h⟩ => by
    simp only [exS] at h
    refine ⟨m, r, S, lo, st, h.bind.mono fun d S1 m1 H1 e1 s1 h1 v rv => ?_⟩
    exact h1 m1 H1 s1.refl s1 v rv
theorem sx_ite {t : PySem.Expr} {a b : List PySem.Stmt} {c : CE} {ca cb : CSs} {pos : Pos} (ht : PT X t (rdT X.K G c)) (ha : PSs X a (rdSs X.K G F ca)) (hb : PSs X b (rdSs X.K G F cb)) : PS X (.If t a b pos) (rdS X.K G F (.ite c ca cb)) :=
  (ps_if ht ha hb).mono fun E σ H ⟨m, r, S, lo, st, h⟩ => by
    simp only [exS] at h
    refine ⟨m, r, S, lo, st, h.bind.mono fun d1 S1 m1 H1 e1 s1 h1 => ?_⟩
    cases q : truth S1 d1 with
    | none => rw [q] at h1; exact h1.elim
    | some b =>
      rw [q] at h1
      refine ⟨b, rfl, ?_⟩
      cases b with
      | true => exact ⟨m1, r, S1, lo.ext e1, s1, h1⟩
      | false => exact ⟨m1, r, S1, lo.ext e1, s1, h1⟩
/-- target = value, by any rule -/
theorem asg_rd {i : Nat} {c : CE} {E : Ends} {σ : L2.St} {H : Hp} (h : rdS X.K G F (.asg i c) E σ H) : tAsg (rdE X.K G c) (gName i) E σ H := by
  obtain ⟨m, r, S, lo, st, h⟩ := h
  simp only [exS] at h
  refine ⟨m, r, S, lo, st, h.bind.mono fun d S1 m1 H1 e1 s1 h1 v rv => ?_⟩
  exact h1 m1 H1 s1.refl s1 _ ((lo.ext e1).set i rv)
theorem sx_asg {i : Nat} {x : Str} {e : PySem.Expr} {c : CE} {pos pos' : Pos} (hN : X.N.Nodup) (hi : X.N[i]? = some x) (hx : Loc X.env.scope x) (he : PE X e (rdE X.K G c)) (hs : swapsWith e (some (.Name x pos')) pos.line X.env = pure false)
    (hf : X.fn x = true ∨ X.env.scope.names.lookup x = some .local) : PS X (.Assign [.Name x pos'] e pos) (rdS X.K G F (.asg i c)) := (ps_set hN hi hx he hs hf).mono fun _ _ _ => asg_rd
theorem sx_unp {is : List Nat} {e tg : PySem.Expr} {c : CE} {pos : Pos} (he : PE X e (rdE X.K G c)) (hg : PG X tg (gT X.K (.many is))) (hs : swapsWithSole [tg] e pos.line X.env = pure false) (hw : swappedStores [tg] e X.env = pure none)
    (h1 : (assignEach [tg] X.env).map (·.2) = [assign tg X.env]) : PS X (.Assign [tg] e pos) (rdS X.K G F (.unp is c)) :=
  (ps_asg he hg hs hw h1).mono fun E σ H ⟨m, r, S, lo, st, h⟩ => by
    simp only [exS] at h
    refine ⟨m, r, S, lo, st, h.bind.mono fun d S1 m1 H1 e1 s1 h1 v rv => ?_⟩
    cases q : bindT (.many is) d r with
    | none => rw [q] at h1; exact h1.elim
    | some r' =>
      rw [q] at h1
      exact ⟨m1, r, d, r', lo.ext e1, rv, q, fun σ' lo' _ => h1 m1 H1 s1.refl s1 σ' lo'⟩
theorem evEs_all {K : PySem.W.Frag} {G : Gam} : True := trivial
/-- a, b = x, y through a tuple -/
theorem sx_parT {is : List Nat} {es : List PySem.Expr} {tg : PySem.Expr} {cs : CEs} {pos pt : Pos} {k : Nat} (ha : PA X es (rdA X.K G cs)) (hg : PG X tg (gTup X.K is.length (gsOf is))) (hs : swapsWithSole [tg] (.Tuple es k pt) pos.line X.env = pure false) (hw : swappedStores [tg] (.Tuple es k pt) X.env = pure none)
    (h1 : (assignEach [tg] X.env).map (·.2) = [assign tg X.env]) (hfew : is.length < 1000) : PS X (.Assign [tg] (.Tuple es k pt) pos) (rdS X.K G F (.par is cs)) :=
  (ps_asg (pe_tup ha) hg hs hw h1).mono fun E σ H ⟨m, r, S, lo, st, h⟩ => by
    simp only [exS] at h
    refine ⟨m, r, S, lo, st, h.bind.mono fun ds S1 m1 H1 e1 s1 h1 vs rv => ?_⟩
    cases q : setAll is ds r with
    | none => rw [q] at h1; exact h1.elim
    | some r' =>
      rw [q] at h1
      have hl : ∀ {is : List Nat} {ds : List D} {r r' : Rho}, setAll is ds r = some r' → is.length = ds.length := by
        intro is
        induction is with
        | nil => intro ds r r' e; cases ds with
          | nil => rfl
          | cons _ _ => simp [setAll] at e
        | cons i is ih => intro ds r r' e; cases ds with
          | nil => simp [setAll] at e
          | cons d ds => exact congrArg (· + 1) (ih (show setAll is ds (r.set i (some d)) = some r' from e))
      have el := hl q
      have ev := Paired.length rv
      refine ⟨by rw [sizeLine_eq]; omega, fun p hp => ?_⟩
      have e2 := s1.ext_new (o := .tup vs) hp
      refine ⟨p, vs, rfl, SqT.of upd_same, by omega, gs_ok q (rv.ext e2) ((lo.ext e1).ext e2) ?_⟩
      exact fun σ' lo' _ => h1 m1 _ e2 (s1.new hp) σ' lo'
/-- a, b = x, y; the stores exchanged -/
theorem sx_par2 {i j : Nat} {x y : Str} {a b : PySem.Expr} {cs : CEs} {px py pt pos : Pos} {kt k2 : Nat} {pt2 : Pos} (hc : X.calm = true) (hN : X.N.Nodup) (hi : X.N[i]? = some x) (hj : X.N[j]? = some y) (hij : i ≠ j)
    (hx : X.env.scope.names.lookup x = some .local) (hy : X.env.scope.names.lookup y = some .local) (ha : PA X [a, b] (rdA X.K G cs))
    (hw : swappedStores [.Tuple [.Name x px, .Name y py] kt pt] (.Tuple [a, b] k2 pt2) X.env = pure (some [x, y]))
    (hs : swapsWithSole [.Tuple [.Name x px, .Name y py] kt pt] (.Tuple [a, b] k2 pt2) pos.line X.env = pure false) :
    PS X (.Assign [.Tuple [.Name x px, .Name y py] kt pt] (.Tuple [a, b] k2 pt2) pos) (rdS X.K G F (.par [i, j] cs)) :=
  (ps_par hc hN hi hj hij hx hy ha hw hs).mono fun E σ H ⟨m, r, S, lo, st, h⟩ => by
    simp only [exS] at h
    refine ⟨m, r, S, lo, st, h.bind.mono fun ds S1 m1 H1 e1 s1 h1 vs rv => ?_⟩
    cases ds with
    | nil => simp [setAll] at h1; exact h1.elim
    | cons d ds =>
      cases ds with
      | nil => simp [setAll] at h1; exact h1.elim
      | cons d' ds =>
        cases ds with
        | cons _ _ => simp [setAll] at h1; exact h1.elim
        | nil =>
          obtain ⟨v, u, rfl, r1, r2⟩ := two_of rv
          exact ⟨v, u, rfl, h1 m1 H1 s1.refl s1 _ (((lo.ext e1).set i r1).set j r2)⟩
theorem sx_par3 {i j l : Nat} {x y z : Str} {a b c : PySem.Expr} {cs : CEs} {px py pz pt pos : Pos} {kt k2 : Nat} {pt2 : Pos} (hc : X.calm = true) (hN : X.N.Nodup) (hi : X.N[i]? = some x) (hj : X.N[j]? = some y) (hl : X.N[l]? = some z) (hij : i ≠ j) (hil : i ≠ l) (hjl : j ≠ l)
    (hx : X.env.scope.names.lookup x = some .local) (hy : X.env.scope.names.lookup y = some .local) (hz : X.env.scope.names.lookup z = some .local) (ha : PA X [a, b, c] (rdA X.K G cs))
    (hw : swappedStores [.Tuple [.Name x px, .Name y py, .Name z pz] kt pt] (.Tuple [a, b, c] k2 pt2) X.env = pure (some [x, y, z]))
    (hs : swapsWithSole [.Tuple [.Name x px, .Name y py, .Name z pz] kt pt] (.Tuple [a, b, c] k2 pt2) pos.line X.env = pure false) :
    PS X (.Assign [.Tuple [.Name x px, .Name y py, .Name z pz] kt pt] (.Tuple [a, b, c] k2 pt2) pos) (rdS X.K G F (.par [i, j, l] cs)) :=
  (ps_par3 hc hN hi hj hl hij hil hjl hx hy hz ha hw hs).mono fun E σ H ⟨m, r, S, lo, st, h⟩ => by
    simp only [exS] at h
    refine ⟨m, r, S, lo, st, h.bind.mono fun ds S1 m1 H1 e1 s1 h1 vs rv => ?_⟩
    cases q : setAll [i, j, l] ds r with
    | none => rw [q] at h1; exact h1.elim
    | some r' =>
      rw [q] at h1
      cases rv with
      | nil => simp [setAll] at q
      | cons r1 t =>
        cases t with
        | nil => simp [setAll] at q
        | cons r2 t =>
          cases t with
          | nil => simp [setAll] at q
          | cons r3 t =>
            cases t with
            | cons _ _ => simp [setAll] at q
            | nil =>
              simp only [setAll] at q
              cases q
              exact ⟨_, _, _, rfl, h1 m1 H1 s1.refl s1 _ ((((lo.ext e1).set i r1).set j r2).set l r3)⟩
/-- x += e -/
theorem sx_aug {i : Nat} {x : Str} {e : PySem.Expr} {c : CE} {pos pos' : Pos} (hN : X.N.Nodup) (hi : X.N[i]? = some x) (hx : Loc X.env.scope x) (he : PE X e (rdE X.K G c)) (hf : X.fn x = true ∨ X.env.scope.names.lookup x = some .local) :
    PS X (.AugAssign (.Name x pos') .Add e pos) (rdS X.K G F (.aug i .add c)) :=
  (ps_aug hN hi hx he ip_add hf).mono fun E σ H ⟨m, r, S, lo, st, h⟩ => by
    simp only [exS] at h
    cases q : r[i]? with
    | none => rw [q] at h; exact h.elim
    | some z =>
      cases z with
      | none => rw [q] at h; exact h.elim
      | some d =>
        rw [q] at h
        obtain ⟨v, h1, h2⟩ := lo.2 i d q
        refine ⟨v, h1, m, r, S, lo, st, h.bind.mono fun y S1 m1 H1 e1 s1 h3 w rw0 => ?_⟩
        split at h3
        · cases h2
          cases rw0
          exact ⟨_, _, rfl, rfl, h3 m1 H1 s1.refl s1 _ ((lo.ext e1).set i (.int _))⟩
        · exact h3.elim
/-- o[i] = e -/
theorem KtD.put {K : PySem.W.Frag} {H : Hp} {m : Mu} {kvs : List (List Str × D)} {ks : List (List Key × V)} {d : D} {v : V} (h : KtD K H m kvs ks) (k : List Str) (r : RpD K H m d v) : KtD K H m (dput kvs k d) (putK ks (k.map Sum.inr) v) := by
  have any : ∀ {l : List (List Str × D)} {n : List (List Key × V)}, KtD K H m l n → (l.any fun kv => decide (kv.1 = k)) = n.any fun kv => decide (kv.1 = k.map Sum.inr) := by
    intro l n q
    induction q with
    | nil => rfl
    | @cons x y _ _ a b ih =>
      obtain ⟨j, e⟩ := x
      obtain ⟨i, u⟩ := y
      obtain ⟨e1, e2⟩ := a
      have e1 : i = j.map Sum.inr := e1
      subst e1
      simp only [List.any_cons, ih]
      congr 1
      by_cases hk : j = k
      · subst hk; simp
      · have hk2 : ¬ (j.map Sum.inr : List Key) = k.map Sum.inr := fun z => hk (inr_map z)
        simp only [hk, hk2]
  unfold dput putK
  rw [any h]
  cases (ks.any fun kv => decide (kv.1 = k.map Sum.inr)) with
  | false =>
    simp only [Bool.false_eq_true, if_false]
    have ap : ∀ {l : List (List Str × D)} {n : List (List Key × V)}, KtD K H m l n → KtD K H m (l ++ [(k, d)]) (n ++ [(k.map Sum.inr, v)]) := by
      intro l n q
      induction q with
      | nil => exact .cons ⟨rfl, r⟩ .nil
      | cons a b ih => exact .cons a ih
    exact ap h
  | true =>
    simp only [if_true]
    have mp : ∀ {l : List (List Str × D)} {n : List (List Key × V)}, KtD K H m l n → KtD K H m (l.map fun kv => if kv.1 = k then (kv.1, d) else kv) (n.map fun kv => if kv.1 = k.map Sum.inr then (kv.1, v) else kv) := by
      intro l n q
      induction q with
      | nil => exact .nil
      | @cons x y _ _ a b ih =>
        refine .cons ?_ ih
        obtain ⟨j, e⟩ := x
        obtain ⟨i, u⟩ := y
        obtain ⟨e1, e2⟩ := a
        have e1 : i = j.map Sum.inr := e1
        subst e1
        by_cases hk : j = k
        · subst hk; simp; exact r
        · have hk2 : ¬ (j.map Sum.inr : List Key) = k.map Sum.inr := fun z => hk (inr_map z)
          simp only [hk, hk2, if_false]
          exact ⟨trivial, e2⟩
    exact mp h
theorem RpDs.set {K : PySem.W.Frag} {H : Hp} {m : Mu} {d : D} {v : V} (r : RpD K H m d v) : ∀ {xs : List D} {vs : List V} (j : Nat), RpDs K H m xs vs → RpDs K H m (xs.set j d) (vs.set j v)
  | _, _, _, .nil => .nil
  | _, _, 0, .cons _ t => .cons r t
  | _, _, j + 1, .cons q t => .cons q (RpDs.set r j t)
theorem set_all (hu : X.A.units + 1 < cLine) : PSet X (fun o i v H Q => ∃ m S a b d S', StOk X.K H m S ∧ RpD X.K H m a o ∧ RpD X.K H m b i ∧ RpD X.K H m d v ∧ putD a b d S = some S' ∧ ∀ m' H', Ext m H m' H' → StOk X.K H' m' S' → Q H') := by
  intro pins s σ H o i v ov iv u Q I ro ri rv h
  obtain ⟨m, S, a, b, d, S', st, ra, rb, rd, e, q⟩ := h
  unfold putD at e
  cases a with
  | py d => simp at e
  | scr ns => simp at e
  | ref n =>
    obtain ⟨p, hn, rfl⟩ := ra
    simp only at e
    split at e
    · rename_i xs k hS
      obtain ⟨vs, z1, z2⟩ := st.ob n p _ hn hS
      cases rb
      cases q2 : ixN xs.length k with
      | none => rw [q2] at e; cases e
      | some j =>
        rw [q2] at e
        cases e
        refine set_list pins s σ H _ _ v ov iv u Q I ro ri rv ⟨p, vs, k, j, rfl, rfl, z1, by rw [← Paired.length z2]; exact q2, ?_⟩
        have ex := st.ext_set (o := .lst (vs.set j v)) hn
        exact q m _ ex (st.set hn ⟨vs.set j v, upd_same, (RpDs.set rd j z2).ext ex⟩)
    · rename_i kvs k hS
      obtain ⟨ks, z1, z2⟩ := st.ob n p _ hn hS
      cases rb
      split at e
      · rename_i hf
        cases e
        have := line_big (fits_line hf)
        have el := z2.length
        cases ro
        have ex := st.ext_set (o := .dK (putK ks (.inr k) v)) hn
        refine d_setItem hu I (DPut.k (k := .inr k) z1 (by omega)) ri rv fun s' J => ⟨_, J, ?_⟩
        exact q m _ ex (st.set hn ⟨putK ks (.inr k) v, upd_same, (z2.put k rd).ext ex⟩)
      · cases e
    · rename_i kvs k hS
      obtain ⟨ks, z1, z2⟩ := st.ob n p _ hn hS
      cases rb with
      | @tup c ws _ t1 t2 t3 =>
        cases q2 : strsOf k with
        | none => rw [q2] at e; cases e
        | some t =>
          rw [q2] at e
          simp only at e
          split at e
          · rename_i hf
            cases e
            have := line_big (fits_line hf)
            have el := Paired.length z2
            cases ro
            have ex := st.ext_set (o := .dT (putK ks (t.map Sum.inr) v)) hn
            refine d_setItem hu I (DPut.t (k := t.map Sum.inr) z1 (by rw [t1, strsOf_rp q2 t3]) (by omega)) ri rv fun s' J => ⟨_, J, ?_⟩
            exact q m _ ex (st.set hn ⟨putK ks (t.map Sum.inr) v, upd_same, Paired.mapP (z2.put t rd) fun _ _ z => ⟨z.1, z.2.ext ex⟩⟩)
          · cases e
    · cases e
theorem sx_sub (hu : X.A.units + 1 < cLine) {o i e : PySem.Expr} {co ci c : CE} {pos pos' : Pos} (ho : PE X o (rdE X.K G co)) (hi : PE X i (rdE X.K G ci)) (he : PE X e (rdE X.K G c))
    (ha : ∀ v, assign (.Subscript o i pos') X.env v = (do
      let ov ← holding [v] (eval o X.env)
      let iv ← holding [v, ov] (eval i X.env)
      standAt pos'
      holding [v, ov, iv] (setItem ov iv v)
      release [v, ov, iv] [])) (hs : swapsWithSole [.Subscript o i pos'] e pos.line X.env = pure false) (hw : swappedStores [.Subscript o i pos'] e X.env = pure none)
    (h1 : (assignEach [.Subscript o i pos'] X.env).map (·.2) = [assign (.Subscript o i pos') X.env]) : PS X (.Assign [.Subscript o i pos'] e pos) (rdS X.K G F (.sub co ci c)) :=
  (ps_asg he (pg_sub ho hi (set_all hu) ha) hs hw h1).mono fun E σ H ⟨m, r, S, lo, st, h⟩ => by
    simp only [exS] at h
    refine ⟨m, r, S, lo, st, h.bind.mono fun d S1 m1 H1 e1 s1 h1 v rv => ?_⟩
    refine ⟨m1, r, S1, lo.ext e1, s1, h1.bind.mono fun x S2 m2 H2 e2 s2 h2 w rw0 => ?_⟩
    refine ⟨m2, r, S2, (lo.ext e1).ext e2, s2, h2.bind.mono fun y S3 m3 H3 e3 s3 h3 u ru => ?_⟩
    cases q : putD x y d S3 with
    | none => rw [q] at h3; exact h3.elim
    | some S4 =>
      rw [q] at h3
      refine ⟨m3, S3, x, y, d, S4, s3, rw0.ext e3, ru, (rv.ext e2).ext e3, q, fun m' H' ex st' => ?_⟩
      exact h3 m' H' ex st' σ ((((lo.ext e1).ext e2).ext e3).ext ex)
end
end Sf
end
section
set_option maxRecDepth 100000
set_option maxHeartbeats 4000000
namespace Sf
open PySem PySem.Spec L2
open PyProof.Rows hiding St

section
variable {X : Cx} {G : Gam} {F : Nat}
/-! ### while -/
theorem sx_whl {t : PySem.Expr} {b : List PySem.Stmt} {c : CE} {cb : CSs} {pos : Pos} (hp : PassesOwn (model X.prog X.w) X.A X.env X.xe) (ht : PT X t (rdT X.K G c)) (hb : PSs X b (rdSs X.K G F cb)) : PS X (.While t b [] pos) (rdS X.K G F (.whl c cb)) :=
  (ps_while hp ht hb).mono fun E σ H ⟨m, r, S, lo, st, h⟩ => by
    simp only [exS] at h
    refine ⟨fun n σ H => ∃ m r S, LocOk X.K H m r σ ∧ StOk X.K H m S ∧ Fin X.K m H (loopW (fun r1 S1 => (evE G c r1 S1).bind fun d S2 => R.of (truth S2 d) S2) (fun r1 S1 => exSs G F cb r1 S1) n r S) (flQ X.K E), ⟨F, m, r, S, lo, st, h⟩, ?_⟩
    rintro n σ H ⟨m, r, S, lo, st, h⟩
    cases n with
    | zero => exact h.elim
    | succ n =>
      simp only [loopW] at h
      refine ⟨m, r, S, lo, st, h.bind.bind.mono fun d S1 m1 H1 e1 s1 h1 => ?_⟩
      obtain ⟨b, e, h1⟩ := h1.of s1
      refine ⟨b, e, ?_⟩
      cases b with
      | false =>
        simp only [Bool.false_eq_true, if_false] at h1 ⊢
        exact h1 m1 H1 s1.refl s1 σ (lo.ext e1)
      | true =>
        simp only [if_true] at h1 ⊢
        refine ⟨fun σ' H' => ∃ m r S, LocOk X.K H' m r σ' ∧ StOk X.K H' m S ∧ Fin X.K m H' (loopW (fun r1 S1 => (evE G c r1 S1).bind fun d S2 => R.of (truth S2 d) S2) (fun r1 S1 => exSs G F cb r1 S1) n r S) (flQ X.K E), fun σ' H' z => ⟨n, Nat.lt_succ_self n, z⟩, ?_⟩
        refine ⟨m1, r, S1, lo.ext e1, s1, h1.bind.mono fun fl S2 m2 H2 e2 s2 h2 => ?_⟩
        cases fl with
        | nx r1 => exact fun σ' lo' => ⟨m2, r1, S2, lo', s2, h2⟩
        | ct r1 => exact fun σ' lo' => ⟨m2, r1, S2, lo', s2, h2⟩
        | bk r1 => exact h2 m2 H2 s2.refl s2
        | rt d => exact h2 m2 H2 s2.refl s2

/-! ### what is walked -/
/-- J goes through the things, as long as they stand -/
structure Wk (K : PySem.W.Frag) (J : It) (src : Src) (m0 : Mu) (H0 : Hp) : Prop where
  go : ∀ m H S (i : Nat), StOk K H m S → src.stands S = true → (∀ a o, a ∉ m0.l → H0 a = some o → H a = some o) → (∃ n, m.l = m0.l ++ n) → i < src.items.length → J.go i H
  stop : ∀ m H S, StOk K H m S → src.stands S = true → (∀ a o, a ∉ m0.l → H0 a = some o → H a = some o) → (∃ n, m.l = m0.l ++ n) → J.stop src.items.length H
  yld : ∀ m H S (i : Nat) x H', StOk K H m S → src.stands S = true → (∀ a o, a ∉ m0.l → H0 a = some o → H a = some o) → (∃ n, m.l = m0.l ++ n) → (∀ a o, H0 a = some o → a ∉ m0 → a ∉ m) → i < src.items.length → J.yld i H x H' →
    ∃ d, src.items[i]? = some d ∧ Ext m H m H' ∧ StOk K H' m S ∧ RpD K H' m d x ∧ ∀ a, H a ≠ none → H' a = H a
def rdI (K : PySem.W.Frag) (G : Gam) (c : CI) : TI := fun σ H R => ∃ m r S, LocOk K H m r σ ∧ StOk K H m S ∧ Fin K m H (evI G c r S) (fun src S1 m1 H1 => src.stands S1 = true → ∀ J, Wk K J src m1 H1 → R J H1)
theorem Ext.outs {m m' : Mu} {H H' : Hp} (e : Ext m H m' H') : ∀ a o, H a = some o → a ∉ m → a ∉ m' := fun _ _ h n => e.not n h
theorem Ext.more {m m' : Mu} {H H' : Hp} (e : Ext m H m' H') : ∃ n, m'.l = m.l ++ n := let ⟨n, h, _⟩ := e.pre; ⟨n, h⟩

/-! ### for -/
theorem sx_loop {tg it : PySem.Expr} {b : List PySem.Stmt} {t : Tg} {ci : CI} {cb : CSs} {pos : Pos} (hp : PassesOwn (model X.prog X.w) X.A X.env X.xe) (hc : X.calm = true) (hi : PI X tg it (rdI X.K G ci)) (hg : PG X tg (gT X.K t)) (hb : PSs X b (rdSs X.K G F cb))
    (hs : ∀ x, foldedSetIterable it X.env x = pure x) : PS X (.For tg it b [] pos) (rdS X.K G F (.loop t ci cb)) :=
  (ps_for hp hc hi hg hb hs).mono fun E σ H ⟨m, r, S, lo, st, h⟩ => by
    simp only [exS] at h
    refine ⟨m, r, S, lo, st, h.bind.mono fun src S1 m1 H1 e1 s1 h1 sd J wk => ?_⟩
    refine ⟨fun i n σ H => ∃ m r S, n = src.items.length - i ∧ i ≤ src.items.length ∧ LocOk X.K H m r σ ∧ StOk X.K H m S ∧ Ext m1 H1 m H ∧ src.stands S = true ∧ Fin X.K m H (loopF src.stands (fun x r1 S2 => match bindT t x r1 with
        | some r2 => exSs G F cb r2 S2
        | none => .bad) (src.items.drop i) r S) (flQ X.K E), ⟨_, m1, r, S1, rfl, Nat.zero_le _, lo.ext e1, s1, s1.refl, sd, h1⟩, ?_⟩
    rintro i n σ H ⟨m, r, S, rfl, hi, lo, st, ex, sd, h⟩
    by_cases hl : i < src.items.length
    · refine .inr ⟨wk.go m H S i st sd ex.keep ex.more hl, fun σ' H' => ∃ m r S, i + 1 ≤ src.items.length ∧ LocOk X.K H' m r σ' ∧ StOk X.K H' m S ∧ Ext m1 H1 m H' ∧ src.stands S = true ∧ Fin X.K m H' (loopF src.stands (fun x r1 S2 => match bindT t x r1 with
        | some r2 => exSs G F cb r2 S2
        | none => .bad) (src.items.drop (i + 1)) r S) (flQ X.K E), fun σ' H' ⟨m, r, S, z⟩ => ⟨_, Nat.sub_lt_sub_left hl (Nat.lt_succ_self i), m, r, S, rfl, z⟩, fun x H' y => ?_⟩
      obtain ⟨d, hd, ex2, st2, rd, _⟩ := wk.yld m H S i x H' st sd ex.keep ex.more ex.outs hl y
      have h := h.ext ex2
      have hdr : src.items.drop i = d :: src.items.drop (i + 1) := by
        rw [List.drop_eq_getElem_cons hl]
        have : src.items[i] = d := by
          rw [List.getElem?_eq_getElem hl] at hd
          exact Option.some.inj hd
        rw [this]
      rw [hdr] at h
      simp only [loopF] at h
      cases q : bindT t d r with
      | none => rw [q] at h; exact h.elim
      | some r2 =>
        rw [q] at h
        refine ⟨m, r, d, r2, lo.ext ex2, rd, q, fun σ2 lo2 _ => ⟨m, r2, S, lo2, st2, h.bind.mono fun fl S3 m3 H3 e3 s3 h3 => ?_⟩⟩
        cases fl with
        | nx r1 =>
          simp only at h3
          split at h3
          · rename_i hs
            exact fun σ' lo' => ⟨m3, r1, S3, hl, lo', s3, (ex.trans ex2).trans e3, hs, h3⟩
          · exact h3.elim
        | ct r1 =>
          simp only at h3
          split at h3
          · rename_i hs
            exact fun σ' lo' => ⟨m3, r1, S3, hl, lo', s3, (ex.trans ex2).trans e3, hs, h3⟩
          · exact h3.elim
        | bk r1 => exact h3 m3 H3 s3.refl s3
        | rt d => exact h3 m3 H3 s3.refl s3
    · have e : i = src.items.length := by omega
      subst e
      rw [List.drop_length] at h
      exact .inl ⟨wk.stop m H S st sd ex.keep ex.more, h m H st.refl st σ lo⟩

/-! ### sources -/
theorem paired_at {A B : Type} {P : A → B → Prop} {xs : List A} {ys : List B} (h : Paired P xs ys) {i : Nat} {y : B} (e : ys[i]? = some y) : ∃ x, xs[i]? = some x ∧ P x y := by
  induction h generalizing i with
  | nil => simp at e
  | cons a b ih =>
    cases i with
    | zero =>
      simp at e
      subst e
      exact ⟨_, rfl, a⟩
    | succ i => exact ih (by simpa using e)
/-- a list that stands at a place -/
theorem wk_list {K : PySem.W.Frag} {src : Src} {m0 : Mu} {H0 : Hp} {a : Addr} (h : ∀ m H S, StOk K H m S → src.stands S = true → (∀ a o, a ∉ m0.l → H0 a = some o → H a = some o) → (∃ n, m.l = m0.l ++ n) → ∃ vs, SqL K H a vs ∧ vs.length = src.items.length ∧ ((∀ a o, H0 a = some o → a ∉ m0 → a ∉ m) → RpDs K H m src.items vs)) : Wk K (Itl K a) src m0 H0 where
  go := fun m H S i st sd k e hl => by
    obtain ⟨vs, h1, h2, _⟩ := h m H S st sd k e
    exact ⟨vs, vs[i]'(by omega), h1, by simp⟩
  stop := fun m H S st sd k e => by
    obtain ⟨vs, h1, h2, _⟩ := h m H S st sd k e
    exact ⟨vs, h1, by omega⟩
  yld := fun m H S i x H' st sd k e out hl y => by
    obtain ⟨vs, h1, h2, h3⟩ := h m H S st sd k e
    obtain ⟨rfl, y⟩ := y
    have hx := y vs h1
    obtain ⟨d, hd, rd⟩ := paired_at (h3 out) hx
    exact ⟨d, hd, st.refl, st, rd, fun _ _ => rfl⟩
theorem wk_tup {K : PySem.W.Frag} {src : Src} {m0 : Mu} {H0 : Hp} {a : Addr} (h : ∀ m H S, StOk K H m S → src.stands S = true → (∀ a o, a ∉ m0.l → H0 a = some o → H a = some o) → (∃ n, m.l = m0.l ++ n) → ∃ vs, SqT K H a vs ∧ vs.length = src.items.length ∧ ((∀ a o, H0 a = some o → a ∉ m0 → a ∉ m) → RpDs K H m src.items vs)) : Wk K (Itt K a) src m0 H0 where
  go := fun m H S i st sd k e hl => by
    obtain ⟨vs, h1, h2, _⟩ := h m H S st sd k e
    exact ⟨vs, vs[i]'(by omega), h1, by simp⟩
  stop := fun m H S st sd k e => by
    obtain ⟨vs, h1, h2, _⟩ := h m H S st sd k e
    exact ⟨vs, h1, by omega⟩
  yld := fun m H S i x H' st sd k e out hl y => by
    obtain ⟨vs, h1, h2, h3⟩ := h m H S st sd k e
    obtain ⟨rfl, y⟩ := y
    have hx := y vs h1
    obtain ⟨d, hd, rd⟩ := paired_at (h3 out) hx
    exact ⟨d, hd, st.refl, st, rd, fun _ _ => rfl⟩
mutual
theorem Rp.kept {K : PySem.W.Frag} {H H' : Hp} {m m' : Mu} (k : ∀ a o, a ∉ m → H a = some o → H' a = some o) (out : ∀ a o, H a = some o → a ∉ m → a ∉ m') : ∀ (d : PyData) (v : V), Rp K H m d v → Rp K H' m' d v
  | .none, _, h => by cases h; exact .non
  | .bool b, _, h => by cases h; exact .bl b
  | .int i, _, h => by cases h; exact .int i
  | .str x, _, h => by cases h; exact .str x
  | .list xs, _, h => by
    cases h with
    | lst h1 h2 h3 => exact .lst (k _ _ h2 h1) (out _ _ h1 h2) (RpAll.kept k out xs _ h3)
  | .tuple xs, _, h => by
    cases h with
    | tup h1 h2 h3 => exact .tup (k _ _ h2 h1) (out _ _ h1 h2) (RpAll.kept k out xs _ h3)
  | .dict kvs, _, h => by
    cases h with
    | dk h1 h2 h3 =>
      exact .dk (k _ _ h2 h1) (out _ _ h1 h2) (RpKv.kept k out kvs _ h3)
    | dt h1 h2 h3 h4 =>
      exact .dt (k _ _ h2 h1) (out _ _ h1 h2) (RpKt.kept k out kvs _ h3) h4
theorem RpAll.kept {K : PySem.W.Frag} {H H' : Hp} {m m' : Mu} (k : ∀ a o, a ∉ m → H a = some o → H' a = some o) (out : ∀ a o, H a = some o → a ∉ m → a ∉ m') : ∀ (ds : List PyData) (vs : List V), RpAll K H m ds vs → RpAll K H' m' ds vs
  | [], _, h => by cases h; exact .nil
  | d :: ds, _, h => by
    cases h with
    | cons h1 h2 => exact .cons (Rp.kept k out d _ h1) (RpAll.kept k out ds _ h2)
theorem RpKv.kept {K : PySem.W.Frag} {H H' : Hp} {m m' : Mu} (k : ∀ a o, a ∉ m → H a = some o → H' a = some o) (out : ∀ a o, H a = some o → a ∉ m → a ∉ m') : ∀ (ds : List (PyData × PyData)) (vs : List (Key × V)), RpKv K H m ds vs → RpKv K H' m' ds vs
  | [], _, h => by cases h; exact .nil
  | (_, d) :: ds, _, h => by
    cases h with
    | cons h1 h2 => exact .cons (Rp.kept k out d _ h1) (RpKv.kept k out ds _ h2)
theorem RpKt.kept {K : PySem.W.Frag} {H H' : Hp} {m m' : Mu} (k : ∀ a o, a ∉ m → H a = some o → H' a = some o) (out : ∀ a o, H a = some o → a ∉ m → a ∉ m') : ∀ (ds : List (PyData × PyData)) (vs : List (List Key × V)), RpKt K H m ds vs → RpKt K H' m' ds vs
  | [], _, h => by cases h; exact .nil
  | (_, d) :: ds, _, h => by
    cases h with
    | cons h1 h2 => exact .cons (Rp.kept k out d _ h1) (RpKt.kept k out ds _ h2)
end
theorem si_seq {tg e : PySem.Expr} {c : CE} (he : PE X e (rdE X.K G c)) : PI X tg e (rdI X.K G (.seq c)) := by
  refine ⟨fun pins s σ H RR I h => ?_⟩
  obtain ⟨m, r, S, lo, st, h⟩ := h
  simp only [evI] at h
  -- which kind of thing it is
  cases q : evE G c r S with
  | err x S' => rw [q] at h; exact h.elim
  | bad => rw [q] at h; exact h.elim
  | ok d S1 =>
    rw [q] at h
    have h : Fin X.K m H (R.of (srcOf S1 d) S1) _ := h
    cases q2 : srcOf S1 d with
    | none => rw [q2] at h; exact h.elim
    | some src =>
      rw [q2] at h
      have fin : ∀ {P : VK}, (∀ m1 H1, Ext m H m1 H1 → StOk X.K H1 m1 S1 → ∀ v, RpD X.K H1 m1 d v → P v H1) → rdE X.K G c σ H P := fun {P} f => ⟨m, r, S, lo, st, by rw [q]; exact f⟩
      cases d with
      | scr ns => simp [srcOf] at q2
      | ref n =>
        simp only [srcOf] at q2
        cases q3 : S1[n]? with
        | none => rw [q3] at q2; cases q2
        | some o =>
          cases o with
          | lst xs =>
            rw [q3] at q2
            cases q2
            refine (pi_list he).run pins s σ H RR I (fin fun m1 H1 e1 s1 v rv => ?_)
            obtain ⟨a, hn, rfl⟩ := rv
            obtain ⟨vs, z1, z2⟩ := s1.ob n a _ hn q3
            refine ⟨a, rfl, ⟨vs, SqL.of z1⟩, h m1 H1 e1 s1 (by simp [Src.stands, q3]) _ (wk_list fun m2 H2 S2 s2 sd k e => ?_)⟩
            obtain ⟨nn, e⟩ := e
            simp only [Src.stands] at sd
            cases q4 : S2[n]? with
            | none => rw [q4] at sd; cases sd
            | some o =>
              cases o with
              | lst ys =>
                rw [q4] at sd
                have := dbeqL_eq sd
                subst this
                have hn2 : m2.l[n]? = some a := by rw [e, List.getElem?_append_left (List.getElem?_eq_some_iff.mp hn).1]; exact hn
                obtain ⟨us, y1, y2⟩ := s2.ob n a _ hn2 q4
                exact ⟨us, SqL.of y1, (Paired.length y2).symm, fun _ => y2⟩
              | _ => rw [q4] at sd; cases sd
          | _ => rw [q3] at q2; cases q2
      | py d =>
        cases d with
        | list xs =>
          cases q2
          refine (pi_list he).run pins s σ H RR I (fin fun m1 H1 e1 s1 v rv => ?_)
          cases rv with
          | @lst a vs _ z1 z2 z3 =>
            refine ⟨a, rfl, ⟨vs, SqL.of z1⟩, h m1 H1 e1 s1 rfl _ (wk_list fun m2 H2 S2 s2 sd k e => ?_)⟩
            exact ⟨vs, SqL.of (k _ _ (fun y => z2 (.inr y)) z1), by rw [← z3.length, List.length_map], fun out => (RpAll.kept (fun a o n h => k a o (fun z => n (.inr z)) h) out _ _ z3).ds⟩
        | tuple xs =>
          cases q2
          refine (pi_tup he).run pins s σ H RR I (fin fun m1 H1 e1 s1 v rv => ?_)
          cases rv with
          | @tup a vs _ z1 z2 z3 =>
            refine ⟨a, rfl, ⟨vs, SqT.of z1⟩, h m1 H1 e1 s1 rfl _ (wk_tup fun m2 H2 S2 s2 sd k e => ?_)⟩
            exact ⟨vs, SqT.of (k _ _ (fun y => z2 (.inr y)) z1), by rw [← z3.length, List.length_map], fun out => (RpAll.kept (fun a o n h => k a o (fun z => n (.inr z)) h) out _ _ z3).ds⟩
        | str x =>
          cases q2
          refine (pi_str he).run pins s σ H RR I (fin fun m1 H1 e1 s1 v rv => ?_)
          cases rv
          refine ⟨x, rfl, h m1 H1 e1 s1 rfl _ ?_⟩
          have W := walk_str (z := x)
          have hl : (x.cps.toList.map fun c => D.py (.str ⟨#[c]⟩)).length = x.cps.size := by simp
          refine ⟨fun m2 H2 S2 i s2 sd k e hi => W.goes i H2 (by simpa using hi) trivial, fun m2 H2 S2 s2 sd k e => by
            have := W.stops H2 trivial
            simpa using this, fun m2 H2 S2 i y H' s2 sd k e out hi yl => ?_⟩
          obtain ⟨rfl, cc, hc, rfl⟩ := W.yields i H2 y H' (by simpa using hi) trivial yl
          refine ⟨.py (.str ⟨#[cc]⟩), ?_, s2.refl, s2, .str _, fun _ _ => rfl⟩
          simp only [List.getElem?_map, Array.getElem?_toList, hc, Option.map_some]
        | _ => simp [srcOf] at q2

theorem wk_range {K : PySem.W.Frag} {i j : Int} {m0 : Mu} {H0 : Hp} : Wk K (Itr i (j - i).toNat) ⟨rangeD i j, none⟩ m0 H0 := by
  have hl : (rangeD i j).length = (j - i).toNat := by simp [rangeD]
  refine ⟨fun m H S k st sd kp e hk => ?_, fun m H S st sd kp e => ?_, fun m H S k x H' st sd kp e out hk y => ?_⟩
  · show k < (j - i).toNat
    rw [← hl]; exact hk
  · show (j - i).toNat ≤ (rangeD i j).length
    omega
  · obtain ⟨rfl, rfl⟩ := y
    have hk : k < (rangeD i j).length := hk
    rw [hl] at hk
    refine ⟨.py (.int (i + (k : Nat))), ?_, st.refl, st, .int _, fun _ _ => rfl⟩
    show (rangeD i j)[k]? = _
    unfold rangeD
    rw [List.getElem?_map, List.getElem?_range hk]
    rfl
theorem rng_ok {a b : D} {src : Src} (e : rng a b = some src) : ∃ i j : Int, a = .py (.int i) ∧ b = .py (.int j) ∧ src = ⟨rangeD i j, none⟩ ∧ -(2 ^ 62) ≤ i ∧ i < 2 ^ 62 ∧ -(2 ^ 62) ≤ j ∧ j < 2 ^ 62 := by
  unfold rng at e
  split at e
  · split at e
    · rename_i hb
      cases e
      simp only [Bool.and_eq_true, decide_eq_true_eq] at hb
      exact ⟨_, _, rfl, rfl, rfl, hb.1.1.1, hb.1.1.2, hb.1.2, hb.2⟩
    · cases e
  · cases e
theorem si_rng1 {tg a : PySem.Expr} {c : CE} {p pos : Pos} (hg : Gl X "range") (hm : X.mg "range" = none) (ha : PE X a (rdE X.K G c)) (hs : starEach [a] X.env = [(false, eval a X.env)]) : PI X tg (.Call (.Name "range" p) [a] [] pos) (rdI X.K G (.rng1 c)) := by
  refine ⟨fun pins s σ H RR I h => ?_⟩
  obtain ⟨m, r, S, lo, st, h⟩ := h
  simp only [evI] at h
  refine (pi_range1 hg hm (pa_cons ha pa_nil (by rw [hs]; rfl)) hs).run pins s σ H RR I ⟨m, r, S, lo, st, h.bind.mono fun d S1 m1 H1 e1 s1 h1 v rv => ?_⟩
  obtain ⟨src, e, q⟩ := h1.of s1
  obtain ⟨i, j, e1, rfl, rfl, b1, b2, b3, b4⟩ := rng_ok e
  cases e1
  cases rv
  refine ⟨j, rfl, b3, b4, ?_⟩
  have := q rfl _ (wk_range (K := X.K) (i := 0) (j := j))
  simpa using this
theorem si_rng2 {tg a b : PySem.Expr} {c d : CE} {p pos : Pos} (hg : Gl X "range") (hm : X.mg "range" = none) (ha : PE X a (rdE X.K G c)) (hb : PE X b (rdE X.K G d)) (hs : starEach [a, b] X.env = [(false, eval a X.env), (false, eval b X.env)]) (hs2 : starEach [b] X.env = [(false, eval b X.env)]) :
    PI X tg (.Call (.Name "range" p) [a, b] [] pos) (rdI X.K G (.rng2 c d)) := by
  refine ⟨fun pins s σ H RR I h => ?_⟩
  obtain ⟨m, r, S, lo, st, h⟩ := h
  simp only [evI] at h
  refine (pi_range2 hg hm (pa_cons ha (pa_cons hb pa_nil (by rw [hs2]; rfl)) (by rw [hs, hs2])) hs hs2).run pins s σ H RR I ⟨m, r, S, lo, st, h.bind.mono fun d S1 m1 H1 e1 s1 h1 v rv => ?_⟩
  refine ⟨m1, r, S1, lo.ext e1, s1, h1.bind.mono fun d2 S2 m2 H2 e2 s2 h2 v2 rv2 => ?_⟩
  obtain ⟨src, e, q⟩ := h2.of s2
  obtain ⟨i, j, rfl, rfl, rfl, b1, b2, b3, b4⟩ := rng_ok e
  cases rv
  cases rv2
  exact ⟨i, j, rfl, ⟨b1, b2, b3, b4⟩, q rfl _ wk_range⟩
end
end Sf
end
section
set_option maxRecDepth 100000
set_option maxHeartbeats 4000000
namespace PySem
/-- enumerate(v): v told by how its iterator begins -/
theorem sf_enum_new {v : Value} {o : Obj} {P : Heap → Prop} (B : Begins v o P) : Meets (Builtin.«enumerate.__new__» ⟨[.type "enumerate", v], []⟩)
    (fun _ R s => P s.heap ∧ R (.ok (.ret (.ref (s.heap.push o).objs.size))) { s with heap := (s.heap.push o).push { cls := .type "enumerate", data := .fields #[.none, .bool false, .ref s.heap.objs.size, rawInt 0, .none, .none] } }) :=
  .of_wp fun prog w A R s hh => by
    obtain ⟨hp, g, d, tk, os⟩ := s
    obtain ⟨h1, h⟩ := hh
    have hsub := sub_enumerate
    have beg : ∀ {A' : Around} {E : Value → Shared → Prop} {Q : Value → Shared → Prop}, Q (.ref hp.objs.size) ⟨hp.push o, g, d, tk, os⟩ → wpAny (model prog w) A' (pyIter v) Q E ⟨hp, g, d, tk, os⟩ := fun q => B.iter prog w _ _ ⟨hp, g, d, tk, os⟩ _ h1 q
    wp_walk using beg
    refine wpAny_stack_any fun st => wpAny_pure ?_
    split
    · rename_i c _ _ _ _ _
      cases (c == Value.type "enumerate")
      · wp_walk using beg
        exact ⟨_, rfl, h⟩
      · wp_walk using beg
        exact ⟨_, rfl, h⟩
    · wp_walk using beg
      exact ⟨_, rfl, h⟩
theorem sf_enum_call {prog : Program} {w : World} {A : Around} {E : Value → Shared → Prop} {s : Shared} {v : Value} {o : Obj} {P : Heap → Prop} {Q : Value → Shared → Prop} (B : Begins v o P) (h1 : P s.heap)
    (h : ∀ h', IsEnum h' (s.heap.objs.size + 1) s.heap.objs.size 0 .none → h'.get? s.heap.objs.size = some o → (∀ b o, s.heap.get? b = some o → h'.get? b = some o) → Q (.ref (s.heap.objs.size + 1)) { s with heap := h' }) :
    wpAny (model prog w) A (call (.type "enumerate") [v]) Q E s := by
  have hz : (s.heap.push o).objs.size = s.heap.objs.size + 1 := Heap.size_push ..
  refine callType_new F.called_enumerate (by decide) (F.typeCall_enumerate_1 _) (F.newCall_enumerate_1 _) (fun obj => F.args_object_init_2 obj _) F.entry_enumerate_new (sf_enum_new B) ⟨h1, ?_⟩
  show _ ∧ _
  rw [hz]
  have he : IsEnum ((s.heap.push o).push { cls := .type "enumerate", data := .fields #[.none, .bool false, .ref s.heap.objs.size, rawInt 0, .none, .none] }) (s.heap.objs.size + 1) s.heap.objs.size 0 .none := by
    have z := Heap.get?_push_size (s.heap.push o) (o := { cls := .type "enumerate", data := .fields #[.none, .bool false, .ref s.heap.objs.size, rawInt 0, .none, .none] }) rfl
    rw [hz] at z
    exact z
  exact ⟨⟨_, he, rfl⟩, h _ he (Heap.get?_push_of_some _ (Heap.get?_push_size _ B.free)) fun b u q => Heap.get?_push_of_some _ (Heap.get?_push_of_some _ q)⟩
end PySem
namespace Sf
open PySem PySem.Spec L2
open PyProof.Rows hiding St

/-! ### enumerate of a tuple -/
/-- each item of the tuple at a, in a new pair -/
def IteT (K : PySem.W.Frag) (a : Addr) : It :=
  ⟨fun i H => ∃ (xs : List V) (x : V), SqT K H a xs ∧ xs[i]? = some x, fun i H v H' => ∃ T x, v = .ref T ∧ H T = none ∧ H' = upd H T (.tup [.int (i : Nat), x]) ∧ ∀ xs, SqT K H a xs → xs[i]? = some x,
   fun i H => ∃ xs : List V, SqT K H a xs ∧ xs.length = i⟩
theorem turn_enumT {P : Program} {w : World} {K : PySem.W.Frag} {elts : List PySem.Expr} {kk : Nat} {tpos : Pos} (a e it : Addr) (hae : a ≠ e) (hai : a ≠ it) :
    Turn P w K (.Tuple elts kk tpos) (IteT K a) [e, it] e (fun i h => (∃ old, IsEnum h e it ((i : Nat) : Int) old) ∧ h.IsTupleIter it a i ∧ e ≠ it) where
  mem := by simp
  obj := fun i h st b hb => by
    obtain ⟨⟨old, he⟩, ⟨o, ho, hc, hd⟩, _⟩ := st
    rcases (by simpa using hb : b = e ∨ b = it) with z | z
    · subst z; exact ⟨_, he, fun v q => nomatch q⟩
    · subst z; exact ⟨o, ho, fun v q => by rw [hd] at q; cases q⟩
  keep := fun i h h' st k => by
    obtain ⟨⟨old, he⟩, hi, hne⟩ := st
    exact ⟨⟨old, k e (by simp) _ he⟩, hi.at fun o q => k it (by simp) o q, hne⟩
  item := by
    intro X hP hw hK hc i pins s σ H E I hf st hg
    subst hP hw hK
    obtain ⟨⟨old, he⟩, hit, hne⟩ := st
    obtain ⟨xs, x, hq, hx⟩ := hg
    obtain ⟨its, rv, pt, hz⟩ := I.tuple hq
    obtain ⟨u, hu, ru⟩ := rv.get hx
    have hel : e < s.heap.objs.size := Heap.lt_size he
    have hil : it < s.heap.objs.size := by obtain ⟨_, q, _⟩ := hit; exact Heap.lt_size q
    have hi : i < its.toArray.size := by
      have := (List.getElem?_eq_some_iff.mp hu).1
      simpa using this
    have Dw := Draws.tuple (prog := X.prog) (w := X.w) (A := X.A.in1) (I.ok.hd hc) it a hai its.toArray
    refine wpAny_pyNext_enum_itemC Dw he ⟨hit, pt⟩ hi hne (by simp [hne, Ne.symm hae]) fun x' h' tk hP ho st' hT hsz hk => ?_
    have ex : x' = u := by
      have z : its.toArray[i]? = some x' := hP
      rw [List.getElem?_toArray, hu] at z
      exact (Option.some.inj z).symm
    subst ex
    refine ⟨_, rfl, wpAny_letOwnedTupleGo_enum (s := { s with heap := h', toks := tk + 1 }) ho fun h'' he' sb => ?_⟩
    have hT2 : h''.get? s.heap.objs.size = some { cls := .type "tuple", data := .seq #[.int i tk, x'] } := (sb.2 _ (Nat.ne_of_gt hel)).trans hT
    have new : ObjOk X.prog X.w (upd H s.heap.objs.size (.tup [.int (i : Nat), x])) h'' s.heap.objs.size (.tup [.int (i : Nat), x]) :=
      ⟨by show 2 ≤ sizeLine; decide, [.int i tk, x'], .cons ⟨_, rfl⟩ (.cons ru .nil), ⟨_, hT2, rfl, _, rfl⟩⟩
    have I1 : Inv X pins σ (upd H s.heap.objs.size (.tup [.int (i : Nat), x])) { s with heap := h'', toks := tk + 1 } := by
      refine I.turnedNew (ch := [e, it]) (fun b ob hb q => ?_) hf (Nat.le_refl _) new
      have h1 : b ≠ e := fun z => hb (by simp [z])
      have h2 : b ≠ it := fun z => hb (by simp [z])
      exact (sb.2 b h1).trans (hk b ob h1 h2 q)
    refine ⟨.ref s.heap.objs.size, _, I1, rfl, ⟨_, x, rfl, I.hok.fresh (Nat.le_refl _), rfl, fun ys hy => by rw [I.tuple_inj hy hq]; exact hx⟩, ⟨⟨x', ?_⟩, st'.1.at fun o q => (sb.2 it (Ne.symm hne)).trans q, hne⟩, fun b hb => ?_⟩
    · have e1 : ((i + 1 : Nat) : Int) = (i : Int) + 1 := by omega
      rw [e1]; exact he'
    · have hb' : b < s.heap.objs.size := by
        rcases (by simpa using hb : b = e ∨ b = it) with z | z
        · rw [z]; exact hel
        · rw [z]; exact hil
      rw [upd_ne (Nat.ne_of_lt hb')]
      exact (hf b hb).1
  done := by
    intro X hP hw hK hc i pins s σ H E I hf st hg
    subst hP hw hK
    obtain ⟨⟨old, he⟩, hit, hne⟩ := st
    obtain ⟨xs, hq, hx⟩ := hg
    obtain ⟨its, rv, pt, hz⟩ := I.tuple hq
    obtain ⟨f0, f1, f2, f3, f4, f5⟩ := hf it (by simp)
    have hl := rv.length
    have Dw := Draws.tuple (prog := X.prog) (w := X.w) (A := X.A.in1) (I.ok.hd hc) it a hai its.toArray
    have hn : i = its.toArray.size := by simp; omega
    refine wpAny_pyNext_enum_endD Dw he ⟨by rw [← hn]; exact hit, pt⟩ fun h' eb => ⟨rfl, ?_⟩
    exact I.turned (t' := s.toks) (fun b o hb q => eb b o hb q) f0 f1 f3 f4 f5
  self := fun A i s Q E st h => by
    obtain ⟨⟨_, he⟩, _⟩ := st
    exact wpAny_pyIter_enum he h
theorem pi_enumT {X : Cx} {e : PySem.Expr} {ta : TA} {p pos tpos : Pos} {elts : List PySem.Expr} {kk : Nat} (hg : Gl X "enumerate") (hm : X.mg "enumerate" = none) (ha : PA X [e] ta) (hs : starEach [e] X.env = [(false, eval e X.env)]) :
    PI X (.Tuple elts kk tpos) (.Call (.Name "enumerate" p) [e] [] pos) (fun σ H RR => ta σ H fun vs H1 => ∃ a xs, vs = [.ref a] ∧ H1 a = some (.tup xs) ∧ RR (IteT X.K a) H1) := by
  refine ⟨fun pins s σ H RR I h => ?_⟩
  refine Call_ (ld_blt I hg hm boot_enumerate (PyProof.Rows.callWith_type1 (thn (ha.run pos pins s σ H _ I h) fun us s1 z => ?_) hs rfl))
  obtain ⟨vs, H1, I1, r1, a, xs, ex, hq, q⟩ := z
  subst ex
  obtain ⟨u, rfl, ru⟩ := vals1 r1
  cases ru
  obtain ⟨its, rv, pt, hz⟩ := I1.tuple (SqT.of (K := X.K) hq)
  have ha' : a < s1.heap.objs.size := I1.hok.lt hq
  refine sf_enum_call (begins_tuple a its.toArray) pt fun h' he hit hk => wpAny_pyIter_enum he ?_
  have I2 : Inv X pins σ H1 { s1 with heap := h' } := I1.kept (t' := s1.toks) hk
  refine ⟨s1.heap.objs.size + 1, [s1.heap.objs.size + 1, s1.heap.objs.size], _, _, H1, rfl, I2, turn_enumT a (s1.heap.objs.size + 1) s1.heap.objs.size (Nat.ne_of_lt (Nat.lt_succ_of_lt ha')) (Nat.ne_of_lt ha'), ⟨⟨.none, he⟩, ⟨_, hit, rfl, rfl⟩, Nat.succ_ne_self _⟩, fun b hb => ?_, q⟩
  have hle : s1.heap.objs.size ≤ b := by
    rcases (by simpa using hb : b = s1.heap.objs.size + 1 ∨ b = s1.heap.objs.size) with z | z
    · rw [z]; exact Nat.le_add_right _ _
    · rw [z]; exact Nat.le_refl _
  exact I1.fpOk hle (I1.hok.fresh hle)

section
variable {X : Cx} {G : Gam} {F : Nat}
theorem enumD_get : ∀ (l : List PyData) (n i : Nat) (d : PyData), l[i]? = some d → (enumD n l)[i]? = some (.py (.tuple [.int ((n + i : Nat) : Int), d]))
  | [], _, _, _, e => by simp at e
  | x :: r, n, 0, d, e => by
    simp at e
    subst e
    rfl
  | x :: r, n, i + 1, d, e => by
    have := enumD_get r (n + 1) i d (by simpa using e)
    have e2 : n + (i + 1) = n + 1 + i := by omega
    rw [e2]
    exact this
theorem enumD_length : ∀ (l : List PyData) (n : Nat), (enumD n l).length = l.length
  | [], _ => rfl
  | x :: r, n => by simp [enumD, enumD_length r (n + 1)]
/-- a new pair of a number and an item -/
theorem pair_new {K : PySem.W.Frag} {H : Hp} {m : Mu} {S : Store} {T : Addr} {d e : PyData} {x y : V} (st : StOk K H m S) (hT : H T = none) (rd : Rp K H m d x) (re : Rp K H m e y) :
    Ext m H m (upd H T (.tup [x, y])) ∧ StOk K (upd H T (.tup [x, y])) m S ∧ RpD K (upd H T (.tup [x, y])) m (.py (.tuple [d, e])) (.ref T) ∧ ∀ a, H a ≠ none → upd H T (.tup [x, y]) a = H a := by
  have ex := st.ext_new (o := .tup [x, y]) hT
  refine ⟨ex, st.new hT, .tup upd_same (st.out hT) (.cons (Rp.ext ex _ _ rd) (.cons (Rp.ext ex _ _ re) .nil)), fun a ha => upd_ne fun z => ha (by rw [z]; exact hT)⟩
theorem RpAll.get {K : PySem.W.Frag} {H : Hp} {m : Mu} : ∀ {ds : List PyData} {vs : List V} {i : Nat} {v : V}, RpAll K H m ds vs → vs[i]? = some v → ∃ d, ds[i]? = some d ∧ Rp K H m d v
  | [], _, _, _, h, e => by cases h; simp at e
  | d :: ds, _, 0, v, h, e => by
    cases h with
    | cons h1 h2 =>
      simp at e
      subst e
      exact ⟨d, rfl, h1⟩
  | d :: ds, _, i + 1, v, h, e => by
    cases h with
    | cons h1 h2 =>
      have ih := RpAll.get (ds := ds) (i := i) (v := v) h2 (by simpa using e)
      exact ih
theorem wk_enumL {K : PySem.W.Frag} {src : Src} {m0 : Mu} {H0 : Hp} {a : Addr} {l : List PyData} (hi : src.items = enumD 0 l)
    (h : ∀ m H S, StOk K H m S → src.stands S = true → (∀ a o, a ∉ m0.l → H0 a = some o → H a = some o) → (∃ n, m.l = m0.l ++ n) → ∃ vs, SqL K H a vs ∧ vs.length = l.length ∧ ((∀ a o, H0 a = some o → a ∉ m0 → a ∉ m) → RpAll K H m l vs)) : Wk K (Ite K a) src m0 H0 where
  go := fun m H S i st sd k e hl => by
    obtain ⟨vs, h1, h2, _⟩ := h m H S st sd k e
    rw [hi, enumD_length] at hl
    exact ⟨vs, vs[i]'(by omega), h1, by simp⟩
  stop := fun m H S st sd k e => by
    obtain ⟨vs, h1, h2, _⟩ := h m H S st sd k e
    rw [hi, enumD_length]
    exact ⟨vs, h1, by omega⟩
  yld := fun m H S i x H' st sd k e out hl y => by
    obtain ⟨vs, h1, h2, h3⟩ := h m H S st sd k e
    obtain ⟨T, x, rfl, hT, rfl, y⟩ := y
    obtain ⟨d, hd, rd⟩ := RpAll.get (h3 out) (y vs h1)
    obtain ⟨z1, z2, z3, z4⟩ := pair_new st hT (.int (i : Nat)) rd
    refine ⟨_, ?_, z1, z2, z3, z4⟩
    rw [hi, enumD_get l 0 i d hd, Nat.zero_add]
theorem wk_enumT {K : PySem.W.Frag} {src : Src} {m0 : Mu} {H0 : Hp} {a : Addr} {l : List PyData} (hi : src.items = enumD 0 l)
    (h : ∀ m H S, StOk K H m S → src.stands S = true → (∀ a o, a ∉ m0.l → H0 a = some o → H a = some o) → (∃ n, m.l = m0.l ++ n) → ∃ vs, SqT K H a vs ∧ vs.length = l.length ∧ ((∀ a o, H0 a = some o → a ∉ m0 → a ∉ m) → RpAll K H m l vs)) : Wk K (IteT K a) src m0 H0 where
  go := fun m H S i st sd k e hl => by
    obtain ⟨vs, h1, h2, _⟩ := h m H S st sd k e
    rw [hi, enumD_length] at hl
    exact ⟨vs, vs[i]'(by omega), h1, by simp⟩
  stop := fun m H S st sd k e => by
    obtain ⟨vs, h1, h2, _⟩ := h m H S st sd k e
    rw [hi, enumD_length]
    exact ⟨vs, h1, by omega⟩
  yld := fun m H S i x H' st sd k e out hl y => by
    obtain ⟨vs, h1, h2, h3⟩ := h m H S st sd k e
    obtain ⟨T, x, rfl, hT, rfl, y⟩ := y
    obtain ⟨d, hd, rd⟩ := RpAll.get (h3 out) (y vs h1)
    obtain ⟨z1, z2, z3, z4⟩ := pair_new st hT (.int (i : Nat)) rd
    refine ⟨_, ?_, z1, z2, z3, z4⟩
    rw [hi, enumD_get l 0 i d hd, Nat.zero_add]
theorem si_enu {e : PySem.Expr} {c : CE} {p pos tpos : Pos} {elts : List PySem.Expr} {kk : Nat} (hg : Gl X "enumerate") (hm : X.mg "enumerate" = none) (he : PE X e (rdE X.K G c)) (hs : starEach [e] X.env = [(false, eval e X.env)]) :
    PI X (.Tuple elts kk tpos) (.Call (.Name "enumerate" p) [e] [] pos) (rdI X.K G (.enu c)) := by
  refine ⟨fun pins s σ H RR I h => ?_⟩
  obtain ⟨m, r, S, lo, st, h⟩ := h
  simp only [evI] at h
  have ha : PA X [e] (tCons (rdE X.K G c) tNil) := pa_cons he pa_nil (by rw [hs]; rfl)
  cases q : evE G c r S with
  | err x S' => rw [q] at h; exact h.elim
  | bad => rw [q] at h; exact h.elim
  | ok d S1 =>
    rw [q] at h
    have h : Fin X.K m H (R.of (enuOf S1 d) S1) _ := h
    cases q2 : enuOf S1 d with
    | none => rw [q2] at h; exact h.elim
    | some src =>
      rw [q2] at h
      have fin : ∀ {P : VK}, (∀ m1 H1, Ext m H m1 H1 → StOk X.K H1 m1 S1 → ∀ v, RpD X.K H1 m1 d v → P v H1) → rdE X.K G c σ H P := fun {P} f => ⟨m, r, S, lo, st, by rw [q]; exact f⟩
      cases d with
      | scr ns => simp [enuOf] at q2
      | ref n =>
        simp only [enuOf] at q2
        cases q3 : S1[n]? with
        | none => rw [q3] at q2; cases q2
        | some o =>
          cases o with
          | lst xs =>
            rw [q3] at q2
            simp only at q2
            cases q5 : pys xs with
            | none => rw [q5] at q2; cases q2
            | some l =>
              rw [q5] at q2
              cases q2
              refine (pi_enum hg hm ha hs).run pins s σ H RR I (fin fun m1 H1 e1 s1 v rv => ?_)
              obtain ⟨a, hn, rfl⟩ := rv
              obtain ⟨vs, z1, z2⟩ := s1.ob n a _ hn q3
              refine ⟨a, vs, rfl, SqL.of z1, h m1 H1 e1 s1 (by simp [Src.stands, q3]) _ (wk_enumL rfl fun m2 H2 S2 s2 sd k e => ?_)⟩
              obtain ⟨nn, e⟩ := e
              simp only [Src.stands] at sd
              cases q4 : S2[n]? with
              | none => rw [q4] at sd; cases sd
              | some o =>
                cases o with
                | lst ys =>
                  rw [q4] at sd
                  have := dbeqL_eq sd
                  subst this
                  have hn2 : m2.l[n]? = some a := by rw [e, List.getElem?_append_left (List.getElem?_eq_some_iff.mp hn).1]; exact hn
                  obtain ⟨us, y1, y2⟩ := s2.ob n a _ hn2 q4
                  exact ⟨us, SqL.of y1, (pys_all q5 y2).length.symm, fun _ => pys_all q5 y2⟩
                | _ => rw [q4] at sd; cases sd
          | _ => rw [q3] at q2; cases q2
      | py d =>
        cases d with
        | list xs =>
          cases q2
          refine (pi_enum hg hm ha hs).run pins s σ H RR I (fin fun m1 H1 e1 s1 v rv => ?_)
          cases rv with
          | @lst a vs _ z1 z2 z3 =>
            refine ⟨a, vs, rfl, SqL.of z1, h m1 H1 e1 s1 rfl _ (wk_enumL rfl fun m2 H2 S2 s2 sd k e => ?_)⟩
            exact ⟨vs, SqL.of (k _ _ (fun y => z2 (.inr y)) z1), z3.length.symm, fun out => RpAll.kept (fun a o n h => k a o (fun z => n (.inr z)) h) out _ _ z3⟩
        | tuple xs =>
          cases q2
          refine (pi_enumT hg hm ha hs).run pins s σ H RR I (fin fun m1 H1 e1 s1 v rv => ?_)
          cases rv with
          | @tup a vs _ z1 z2 z3 =>
            refine ⟨a, vs, rfl, z1, h m1 H1 e1 s1 rfl _ (wk_enumT rfl fun m2 H2 S2 s2 sd k e => ?_)⟩
            exact ⟨vs, SqT.of (k _ _ (fun y => z2 (.inr y)) z1), z3.length.symm, fun out => RpAll.kept (fun a o n h => k a o (fun z => n (.inr z)) h) out _ _ z3⟩
        | _ => simp [enuOf] at q2
end
end Sf
end
section
set_option maxRecDepth 100000
set_option maxHeartbeats 4000000
namespace Sf
open PySem PySem.Spec L2
open PyProof.Rows hiding St

section
variable {K : PySem.W.Frag} {H H' H1 : Hp} {m m' m1 : Mu} {S S' : Store} {D0 : Addr}
theorem RpD.kept (k : ∀ a o, a ∉ m → H a = some o → H' a = some o) (out : ∀ a o, H a = some o → a ∉ m → a ∉ m') (pre : ∃ n, m'.l = m.l ++ n) {d : D} {v : V} (h : RpD K H m d v) : RpD K H' m' d v := by
  cases d with
  | py d => exact Rp.kept k out d v h
  | ref n =>
    obtain ⟨a, h1, h2⟩ := h
    obtain ⟨n', e⟩ := pre
    exact ⟨a, by rw [e, List.getElem?_append_left (List.getElem?_eq_some_iff.mp h1).1]; exact h1, h2⟩
  | scr ns =>
    obtain ⟨a, h1, h2⟩ := h
    refine ⟨a, h1, ?_⟩
    rcases h2 with ⟨z, n⟩ | z
    · rcases z with z | ⟨o, z⟩
      · exact .inl ⟨.inl (k _ _ n z), out _ _ z n⟩
      · exact .inl ⟨.inr ⟨o, k _ _ n z⟩, out _ _ z n⟩
    · exact .inr z
theorem RpDs.kept (k : ∀ a o, a ∉ m → H a = some o → H' a = some o) (out : ∀ a o, H a = some o → a ∉ m → a ∉ m') (pre : ∃ n, m'.l = m.l ++ n) {ds : List D} {vs : List V} (h : RpDs K H m ds vs) : RpDs K H' m' ds vs := Paired.mapP h fun _ _ z => z.kept k out pre
theorem LocOk.kept (k : ∀ a o, a ∉ m → H a = some o → H' a = some o) (out : ∀ a o, H a = some o → a ∉ m → a ∉ m') (pre : ∃ n, m'.l = m.l ++ n) {r : Rho} {σ : L2.St} (h : LocOk K H m r σ) : LocOk K H' m' r σ := ⟨h.1, fun i d q => by
  obtain ⟨v, h1, h2⟩ := h.2 i d q
  exact ⟨v, h1, h2.kept k out pre⟩⟩
theorem ObR.kept (k : ∀ a o, a ∉ m → H a = some o → H' a = some o) (out : ∀ a o, H a = some o → a ∉ m → a ∉ m') (pre : ∃ n, m'.l = m.l ++ n) {a : Addr} {ob : Ob} (ha : H' a = H a) (h : ObR K H m a ob) : ObR K H' m' a ob := by
  cases ob with
  | lst xs => obtain ⟨vs, h1, h2⟩ := h; exact ⟨vs, by rw [ha]; exact h1, RpDs.kept k out pre h2⟩
  | dS xs => obtain ⟨vs, h1, h2⟩ := h; exact ⟨vs, by rw [ha]; exact h1, Paired.mapP h2 fun _ _ z => ⟨z.1, z.2.kept k out pre⟩⟩
  | dT xs => obtain ⟨vs, h1, h2⟩ := h; exact ⟨vs, by rw [ha]; exact h1, Paired.mapP h2 fun _ _ z => ⟨z.1, z.2.kept k out pre⟩⟩
  | ins c fs => exact h.elim
/-- a thing that is shut out, and none of this store's, is changed -/
theorem StOk.outer (st : StOk K H m S) (hD : D0 ∈ m.z) {o : HO} : StOk K (upd H D0 o) m S := by
  have nl : ∀ a ∈ m.l, a ≠ D0 := fun a ha e => st.dis D0 hD (e ▸ ha)
  refine ⟨st.nd, st.len, fun i a ob h1 h2 => ?_, fun a ha => ?_, st.dis⟩
  · refine ObR.kept (fun b u hb hu => ?_) (fun _ _ _ h => h) ⟨[], by simp⟩ (upd_ne (nl a (List.mem_of_getElem? h1))) (st.ob i a ob h1 h2)
    rw [upd_ne (fun e => hb (by rw [e]; exact .inl hD))]; exact hu
  · by_cases e : a = D0
    · rw [e]; exact ⟨o, upd_same⟩
    · obtain ⟨u, hu⟩ := st.zs a ha
      exact ⟨u, by rw [upd_ne e]; exact hu⟩
theorem RpDs.outer {ds : List D} {vs : List V} (hD : D0 ∈ m.z) {o : HO} (h : RpDs K H m ds vs) : RpDs K (upd H D0 o) m ds vs :=
  RpDs.kept (fun b u hb hu => by rw [upd_ne (fun e => hb (by rw [e]; exact .inl hD))]; exact hu) (fun _ _ _ h => h) ⟨[], by simp⟩ h

/-! ### the state while a comprehension's thing at D0 grows -/
structure Grow (K : PySem.W.Frag) (m1 : Mu) (H1 : Hp) (D0 : Addr) (m : Mu) (H : Hp) (S : Store) : Prop where
  zz : m.z = m1.z ++ [D0]
  pre : ∃ n, m.l = m1.l ++ n ∧ ∀ a ∈ n, H1 a = none
  keep : ∀ a o, a ∉ m1.l → H1 a = some o → H a = some o
  st : StOk K H m S
theorem Grow.mem (g : Grow K m1 H1 D0 m H S) : D0 ∈ m.z := by rw [g.zz]; simp
theorem Grow.more (g : Grow K m1 H1 D0 m H S) : ∃ n, m.l = m1.l ++ n := let ⟨n, e, _⟩ := g.pre; ⟨n, e⟩
theorem Grow.out (g : Grow K m1 H1 D0 m H S) (hD : H1 D0 = none) : ∀ a o, H1 a = some o → a ∉ m1 → a ∉ m := fun a o h n hm => by
  rcases hm with z | z
  · rw [g.zz] at z
    rcases List.mem_append.mp z with z | z
    · exact n (.inl z)
    · rw [List.mem_singleton.mp z, hD] at h; cases h
  · obtain ⟨k, e, f⟩ := g.pre
    rw [e] at z
    rcases List.mem_append.mp z with z | z
    · exact n (.inr z)
    · rw [f a z] at h; cases h
theorem Grow.next (g : Grow K m1 H1 D0 m H S) (e : Ext m H m' H') (st' : StOk K H' m' S') : Grow K m1 H1 D0 m' H' S' := by
  obtain ⟨n, e1, f1⟩ := g.pre
  obtain ⟨n2, e2, f2⟩ := e.pre
  refine ⟨e.z.trans g.zz, ⟨n ++ n2, by rw [e2, e1, List.append_assoc], fun a ha => ?_⟩, fun a o na h => ?_, st'⟩
  · rcases List.mem_append.mp ha with z | z
    · exact f1 a z
    · have h2 := f2 a z
      cases q : H1 a with
      | none => rfl
      | some o =>
        by_cases hm : a ∈ m1.l
        · obtain ⟨u, hu⟩ := g.st.all a (by rw [e1]; exact List.mem_append_left _ hm)
          rw [h2] at hu; cases hu
        · rw [g.keep a o hm q] at h2; cases h2
  · refine e.keep a o (fun z => ?_) (g.keep a o na h)
    rw [e1] at z
    rcases List.mem_append.mp z with z | z
    · exact na z
    · rw [f1 a z] at h; cases h
theorem Grow.upd (g : Grow K m1 H1 D0 m H S) (hD : H1 D0 = none) {o : HO} : Grow K m1 H1 D0 m (L2.upd H D0 o) S :=
  ⟨g.zz, g.pre, fun a u na h => by rw [upd_ne (ne_of_none h hD)]; exact g.keep a u na h, g.st.outer g.mem⟩
theorem Grow.start (st : StOk K H1 m1 S) (hD : H1 D0 = none) {o : HO} : Grow K m1 H1 D0 ⟨m1.z ++ [D0], m1.l⟩ (L2.upd H1 D0 o) S := by
  have nD := st.out hD
  refine ⟨rfl, ⟨[], by simp, fun _ h => nomatch h⟩, fun a u na h => by rw [upd_ne (ne_of_none h hD)]; exact h, ?_⟩
  refine ⟨st.nd, st.len, fun i a ob h1 h2 => ?_, fun a ha => ?_, fun a ha z => ?_⟩
  · refine ObR.kept (m := m1) (m' := ⟨m1.z ++ [D0], m1.l⟩) (fun b u hb hu => by rw [upd_ne (ne_of_none hu hD)]; exact hu) (fun b u hu n hm => ?_) ⟨[], by simp⟩ (upd_ne (st.ne hD (List.mem_of_getElem? h1))) (st.ob i a ob h1 h2)
    rcases hm with z | z
    · rcases List.mem_append.mp z with z | z
      · exact n (.inl z)
      · rw [List.mem_singleton.mp z, hD] at hu; cases hu
    · exact n (.inr z)
  · rcases List.mem_append.mp ha with z | z
    · obtain ⟨u, hu⟩ := st.zs a z
      exact ⟨u, by rw [upd_ne (ne_of_none hu hD)]; exact hu⟩
    · rw [List.mem_singleton.mp z]; exact ⟨o, upd_same⟩
  · rcases List.mem_append.mp ha with y | y
    · exact st.dis a y z
    · rw [List.mem_singleton.mp y] at z
      exact nD (.inr z)
/-- it is done: the thing stands by itself -/
theorem Grow.last (g : Grow K m1 H1 D0 m H S) (st1 : ∀ a ∈ m1.l, ∃ o, H1 a = some o) (hD : H1 D0 = none) (nD : D0 ∉ m1) : Ext m1 H1 ⟨m1.z, m.l⟩ H ∧ StOk K H ⟨m1.z, m.l⟩ S ∧ D0 ∉ (⟨m1.z, m.l⟩ : Mu) ∧ ∀ a, a ∈ (⟨m1.z, m.l⟩ : Mu) → a ∈ m := by
  have sub : ∀ a, a ∈ (⟨m1.z, m.l⟩ : Mu) → a ∈ m := fun a ha => by
    rcases ha with z | z
    · exact .inl (by rw [g.zz]; exact List.mem_append_left _ z)
    · exact .inr z
  refine ⟨⟨rfl, g.pre, g.keep, g.st.all⟩, ⟨g.st.nd, g.st.len, fun i a ob h1 h2 => ?_, fun a ha => g.st.zs a (by rw [g.zz]; exact List.mem_append_left _ ha), fun a ha => g.st.dis a (by rw [g.zz]; exact List.mem_append_left _ ha)⟩, fun hm => ?_, sub⟩
  · exact ObR.kept (m := m) (m' := ⟨m1.z, m.l⟩) (fun _ _ _ h => h) (fun b u hu n hm => n (sub b hm)) ⟨[], by simp⟩ rfl (g.st.ob i a ob h1 h2)
  · rcases hm with z | z
    · exact nD (.inl z)
    · exact g.st.dis D0 g.mem z
theorem Fin.okR {A B : Type} {r : R A} {k : A → Store → R B} {Q : B → Store → Mu → Hp → Prop} (h : Fin K m H (r.bind k) Q) : ∃ x S1, r = .ok x S1 ∧ Fin K m H (k x S1) Q := by
  cases r with
  | ok x S => exact ⟨x, S, rfl, h⟩
  | err x S => exact h.elim
  | bad => exact h.elim
end

section
variable {X : Cx} {G : Gam}
/-! ### tests of a comprehension -/
def rdC (K : PySem.W.Frag) (G : Gam) (c : CO) : TT := fun σ H Q => ∃ m r S, LocOk K H m r σ ∧ StOk K H m S ∧ Fin K m H (evC G c r S) (fun b _ _ H' => Q b H')
theorem sc_none : PTs X [] (rdC X.K G .none) := ⟨fun pins s σ H Q I ⟨m, r, S, lo, st, h⟩ => pts_nil.run pins s σ H Q I (h m H st.refl st)⟩
theorem sc_some {e : PySem.Expr} {c : CE} (he : PT X e (rdT X.K G c)) : PTs X [e] (rdC X.K G (.some c)) := ⟨fun pins s σ H Q I ⟨m, r, S, lo, st, h⟩ => by
  simp only [evC] at h
  refine (pts_one he).run pins s σ H Q I ⟨m, r, S, lo, st, h.bind.mono fun d S1 m1 H1 e1 s1 h1 => ?_⟩
  obtain ⟨b, e, q⟩ := h1.of s1
  exact ⟨b, e, q⟩⟩
/-- one turn of a comprehension -/
def turnC (G : Gam) (elt : CE) (own : List Nat) (t : Tg) (c : CO) (r : Rho) (x : D) (S2 : Store) : R (Option D) := match bindT t x (wipeD r own) with
  | some r1 => (evC G c r1 S2).bind fun b S3 => if b then (evE G elt r1 S3).bind fun y S4 => .ok (some y) S4 else .ok none S3
  | none => .bad
theorem evE_lc {mu : Bool} {elt : CE} {own : List Nat} {t : Tg} {it : CI} {c : CO} {r : Rho} {S : Store} : evE G (.lc mu elt own t it c) r S = (evI G it r S).bind fun src S1 => (loopC src.stands (turnC G elt own t c r) src.items S1).bind fun ys S5 => mkLst mu ys S5 := by
  simp only [evE]
  rfl
theorem mkLst_fits {K : PySem.W.Frag} {m : Mu} {H : Hp} {S : Store} {mu : Bool} {xs : List D} {Q : D → Store → Mu → Hp → Prop} (h : Fin K m H (mkLst mu xs S) Q) : xs.length < 1000000 := by
  unfold mkLst at h
  cases q : fits xs.length with
  | false => rw [q] at h; exact h.elim
  | true => exact fits_line q
theorem grow_lst {K : PySem.W.Frag} {H H1 : Hp} {m m1 : Mu} {S : Store} {D0 : Addr} {ys : List D} {acc : List V} {mu : Bool} {Q : VK} (g : Grow K m1 H1 D0 m H S) (all1 : ∀ a ∈ m1.l, ∃ o, H1 a = some o) (hD : H1 D0 = none) (nD : D0 ∉ m1) (hacc : H D0 = some (.lst acc)) (rys : RpDs K H m ys acc)
    (h : Fin K m1 H1 (mkLst mu ys S) (ValQ K Q)) : Q (.ref D0) H := by
  obtain ⟨e9, st9, n9, sub9⟩ := g.last all1 hD nD
  unfold mkLst at h
  cases q : fits ys.length with
  | false => rw [q] at h; exact h.elim
  | true =>
    rw [q] at h
    cases mu with
    | false =>
      cases q2 : pys ys with
      | none => rw [q2] at h; exact h.elim
      | some l =>
        rw [q2] at h
        exact h ⟨m1.z, m.l⟩ H e9 st9 _ (.lst hacc n9 (RpAll.sub sub9 _ _ (pys_all q2 rys)))
    | true =>
      have nDl : D0 ∉ m.l := g.st.dis D0 g.mem
      have out : ∀ a (o : HO), H a = some o → a ∉ m → a ∉ (⟨m1.z, m.l ++ [D0]⟩ : Mu) := fun a o _ n hm => by
        rcases hm with z | z
        · exact n (sub9 a (.inl z))
        · rcases List.mem_append.mp z with z | z
          · exact n (.inr z)
          · rw [List.mem_singleton.mp z] at n
            exact n (.inl g.mem)
      obtain ⟨n, en, fn⟩ := g.pre
      refine h ⟨m1.z, m.l ++ [D0]⟩ H ⟨rfl, ⟨n ++ [D0], by rw [en, List.append_assoc], fun a ha => ?_⟩, g.keep, fun a ha => ?_⟩ ⟨?_, by simp [g.st.len], fun i a ob h1 h2 => ?_, st9.zs, fun a ha z => ?_⟩ _ ⟨D0, ?_, rfl⟩
      · rcases List.mem_append.mp ha with z | z
        · exact fn a z
        · rw [List.mem_singleton.mp z]; exact hD
      · rcases List.mem_append.mp ha with z | z
        · exact g.st.all a z
        · rw [List.mem_singleton.mp z]; exact ⟨_, hacc⟩
      · show (m.l ++ [D0]).Nodup
        rw [List.nodup_append]
        exact ⟨g.st.nd, by simp, fun x hx y hy => by rw [List.mem_singleton.mp hy]; exact fun z => nDl (z ▸ hx)⟩
      · have h1 : (m.l ++ [D0])[i]? = some a := h1
        by_cases hi : i < m.l.length
        · rw [List.getElem?_append_left hi] at h1
          rw [List.getElem?_append_left (by rw [g.st.len]; exact hi)] at h2
          exact ObR.kept (m := m) (m' := ⟨m1.z, m.l ++ [D0]⟩) (fun _ _ _ h => h) out ⟨[D0], rfl⟩ rfl (g.st.ob i a ob h1 h2)
        · have hl : i < (m.l ++ [D0]).length := (List.getElem?_eq_some_iff.mp h1).1
          have hi' : i = m.l.length := by simp at hl; omega
          subst hi'
          rw [List.getElem?_append_right (Nat.le_refl _), Nat.sub_self] at h1
          rw [← g.st.len, List.getElem?_append_right (Nat.le_refl _), Nat.sub_self] at h2
          cases h1
          cases h2
          exact ⟨acc, hacc, RpDs.kept (m := m) (m' := ⟨m1.z, m.l ++ [D0]⟩) (fun _ _ _ h => h) out ⟨[D0], rfl⟩ rys⟩
      · rcases List.mem_append.mp z with z | z
        · exact st9.dis a ha z
        · rw [List.mem_singleton.mp z] at ha
          exact nD (.inl ha)
      · show (m.l ++ [D0])[S.length]? = some D0
        rw [g.st.len, List.getElem?_append_right (Nat.le_refl _), Nat.sub_self]
        rfl
theorem lc_rd {mu : Bool} {celt : CE} {own : List Nat} {t : Tg} {ci : CI} {c : CO} (hto : ∀ i ∈ t.slots, i ∈ own) {σ : L2.St} {H : Hp} {Q : VK} (h : rdE X.K G (.lc mu celt own t ci c) σ H Q) :
    tLc (rdI X.K G ci) (gT X.K t) (rdC X.K G c) (rdE X.K G celt) own σ H Q := by
  obtain ⟨m, r, S, lo, st, h⟩ := h
  rw [evE_lc] at h
  refine ⟨m, r, S, lo, st, h.bind.mono fun src S1 m1 H1 e1 s1 h1 sd J wk D0 hD => ?_⟩
  have lo1 := lo.ext e1
  have nD := s1.out hD
  refine ⟨fun i n H => ∃ m S ys acc, n = src.items.length - i ∧ i ≤ src.items.length ∧ Grow X.K m1 H1 D0 m H S ∧ src.stands S = true ∧ H D0 = some (.lst acc) ∧ RpDs X.K H m ys acc ∧
      Fin X.K m1 H1 ((loopC src.stands (turnC G celt own t c r) (src.items.drop i) S).bind fun zs S5 => mkLst mu (ys ++ zs) S5) (ValQ X.K Q), ⟨_, _, S1, [], [], rfl, Nat.zero_le _, Grow.start s1 hD, sd, upd_same, .nil, h1⟩, ?_⟩
  rintro i n H ⟨m, S, ys, acc, rfl, hi, g, sd, hacc, rys, h⟩
  by_cases hl : i < src.items.length
  · refine .inr ⟨wk.go m H S i g.st sd g.keep g.more hl, fun H' => ∃ m S ys acc, i + 1 ≤ src.items.length ∧ Grow X.K m1 H1 D0 m H' S ∧ src.stands S = true ∧ H' D0 = some (.lst acc) ∧ RpDs X.K H' m ys acc ∧
      Fin X.K m1 H1 ((loopC src.stands (turnC G celt own t c r) (src.items.drop (i + 1)) S).bind fun zs S5 => mkLst mu (ys ++ zs) S5) (ValQ X.K Q),
      fun H' ⟨m, S, ys, acc, z⟩ => ⟨_, Nat.sub_lt_sub_left hl (Nat.lt_succ_self i), m, S, ys, acc, rfl, z⟩, fun x H' y => ?_⟩
    obtain ⟨d, hd, ex2, st2, rd, same⟩ := wk.yld m H S i x H' g.st sd g.keep g.more (g.out hD) hl y
    have hdr : src.items.drop i = d :: src.items.drop (i + 1) := by
      rw [List.drop_eq_getElem_cons hl]
      have : src.items[i] = d := by
        rw [List.getElem?_eq_getElem hl] at hd
        exact Option.some.inj hd
      rw [this]
    rw [hdr] at h
    simp only [loopC] at h
    have g2 := g.next ex2 st2
    have hacc2 : H' D0 = some (.lst acc) := by rw [same D0 (by rw [hacc]; simp)]; exact hacc
    have rys2 := rys.ext ex2
    -- the turn
    obtain ⟨zs, S5, e5, h5⟩ := h.okR
    cases q0 : turnC G celt own t c r d S with
    | err x S' => rw [q0] at e5; cases e5
    | bad => rw [q0] at e5; cases e5
    | ok oy S4 =>
      rw [q0] at h
      simp only [R.bind_ok] at h
      cases hs4 : src.stands S4 with
      | false => rw [hs4] at h; exact h.elim
      | true =>
      rw [hs4] at h
      simp only [if_true] at h
      unfold turnC at q0
      cases q1 : bindT t d (wipeD r own) with
      | none => rw [q1] at q0; cases q0
      | some r1 =>
        rw [q1] at q0
        simp only at q0
        have low : LocOk X.K H' m (wipeD r own) (wipe σ own) := (lo1.wipe own).kept (fun a o n h => g2.keep a o (fun z => n (.inr z)) h) (g2.out hD) g2.more
        refine ⟨m, wipeD r own, d, r1, low, rd, q1, fun σ2 lo2 wp => ⟨(wp own hto).trans (wipe_wipe σ own), ?_⟩⟩
        cases q2 : evC G c r1 S with
        | err x S' => rw [q2] at q0; cases q0
        | bad => rw [q2] at q0; cases q0
        | ok b S3 =>
          rw [q2] at q0
          simp only [R.bind_ok] at q0
          refine ⟨m, r1, S, lo2, st2, ?_⟩
          rw [q2]
          intro m3 H3 e3 s3
          have g3 := g2.next e3 s3
          have hacc3 : H3 D0 = some (.lst acc) := e3.keep D0 _ (fun z => st2.dis D0 g2.mem z) hacc2
          have rys3 := rys2.ext e3
          cases b with
          | false =>
            simp only [Bool.false_eq_true, if_false] at q0 ⊢
            cases q0
            refine ⟨m3, S4, ys, acc, hl, g3, hs4, hacc3, rys3, ?_⟩
            obtain ⟨zs, S6, e6, h6⟩ := h.okR
            simp only [R.bind] at e6 ⊢
            cases q7 : loopC src.stands (turnC G celt own t c r) (src.items.drop (i + 1)) S4 with
            | err x S' => rw [q7] at e6; cases e6
            | bad => rw [q7] at e6; cases e6
            | ok ws S7 =>
              rw [q7] at e6
              cases e6
              exact h6
          | true =>
            simp only [if_true] at q0 ⊢
            refine ⟨m3, r1, S3, lo2.ext e3, s3, ?_⟩
            cases q4 : evE G celt r1 S3 with
            | err x S' => rw [q4] at q0; cases q0
            | bad => rw [q4] at q0; cases q0
            | ok y4 S4' =>
              rw [q4] at q0
              cases q0
              intro m4 H4 e4 s4 v rv
              have g4 := g3.next e4 s4
              have hacc4 : H4 D0 = some (.lst acc) := e4.keep D0 _ (fun z => s3.dis D0 g3.mem z) hacc3
              have rys4 := rys3.ext e4
              refine ⟨acc, hacc4, ?_, ?_⟩
              · have := mkLst_fits h5
                have el := Paired.length rys4
                rw [List.length_append] at this
                rw [sizeLine_eq]
                omega
              · refine ⟨m4, S4, ys ++ [y4], acc ++ [v], hl, g4.upd hD, hs4, upd_same, ?_, ?_⟩
                · exact RpDs.outer g4.mem (rys4.append (.cons rv .nil))
                · obtain ⟨zs, S6, e6, h6⟩ := h.okR
                  simp only [R.bind] at e6 ⊢
                  cases q7 : loopC src.stands (turnC G celt own t c r) (src.items.drop (i + 1)) S4 with
                  | err x S' => rw [q7] at e6; cases e6
                  | bad => rw [q7] at e6; cases e6
                  | ok ws S7 =>
                    rw [q7] at e6
                    cases e6
                    simp only [List.append_assoc, List.singleton_append]
                    exact h6
  · have e : i = src.items.length := by omega
    subst e
    rw [List.drop_length] at h
    refine .inl ⟨wk.stop m H S g.st sd g.keep g.more, ?_⟩
    have h : Fin X.K m1 H1 (mkLst mu (ys ++ []) S) (ValQ X.K Q) := h
    rw [List.append_nil] at h
    exact grow_lst g s1.all hD nD hacc rys h

theorem se_lc {mu : Bool} {celt : CE} {own : List (Str × Nat)} {t : Tg} {ci : CI} {c : CO} {elt tg iter : PySem.Expr} {ifs : List PySem.Expr} {scope : Scope} {pos : Pos} (hto : ∀ i ∈ t.slots, i ∈ own.map (·.2)) (hc : X.calm = true) (hN : X.N.Nodup) (hi : PI X tg iter (rdI X.K G ci)) (ok : BlkOk X.N X.env.scope scope own)
    (hg : ∀ (s : Shared) (H : Hp) (C : Addr) (cl : List (Str × Addr)) (fp : List Addr), PG (X.blk s H scope (compEnvC scope cl C X.env) fp) tg (gT X.K t)) (ht : ∀ (s : Shared) (H : Hp) (C : Addr) (cl : List (Str × Addr)) (fp : List Addr), PTs (X.blk s H scope (compEnvC scope cl C X.env) fp) ifs (rdC X.K G c))
    (he : ∀ (s : Shared) (H : Hp) (C : Addr) (cl : List (Str × Addr)) (fp : List Addr), PE (X.blk s H scope (compEnvC scope cl C X.env) fp) elt (rdE X.K G celt)) (hs : ∀ x, foldedSetIterable iter X.env x = pure x) :
    PE X (.ListComp elt [⟨tg, iter, ifs, 0⟩] scope pos) (rdE X.K G (.lc mu celt (own.map (·.2)) t ci c)) := (pe_lc hc hN hi ok hg ht he hs).mono fun _ _ _ => lc_rd hto
theorem sx_asgLc {F : Nat} {mu : Bool} {i : Nat} {y : Str} {py spos : Pos} {celt : CE} {own : List (Str × Nat)} {t : Tg} {ci : CI} {c : CO} {elt tg iter : PySem.Expr} {ifs : List PySem.Expr} {scope : Scope} {pos : Pos} (hto : ∀ i ∈ t.slots, i ∈ own.map (·.2)) (hc : X.calm = true) (hN : X.N.Nodup)
    (hy : X.N[i]? = some y) (hyl : X.env.scope.names.lookup y = some .local) (hsw : swapsWith (.ListComp elt [⟨tg, iter, ifs, 0⟩] scope pos) (some (.Name y py)) spos.line X.env = pure true) (hi : PI X tg iter (rdI X.K G ci)) (ok : BlkOk X.N X.env.scope scope own)
    (hg : ∀ (s : Shared) (H : Hp) (C : Addr) (cl : List (Str × Addr)) (fp : List Addr), PG (X.blk s H scope (compEnvC scope cl C X.env) fp) tg (gT X.K t)) (ht : ∀ (s : Shared) (H : Hp) (C : Addr) (cl : List (Str × Addr)) (fp : List Addr), PTs (X.blk s H scope (compEnvC scope cl C X.env) fp) ifs (rdC X.K G c))
    (he : ∀ (s : Shared) (H : Hp) (C : Addr) (cl : List (Str × Addr)) (fp : List Addr), PE (X.blk s H scope (compEnvC scope cl C X.env) fp) elt (rdE X.K G celt)) (hs : ∀ x, foldedSetIterable iter X.env x = pure x) :
    PS X (.Assign [.Name y py] (.ListComp elt [⟨tg, iter, ifs, 0⟩] scope pos) spos) (rdS X.K G F (.asg i (.lc mu celt (own.map (·.2)) t ci c))) :=
  (ps_setLc hc hN hy hyl hsw hi ok hg ht he hs).mono fun E σ H h => by
    have h := asg_rd h
    exact lc_rd hto h
end
end Sf
end
section
set_option maxRecDepth 100000
set_option maxHeartbeats 4000000
namespace Sf
open PySem PySem.Spec L2
open PyProof.Rows hiding St

section
variable {X : Cx} {G : Gam}
/-! ### dict comprehensions, text keys -/
def turnD (G : Gam) (k v : CE) (own : List Nat) (t : Tg) (c : CO) (r : Rho) (x : D) (S2 : Store) : R (Option (Str × D)) := match bindT t x (wipeD r own) with
  | some r1 => (evC G c r1 S2).bind fun b S3 => if b then (evE G k r1 S3).bind fun y S4 => match y with
      | .py (.str z) => (evE G v r1 S4).bind fun w S5 => .ok (some (z, w)) S5
      | _ => .bad else .ok none S3
  | none => .bad
theorem evE_dc {mu : Bool} {k v : CE} {own : List Nat} {t : Tg} {it : CI} {c : CO} {r : Rho} {S : Store} : evE G (.dc mu k v own t it c) r S = (evI G it r S).bind fun src S1 => (loopC src.stands (turnD G k v own t c r) src.items S1).bind fun ys S5 => mkDC mu ys S5 := by
  simp only [evE]
  rfl
theorem mergeS_snoc (ys : List (Str × D)) (p : Str × D) : mergeS [] (ys ++ [p]) = dput (mergeS [] ys) p.1 p.2 := by
  unfold mergeS
  rw [List.foldl_append]
  rfl
theorem mergeS_length : ∀ (more kvs : List (Str × D)), (mergeS kvs more).length ≤ kvs.length + more.length
  | [], kvs => Nat.le_refl _
  | p :: r, kvs => by
    have h1 := mergeS_length r (dput kvs p.1 p.2)
    have h2 : (dput kvs p.1 p.2).length ≤ kvs.length + 1 := by
      unfold dput
      split
      · simp
      · simp
    show (mergeS (dput kvs p.1 p.2) r).length ≤ _
    rw [List.length_cons]
    omega
theorem mkDC_fits {K : PySem.W.Frag} {m : Mu} {H : Hp} {S : Store} {mu : Bool} {ps : List (Str × D)} {Q : D → Store → Mu → Hp → Prop} (h : Fin K m H (mkDC mu ps S) Q) : ps.length < 1000000 ∧ Fin K m H (mkDS mu (mergeS [] ps) S) Q := by
  unfold mkDC at h
  cases q : fits ps.length with
  | false => rw [q] at h; exact h.elim
  | true => rw [q] at h; exact ⟨fits_line q, h⟩
theorem grow_dS {K : PySem.W.Frag} {H H1 : Hp} {m m1 : Mu} {S : Store} {D0 : Addr} {kvs : List (Str × D)} {ks : List (Key × V)} {mu : Bool} {Q : VK} (g : Grow K m1 H1 D0 m H S) (all1 : ∀ a ∈ m1.l, ∃ o, H1 a = some o) (hD : H1 D0 = none) (nD : D0 ∉ m1) (hks : H D0 = some (.dK ks)) (rk : KvD K H m kvs ks)
    (h : Fin K m1 H1 (mkDS mu kvs S) (ValQ K Q)) : Q (.ref D0) H := by
  obtain ⟨e9, st9, n9, sub9⟩ := g.last all1 hD nD
  unfold mkDS at h
  cases q : fits kvs.length with
  | false => rw [q] at h; exact h.elim
  | true =>
    rw [q] at h
    cases mu with
    | false =>
      cases q2 : pyKv PyData.str kvs with
      | none => rw [q2] at h; exact h.elim
      | some l =>
        rw [q2] at h
        exact h ⟨m1.z, m.l⟩ H e9 st9 _ (.dk hks n9 (RpKv.sub sub9 _ _ (pyKv_of q2 rk)))
    | true =>
      have nDl : D0 ∉ m.l := g.st.dis D0 g.mem
      have out : ∀ a (o : HO), H a = some o → a ∉ m → a ∉ (⟨m1.z, m.l ++ [D0]⟩ : Mu) := fun a o _ n hm => by
        rcases hm with z | z
        · exact n (sub9 a (.inl z))
        · rcases List.mem_append.mp z with z | z
          · exact n (.inr z)
          · rw [List.mem_singleton.mp z] at n
            exact n (.inl g.mem)
      obtain ⟨n, en, fn⟩ := g.pre
      refine h ⟨m1.z, m.l ++ [D0]⟩ H ⟨rfl, ⟨n ++ [D0], by rw [en, List.append_assoc], fun a ha => ?_⟩, g.keep, fun a ha => ?_⟩ ⟨?_, by simp [g.st.len], fun i a ob h1 h2 => ?_, st9.zs, fun a ha z => ?_⟩ _ ⟨D0, ?_, rfl⟩
      · rcases List.mem_append.mp ha with z | z
        · exact fn a z
        · rw [List.mem_singleton.mp z]; exact hD
      · rcases List.mem_append.mp ha with z | z
        · exact g.st.all a z
        · rw [List.mem_singleton.mp z]; exact ⟨_, hks⟩
      · show (m.l ++ [D0]).Nodup
        rw [List.nodup_append]
        exact ⟨g.st.nd, by simp, fun x hx y hy => by rw [List.mem_singleton.mp hy]; exact fun z => nDl (z ▸ hx)⟩
      · have h1 : (m.l ++ [D0])[i]? = some a := h1
        by_cases hi : i < m.l.length
        · rw [List.getElem?_append_left hi] at h1
          rw [List.getElem?_append_left (by rw [g.st.len]; exact hi)] at h2
          exact ObR.kept (m := m) (m' := ⟨m1.z, m.l ++ [D0]⟩) (fun _ _ _ h => h) out ⟨[D0], rfl⟩ rfl (g.st.ob i a ob h1 h2)
        · have hl : i < (m.l ++ [D0]).length := (List.getElem?_eq_some_iff.mp h1).1
          have hi' : i = m.l.length := by simp at hl; omega
          subst hi'
          rw [List.getElem?_append_right (Nat.le_refl _), Nat.sub_self] at h1
          rw [← g.st.len, List.getElem?_append_right (Nat.le_refl _), Nat.sub_self] at h2
          cases h1
          cases h2
          exact ⟨ks, hks, Paired.mapP rk fun _ _ z => ⟨z.1, z.2.kept (m := m) (m' := ⟨m1.z, m.l ++ [D0]⟩) (fun _ _ _ h => h) out ⟨[D0], rfl⟩⟩⟩
      · rcases List.mem_append.mp z with z | z
        · exact st9.dis a ha z
        · rw [List.mem_singleton.mp z] at ha
          exact nD (.inl ha)
      · show (m.l ++ [D0])[S.length]? = some D0
        rw [g.st.len, List.getElem?_append_right (Nat.le_refl _), Nat.sub_self]
        rfl
theorem KvD.outer {K : PySem.W.Frag} {H : Hp} {m : Mu} {D0 : Addr} {kvs : List (Str × D)} {ks : List (Key × V)} (hD : D0 ∈ m.z) {o : HO} (h : KvD K H m kvs ks) : KvD K (upd H D0 o) m kvs ks :=
  Paired.mapP h fun _ _ z => ⟨z.1, z.2.kept (fun b u hb hu => by rw [upd_ne (fun e => hb (by rw [e]; exact .inl hD))]; exact hu) (fun _ _ _ h => h) ⟨[], by simp⟩⟩
theorem dc_rd {mu : Bool} {ck cv : CE} {own : List Nat} {t : Tg} {ci : CI} {c : CO} (hto : ∀ i ∈ t.slots, i ∈ own) {σ : L2.St} {H : Hp} {Q : VK} (h : rdE X.K G (.dc mu ck cv own t ci c) σ H Q) :
    tDc (rdI X.K G ci) (gT X.K t) (rdC X.K G c) (rdE X.K G ck) (rdE X.K G cv) own σ H Q := by
  obtain ⟨m, r, S, lo, st, h⟩ := h
  rw [evE_dc] at h
  refine ⟨m, r, S, lo, st, h.bind.mono fun src S1 m1 H1 e1 s1 h1 sd J wk D0 hD => ?_⟩
  have lo1 := lo.ext e1
  have nD := s1.out hD
  refine ⟨fun i n H => ∃ m S ys ks, n = src.items.length - i ∧ i ≤ src.items.length ∧ Grow X.K m1 H1 D0 m H S ∧ src.stands S = true ∧ H D0 = some (.dK ks) ∧ KvD X.K H m (mergeS [] ys) ks ∧
      Fin X.K m1 H1 ((loopC src.stands (turnD G ck cv own t c r) (src.items.drop i) S).bind fun zs S5 => mkDC mu (ys ++ zs) S5) (ValQ X.K Q), ⟨_, _, S1, [], [], rfl, Nat.zero_le _, Grow.start s1 hD, sd, upd_same, .nil, h1⟩, ?_⟩
  rintro i n H ⟨m, S, ys, ks, rfl, hi, g, sd, hks, rk, h⟩
  by_cases hl : i < src.items.length
  · refine .inr ⟨wk.go m H S i g.st sd g.keep g.more hl, fun H' => ∃ m S ys ks, i + 1 ≤ src.items.length ∧ Grow X.K m1 H1 D0 m H' S ∧ src.stands S = true ∧ H' D0 = some (.dK ks) ∧ KvD X.K H' m (mergeS [] ys) ks ∧
      Fin X.K m1 H1 ((loopC src.stands (turnD G ck cv own t c r) (src.items.drop (i + 1)) S).bind fun zs S5 => mkDC mu (ys ++ zs) S5) (ValQ X.K Q),
      fun H' ⟨m, S, ys, ks, z⟩ => ⟨_, Nat.sub_lt_sub_left hl (Nat.lt_succ_self i), m, S, ys, ks, rfl, z⟩, fun x H' y => ?_⟩
    obtain ⟨d, hd, ex2, st2, rd, same⟩ := wk.yld m H S i x H' g.st sd g.keep g.more (g.out hD) hl y
    have hdr : src.items.drop i = d :: src.items.drop (i + 1) := by
      rw [List.drop_eq_getElem_cons hl]
      have : src.items[i] = d := by
        rw [List.getElem?_eq_getElem hl] at hd
        exact Option.some.inj hd
      rw [this]
    rw [hdr] at h
    simp only [loopC] at h
    have g2 := g.next ex2 st2
    have hks2 : H' D0 = some (.dK ks) := by rw [same D0 (by rw [hks]; simp)]; exact hks
    have rk2 := rk.ext ex2
    obtain ⟨zs, S5, e5, h5⟩ := h.okR
    cases q0 : turnD G ck cv own t c r d S with
    | err x S' => rw [q0] at e5; cases e5
    | bad => rw [q0] at e5; cases e5
    | ok oy S4 =>
      rw [q0] at h
      simp only [R.bind_ok] at h
      cases hs4 : src.stands S4 with
      | false => rw [hs4] at h; exact h.elim
      | true =>
      rw [hs4] at h
      simp only [if_true] at h
      unfold turnD at q0
      cases q1 : bindT t d (wipeD r own) with
      | none => rw [q1] at q0; cases q0
      | some r1 =>
        rw [q1] at q0
        simp only at q0
        have low : LocOk X.K H' m (wipeD r own) (wipe σ own) := (lo1.wipe own).kept (fun a o n h => g2.keep a o (fun z => n (.inr z)) h) (g2.out hD) g2.more
        refine ⟨m, wipeD r own, d, r1, low, rd, q1, fun σ2 lo2 wp => ⟨(wp own hto).trans (wipe_wipe σ own), ?_⟩⟩
        cases q2 : evC G c r1 S with
        | err x S' => rw [q2] at q0; cases q0
        | bad => rw [q2] at q0; cases q0
        | ok b S3 =>
          rw [q2] at q0
          simp only [R.bind_ok] at q0
          refine ⟨m, r1, S, lo2, st2, ?_⟩
          rw [q2]
          intro m3 H3 e3 s3
          have g3 := g2.next e3 s3
          have hks3 : H3 D0 = some (.dK ks) := e3.keep D0 _ (fun z => st2.dis D0 g2.mem z) hks2
          have rk3 := rk2.ext e3
          cases b with
          | false =>
            simp only [Bool.false_eq_true, if_false] at q0 ⊢
            cases q0
            refine ⟨m3, S4, ys, ks, hl, g3, hs4, hks3, rk3, ?_⟩
            obtain ⟨zs, S6, e6, h6⟩ := h.okR
            simp only [R.bind] at e6 ⊢
            cases q7 : loopC src.stands (turnD G ck cv own t c r) (src.items.drop (i + 1)) S4 with
            | err x S' => rw [q7] at e6; cases e6
            | bad => rw [q7] at e6; cases e6
            | ok ws S7 =>
              rw [q7] at e6
              cases e6
              exact h6
          | true =>
            simp only [if_true] at q0 ⊢
            refine ⟨m3, r1, S3, lo2.ext e3, s3, ?_⟩
            cases q4 : evE G ck r1 S3 with
            | err x S' => rw [q4] at q0; cases q0
            | bad => rw [q4] at q0; cases q0
            | ok y4 S4' =>
              rw [q4] at q0
              simp only [R.bind_ok] at q0
              intro m4 H4 e4 s4 v rv
              have g4 := g3.next e4 s4
              have hks4 : H4 D0 = some (.dK ks) := e4.keep D0 _ (fun z => s3.dis D0 g3.mem z) hks3
              have rk4 := rk3.ext e4
              cases y4 with
              | ref n => cases q0
              | scr n => cases q0
              | py y4 =>
                cases y4 with
                | str z =>
                  simp only at q0
                  cases rv
                  refine ⟨m4, r1, S4', (lo2.ext e3).ext e4, s4, ?_⟩
                  cases q5 : evE G cv r1 S4' with
                  | err x S' => rw [q5] at q0; cases q0
                  | bad => rw [q5] at q0; cases q0
                  | ok y5 S5' =>
                    rw [q5] at q0
                    cases q0
                    intro m5 H5 e5' s5 u ru
                    have g5 := g4.next e5' s5
                    have hks5 : H5 D0 = some (.dK ks) := e5'.keep D0 _ (fun z => s4.dis D0 g4.mem z) hks4
                    have rk5 := rk4.ext e5'
                    refine ⟨ks, .inr z, rfl, hks5, ?_, ?_⟩
                    · have hz := (mkDC_fits h5).1
                      have el := rk5.length
                      have em := mergeS_length ys []
                      rw [List.length_nil, Nat.zero_add] at em
                      rw [List.length_append] at hz
                      rw [sizeLine_eq]
                      omega
                    · refine ⟨m5, S4, ys ++ [(z, y5)], _, hl, g5.upd hD, hs4, upd_same, ?_, ?_⟩
                      · rw [mergeS_snoc]
                        exact KvD.outer g5.mem (rk5.put z ru)
                      · obtain ⟨zs, S6, e6, h6⟩ := h.okR
                        simp only [R.bind] at e6 ⊢
                        cases q7 : loopC src.stands (turnD G ck cv own t c r) (src.items.drop (i + 1)) S4 with
                        | err x S' => rw [q7] at e6; cases e6
                        | bad => rw [q7] at e6; cases e6
                        | ok ws S7 =>
                          rw [q7] at e6
                          cases e6
                          simp only [List.append_assoc, List.singleton_append]
                          exact h6
                | _ => cases q0
  · have e : i = src.items.length := by omega
    subst e
    rw [List.drop_length] at h
    refine .inl ⟨wk.stop m H S g.st sd g.keep g.more, ?_⟩
    have h : Fin X.K m1 H1 (mkDC mu (ys ++ []) S) (ValQ X.K Q) := h
    rw [List.append_nil] at h
    exact grow_dS g s1.all hD nD hks rk (mkDC_fits h).2
theorem se_dc {mu : Bool} {ck cv : CE} {own : List (Str × Nat)} {t : Tg} {ci : CI} {c : CO} {kx vx tg iter : PySem.Expr} {ifs : List PySem.Expr} {scope : Scope} {pos : Pos} (hto : ∀ i ∈ t.slots, i ∈ own.map (·.2)) (hc : X.calm = true) (hN : X.N.Nodup) (hi : PI X tg iter (rdI X.K G ci)) (ok : BlkOk X.N X.env.scope scope own)
    (hg : ∀ (s : Shared) (H : Hp) (C : Addr) (cl : List (Str × Addr)) (fp : List Addr), PG (X.blk s H scope (compEnvC scope cl C X.env) fp) tg (gT X.K t)) (ht : ∀ (s : Shared) (H : Hp) (C : Addr) (cl : List (Str × Addr)) (fp : List Addr), PTs (X.blk s H scope (compEnvC scope cl C X.env) fp) ifs (rdC X.K G c))
    (hk : ∀ (s : Shared) (H : Hp) (C : Addr) (cl : List (Str × Addr)) (fp : List Addr), PE (X.blk s H scope (compEnvC scope cl C X.env) fp) kx (rdE X.K G ck)) (he : ∀ (s : Shared) (H : Hp) (C : Addr) (cl : List (Str × Addr)) (fp : List Addr), PE (X.blk s H scope (compEnvC scope cl C X.env) fp) vx (rdE X.K G cv))
    (hs : ∀ x, foldedSetIterable iter X.env x = pure x) : PE X (.DictComp kx vx [⟨tg, iter, ifs, 0⟩] scope pos) (rdE X.K G (.dc mu ck cv (own.map (·.2)) t ci c)) := (pe_dc hc hN hi ok hg ht hk he hs).mono fun _ _ _ => dc_rd hto
/-! ### displays of dicts -/
theorem se_dic0 {mu : Bool} {pos : Pos} : PE X (.Dict [] [] pos) (rdE X.K G (.dic mu .nil)) :=
  pe_dnewK.mono fun σ H Q ⟨m, r, S, lo, st, h⟩ => by
    have h : Fin X.K m H (mkDS mu [] S) (ValQ X.K Q) := h
    exact (mkDS_ok st (ks := []) .nil h).2
end
end Sf
end
section
set_option maxRecDepth 100000
set_option maxHeartbeats 4000000
namespace Sf
open PySem PySem.Spec L2
open PyProof.Rows hiding St

/-! ### a def of the text, with no repr under way -/
section
variable {P : Program} {w : World} {K : PySem.W.Frag} {mg : Str → Option Value} {base : Heap}
/-- the inside of a def -/
abbrev inX (P : Program) (w : World) (K : PySem.W.Frag) (mg : Str → Option Value) (base : Heap) (N : List Str) (qual : Str) (st : PySem.Stmt) (f : Addr) (cdv : Value) (A : Around) (outer : List Env) (s : Shared) (H : Hp) (E : XK) : Cx :=
  (cxOf (L2.CX P w) P w K mg base N qual (defScope st) f cdv A outer s H E).nox
theorem fnG_by {k : Nat} {f : Addr} {x qual : Str} {st : PySem.Stmt} {fd : FuncData} {N ps : List Str} {sp : Sp} (Fu : Fun K x qual st f fd) (sc : FnScope N ps (defScope st)) (ln : ∀ vs H Q E, sp vs H Q E → vs.length = ps.length)
    (bd : ∀ (cdv : Value) (A : Around) (outer : List Env) (s : Shared) (H : Hp) (vs : List V) (Q : VK) (E : XK), Room k (A.deeper (envOfC qual (defScope st) s.heap.objs.size f cdv)) → A.guards = some [] → sp vs H Q E →
      ∃ t, PSs (inX P w K mg base N qual st f cdv A outer s H E) (defBody st) t ∧ t { nx := fun _ H' => Q .non H', rt := Q } (start N vs) H) :
    FnG P w K mg base (k + 1) f fd ps sp := by
  obtain ⟨oc, od, kV, doc, pm, an, cdv, ct, osl, rfl, here, isCode⟩ := Fu.ex
  constructor
  · exact ln
  intro A outer s H args us vs Q E room calmG e0 bound rel want
  have count := ln vs H Q E want
  have stands : ∀ b o, base.get? b = some o → s.heap.get? b = some o := fun b o e => (e0.bs b o e).1
  have inK : K.In s.heap := e0.mod.kin.keeps stands
  refine codeAny_call_function room.depth (inK f _ here) rfl sc.co sc.gen rfl (PySem.W.codeRec_of inK isCode) (bound _ _ _ _ ?_)
  refine wpAny_newFunctionEnv_cells sc.kind (fun y hy => ?_) fun env eE s1 born => ?_
  · obtain ⟨n, v⟩ := y
    rcases sc.par n (List.of_mem_zip hy).1 with c | c
    · exact Or.inl c
    · exact Or.inr ⟨c, PySem.W.cellsFrom_some _ _ _ (Or.inl c)⟩
  subst eE
  refine ⟨(e0.mod.nolimit.keeps stands).keeps born.toInCall.keep, codeAny_func ?_⟩
  obtain ⟨t, walk, got⟩ := bd cdv A outer s H vs Q E (room.deeper _) calmG want
  have I := inv_start (CX := L2.CX P w) (E := E) sc room.hd e0 count rel born
  refine wpAny_mono (walk.nox.run [] s1 _ H _ I got) ?_ (fun _ _ z => z)
  intro fl s' z
  cases fl with
  | ret u =>
    obtain ⟨v, σ', H', J, rv, q⟩ := z
    exact ⟨v, H', J.os, J.bare, J.base, J.hok, rv, q⟩
  | next =>
    obtain ⟨σ', H', J, q⟩ := z
    exact ⟨V.non, H', J.os, J.bare, J.base, J.hok, rfl, q⟩
  | brk => exact (z.choose_spec.choose_spec.2 : False).elim
  | cont => exact (z.choose_spec.choose_spec.2 : False).elim
end

/-! ### what a table of calls promises -/
def SpG (K : PySem.W.Frag) (G : Gam) (f : Str) (n : Nat) : Sp := fun vs H Q _ => ∃ m S ds mu, StOk K H m S ∧ RpDs K H m ds vs ∧ ds.length = n ∧ Fin K m H (G mu f ds S) (ValQ K Q)
/-- the def of the name f lies here and keeps its promise -/
structure CallOk (P : Program) (w : World) (K : PySem.W.Frag) (mg : Str → Option Value) (base : Heap) (k : Nat) (G : Gam) (f : Str) (ps : List Str) : Prop where
  ex : ∃ (a : Addr) (fd : FuncData), FnG P w K mg base k a fd ps (SpG K G f ps.length) ∧ mg f = some (.ref a) ∧ PySem.W.keepIn K (.ref a) = true ∧ Binds K fd ps []
section
variable {X : Cx} {G : Gam}
theorem se_call {k : Nat} {f : Str} {ps : List Str} {mu : Bool} {p pos : Pos} {e : PySem.Expr} {es : List PySem.Expr} {cs : CEs} (C : CallOk X.prog X.w X.K X.mg X.base k G f ps) (hr : Room k X.A) (hg : X.A.guards = some []) (hgl : Gl X f) (ha : PA X (e :: es) (rdA X.K G cs))
    (hn : ∀ r S ds S', evEs G cs r S = .ok ds S' → ds.length = ps.length) (hdb : (f == ("__debug__" : Str)) = false) (he : starEach (e :: es) X.env = (false, eval e X.env) :: starEach es X.env) (hpl : (backTo pos (starEach es X.env)).any (·.1) = false) :
    PE X (.Call (.Name f p) (e :: es) [] pos) (rdE X.K G (.call mu f cs)) := by
  obtain ⟨a, fd, F, hm, hk, hb⟩ := C.ex
  refine (pe_callG F hr hg hgl hm hk hb ha hdb he hpl).mono fun σ H Q ⟨m, r, S, lo, st, h⟩ => ?_
  simp only [evE] at h
  obtain ⟨ds, S1, q, h⟩ := h.okR
  refine ⟨m, r, S, lo, st, ?_⟩
  rw [q]
  intro m1 H1 e1 s1 vs rs
  exact ⟨m1, S1, ds, mu, s1, rs, hn r S ds S1 q, h.ext e1⟩
theorem se_call0 {k : Nat} {f : Str} {mu : Bool} {p pos : Pos} (C : CallOk X.prog X.w X.K X.mg X.base k G f []) (hr : Room k X.A) (hg : X.A.guards = some []) (hgl : Gl X f) (hdb : (f == ("__debug__" : Str)) = false) : PE X (.Call (.Name f p) [] [] pos) (rdE X.K G (.call mu f .nil)) := by
  obtain ⟨a, fd, F, hm, hk, hb⟩ := C.ex
  refine (pe_callG0 F hr hg hgl hm hk hb hdb).mono fun σ H Q ⟨m, r, S, lo, st, h⟩ => ?_
  simp only [evE, evEs, R.bind_ok] at h
  exact ⟨m, S, [], mu, st, .nil, rfl, h⟩
end
def CEs.len : CEs → Nat
  | .nil => 0
  | .cons _ es => es.len + 1
theorem evEs_len {G : Gam} : ∀ (cs : CEs) (r : Rho) (S : Store) (ds : List D) (S' : Store), evEs G cs r S = .ok ds S' → ds.length = cs.len
  | .nil, r, S, ds, S', h => by
    simp only [evEs] at h
    cases h
    rfl
  | .cons e es, r, S, ds, S', h => by
    simp only [evEs] at h
    cases q : evE G e r S with
    | ok d S1 =>
      rw [q, R.bind_ok] at h
      cases q2 : evEs G es r S1 with
      | ok ds2 S2 =>
        rw [q2, R.bind_ok] at h
        cases h
        rw [List.length_cons, evEs_len es r S1 ds2 _ q2]
        rfl
      | err x S2 => rw [q2] at h; cases h
      | bad => rw [q2] at h; cases h
    | err x S1 => rw [q] at h; cases h
    | bad => rw [q] at h; cases h

/-! ### from a body to the promise -/
section
variable {P : Program} {w : World} {K : PySem.W.Frag} {mg : Str → Option Value} {base : Heap}
theorem call_none {f : Str} {T : Tab} {F : Nat} {a : Addr} {fd : FuncData} {ps : List Str} {n : Nat} : FnG P w K mg base 0 a fd ps (SpG K (call T F 0) f n) :=
  ⟨fun vs H Q E ⟨m, S, ds, mu, _, _, _, h⟩ => h.elim, fun A outer s H args us vs Q E _ _ _ _ _ ⟨m, S, ds, mu, _, _, _, h⟩ => h.elim⟩
theorem start_ok {H : Hp} {m : Mu} {fn : Fn} {N : List Str} {ds : List D} {vs : List V} (h : RpDs K H m ds vs) (hl : ds.length = fn.ps) (hN : N.length = fn.n) : LocOk K H m (startD fn ds) (start N vs) := by
  have el := Paired.length h
  constructor
  · simp only [startD, L2.start, List.length_append, List.length_map, List.length_replicate]
    omega
  · intro i d e
    unfold startD at e
    unfold L2.start
    by_cases hi : i < ds.length
    · rw [List.getElem?_append_left (by simpa using hi), List.getElem?_map] at e
      cases q : ds[i]? with
      | none => rw [q] at e; cases e
      | some d' =>
        rw [q] at e
        have e : d' = d := by simpa using e
        subst e
        obtain ⟨v, hv, rv⟩ : ∃ v, vs[i]? = some v ∧ RpD K H m d' v := by
          have hv : i < vs.length := by omega
          refine ⟨vs[i], List.getElem?_eq_getElem hv, ?_⟩
          obtain ⟨x, hx, rx⟩ := paired_at h (List.getElem?_eq_getElem hv)
          rw [q] at hx
          cases hx
          exact rx
        refine ⟨v, ?_, rv⟩
        rw [List.getElem?_append_left (by simp; omega), List.getElem?_map, hv]
        rfl
    · rw [List.getElem?_append_right (by simp; omega), List.getElem?_replicate] at e
      split at e <;> cases e
theorem fnG_core {T : Tab} {F n : Nat} {x qual : Str} {st : PySem.Stmt} {f : Addr} {fd : FuncData} {N ps : List Str} {fn : Fn} (hT : T x = some fn) (hps : fn.ps = ps.length) (hN : N.length = fn.n) (Fu : Fun K x qual st f fd) (sc : FnScope N ps (defScope st))
    (bd : ∀ (cdv : Value) (A : Around) (outer : List Env) (s : Shared) (H : Hp) (E : XK), Room n (A.deeper (envOfC qual (defScope st) s.heap.objs.size f cdv)) → A.guards = some [] →
      PSs (inX P w K mg base N qual st f cdv A outer s H E) (defBody st) (rdSs K (call T F n) F fn.body)) :
    FnG P w K mg base (n + 1) f fd ps (SpG K (call T F (n + 1)) x ps.length) := by
  refine fnG_by Fu sc (fun vs H Q E ⟨m, S, ds, mu, st, rs, hl, h⟩ => by rw [← Paired.length rs, hl]) fun cdv A outer s H vs Q E hr hg ⟨m0, S0, ds0, mu, st0, rs0, hl0, h0⟩ => ?_
  obtain ⟨m, S, ds, st, rs, h⟩ := call_spR st0 rs0 h0
  refine ⟨_, bd cdv A outer s H E hr hg, m, startD fn ds, S, start_ok rs ?_ hN, st, ?_⟩
  · unfold runF at h
    rw [hT] at h
    by_cases e : ds.length = fn.ps
    · exact e
    · simp only [e, if_false] at h
      exact h.elim
  · unfold runF at h
    rw [hT] at h
    by_cases e : ds.length = fn.ps
    · simp only [e, if_true] at h
      refine h.bind.mono fun fl S1 m1 H1 e1 s1 h1 => ?_
      cases fl with
      | nx r => exact fun _ _ => h1 m1 H1 s1.refl s1 V.non .non
      | rt d => exact fun v rv => h1 m1 H1 s1.refl s1 v rv
      | bk r => exact h1.elim
      | ct r => exact h1.elim
    · simp only [e, if_false] at h
      exact h.elim
end

/-! ### the law's own end -/
/-- the script alone is tracked, or nothing -/
theorem lawG {P : Program} {w : World} {K : PySem.W.Frag} {mg mb : Str → Option Value} {k : Nat} {fa a : Addr} {fd : FuncData} {x : Str} {sp : Sp} {z : Shared} {vs : List Value} {ns : List Int} (inK : K.In z.heap) (gl : z.heap.Ns mainGlobals mg) (bi : z.heap.Ns builtinsNs mb)
    (same : ∀ y : Str, y ≠ "__name__" → mb y = bootBuiltins y) (lim : z.heap.NoLimit) (gens : z.gens = #[]) (obj : z.heap.get? a = some { cls := .type "list", data := .seq vs.toArray }) (intsA : IntsAre vs ns) (few : ns.length ≤ sizeLine) (room : Room k callerA)
    (ok : ∀ base : Heap, K.In base → base.Ns mainGlobals mg → FnG P w K mg base k fa fd [x] sp) (bd : ∀ (s : Shared) (u : Value), BindsTo s fd ⟨[u], []⟩ [(x, u)])
    (want : ∀ H : Hp, Only H → SqL K H a (ns.map V.int) → sp [.ref a] H (fun v _ => v = .bl true) E0) :
    codeAny (model P w) callerA (.call (.ref fa) ⟨[.ref a], []⟩) (fun r y => r = .ok (.ret (.bool true)) ∧ OldK z.heap y.heap ∧ y.os = z.os ∧ AllBare y.gens) z := by
  have key : ∀ H : Hp, Only H → SqL K H a (ns.map V.int) → HOk P w H z.heap → (∀ b, H b ≠ none → b = a) → (H a ≠ none → K.lookup a = none) →
      codeAny (model P w) callerA (.call (.ref fa) ⟨[.ref a], []⟩) (fun r y => r = .ok (.ret (.bool true)) ∧ OldK z.heap y.heap ∧ y.os = z.os ∧ AllBare y.gens) z := by
    intro H only sq hok sole out
    have tracked : ∀ {b : Addr}, H b ≠ none → b = a := fun {b} => sole b
    have untr : ∀ {b : Addr} {o : Obj} {es : Array DictEntry} {ep : Nat}, z.heap.get? b = some o → o.data = .dict es ep → H b = none := by
      intro b o es ep e d
      by_cases c : H b = none
      · exact c
      · cases tracked c
        rw [obj] at e
        cases e
        cases d
    have nsB : ∀ {b : Addr} {t : Str → Option Value}, z.heap.Ns b t → (hidT z.heap H).Ns b t := by
      rintro b t ⟨o, es, ep, e, d, r⟩
      exact ⟨o, es, ep, hidT_get e (untr e d), d, r⟩
    have kB : K.In (hidT z.heap H) := by
      intro b o e
      refine hidT_get (inK b o e) ?_
      by_cases c : H b = none
      · exact c
      · cases tracked c
        rw [out c] at e
        cases e
    have md : Mod K mg (hidT z.heap H) := by
      refine ⟨kB, nsB gl, ⟨mb, nsB bi, same⟩, ?_⟩
      obtain ⟨mc, c1, c2⟩ := lim
      exact ⟨mc, nsB c1, c2⟩
    have none0 : ∀ b : Addr, b ∉ frs [] := fun b c => by simp [frs] at c
    have en : Env0 P w K mg (hidT z.heap H) callerA [] z H :=
      { frames := rfl, mod := md, bs := fun b o e => of_hidT e, bsz := Nat.le_of_eq (hidT_size _ _), funs := trivial, frf := fun b c => (none0 b c).elim, hok := hok, bare := .of_eq gens }
    have run := (ok _ kB (nsB gl)).run callerA [] z H ⟨[.ref a], []⟩ [.ref a] [.ref a] _ _ room rfl en (bd z (.ref a)) (.cons rfl .nil) (want H only sq)
    refine codeAny_mono run ?_
    intro r y c
    rcases r with e | fl
    · obtain ⟨_, _, _, _, _, _, _, _, _, _, _, _, f⟩ := c
      exact f.elim
    · cases fl with
      | ret u =>
        obtain ⟨v, H', os, bare, un, hok', rv, q⟩ := c
        cases (show v = .bl true from q)
        cases (show u = Value.bool true from rv)
        refine ⟨rfl, OldK.of_keep ?_, os, bare⟩
        intro b o e
        cases c : H b with
        | none => exact un.keep b o e c (fun i => none0 b i) (by simp)
        | some t =>
          rcases only b with n | ⟨ob, xs, n⟩
          · rw [c] at n
            cases n
          · have a1 := (hok b _ n).1
            have a2 := (hok' b _ (un.frzs b ob _ n)).1
            rw [e] at a1
            cases a1
            exact a2
      | next => exact (c : False).elim
      | brk => exact (c : False).elim
      | cont => exact (c : False).elim
  have rv := vals_ints intsA
  have ln := intsA.length
  cases c : K.lookup a with
  | some o =>
    have e := inK a o c
    rw [obj] at e
    cases e
    refine key (fun _ => none) (fun _ => Or.inl rfl) (Or.inr ⟨_, vs.toArray, _, c, rfl, rfl, rfl, ?_, by simpa using rv⟩) ?_ ?_ ?_
    · rw [List.size_toArray, ln]
      exact few
    · intro b u e
      cases (show (none : Option HO) = some u from e)
    · exact fun b e => (e rfl).elim
    · exact fun e => (e rfl).elim
  | none =>
    let o : Obj := { cls := .type "list", data := .seq vs.toArray }
    have at1 : (upd (fun _ => none) a (.frz o (.lst (ns.map V.int))) : Hp) a = some (.frz o (.lst (ns.map V.int))) := upd_same
    have at2 : ∀ b, b ≠ a → (upd (fun _ => none) a (.frz o (.lst (ns.map V.int))) : Hp) b = none := fun b hb => by rw [upd_ne hb]
    refine key (upd (fun _ => none) a (.frz o (.lst (ns.map V.int)))) ?_ (Or.inl (Or.inr ⟨o, at1⟩)) ?_ ?_ (fun _ => c)
    · intro b
      by_cases hb : b = a
      · cases hb
        exact Or.inr ⟨_, _, at1⟩
      · exact Or.inl (at2 b hb)
    · intro b u e
      by_cases hb : b = a
      · cases hb
        rw [at1] at e
        cases e
        exact ⟨obj, by rw [List.length_map]; exact few, vs, _, rv, obj⟩
      · rw [at2 b hb] at e
        cases e
    · intro b e
      by_cases hb : b = a
      · exact hb
      · exact (e (at2 b hb)).elim
/-- what k_head leaves, from the table's promise -/
theorem walkG {l : PySem.W.OpenLaw} {n k : Nat} {q : Program} {loose : List Str} {XP : (Str → Option Value) → Heap → Prop} {YP : World → Heap → Prop} {d : DefRec} {K : Params → PySem.W.Frag} {G : Gam} {x : Str} (most : l.most = some n) (few : n ≤ sizeLine) (nodf : d.params.defaults = [])
    (room : Room k callerA) (hY : ∀ (w : World) (h : Heap), YP w h → (K w.params).In h)
    (ok : ∀ (w : World) (mg : Str → Option Value) (fa : Addr) (h : Heap), (K w.params).In h → h.Ns mainGlobals mg → mg d.name = some (.ref fa) →
      ∃ fd : FuncData, (∀ (s : Shared) (u : Value), BindsTo s fd ⟨[u], []⟩ [(x, u)]) ∧ ∀ base : Heap, (K w.params).In base → base.Ns mainGlobals mg → FnG l.prog w (K w.params) mg base k fa fd [x] (SpG (K w.params) G d.name 1))
    (law : ∀ ns : List Int, ns.length ≤ n → ∃ S, G false d.name [.scr ns] [] = .ok (bl true) S) :
    PySem.W.WalkO q loose XP YP l.row.toRowW d [] (fun f vs => PySem.call f vs) := by
  refine Att.attach_call most nodf ?_
  intro w s₀ s₁ mg mb fa o pm cd doc a vs ns gr Y ho hd hcd hmg hobj hints hlen hg
  have inK := hY w _ Y
  obtain ⟨fd, b, f⟩ := ok w mg fa _ inK gr.T.g hmg
  refine lawG inK gr.T.g gr.T.b gr.T.builtins gr.T.nolimit hg hobj hints (Nat.le_trans hlen few) room f b ?_
  intro H only sq
  obtain ⟨S, e⟩ := law ns hlen
  refine ⟨⟨[], []⟩, [], [.scr ns], false, ⟨List.nodup_nil, rfl, (fun i a o h1 => (by simp at h1)), (fun a h => nomatch h), (fun a h => nomatch h)⟩, .cons ⟨a, rfl, ?_⟩ .nil, rfl, ?_⟩
  · rcases sq with c | c
    · exact Or.inl ⟨c, fun i => by rcases i with i | i <;> exact nomatch i⟩
    · exact Or.inr (Or.inr c)
  · rw [e]
    intro m' H' _ _ v rv
    cases rv
    rfl
end Sf
end
section
set_option maxRecDepth 100000
set_option maxHeartbeats 4000000
namespace Sf
open PySem PySem.Spec L2
open PyProof.Rows hiding St
section
variable {X : Cx} {G : Gam}
/-! ### displays of dicts -/
def prs (K : PySem.W.Frag) (G : Gam) : CEs → List (TE × TE)
  | .cons k (.cons v es) => (rdE K G k, rdE K G v) :: prs K G es
  | _ => []
theorem R.ok_of {A B : Type} {r : R A} {k : A → Store → R B} {b : B} {S : Store} (h : r.bind k = .ok b S) : ∃ a S1, r = .ok a S1 ∧ k a S1 = .ok b S := by
  cases r with
  | ok a S1 => exact ⟨a, S1, rfl, h⟩
  | err x S1 => cases h
  | bad => cases h
theorem pairs_rd {K : PySem.W.Frag} {σ : L2.St} {r : Rho} : ∀ (es : CEs) (ds : List D) (kvs : List (Str × D)) (m : Mu) (H : Hp) (S S1 : Store) (Q : List (V × V) → Hp → Prop), LocOk K H m r σ → StOk K H m S → evEs G es r S = .ok ds S1 → pairsD ds = some kvs →
    (∀ m1 H1 ks, Ext m H m1 H1 → StOk K H1 m1 S1 → KvD K H1 m1 kvs ks → Q (ks.map fun kv => (kV kv.1, kv.2)) H1) → tPairs (prs K G es) σ H Q
  | .nil, ds, kvs, m, H, S, S1, Q, lo, st, e, p, q => by
    simp only [evEs] at e
    cases e
    cases p
    exact q m H [] st.refl st .nil
  | .cons k .nil, ds, kvs, m, H, S, S1, Q, lo, st, e, p, q => by
    simp only [evEs] at e
    obtain ⟨d, S2, e1, e⟩ := R.ok_of e
    cases e
    cases d with
    | py d => cases d <;> simp [pairsD] at p
    | _ => simp [pairsD] at p
  | .cons k (.cons v es), ds, kvs, m, H, S, S1, Q, lo, st, e, p, q => by
    rw [evEs] at e
    obtain ⟨d, S2, e1, e⟩ := R.ok_of e
    obtain ⟨ds1, S3, e2, e⟩ := R.ok_of e
    cases e
    rw [evEs] at e2
    obtain ⟨d2, S4, e3, e2⟩ := R.ok_of e2
    obtain ⟨ds2, S5, e4, e2⟩ := R.ok_of e2
    cases e2
    cases d with
    | ref n => simp [pairsD] at p
    | scr n => simp [pairsD] at p
    | py d =>
      cases d with
      | str z =>
        simp only [pairsD] at p
        cases q2 : pairsD ds2 with
        | none => rw [q2] at p; cases p
        | some l =>
          rw [q2] at p
          cases p
          refine ⟨m, r, S, lo, st, ?_⟩
          rw [e1]
          intro m1 H1 x1 s1 v1 rv1
          cases rv1
          refine ⟨m1, r, S2, lo.ext x1, s1, ?_⟩
          rw [e3]
          intro m2 H2 x2 s2 v2 rv2
          refine pairs_rd es ds2 l m2 H2 S4 S1 _ ((lo.ext x1).ext x2) s2 e4 q2 fun m3 H3 ks x3 s3 rk => ?_
          exact q m3 H3 ((.inr z, v2) :: ks) ((x1.trans x2).trans x3) s3 (.cons ⟨rfl, rv2.ext x3⟩ rk)
      | _ => simp [pairsD] at p
theorem se_dic {mu : Bool} {es : CEs} {keys : List (Option PySem.Expr)} {values : List PySem.Expr} {pos : Pos} (h : PPs X pos keys values (prs X.K G es)) (hall : keys.all (·.isSome) = true) (hl : keys.length = values.length) (h0 : keys ≠ []) (h15 : keys.length ≤ 15) :
    PE X (.Dict keys values pos) (rdE X.K G (.dic mu es)) :=
  (pe_disp h hall hl h0 h15).mono fun σ H Q ⟨m, r, S, lo, st, h⟩ p hp => by
    simp only [evE] at h
    obtain ⟨ds, S1, e, h⟩ := h.okR
    cases q : pairsD ds with
    | none => rw [q] at h; exact h.elim
    | some kvs =>
      rw [q] at h
      simp only at h
      cases q15 : Nat.ble kvs.length 15 with
      | false => rw [q15] at h; exact h.elim
      | true =>
        rw [q15] at h
        simp only [if_true] at h
        have g0 : Grow X.K m H p ⟨m.z ++ [p], m.l⟩ (upd H p (.dK [])) S := Grow.start st hp
        have lo0 : LocOk X.K (upd H p (.dK [])) ⟨m.z ++ [p], m.l⟩ r σ := lo.kept (fun a o n h => g0.keep a o (fun z => n (.inr z)) h) (g0.out hp) g0.more
        refine pairs_rd es ds kvs _ _ S S1 _ lo0 g0.st e q fun m1 H1 ks x1 s1 rk => ?_
        have g1 := g0.next x1 s1
        refine ⟨x1.keep p _ (fun z => g0.st.dis p g0.mem z) upd_same, ks, rfl, ?_, ?_⟩
        · rw [← rk.length]
          exact Nat.le_of_ble_eq_true q15
        · have g2 := g1.upd hp (o := .dK (mergeK [] ks))
          refine grow_dS g2 st.all hp (st.out hp) upd_same (KvD.outer g1.mem (KvD.merge rk .nil)) h
/-! ### name = {..}, a comprehension -/
theorem ps_setDc {i : Nat} {y : Str} {py spos pos : Pos} {kx vx tg iter : PySem.Expr} {ifs : List PySem.Expr} {scope : Scope} {own : List (Str × Nat)} {wi : TI} {g : TG} {tt : TT} {tk tv : TE} (hc : X.calm = true) (hN : X.N.Nodup) (hy : X.N[i]? = some y) (loc : X.env.scope.names.lookup y = some .local)
    (sw : swapsWith (.DictComp kx vx [⟨tg, iter, ifs, 0⟩] scope pos) (some (.Name y py)) spos.line X.env = pure true) (hi : PI X tg iter wi) (ok : BlkOk X.N X.env.scope scope own)
    (hg : ∀ (s : Shared) (H : Hp) (C : Addr) (cl : List (Str × Addr)) (fp : List Addr), PG (X.blk s H scope (compEnvC scope cl C X.env) fp) tg g) (ht : ∀ (s : Shared) (H : Hp) (C : Addr) (cl : List (Str × Addr)) (fp : List Addr), PTs (X.blk s H scope (compEnvC scope cl C X.env) fp) ifs tt)
    (hk : ∀ (s : Shared) (H : Hp) (C : Addr) (cl : List (Str × Addr)) (fp : List Addr), PE (X.blk s H scope (compEnvC scope cl C X.env) fp) kx tk) (he : ∀ (s : Shared) (H : Hp) (C : Addr) (cl : List (Str × Addr)) (fp : List Addr), PE (X.blk s H scope (compEnvC scope cl C X.env) fp) vx tv)
    (hs : ∀ x, foldedSetIterable iter X.env x = pure x) : PS X (.Assign [.Name y py] (.DictComp kx vx [⟨tg, iter, ifs, 0⟩] scope pos) spos) (tAsg (tDc wi g tt tk tv (own.map (·.2))) (gName i)) := by
  constructor
  intro pins s σ H W I want
  rw [exec_Assign_Name_used _ _ _ _ sw]
  refine wpAny_bind (wpAny_standAt (wpAny_bind ?_))
  show wpAny _ X.A (do let _ ← comprehension (.DictComp kx vx [⟨tg, iter, ifs, 0⟩] scope pos) scope X.env (firstIterPos [⟨tg, iter, ifs, 0⟩] pos) newDict false (eval iter X.env) (some (assign (.Name y py) X.env))) _ _ s
  have want : tDc wi g tt tk tv (own.map (·.2)) σ H (fun x H1 => gName i x σ H1 W.nx) := want
  refine wpAny_bind (thn (dc_core (Qf := fun _ s' => SP X pins W .next s') hc hN I hi ok hg ht hk he hs want ?_) ?_)
  · intro L C s' m H' I' q ns fp
    obtain ⟨p0, p1, p2, p3, p4, p5⟩ := fp
    show wpAny _ _ (assign (.Name y py) X.env (.ref L)) _ _ _
    refine wpAny_assign_Name (store_ok2 (v := V.ref L) I' hN hy (Or.inl loc) rfl ?_ (Or.inr loc))
    rintro s2 I2 ⟨a, sb, where_⟩
    have other : C ≠ a := by
      rcases where_ with w1 | w1
      · exact w1 ▸ p1
      · exact fun e => p4 y a w1 e.symm
    refine ⟨m, ns.sameBut sb other, fun h3 sb3 => ⟨_, H', ?_, q⟩⟩
    exact I2.turned (t' := s2.toks) (fun b o hb e => (sb3.2 b hb).trans e) p0 p1 p3 p4 p5
  · exact fun _ s' z => wpAny_pure (wpAny_pure z)
theorem sx_asgDc {F : Nat} {mu : Bool} {i : Nat} {y : Str} {py spos pos : Pos} {ck cv : CE} {own : List (Str × Nat)} {t : Tg} {ci : CI} {c : CO} {kx vx tg iter : PySem.Expr} {ifs : List PySem.Expr} {scope : Scope} (hto : ∀ i ∈ t.slots, i ∈ own.map (·.2)) (hc : X.calm = true) (hN : X.N.Nodup)
    (hy : X.N[i]? = some y) (loc : X.env.scope.names.lookup y = some .local) (sw : swapsWith (.DictComp kx vx [⟨tg, iter, ifs, 0⟩] scope pos) (some (.Name y py)) spos.line X.env = pure true) (hi : PI X tg iter (rdI X.K G ci)) (ok : BlkOk X.N X.env.scope scope own)
    (hg : ∀ (s : Shared) (H : Hp) (C : Addr) (cl : List (Str × Addr)) (fp : List Addr), PG (X.blk s H scope (compEnvC scope cl C X.env) fp) tg (gT X.K t)) (ht : ∀ (s : Shared) (H : Hp) (C : Addr) (cl : List (Str × Addr)) (fp : List Addr), PTs (X.blk s H scope (compEnvC scope cl C X.env) fp) ifs (rdC X.K G c))
    (hk : ∀ (s : Shared) (H : Hp) (C : Addr) (cl : List (Str × Addr)) (fp : List Addr), PE (X.blk s H scope (compEnvC scope cl C X.env) fp) kx (rdE X.K G ck)) (he : ∀ (s : Shared) (H : Hp) (C : Addr) (cl : List (Str × Addr)) (fp : List Addr), PE (X.blk s H scope (compEnvC scope cl C X.env) fp) vx (rdE X.K G cv))
    (hs : ∀ x, foldedSetIterable iter X.env x = pure x) : PS X (.Assign [.Name y py] (.DictComp kx vx [⟨tg, iter, ifs, 0⟩] scope pos) spos) (rdS X.K G F (.asg i (.dc mu ck cv (own.map (·.2)) t ci c))) :=
  (ps_setDc hc hN hy loc sw hi ok hg ht hk he hs).mono fun E σ H h => dc_rd hto (asg_rd h)
end
end Sf
end
section
set_option maxRecDepth 100000
set_option maxHeartbeats 4000000
namespace Sf
open PySem PySem.Spec L2
open PyProof.Rows hiding St
/-! ### the pairs of a dict, gathered -/
section
variable {prog : Program} {w : World} {K : Type} [DecidableEq K] {knd : KeyKind prog w K} {A : Around} {E : Value → Shared → Prop} {s : Shared} {r d : Addr} {kvs : List (K × Value)} {ep : Nat}
theorem tuple_new_items (hn : kvs.length ≤ sizeLine) : MeetsIn prog w (Builtin.«tuple.__new__» ⟨[.type "tuple", .ref r], []⟩) (fun A R s => A.handled = none ∧ s.heap.IsItemsView r d ∧ s.heap.DictAt knd d kvs ep ∧
    ∀ (h' : Heap) (tk : Nat) (as : List Addr), (∀ b o, s.heap.get? b = some o → h'.get? b = some o) → as.length = kvs.length → PySem.W.KdxG knd kvs s.heap.objs.size h' as →
      R (.ok (.ret (.ref h'.objs.size))) { s with heap := h'.push { cls := .type "tuple", data := .seq (as.map Value.ref).toArray }, toks := tk }) := by
  refine .of_wp ?_
  rintro A R s ⟨hh, hv, hm, h⟩
  have z1 := sub_tuple_self
  have z2 := init_tuple_lookup
  have z3 := madeHere_tuple
  have hT : s.TypeIs (.ref r) "dict_items" := hv.typeIs
  have z4 : A.in1.handled = none := hh
  wp_walk using wpAny_typeOf hT, PySem.W.kdx_collect z4 hv hm hn
  intro h' tk as k1 k2 k3
  show wpAny _ _ (Builtin.Tuple.tupleExact (as.map Value.ref).toArray >>= fun v => ret v) _ _ _
  unfold Builtin.Tuple.tupleExact
  refine wpAny_bind (wpAny_newObj_type ?_ (by show (as.map Value.ref).toArray.size ≤ sizeLine; rw [List.size_toArray, List.length_map, k2]; exact hn))
  exact wpAny_pure ⟨_, rfl, h h' tk as k1 k2 k3⟩
theorem tuple_items {Q : Value → Shared → Prop} (hh : A.handled = none) (hv : s.heap.IsItemsView r d) (hm : s.heap.DictAt knd d kvs ep) (hn : kvs.length ≤ sizeLine)
    (h : ∀ (h' : Heap) (tk : Nat) (as : List Addr), (∀ b o, s.heap.get? b = some o → h'.get? b = some o) → as.length = kvs.length → PySem.W.KdxG knd kvs s.heap.objs.size h' as →
      Q (.ref h'.objs.size) { s with heap := h'.push { cls := .type "tuple", data := .seq (as.map Value.ref).toArray }, toks := tk }) :
    wpAny (model prog w) A (PySem.call (.type "tuple") [.ref r]) Q E s := by
  refine callType_newIn F.called_tuple (by decide) (F.typeCall_tuple_1 _) (F.newCall_tuple_1 _) (fun obj => F.args_object_init_2 obj _) F.entry_tuple_new (tuple_new_items (knd := knd) (d := d) (ep := ep) hn) ?_
  exact ⟨hh, hv, hm, fun h' tk as k1 k2 k3 => ⟨⟨_, Heap.get?_push_size _ rfl, rfl⟩, h h' tk as k1 k2 k3⟩⟩
end
section
variable {X : Cx} {G : Gam}
theorem StOk.grown {K : PySem.W.Frag} {H H2 : Hp} {m : Mu} {S : Store} (st : StOk K H m S) (kp : ∀ b o, H b = some o → H2 b = some o) : Ext m H m H2 ∧ StOk K H2 m S := by
  have e : Ext m H m H2 := ⟨rfl, ⟨[], by simp, fun _ h => nomatch h⟩, fun a o _ h => kp a o h, fun a ha => let ⟨o, ho⟩ := st.all a ha; ⟨o, kp a o ho⟩⟩
  refine ⟨e, st.keep e fun a ha => ?_⟩
  obtain ⟨o, ho⟩ := st.all a ha
  rw [ho, kp a o ho]
theorem pairs_rp {K : PySem.W.Frag} {H : Hp} {m : Mu} : ∀ {kvs : List (Str × D)} {l : List (PyData × PyData)} {ks : List (Key × V)} {ts : List Addr}, pyKv .str kvs = some l → KvD K H m kvs ks → Paired (fun (t : Addr) (q : Key × V) => H t = some (.tup [kV q.1, q.2]) ∧ t ∉ m) ts ks →
    RpAll K H m (l.map fun p => .tuple [p.1, p.2]) (ts.map V.ref)
  | [], l, _, _, e, h, t => by
    cases h
    cases e
    cases t
    exact .nil
  | (k, d) :: r, l, _, _, e, h, t => by
    cases h with
    | @cons _ y _ _ h1 h2 =>
      obtain ⟨i, v⟩ := y
      obtain ⟨rfl, h1⟩ := h1
      cases t with
      | cons t1 t2 =>
        cases d with
        | py d =>
          simp only [pyKv] at e
          cases q : pyKv PyData.str r with
          | none => rw [q] at e; cases e
          | some l2 =>
            rw [q] at e
            cases e
            exact .cons (.tup t1.1 t1.2 (.cons (.str k) (.cons h1 .nil))) (pairs_rp q h2 t2)
        | ref n => simp [pyKv] at e
        | scr n => simp [pyKv] at e
/-- pairs that were laid, one tuple each -/
theorem pairs_laid {pins : List (Addr × Obj)} {σ : L2.St} {H : Hp} {s : Shared} {h' : Heap} {tk : Nat} {kvs : List (Key × V)} {vs : List (Key × Value)} {as : List Addr} {lo : Addr} (I : Inv X pins σ H s) (kv : KV kvs vs) (hlo : s.heap.objs.size ≤ lo)
    (keep : ∀ b o, s.heap.get? b = some o → h'.get? b = some o) (hl : as.length = vs.length) (g : PySem.W.KdxG (mixKind X.prog X.w) vs lo h' as) :
    (∀ b o, H b = some o → LiI.putT H as kvs b = some o) ∧ (∀ t ∈ as, H t = none) ∧ Paired (fun (t : Addr) (q : Key × V) => LiI.putT H as kvs t = some (.tup [kV q.1, q.2])) as kvs ∧ Inv X pins σ (LiI.putT H as kvs) { s with heap := h', toks := tk } := by
  have lk : kvs.length = vs.length := Paired.length kv
  have above : ∀ t ∈ as, s.heap.objs.size ≤ t := fun t ht => Nat.le_of_lt (Nat.lt_of_le_of_lt hlo (g.above t ht))
  have fresh : ∀ t ∈ as, H t = none := fun t ht => I.hok.fresh (above t ht)
  have nd : as.Nodup := List.Pairwise.imp (fun {a b} (h : a < b) => Nat.ne_of_lt h) g.rise
  have pairs := LiI.putT_at as kvs H (by omega) nd
  have kp : ∀ b o, H b = some o → LiI.putT H as kvs b = some o := by
    intro b o e
    rw [LiI.putT_off as kvs H fun z => by rw [fresh b z] at e; cases e]
    exact e
  have old : ∀ b o, s.heap.get? b = some o → b ∉ as := fun b o e z => absurd (Heap.lt_size e) (Nat.not_lt.mpr (above b z))
  refine ⟨kp, fresh, pairs, ?_⟩
  refine I.call' (ch := []) rfl ⟨fun b o q _ _ _ => keep b o q, fun b o q _ _ _ => ⟨o.slots, keep b o q⟩, fun b o q n _ => ?_, fun b o q _ => ⟨o, keep b o q⟩, fun b xs q => kp b _ q, fun b o u q => kp b _ q, fun b ps q => ⟨#[], by rw [kp b _ q]; simp⟩⟩ (fun b u q => ?_) I.bare fun b z => by simp at z
  · rw [LiI.putT_off as kvs H (old b o q)]
    exact n
  · by_cases hb : b ∈ as
    · obtain ⟨j, pk, e1, e2, e3⟩ := LiI.paired_ix pairs hb
      rw [e3] at q
      cases q
      obtain ⟨key, k, x, f1, f2, f3⟩ := g.pairs j b e1
      obtain ⟨qv, g1, g2, g3⟩ := LiI.paired_get kv e2
      rw [f1] at g1
      cases g1
      refine ⟨by show 2 ≤ sizeLine; decide, [key, x], .cons ?_ (.cons g3 .nil), ⟨_, f3, rfl, _, rfl⟩⟩
      rw [g2]
      exact relV_key (show keyIs k key = true from f2)
    · rw [LiI.putT_off as kvs H hb] at q
      exact (I.hok b u q).stay (fun d v _ y => keep d v y) (fun d y => kp d _ y) fun d xs y => kp d _ y
/-- tuple(e.items()) -/
def tTupItems (te : TE) : TE := fun σ H Q => te σ H fun x H1 => ∃ (d : Addr) (kvs : List (Key × V)), x = .ref d ∧ H1 d = some (.dK kvs) ∧
  ∀ (H' : Hp) (p : Addr) (ts : List Addr), (∀ b o, H1 b = some o → H' b = some o) → H1 p = none → (∀ t ∈ ts, H1 t = none) → H' p = some (.tup (ts.map V.ref)) → Paired (fun (t : Addr) (q : Key × V) => H' t = some (.tup [kV q.1, q.2])) ts kvs → Q (.ref p) H'
theorem pe_tupItems {e : PySem.Expr} {te : TE} {p apos cpos pos : Pos} (hc : X.calm = true) (he : PE X e te) (hg : Gl X "tuple") (hm : X.mg "tuple" = none) (hv : bootBuiltins "tuple" = some (.type "tuple")) (hbase : attributeBase e "items" X.env (eval e X.env) = eval e X.env) (hline : (apos.endLine == cpos.line) = true)
    (hs : starEach [.Call (.Attribute e "items" apos) [] [] cpos] X.env = (false, eval (.Call (.Attribute e "items" apos) [] [] cpos) X.env) :: starEach [] X.env) :
    PE X (.Call (.Name "tuple" p) [.Call (.Attribute e "items" apos) [] [] cpos] [] pos) (tTupItems te) := by
  constructor
  intro pins s σ H Q I want
  refine wpAny_Call_Name_kw (ld_blt I hg hm hv ?_)
  refine PyProof.Rows.callWith_type1 ?_ hs rfl
  rw [hs]
  show wpAny _ _ (spliced ((false, eval (.Call (.Attribute e "items" apos) [] [] cpos) X.env) :: backTo pos (starEach [] X.env))) _ _ s
  refine Calls.spliced_cons ?_
  refine wpAny_Call_method (T := "dict") (id := "dict.items") hbase rfl hline F.plainAttrs_dict F.slot_dict_items F.type_dict_items (thn (he.run pins s σ H _ I want) ?_)
  rintro u s1 ⟨x, H1, I1, rx, d, kvs, rfl, hd, q⟩
  cases (show u = Value.ref d from rx)
  obtain ⟨hz, hs0, vs, kv, hdo⟩ := I1.hok d _ hd
  obtain ⟨ep, hat⟩ := hdo.dictAt
  have lk : kvs.length = vs.length := Paired.length kv
  refine ⟨hdo.typeIs, hdo.mapOf.noDict, ?_⟩
  show wpAny _ _ (callWith cpos (.builtin "dict.items") [.ref d] [] []) _ X.xe s1
  refine method_meetsIn F.slot_dict_items F.entry_dict_items rfl (PySem.evalArgs_none ⟨rfl, hdo.typeIs, F.args_dict_items_1 _, _, meets_dict_items (mixKind X.prog X.w) d hs0, ⟨vs, hdo⟩, ?_⟩)
  refine Calls.spliced_nil ?_
  have I2 : Inv X pins σ H1 { s1 with heap := s1.heap.push { cls := .type "dict_items", data := .fields #[.ref d] } } := I1.kept (t' := s1.toks) fun b ob q => Heap.get?_push_of_some _ q
  refine tuple_items (knd := mixKind X.prog X.w) (kvs := vs) (ep := ep) (I1.ok.hd hc) ⟨_, Heap.get?_push_size _ rfl, rfl, rfl⟩ (hat.push _) (by omega) ?_
  intro h' tk as k1 k2 k3
  obtain ⟨j1, j2, j3, J⟩ := pairs_laid (tk := tk) I2 kv (Nat.le_refl _) k1 k2 k3
  have np : LiI.putT H1 as kvs h'.objs.size = none := J.hok.fresh (Nat.le_refl _)
  have np1 : H1 h'.objs.size = none := by
    cases c : H1 h'.objs.size with
    | none => rfl
    | some o => rw [j1 _ _ c] at np; cases np
  refine ⟨.ref h'.objs.size, _, J.laid (a := h'.objs.size) (o := .tup (as.map V.ref)) (t' := tk) (fun b o e => Heap.get?_push_of_some _ e) (Nat.le_refl _) ⟨by rw [List.length_map]; omega, as.map Value.ref, LiI.vals_refs as, ⟨_, Heap.get?_push_size _ rfl, rfl, _, rfl⟩⟩, rfl, ?_⟩
  refine q _ _ as (fun b o e => ?_) np1 j2 upd_same ?_
  · rw [upd_ne (ne_of_none e np1)]
    exact j1 b o e
  · refine Paired.mono (fun t q e => ?_) j3
    rw [upd_ne (ne_of_none e np)]
    exact e
theorem pys_items (l : List (PyData × PyData)) : pys (l.map fun p => D.py (.tuple [p.1, p.2])) = some (l.map fun p => .tuple [p.1, p.2]) := by
  induction l with
  | nil => rfl
  | cons p l ih => simp [pys, ih]
theorem paired_with {A B : Type} {F : A → B → Prop} {g : A → Prop} : ∀ {xs : List A} {ys : List B}, (∀ x ∈ xs, g x) → Paired F xs ys → Paired (fun x y => F x y ∧ g x) xs ys
  | _, _, _, .nil => .nil
  | _, _, h, .cons r t => .cons ⟨r, h _ List.mem_cons_self⟩ (paired_with (fun x hx => h x (List.mem_cons_of_mem _ hx)) t)
theorem paired_with2 {A B : Type} {F F' : A → B → Prop} {g n : A → Prop} : ∀ {xs : List A} {ys : List B}, (∀ x ∈ xs, g x ∧ n x) → (∀ x y, F x y → n x → F' x y) → Paired F xs ys → Paired (fun x y => F' x y ∧ g x) xs ys
  | _, _, _, _, .nil => .nil
  | _, _, h, f, .cons r t => .cons ⟨f _ _ r (h _ List.mem_cons_self).2, (h _ List.mem_cons_self).1⟩ (paired_with2 (fun x hx => h x (List.mem_cons_of_mem _ hx)) f t)
/-- the value of e.items(), where it is gathered at once -/
theorem items_rd {K : PySem.W.Frag} {H : Hp} {m : Mu} {S : Store} {d : D} {v : V} {A : Type} {k : D → Store → R A} {Q : A → Store → Mu → Hp → Prop} {mu : Bool} (st : StOk K H m S) (rd : RpD K H m d v) (h : Fin K m H ((if recv .items S d then metD mu .items d [] S else .bad).bind k) Q) :
    ∃ a kvs ks l, v = .ref a ∧ H a = some (.dK ks) ∧ KvD K H m kvs ks ∧ pyKv .str kvs = some l ∧ Fin K m H (k (.py (.list (l.map fun p => .tuple [p.1, p.2]))) S) Q := by
  split at h
  · simp only [metD] at h
    cases q : view S d with
    | dS kvs =>
      simp only [q] at h
      cases q2 : pyKv PyData.str kvs with
      | none => rw [q2] at h; exact h.elim
      | some l =>
        rw [q2] at h
        obtain ⟨a, ks, rfl, h1, h2⟩ := viewS st rd q
        exact ⟨a, kvs, ks, l, rfl, h1, h2, q2, h⟩
    | _ => simp only [q] at h; exact h.elim
  · exact h.elim
theorem se_tupItems {mu mu2 : Bool} {e : PySem.Expr} {c : CE} {p apos cpos pos : Pos} (hc : X.calm = true) (he : PE X e (rdE X.K G c)) (hg : Gl X "tuple") (hm : X.mg "tuple" = none) (hbase : attributeBase e "items" X.env (eval e X.env) = eval e X.env) (hline : (apos.endLine == cpos.line) = true)
    (hs : starEach [.Call (.Attribute e "items" apos) [] [] cpos] X.env = (false, eval (.Call (.Attribute e "items" apos) [] [] cpos) X.env) :: starEach [] X.env) :
    PE X (.Call (.Name "tuple" p) [.Call (.Attribute e "items" apos) [] [] cpos] [] pos) (rdE X.K G (.blt mu .tuple (.cons (.met mu2 .items c .nil) .nil))) :=
  (pe_tupItems hc he hg hm (by rfl) hbase hline hs).mono fun σ H Q ⟨m, r, S, lo, st, h⟩ => by
    have h : Fin X.K m H ((((evE G c r S).bind fun x S1 => if recv .items S1 x then metD mu2 .items x [] S1 else .bad).bind fun d S1 => .ok [d] S1).bind fun ds S1 => bltD mu .tuple ds S1) (ValQ X.K Q) := by
      simp only [evE, evEs, R.bind_ok] at h
      exact h
    obtain ⟨ds, S2, q1, h⟩ := h.okR
    obtain ⟨d, S3, q2, q3⟩ := R.ok_of q1
    cases q3
    obtain ⟨x, S1, q4, q5⟩ := R.ok_of q2
    refine ⟨m, r, S, lo, st, ?_⟩
    rw [q4]
    intro m1 H1 e1 s1 v rv
    have h' : Fin X.K m1 H1 ((if recv .items S1 x then metD mu2 .items x [] S1 else .bad).bind fun d S => bltD mu .tuple [d] S) (ValQ X.K Q) := by
      rw [q5]
      exact h.ext e1
    obtain ⟨a, kvs, ks, l, rfl, z1, z2, z3, z4⟩ := items_rd s1 rv h'
    refine ⟨a, ks, rfl, z1, fun H' p ts k1 k2 k3 k4 k5 => ?_⟩
    obtain ⟨e2, s2⟩ := s1.grown k1
    have rp : RpAll X.K H' m1 (l.map fun p => .tuple [p.1, p.2]) (ts.map V.ref) := pairs_rp z3 (KvD.ext e2 z2) (paired_with (fun t ht => s1.out (k3 t ht)) k5)
    simp only [bltD, itemsD, view, mkTup, List.length_map] at z4
    split at z4
    · have hp : pys (l.map fun p => D.py (.tuple [p.1, p.2])) = some (l.map fun p => .tuple [p.1, p.2]) := pys_items _
      rw [List.map_map] at z4
      have z4' : Fin X.K m1 H1 (match pys (l.map fun p => D.py (.tuple [p.1, p.2])) with
        | some l => .ok (.py (.tuple l)) S1
        | none => .bad) (ValQ X.K Q) := z4
      rw [hp] at z4'
      exact z4' m1 H' e2 s2 _ (.tup k4 (s1.out k2) rp)
    · exact z4.elim
theorem se_listItems {mu mu2 : Bool} {e : PySem.Expr} {c : CE} {p apos cpos pos : Pos} (hc : X.calm = true) (he : PE X e (rdE X.K G c)) (hg : Gl X "list") (hm : X.mg "list" = none) (hbase : attributeBase e "items" X.env (eval e X.env) = eval e X.env) (hline : (apos.endLine == cpos.line) = true)
    (hs : starEach [.Call (.Attribute e "items" apos) [] [] cpos] X.env = (false, eval (.Call (.Attribute e "items" apos) [] [] cpos) X.env) :: starEach [] X.env) :
    PE X (.Call (.Name "list" p) [.Call (.Attribute e "items" apos) [] [] cpos] [] pos) (rdE X.K G (.blt mu .list (.cons (.met mu2 .items c .nil) .nil))) :=
  (LiI.pe_listItems hc he hg hm (by rfl) hbase hline hs).mono fun σ H Q ⟨m, r, S, lo, st, h⟩ => by
    have h : Fin X.K m H ((((evE G c r S).bind fun x S1 => if recv .items S1 x then metD mu2 .items x [] S1 else .bad).bind fun d S1 => .ok [d] S1).bind fun ds S1 => bltD mu .list ds S1) (ValQ X.K Q) := by
      simp only [evE, evEs, R.bind_ok] at h
      exact h
    obtain ⟨ds, S2, q1, h⟩ := h.okR
    obtain ⟨d, S3, q2, q3⟩ := R.ok_of q1
    cases q3
    obtain ⟨x, S1, q4, q5⟩ := R.ok_of q2
    refine ⟨m, r, S, lo, st, ?_⟩
    rw [q4]
    intro m1 H1 e1 s1 v rv
    have h' : Fin X.K m1 H1 ((if recv .items S1 x then metD mu2 .items x [] S1 else .bad).bind fun d S => bltD mu .list [d] S) (ValQ X.K Q) := by
      rw [q5]
      exact h.ext e1
    obtain ⟨a, kvs, ks, l, rfl, z1, z2, z3, z4⟩ := items_rd s1 rv h'
    refine ⟨a, ks, rfl, z1, fun H' p ts k1 k2 k3 k6 k4 k5 => ?_⟩
    have z4 : Fin X.K m1 H1 (mkLst mu ((l.map fun p => PyData.tuple [p.1, p.2]).map .py) S1) (ValQ X.K Q) := z4
    cases mu with
    | false =>
      obtain ⟨e2, s2⟩ := s1.grown k1
      have rp : RpAll X.K H' m1 (l.map fun p => .tuple [p.1, p.2]) (ts.map V.ref) := pairs_rp z3 (KvD.ext e2 z2) (paired_with (fun t ht => s1.out (k3 t ht)) k5)
      unfold mkLst at z4
      split at z4
      · rw [List.map_map] at z4
        have hp : pys (l.map fun p => D.py (.tuple [p.1, p.2])) = some (l.map fun p => .tuple [p.1, p.2]) := pys_items _
        have z4' : Fin X.K m1 H1 (match pys (l.map fun p => D.py (.tuple [p.1, p.2])) with
          | some l => .ok (.py (.list l)) S1
          | none => .bad) (ValQ X.K Q) := z4
        rw [hp] at z4'
        exact z4' m1 H' e2 s2 _ (.lst k4 (s1.out k2) rp)
      · exact z4.elim
    | true =>
      -- all but the new list, then the list
      have hoff : ∀ b o, H1 b = some o → (fun b => if b = p then none else H' b) b = some o := fun b o e => by
        show (if b = p then none else H' b) = some o
        rw [if_neg (ne_of_none e k2)]
        exact k1 b o e
      obtain ⟨e2, s2⟩ := s1.grown hoff
      have hp0 : (fun b => if b = p then none else H' b) p = none := by
        show (if p = p then none else H' p) = none
        rw [if_pos rfl]
      have eH : upd (fun b => if b = p then none else H' b) p (.lst (ts.map V.ref)) = H' := by
        funext b
        by_cases hb : b = p
        · rw [hb, upd_same, k4]
        · rw [upd_ne hb]
          show (if b = p then none else H' b) = H' b
          rw [if_neg hb]
      have k5' : Paired (fun (t : Addr) (q : Key × V) => (fun b => if b = p then none else H' b) t = some (.tup [kV q.1, q.2]) ∧ t ∉ m1) ts ks := by
        refine paired_with2 (n := fun t => ¬ t = p) (fun t ht => ⟨s1.out (k3 t ht), fun e => k6 (e ▸ ht)⟩) ?_ k5
        intro t q h1 h2
        show (if t = p then none else H' t) = _
        rw [if_neg h2]
        exact h1
      have rp : RpAll X.K _ m1 (l.map fun p => .tuple [p.1, p.2]) (ts.map V.ref) := pairs_rp z3 (KvD.ext e2 z2) k5'
      have := (mkLst_ok (Q := Q) s2 rp.ds (z4.ext e2)).2 p hp0
      rw [eH] at this
      exact this
end
end Sf
end
section
set_option maxRecDepth 100000
set_option maxHeartbeats 4000000
namespace Sf
open PySem PySem.Spec L2
open PyProof.Rows hiding St

/-! ### short words: one for each form of the text -/
def StrG (mg : Str → Option Value) (x : Str) (z : Str) : Prop := ∃ t, mg x = some (.str z t)
def IntG (mg : Str → Option Value) (x : Str) (i : Int) : Prop := ∃ t, mg x = some (.int i t)
section
variable {X : Cx} {G : Gam} {F : Nat}
theorem qv {i : Nat} {x : Str} {pos : Pos} (hN : X.N[i]? = some x := by rfl) (hv : Vis X.env.scope x := by first | exact Or.inl rfl | exact Or.inr (Or.inl rfl) | exact Or.inr (Or.inr rfl)) (hd : (x == ("__debug__" : Str)) = false := by decide) (hc : (x == ("__classdict__" : Str)) = false := by decide) :
    PE X (.Name x pos) (rdE X.K G (.loc i)) := se_loc hN hv hd hc
theorem qi {i : Int} {j : Nat} {pos : Pos} : PE X (.Constant (.int i) j pos) (rdE X.K G (.con (.int i))) := se_con pe_int fun _ _ => .int i
theorem qs {z : Str} {j : Nat} {pos : Pos} : PE X (.Constant (.str z) j pos) (rdE X.K G (.con (.str z))) := se_con pe_str fun _ _ => .str z
theorem qb {b : Bool} {j : Nat} {pos : Pos} : PE X (.Constant (.bool b) j pos) (rdE X.K G (.con (.bool b))) := se_con pe_bl fun _ _ => .bl b
theorem qn {j : Nat} {pos : Pos} : PE X (.Constant .none j pos) (rdE X.K G (.con .none)) := se_con pe_non fun _ _ => .non
theorem qgS {x y z : Str} {pos : Pos} (h : StrG X.mg x z) (hg : Gl X x := by rfl) (hd : (x == ("__debug__" : Str)) = false := by decide) : PE X (.Name x pos) (rdE X.K G (.glo y (.str z))) := by
  obtain ⟨t, h⟩ := h
  exact se_glo (pe_glob (v := .str z) hg h ⟨t, rfl⟩ hd) fun _ _ => .str z
theorem qgI {x y : Str} {i : Int} {pos : Pos} (h : IntG X.mg x i) (hg : Gl X x := by rfl) (hd : (x == ("__debug__" : Str)) = false := by decide) : PE X (.Name x pos) (rdE X.K G (.glo y (.int i))) := by
  obtain ⟨t, h⟩ := h
  exact se_glo (pe_glob (v := .int i) hg h ⟨t, rfl⟩ hd) fun _ _ => .int i
theorem qa {e : PySem.Expr} {es : List PySem.Expr} {c : CE} {cs : CEs} (ha : PE X e (rdE X.K G c)) (hr : PA X es (rdA X.K G cs)) (hs : starEach (e :: es) X.env = (false, eval e X.env) :: starEach es X.env := by rfl) : PA X (e :: es) (rdA X.K G (.cons c cs)) := sa_cons ha hr hs
theorem qcmp {o : Cop} {a b : PySem.Expr} {c d : CE} {pos : Pos} (hu : X.A.units + 64 < cLine) (ha : PE X a (rdE X.K G c)) (hb : PE X b (rdE X.K G d)) (hm : behindInMarks (copOf o) b = false := by rfl) : PE X (.Compare a [copOf o] [b] pos) (rdE X.K G (.cmp o c d)) := se_cmp hu ha hb hm
theorem tcmp {o : Cop} {a b : PySem.Expr} {c d : CE} {pos : Pos} (hu : X.A.units + 64 < cLine) (ha : PE X a (rdE X.K G c)) (hb : PE X b (rdE X.K G d)) (hm : behindInMarks (copOf o) b = false := by rfl) : PT X (.Compare a [copOf o] [b] pos) (rdT X.K G (.cmp o c d)) := st_cmp hu ha hb hm
theorem qcmp2 {o p : Cop} {a b e : PySem.Expr} {c d f : CE} {pos : Pos} (hu : X.A.units + 64 < cLine) (ha : PE X a (rdE X.K G c)) (hb : PE X b (rdE X.K G d)) (he : PE X e (rdE X.K G f)) (hm : lastMarks [copOf o, copOf p] [b, e] = false := by rfl) :
    PE X (.Compare a [copOf o, copOf p] [b, e] pos) (rdE X.K G (.cmp2 o p c d f)) := se_cmp2 hu ha hb he hm
theorem tcmp2 {o p : Cop} {a b e : PySem.Expr} {c d f : CE} {pos : Pos} (hu : X.A.units + 64 < cLine) (ha : PE X a (rdE X.K G c)) (hb : PE X b (rdE X.K G d)) (he : PE X e (rdE X.K G f)) (hm : lastMarks [copOf o, copOf p] [b, e] = false := by rfl) :
    PT X (.Compare a [copOf o, copOf p] [b, e] pos) (rdT X.K G (.cmp2 o p c d f)) := st_cmp2 hu ha hb he hm
theorem tv {a : PySem.Expr} {c : CE} (ha : PE X a (rdE X.K G c)) (he : ∀ whole, isTrue a X.env whole = (do let v ← whole; standAt a.pos; holding [v] (truthy v)) := by intro _; rfl) : PT X a (rdT X.K G c) := st_val ha he
theorem qidx {a b : PySem.Expr} {c d : CE} {pos : Pos} (hu : X.A.units + 64 < cLine) (ha : PE X a (rdE X.K G c)) (hb : PE X b (rdE X.K G d)) (hs : PlainIx b := by intro _ _; rfl) : PE X (.Subscript a b pos) (rdE X.K G (.idx c d)) := se_idx (by omega) ha hb hs
theorem qcall {k : Nat} {f : Str} {ps : List Str} {mu : Bool} {p pos : Pos} {e : PySem.Expr} {es : List PySem.Expr} {cs : CEs} (C : CallOk X.prog X.w X.K X.mg X.base k G f ps) (hr : Room k X.A) (hg : X.A.guards = some []) (ha : PA X (e :: es) (rdA X.K G cs)) (hgl : Gl X f := by rfl)
    (hn : cs.len = ps.length := by rfl) (hdb : (f == ("__debug__" : Str)) = false := by decide) (he : starEach (e :: es) X.env = (false, eval e X.env) :: starEach es X.env := by rfl) (hpl : (backTo pos (starEach es X.env)).any (·.1) = false := by rfl) :
    PE X (.Call (.Name f p) (e :: es) [] pos) (rdE X.K G (.call mu f cs)) := se_call C hr hg hgl ha (fun r S ds S' q => (evEs_len cs r S ds S' q).trans hn) hdb he hpl
theorem qcall0 {k : Nat} {f : Str} {mu : Bool} {p pos : Pos} (C : CallOk X.prog X.w X.K X.mg X.base k G f []) (hr : Room k X.A) (hg : X.A.guards = some []) (hgl : Gl X f := by rfl) (hdb : (f == ("__debug__" : Str)) = false := by decide) : PE X (.Call (.Name f p) [] [] pos) (rdE X.K G (.call mu f .nil)) := se_call0 C hr hg hgl hdb
theorem qblt {mu : Bool} {b : Blt} {e : PySem.Expr} {es : List PySem.Expr} {cs : CEs} {p pos : Pos} (hm : X.mg b.name = none) (ha : PA X (e :: es) (rdA X.K G cs)) (hon : b.on = true := by rfl) (hc : X.calm = true := by rfl) (hg : Gl X b.name := by rfl)
    (he : starEach (e :: es) X.env = (false, eval e X.env) :: starEach es X.env := by rfl) (hpl : (backTo pos (starEach es X.env)).any (·.1) = false := by rfl) : PE X (.Call (.Name b.name p) (e :: es) [] pos) (rdE X.K G (.blt mu b cs)) := se_blt hc hon hg hm ha he hpl
theorem qisi {T : Ty} {e : PySem.Expr} {c : CE} {p p2 pos : Pos} (hm : X.mg "isinstance" = none) (hm2 : X.mg (Str.ofString T.name) = none) (he : PE X e (rdE X.K G c)) (hg : Gl X "isinstance" := by rfl) (hg2 : Gl X (Str.ofString T.name) := by rfl)
    (hs : starEach (e :: [.Name (Str.ofString T.name) p2]) X.env = (false, eval e X.env) :: starEach [.Name (Str.ofString T.name) p2] X.env := by rfl) (hs2 : starEach [.Name (Str.ofString T.name) p2] X.env = (false, eval (.Name (Str.ofString T.name) p2) X.env) :: starEach [] X.env := by rfl)
    (hpl : (backTo pos (starEach [.Name (Str.ofString T.name) p2] X.env)).any (·.1) = false := by rfl) : PE X (.Call (.Name "isinstance" p) [e, .Name (Str.ofString T.name) p2] [] pos) (rdE X.K G (.isi c T)) := se_isi he hg hm hg2 hm2 hs hs2 hpl
theorem qapp {mu : Bool} {o e : PySem.Expr} {co ce : CE} {apos cpos : Pos} (ho : PE X o (rdE X.K G co)) (he : PE X e (rdE X.K G ce)) (hbase : attributeBase o "append" X.env (eval o X.env) = eval o X.env := by rfl) (hline : (apos.endLine == cpos.line) = true := by rfl)
    (hfew : ((backTo cpos (starEach [e] X.env)).all (fun x => !x.1) && (backToKw cpos (keywordEach [] X.env)).all (fun x => x.1.isSome) && decide ([e].length + ([] : List Keyword).length + (if ([] : List Keyword).isEmpty then 0 else 1) < 30)) = true := by rfl)
    (hs : starEach [e] X.env = (false, eval e X.env) :: starEach [] X.env := by rfl) : PE X (.Call (.Attribute o "append" apos) [e] [] cpos) (rdE X.K G (.met mu .append co (.cons ce .nil))) := se_append ho he hbase hline hfew hs
/-! targets -/
theorem g1 {i : Nat} {x : Str} {pos : Pos} (hN : X.N.Nodup) (hi : X.N[i]? = some x := by rfl) (hx : Loc X.env.scope x := by first | exact Or.inl rfl | exact Or.inr rfl) (hf : X.fn x = true ∨ X.env.scope.names.lookup x = some .local := by first | exact Or.inl rfl | exact Or.inr rfl) :
    PG X (.Name x pos) (gT X.K (.one i)) := sg_one (pg_name hN hi hx hf)
/-- names, one behind the other -/
theorem gs0 : PGs X [] (gsOf []) := pgs_nil
theorem gs1 {i : Nat} {is : List Nat} {x : Str} {pos : Pos} {es : List PySem.Expr} (hN : X.N.Nodup) (hr : PGs X es (gsOf is)) (hi : X.N[i]? = some x := by rfl) (hx : Loc X.env.scope x := by first | exact Or.inl rfl | exact Or.inr rfl)
    (hf : X.fn x = true ∨ X.env.scope.names.lookup x = some .local := by first | exact Or.inl rfl | exact Or.inr rfl) (hs : (assignEach (.Name x pos :: es) X.env).map (·.2) = assign (.Name x pos) X.env :: (assignEach es X.env).map (·.2) := by rfl) :
    PGs X (.Name x pos :: es) (gsOf (i :: is)) := pgs_cons (pg_name hN hi hx hf) hr hs
theorem gT1 {is : List Nat} {es : List PySem.Expr} {k : Nat} {pos : Pos} (h : PGs X es (gsOf is)) (hc : X.calm = true := by rfl) (hn : (assignEach es X.env).length = is.length := by rfl) (hst : (assignEach es X.env).findIdx? (·.1) = none := by rfl) : PG X (.Tuple es k pos) (gTup X.K is.length (gsOf is)) := pg_tup hc h hn hst
theorem gm {is : List Nat} {es : List PySem.Expr} {k : Nat} {pos : Pos} (h : PGs X es (gsOf is)) (hc : X.calm = true := by rfl) (hn : (assignEach es X.env).length = is.length := by rfl) (hst : (assignEach es X.env).findIdx? (·.1) = none := by rfl) : PG X (.Tuple es k pos) (gT X.K (.many is)) := sg_many (gT1 h hc hn hst)
/-! statements -/
theorem xe {e : PySem.Expr} {c : CE} {pos : Pos} (he : PE X e (rdE X.K G c)) (hs : swapsWith e none pos.line X.env = pure false := by rfl) : PS X (.Expr e pos) (rdS X.K G F (.exp c)) := sx_exp he hs
theorem xa {i : Nat} {x : Str} {e : PySem.Expr} {c : CE} {pos pos' : Pos} (hN : X.N.Nodup) (he : PE X e (rdE X.K G c)) (hi : X.N[i]? = some x := by rfl) (hx : Loc X.env.scope x := by first | exact Or.inl rfl | exact Or.inr rfl) (hs : swapsWith e (some (.Name x pos')) pos.line X.env = pure false := by rfl)
    (hf : X.fn x = true ∨ X.env.scope.names.lookup x = some .local := by first | exact Or.inl rfl | exact Or.inr rfl) : PS X (.Assign [.Name x pos'] e pos) (rdS X.K G F (.asg i c)) := sx_asg hN hi hx he hs hf
theorem xu {is : List Nat} {e tg : PySem.Expr} {c : CE} {pos : Pos} (hg : PG X tg (gT X.K (.many is))) (he : PE X e (rdE X.K G c)) (hs : swapsWithSole [tg] e pos.line X.env = pure false := by rfl) (hw : swappedStores [tg] e X.env = pure none := by rfl)
    (h1 : (assignEach [tg] X.env).map (·.2) = [assign tg X.env] := by rfl) : PS X (.Assign [tg] e pos) (rdS X.K G F (.unp is c)) := sx_unp he hg hs hw h1
theorem xpT {is : List Nat} {es : List PySem.Expr} {tg : PySem.Expr} {cs : CEs} {pos pt : Pos} {k : Nat} (hg : PG X tg (gTup X.K is.length (gsOf is))) (ha : PA X es (rdA X.K G cs)) (hs : swapsWithSole [tg] (.Tuple es k pt) pos.line X.env = pure false := by rfl)
    (hw : swappedStores [tg] (.Tuple es k pt) X.env = pure none := by rfl) (h1 : (assignEach [tg] X.env).map (·.2) = [assign tg X.env] := by rfl) (hfew : is.length < 1000 := by decide) : PS X (.Assign [tg] (.Tuple es k pt) pos) (rdS X.K G F (.par is cs)) := sx_parT ha hg hs hw h1 hfew
theorem xp2 {i j : Nat} {x y : Str} {a b : PySem.Expr} {cs : CEs} {px py pt pos : Pos} {kt k2 : Nat} {pt2 : Pos} (hN : X.N.Nodup) (ha : PA X [a, b] (rdA X.K G cs)) (hc : X.calm = true := by rfl) (hi : X.N[i]? = some x := by rfl) (hj : X.N[j]? = some y := by rfl) (hij : i ≠ j := by decide)
    (hx : X.env.scope.names.lookup x = some .local := by rfl) (hy : X.env.scope.names.lookup y = some .local := by rfl) (hw : swappedStores [.Tuple [.Name x px, .Name y py] kt pt] (.Tuple [a, b] k2 pt2) X.env = pure (some [x, y]) := by rfl)
    (hs : swapsWithSole [.Tuple [.Name x px, .Name y py] kt pt] (.Tuple [a, b] k2 pt2) pos.line X.env = pure false := by rfl) : PS X (.Assign [.Tuple [.Name x px, .Name y py] kt pt] (.Tuple [a, b] k2 pt2) pos) (rdS X.K G F (.par [i, j] cs)) := sx_par2 hc hN hi hj hij hx hy ha hw hs
theorem xp3 {i j l : Nat} {x y z : Str} {a b c : PySem.Expr} {cs : CEs} {px py pz pt pos : Pos} {kt k2 : Nat} {pt2 : Pos} (hN : X.N.Nodup) (ha : PA X [a, b, c] (rdA X.K G cs)) (hc : X.calm = true := by rfl) (hi : X.N[i]? = some x := by rfl) (hj : X.N[j]? = some y := by rfl) (hl : X.N[l]? = some z := by rfl)
    (hij : i ≠ j := by decide) (hil : i ≠ l := by decide) (hjl : j ≠ l := by decide) (hx : X.env.scope.names.lookup x = some .local := by rfl) (hy : X.env.scope.names.lookup y = some .local := by rfl) (hz : X.env.scope.names.lookup z = some .local := by rfl)
    (hw : swappedStores [.Tuple [.Name x px, .Name y py, .Name z pz] kt pt] (.Tuple [a, b, c] k2 pt2) X.env = pure (some [x, y, z]) := by rfl)
    (hs : swapsWithSole [.Tuple [.Name x px, .Name y py, .Name z pz] kt pt] (.Tuple [a, b, c] k2 pt2) pos.line X.env = pure false := by rfl) :
    PS X (.Assign [.Tuple [.Name x px, .Name y py, .Name z pz] kt pt] (.Tuple [a, b, c] k2 pt2) pos) (rdS X.K G F (.par [i, j, l] cs)) := sx_par3 hc hN hi hj hl hij hil hjl hx hy hz ha hw hs
theorem xg {i : Nat} {x : Str} {e : PySem.Expr} {c : CE} {pos pos' : Pos} (hN : X.N.Nodup) (he : PE X e (rdE X.K G c)) (hi : X.N[i]? = some x := by rfl) (hx : Loc X.env.scope x := by first | exact Or.inl rfl | exact Or.inr rfl) (hf : X.fn x = true ∨ X.env.scope.names.lookup x = some .local := by first | exact Or.inl rfl | exact Or.inr rfl) :
    PS X (.AugAssign (.Name x pos') .Add e pos) (rdS X.K G F (.aug i .add c)) := sx_aug hN hi hx he hf
theorem xsub {o i e : PySem.Expr} {co ci c : CE} {pos pos' : Pos} (hu : X.A.units + 64 < cLine) (ho : PE X o (rdE X.K G co)) (hi : PE X i (rdE X.K G ci)) (he : PE X e (rdE X.K G c))
    (ha : ∀ v, assign (.Subscript o i pos') X.env v = (do
      let ov ← holding [v] (eval o X.env)
      let iv ← holding [v, ov] (eval i X.env)
      standAt pos'
      holding [v, ov, iv] (setItem ov iv v)
      release [v, ov, iv] []) := by intro _; rfl) (hs : swapsWithSole [.Subscript o i pos'] e pos.line X.env = pure false := by rfl) (hw : swappedStores [.Subscript o i pos'] e X.env = pure none := by rfl)
    (h1 : (assignEach [.Subscript o i pos'] X.env).map (·.2) = [assign (.Subscript o i pos') X.env] := by rfl) : PS X (.Assign [.Subscript o i pos'] e pos) (rdS X.K G F (.sub co ci c)) := sx_sub (by omega) ho hi he ha hs hw h1
theorem xfor {tg it : PySem.Expr} {b : List PySem.Stmt} {t : Tg} {ci : CI} {cb : CSs} {pos : Pos} (hi : PI X tg it (rdI X.K G ci)) (hg : PG X tg (gT X.K t)) (hb : PSs X b (rdSs X.K G F cb)) (hp : PassesOwn (model X.prog X.w) X.A X.env X.xe := by exact PassesOwn.never) (hc : X.calm = true := by rfl)
    (hs : ∀ x, foldedSetIterable it X.env x = pure x := by intro _; rfl) : PS X (.For tg it b [] pos) (rdS X.K G F (.loop t ci cb)) := sx_loop hp hc hi hg hb hs
theorem xwh {t : PySem.Expr} {b : List PySem.Stmt} {c : CE} {cb : CSs} {pos : Pos} (ht : PT X t (rdT X.K G c)) (hb : PSs X b (rdSs X.K G F cb)) (hp : PassesOwn (model X.prog X.w) X.A X.env X.xe := by exact PassesOwn.never) : PS X (.While t b [] pos) (rdS X.K G F (.whl c cb)) := sx_whl hp ht hb
/-! walks -/
theorem ir1 {tg a : PySem.Expr} {c : CE} {p pos : Pos} (hm : X.mg "range" = none) (ha : PE X a (rdE X.K G c)) (hg : Gl X "range" := by rfl) (hs : starEach [a] X.env = [(false, eval a X.env)] := by rfl) : PI X tg (.Call (.Name "range" p) [a] [] pos) (rdI X.K G (.rng1 c)) := si_rng1 hg hm ha hs
theorem ir2 {tg a b : PySem.Expr} {c d : CE} {p pos : Pos} (hm : X.mg "range" = none) (ha : PE X a (rdE X.K G c)) (hb : PE X b (rdE X.K G d)) (hg : Gl X "range" := by rfl) (hs : starEach [a, b] X.env = [(false, eval a X.env), (false, eval b X.env)] := by rfl) (hs2 : starEach [b] X.env = [(false, eval b X.env)] := by rfl) :
    PI X tg (.Call (.Name "range" p) [a, b] [] pos) (rdI X.K G (.rng2 c d)) := si_rng2 hg hm ha hb hs hs2
theorem ien {e : PySem.Expr} {c : CE} {p pos tpos : Pos} {elts : List PySem.Expr} {kk : Nat} (hm : X.mg "enumerate" = none) (he : PE X e (rdE X.K G c)) (hg : Gl X "enumerate" := by rfl) (hs : starEach [e] X.env = [(false, eval e X.env)] := by rfl) :
    PI X (.Tuple elts kk tpos) (.Call (.Name "enumerate" p) [e] [] pos) (rdI X.K G (.enu c)) := si_enu hg hm he hs
/-! comprehensions -/
abbrev Blk (X : Cx) (scope : Scope) (p : Cx → Prop) : Prop := ∀ (s : Shared) (H : Hp) (C : Addr) (cl : List (Str × Addr)) (fp : List Addr), p (X.blk s H scope (compEnvC scope cl C X.env) fp)
theorem qlc {mu : Bool} {celt : CE} (own : List (Str × Nat)) {is : List Nat} {t : Tg} {ci : CI} {c : CO} {elt tg iter : PySem.Expr} {ifs : List PySem.Expr} {scope : Scope} {pos : Pos} (hN : X.N.Nodup) (hi : PI X tg iter (rdI X.K G ci))
    (hg : Blk X scope fun Y => PG Y tg (gT X.K t)) (ht : Blk X scope fun Y => PTs Y ifs (rdC X.K G c)) (he : Blk X scope fun Y => PE Y elt (rdE X.K G celt)) (his : own.map (·.2) = is := by rfl) (hto : ∀ i ∈ t.slots, i ∈ own.map (·.2) := by decide) (hc : X.calm = true := by rfl)
    (ok : blkC X.N X.env.scope scope own = true := by rfl) (hs : ∀ x, foldedSetIterable iter X.env x = pure x := by intro _; rfl) :
    PE X (.ListComp elt [⟨tg, iter, ifs, 0⟩] scope pos) (rdE X.K G (.lc mu celt is t ci c)) := by
  subst his
  exact se_lc hto hc hN hi (blkOk_by ok) hg ht he hs
theorem xlc {mu : Bool} {i : Nat} {y : Str} {py spos : Pos} {celt : CE} (own : List (Str × Nat)) {is : List Nat} {t : Tg} {ci : CI} {c : CO} {elt tg iter : PySem.Expr} {ifs : List PySem.Expr} {scope : Scope} {pos : Pos} (hN : X.N.Nodup) (hi : PI X tg iter (rdI X.K G ci))
    (hg : Blk X scope fun Y => PG Y tg (gT X.K t)) (ht : Blk X scope fun Y => PTs Y ifs (rdC X.K G c)) (he : Blk X scope fun Y => PE Y elt (rdE X.K G celt)) (his : own.map (·.2) = is := by rfl) (hto : ∀ i ∈ t.slots, i ∈ own.map (·.2) := by decide) (hc : X.calm = true := by rfl)
    (hy : X.N[i]? = some y := by rfl) (hyl : X.env.scope.names.lookup y = some .local := by rfl) (hsw : swapsWith (.ListComp elt [⟨tg, iter, ifs, 0⟩] scope pos) (some (.Name y py)) spos.line X.env = pure true := by rfl)
    (ok : blkC X.N X.env.scope scope own = true := by rfl) (hs : ∀ x, foldedSetIterable iter X.env x = pure x := by intro _; rfl) :
    PS X (.Assign [.Name y py] (.ListComp elt [⟨tg, iter, ifs, 0⟩] scope pos) spos) (rdS X.K G F (.asg i (.lc mu celt is t ci c))) := by
  subst his
  exact sx_asgLc hto hc hN hy hyl hsw hi (blkOk_by ok) hg ht he hs
theorem qdc {mu : Bool} {ck cv : CE} (own : List (Str × Nat)) {is : List Nat} {t : Tg} {ci : CI} {c : CO} {kx vx tg iter : PySem.Expr} {ifs : List PySem.Expr} {scope : Scope} {pos : Pos} (hN : X.N.Nodup) (hi : PI X tg iter (rdI X.K G ci))
    (hg : Blk X scope fun Y => PG Y tg (gT X.K t)) (ht : Blk X scope fun Y => PTs Y ifs (rdC X.K G c)) (hk : Blk X scope fun Y => PE Y kx (rdE X.K G ck)) (he : Blk X scope fun Y => PE Y vx (rdE X.K G cv)) (his : own.map (·.2) = is := by rfl) (hto : ∀ i ∈ t.slots, i ∈ own.map (·.2) := by decide) (hc : X.calm = true := by rfl)
    (ok : blkC X.N X.env.scope scope own = true := by rfl) (hs : ∀ x, foldedSetIterable iter X.env x = pure x := by intro _; rfl) :
    PE X (.DictComp kx vx [⟨tg, iter, ifs, 0⟩] scope pos) (rdE X.K G (.dc mu ck cv is t ci c)) := by
  subst his
  exact se_dc hto hc hN hi (blkOk_by ok) hg ht hk he hs
theorem xdc {mu : Bool} {i : Nat} {y : Str} {py spos pos : Pos} {ck cv : CE} (own : List (Str × Nat)) {is : List Nat} {t : Tg} {ci : CI} {c : CO} {kx vx tg iter : PySem.Expr} {ifs : List PySem.Expr} {scope : Scope} (hN : X.N.Nodup) (hi : PI X tg iter (rdI X.K G ci))
    (hg : Blk X scope fun Y => PG Y tg (gT X.K t)) (ht : Blk X scope fun Y => PTs Y ifs (rdC X.K G c)) (hk : Blk X scope fun Y => PE Y kx (rdE X.K G ck)) (he : Blk X scope fun Y => PE Y vx (rdE X.K G cv)) (his : own.map (·.2) = is := by rfl) (hto : ∀ i ∈ t.slots, i ∈ own.map (·.2) := by decide) (hc : X.calm = true := by rfl)
    (hy : X.N[i]? = some y := by rfl) (hyl : X.env.scope.names.lookup y = some .local := by rfl) (hsw : swapsWith (.DictComp kx vx [⟨tg, iter, ifs, 0⟩] scope pos) (some (.Name y py)) spos.line X.env = pure true := by rfl)
    (ok : blkC X.N X.env.scope scope own = true := by rfl) (hs : ∀ x, foldedSetIterable iter X.env x = pure x := by intro _; rfl) :
    PS X (.Assign [.Name y py] (.DictComp kx vx [⟨tg, iter, ifs, 0⟩] scope pos) spos) (rdS X.K G F (.asg i (.dc mu ck cv is t ci c))) := by
  subst his
  exact sx_asgDc hto hc hN hy hyl hsw hi (blkOk_by ok) hg ht hk he hs
theorem qdic {mu : Bool} {es : CEs} {keys : List (Option PySem.Expr)} {values : List PySem.Expr} {pos : Pos} (h : PPs X pos keys values (prs X.K G es)) (hall : keys.all (·.isSome) = true := by rfl) (hl : keys.length = values.length := by rfl) (h0 : keys ≠ [] := by exact List.cons_ne_nil _ _) (h15 : keys.length ≤ 15 := by decide) :
    PE X (.Dict keys values pos) (rdE X.K G (.dic mu es)) := se_dic h hall hl h0 h15
theorem qtit {mu mu2 : Bool} {e : PySem.Expr} {c : CE} {p apos cpos pos : Pos} (hm : X.mg "tuple" = none) (he : PE X e (rdE X.K G c)) (hc : X.calm = true := by rfl) (hg : Gl X "tuple" := by rfl) (hbase : attributeBase e "items" X.env (eval e X.env) = eval e X.env := by rfl) (hline : (apos.endLine == cpos.line) = true := by rfl)
    (hs : starEach [.Call (.Attribute e "items" apos) [] [] cpos] X.env = (false, eval (.Call (.Attribute e "items" apos) [] [] cpos) X.env) :: starEach [] X.env := by rfl) :
    PE X (.Call (.Name "tuple" p) [.Call (.Attribute e "items" apos) [] [] cpos] [] pos) (rdE X.K G (.blt mu .tuple (.cons (.met mu2 .items c .nil) .nil))) := se_tupItems hc he hg hm hbase hline hs
theorem qlit {mu mu2 : Bool} {e : PySem.Expr} {c : CE} {p apos cpos pos : Pos} (hm : X.mg "list" = none) (he : PE X e (rdE X.K G c)) (hc : X.calm = true := by rfl) (hg : Gl X "list" := by rfl) (hbase : attributeBase e "items" X.env (eval e X.env) = eval e X.env := by rfl) (hline : (apos.endLine == cpos.line) = true := by rfl)
    (hs : starEach [.Call (.Attribute e "items" apos) [] [] cpos] X.env = (false, eval (.Call (.Attribute e "items" apos) [] [] cpos) X.env) :: starEach [] X.env := by rfl) :
    PE X (.Call (.Name "list" p) [.Call (.Attribute e "items" apos) [] [] cpos] [] pos) (rdE X.K G (.blt mu .list (.cons (.met mu2 .items c .nil) .nil))) := se_listItems hc he hg hm hbase hline hs
/-- the def stands so in the module -/
structure DefAt (K : PySem.W.Frag) (mg : Str → Option Value) (x : Str) (st : PySem.Stmt) (ps : List Str) : Prop where
  ex : ∃ (f : Addr) (fd : FuncData), Fun K x x st f fd ∧ mg x = some (.ref f) ∧ Binds K fd ps []
theorem DefAt.none {K : PySem.W.Frag} {mg : Str → Option Value} {x : Str} {st : PySem.Stmt} {ps : List Str} (h : DefAt K mg x st ps) {P : Program} {w : World} {base : Heap} {T : Tab} {F : Nat} : CallOk P w K mg base 0 (call T F 0) x ps := by
  obtain ⟨f, fd, Fu, hm, hb⟩ := h.ex
  exact ⟨f, fd, call_none, hm, Fu.kp, hb⟩
theorem DefAt.ok {K : PySem.W.Frag} {mg : Str → Option Value} {x : Str} {st : PySem.Stmt} {ps N : List Str} (h : DefAt K mg x st ps) {P : Program} {w : World} {base : Heap} {T : Tab} {F n : Nat} {fn : Fn} (hT : T x = some fn) (sc : FnScope N ps (defScope st))
    (bd : ∀ (f : Addr) (cdv : Value) (A : Around) (outer : List Env) (s : Shared) (H : Hp) (E : XK), Room n (A.deeper (envOfC x (defScope st) s.heap.objs.size f cdv)) → A.guards = some [] → PSs (inX P w K mg base N x st f cdv A outer s H E) (defBody st) (rdSs K (call T F n) F fn.body))
    (hps : fn.ps = ps.length := by rfl) (hN : N.length = fn.n := by rfl) : CallOk P w K mg base (n + 1) (call T F (n + 1)) x ps := by
  obtain ⟨f, fd, Fu, hm, hb⟩ := h.ex
  exact ⟨f, fd, fnG_core hT hps hN Fu sc (bd f), hm, Fu.kp, hb⟩
theorem def_mk {K : PySem.W.Frag} {mg : Str → Option Value} {x : Str} {st : PySem.Stmt} {ps : List Str} {f : Addr} {oc : Value} {od an : Option Addr} {osl : Array (Option Value)} {kV doc pm cdv ct : Value} {h : Heap} (inK : K.In h) (ns : h.Ns mainGlobals mg) (a : PySem.W.nsIn K mainGlobals x = some (some (.ref f)))
    (l : K.lookup f = some ⟨oc, od, .func (PySem.W.fnOf x x (defArgs st) (defBody st) (defScope st) .none kV doc pm an cdv ct), osl⟩) (c : PySem.W.codeIn K cdv x = true) (k : PySem.W.keepIn K (.ref f) = true)
    (b : ∀ (kV doc pm : Value) (an : Option Addr) (cdv ct : Value) (us : List Value), us.length = ps.length → bindArgs (PySem.W.fnOf x x (defArgs st) (defBody st) (defScope st) .none kV doc pm an cdv ct) ⟨us, []⟩ = pure (ps.zip us)) : DefAt K mg x st ps :=
  have Fu := fun_mk (st := st) l c k
  ⟨f, _, Fu, PySem.W.mg_of inK ns a, Fu.binds b⟩
theorem strG_mk {K : PySem.W.Frag} {mg : Str → Option Value} {x z : Str} {t : Tok} {h : Heap} (inK : K.In h) (ns : h.Ns mainGlobals mg) (a : PySem.W.nsIn K mainGlobals x = some (some (.str z t))) : StrG mg x z := ⟨t, PySem.W.mg_of inK ns a⟩
theorem intG_mk {K : PySem.W.Frag} {mg : Str → Option Value} {x : Str} {i : Int} {t : Tok} {h : Heap} (inK : K.In h) (ns : h.Ns mainGlobals mg) (a : PySem.W.nsIn K mainGlobals x = some (some (.int i t))) : IntG mg x i := ⟨t, PySem.W.mg_of inK ns a⟩
theorem law_mk {K : PySem.W.Frag} {mg : Str → Option Value} {st : PySem.Stmt} {N : List Str} {fa : Addr} {P : Program} {w : World} {T : Tab} {F n : Nat} {fn : Fn} (h : DefAt K mg "law" st ["script"]) (hfa : mg "law" = some (.ref fa)) (hT : T "law" = some fn) (sc : FnScope N ["script"] (defScope st))
    (hb : ∀ (kV doc pm : Value) (an : Option Addr) (cdv ct u : Value), bindArgs (PySem.W.fnOf "law" "law" (defArgs st) (defBody st) (defScope st) .none kV doc pm an cdv ct) ⟨[u], []⟩ = pure [(Str.ofString "script", u)])
    (bd : ∀ (base : Heap) (f : Addr) (cdv : Value) (A : Around) (outer : List Env) (s : Shared) (H : Hp) (E : XK), Room n (A.deeper (envOfC "law" (defScope st) s.heap.objs.size f cdv)) → A.guards = some [] → PSs (inX P w K mg base N "law" st f cdv A outer s H E) (defBody st) (rdSs K (call T F n) F fn.body))
    (hps : fn.ps = 1 := by rfl) (hN : N.length = fn.n := by rfl) :
    ∃ fd : FuncData, (∀ (s : Shared) (u : Value), BindsTo s fd ⟨[u], []⟩ [("script", u)]) ∧ ∀ base : Heap, K.In base → base.Ns mainGlobals mg → FnG P w K mg base (n + 1) fa fd ["script"] (SpG K (call T F (n + 1)) "law" 1) := by
  obtain ⟨f, fd, Fu, hm, _⟩ := h.ex
  cases hfa.symm.trans hm
  refine ⟨fd, ?_, fun base _ _ => fnG_core hT hps hN Fu sc (bd base fa)⟩
  obtain ⟨oc, od, kV, doc, pm, an, cdv, ct, osl, rfl, _, _⟩ := Fu.ex
  exact fun s u => .of_eq (hb kV doc pm an cdv ct u)
end
end Sf
end
section
set_option maxRecDepth 100000
set_option maxHeartbeats 4000000
namespace Sf
open PySem PySem.Spec L2
open PyProof.Rows hiding St
open SrtO (Swo Srtd Stb eqv stb_uniq)
/-! ### sorting by insertion: sorted, stable -/
section
variable {A B : Type} {lt : A → A → Bool}
theorem insB_mem {le : A → A → Bool} {x z : A} : ∀ {l : List A}, z ∈ insB le x l → z = x ∨ z ∈ l
  | [], h => .inl (List.mem_singleton.mp h)
  | y :: r, h => by
    unfold insB at h
    split at h
    · rcases List.mem_cons.mp h with h | h
      · exact .inl h
      · exact .inr h
    · rcases List.mem_cons.mp h with h | h
      · exact .inr (h ▸ List.mem_cons_self)
      · rcases insB_mem h with h | h
        · exact .inl h
        · exact .inr (List.mem_cons_of_mem _ h)
theorem insB_perm {le : A → A → Bool} {x : A} : ∀ {l : List A}, (insB le x l).Perm (x :: l)
  | [] => List.Perm.refl _
  | y :: r => by
    unfold insB
    split
    · exact List.Perm.refl _
    · exact (List.Perm.cons y insB_perm).trans (List.Perm.swap x y r)
theorem sortB_perm {le : A → A → Bool} : ∀ {l : List A}, (sortB le l).Perm l
  | [] => List.Perm.refl _
  | x :: r => insB_perm.trans (List.Perm.cons x sortB_perm)
abbrev leOf (lt : A → A → Bool) (x y : A) : Bool := !lt y x
theorem insB_srtd (O : Swo lt) {x : A} : ∀ {l : List A}, Srtd lt l → Srtd lt (insB (leOf lt) x l)
  | [], _ => List.pairwise_singleton _ _
  | y :: r, h => by
    obtain ⟨h1, h2⟩ := List.pairwise_cons.mp h
    unfold insB
    split
    · rename_i c
      have c : lt y x = false := by simpa using c
      refine List.pairwise_cons.mpr ⟨fun z hz => ?_, h⟩
      rcases List.mem_cons.mp hz with e | hz
      · rw [e]; exact c
      · exact O.tr x y z c (h1 z hz)
    · rename_i c
      have c : lt y x = true := by simpa using c
      refine List.pairwise_cons.mpr ⟨fun z hz => ?_, insB_srtd O h2⟩
      rcases insB_mem hz with e | hz
      · rw [e]; exact O.asym y x c
      · exact h1 z hz
theorem sortB_srtd (O : Swo lt) : ∀ {l : List A}, Srtd lt (sortB (leOf lt) l)
  | [] => List.Pairwise.nil
  | x :: r => insB_srtd O (sortB_srtd O)
theorem insB_cls (O : Swo lt) {x z : A} : ∀ {l : List A}, (insB (leOf lt) x l).filter (eqv lt z) = (x :: l).filter (eqv lt z)
  | [] => rfl
  | y :: r => by
    unfold insB
    split
    · rfl
    · rename_i c
      have c : lt y x = true := by simpa using c
      have ih := insB_cls O (x := x) (z := z) (l := r)
      have no : ¬ (eqv lt z x = true ∧ eqv lt z y = true) := fun ⟨p, q⟩ => by
        obtain ⟨p1, p2⟩ := SrtO.eqv_iff.mp p
        obtain ⟨q1, q2⟩ := SrtO.eqv_iff.mp q
        have := O.tr x z y p1 q2
        rw [this] at c
        cases c
      simp only [List.filter_cons] at ih ⊢
      cases qx : eqv lt z x with
      | false =>
        rw [qx] at ih
        rw [ih]
        rfl
      | true =>
        have qy : eqv lt z y = false := by
          cases q : eqv lt z y with
          | false => rfl
          | true => exact absurd ⟨qx, q⟩ no
        rw [qx] at ih
        rw [ih, qy]
        rfl
theorem sortB_stb (O : Swo lt) : ∀ {l : List A}, Stb lt (sortB (leOf lt) l) l
  | [] => Stb.refl _
  | x :: r => ⟨sortB_perm, fun z => by
    show (insB (leOf lt) x (sortB (leOf lt) r)).filter _ = _
    rw [insB_cls O]
    cases q : eqv lt z x with
    | false => rw [List.filter_cons_of_neg (by rw [q]; decide), List.filter_cons_of_neg (by rw [q]; decide), (sortB_stb O).cls z]
    | true => rw [List.filter_cons_of_pos q, List.filter_cons_of_pos q, (sortB_stb O).cls z]⟩
theorem sortB_uniq (O : Swo lt) {l out : List A} (h1 : Srtd lt out) (h2 : Stb lt out l) : out = sortB (leOf lt) l :=
  stb_uniq O h1 (sortB_srtd O) (h2.trans ⟨sortB_perm.symm, fun z => ((sortB_stb O).cls z).symm⟩)
theorem insB_map {f : A → B} {le : B → B → Bool} {x : A} : ∀ {l : List A}, insB le (f x) (l.map f) = (insB (fun a b => le (f a) (f b)) x l).map f
  | [] => rfl
  | y :: r => by
    simp only [List.map_cons, insB]
    split
    · rfl
    · rw [insB_map]; rfl
theorem sortB_map {f : A → B} {le : B → B → Bool} : ∀ {l : List A}, sortB le (l.map f) = (sortB (fun a b => le (f a) (f b)) l).map f
  | [] => rfl
  | x :: r => by
    simp only [List.map_cons, sortB]
    rw [sortB_map, insB_map]
end
theorem strLt_swo : Swo strLt := by
  refine ⟨fun x y h => ?_, fun x y z h1 h2 => ?_⟩
  · unfold strLt at h ⊢
    have h := of_decide_eq_true h
    refine decide_eq_false fun h' => ?_
    exact List.lt_irrefl _ (List.lt_trans h h')
  · unfold strLt at h1 h2 ⊢
    have h1 := of_decide_eq_false h1
    have h2 := of_decide_eq_false h2
    refine decide_eq_false fun h' => ?_
    exact h2 (Classical.byContradiction fun h3 => h1 (List.lt_of_le_of_lt (List.not_lt.mp h3) h'))
end Sf
end
section
set_option maxRecDepth 100000
set_option maxHeartbeats 4000000
namespace Sf
open PySem PySem.Spec L2
open PyProof.Rows hiding St
open SrtO (Swo Srtd Stb eqv stb_uniq SortableO)
/-! ### what is gathered is sorted -/
section
variable {prog : Program} {w : World} {A : Around} {E : Value → Shared → Prop} {s : Shared}
/-- a heap with new things -/
abbrev Kp (h h' : Heap) : Prop := ∀ b o, h.get? b = some o → h'.get? b = some o
theorem collect_tup {l : Addr} {vs : List Value} {Q : List Value → Shared → Prop} (hl : s.heap.IsTuple l vs.toArray)
    (h : Q vs { s with heap := (s.heap.push (seqObj "list" #[] 0)).update s.heap.objs.size (Obj.mapSeq (· ++ vs.toArray)) }) (hsz : vs.length ≤ sizeLine) :
    wpAny (model prog w) A (collect (.ref l)) Q E s := by
  obtain ⟨o, ho, hc, n, hd⟩ := id hl
  unfold collect
  refine wpAny_bind (wpAny_runValue (codeAny_builtin entry_proto_collect' ?_))
  show wpAny _ _ (do again (.builtin "list.__iadd__" ⟨[← newList [], .ref l], []⟩)) _ _ s
  refine wpAny_bind (wpAny_newList (wpAny_pure ⟨Code.quiet_builtin _ (by decide +kernel), codeAny_builtin entry_list_iadd' ?_⟩))
  show wpAny _ _ (Builtin.List.listExtendWith (.ref s.heap.objs.size) (.ref l) (.ref s.heap.objs.size)) _ _ { s with heap := s.heap.push (seqObj "list" #[] 0) }
  unfold Builtin.List.listExtendWith
  have ho' : (s.heap.push (seqObj "list" #[] 0)).get? l = some o := Heap.get?_push_of_some _ ho
  refine wpAny_bind (wpAny_typeOf (T := "tuple") ⟨o, ho', hc⟩ ?_)
  have ht : (Value.type "tuple" == Value.type "tuple") = true := by rfl
  rw [if_pos (by rw [ht]; simp)]
  refine wpAny_bind (listItems_at ho' hd ?_)
  refine wpAny_bind (listItems_at (xs := #[]) (n := 0) (Heap.get?_push_size _ rfl) rfl ?_)
  rw [if_neg (by simp)]
  refine wpAny_bind (listUpdate_at (xs := #[]) (n := 0) (Heap.get?_push_size _ rfl) rfl ?_ (Nat.zero_le _) (by show (#[] ++ vs.toArray).size ≤ sizeLine + 1; simp only [Array.size_append, List.size_toArray, List.length_nil]; omega))
  refine wpAny_pure ?_
  show wpAny (model prog w) A (do
      let o ← load s.heap.objs.size
      match o.data with
      | .seq xs _ => pure xs.toList
      | _ => unsupported "internal:collect") Q E { s with heap := (s.heap.push (seqObj "list" #[] 0)).update s.heap.objs.size (Obj.mapSeq (· ++ vs.toArray)) }
  refine wpAny_bind (wpAny_load (get?_update_seq (Heap.get?_push_size _ rfl) _) ?_)
  show wpAny _ _ (pure ((#[] : Array Value) ++ vs.toArray).toList) Q E _
  rw [show ((#[] : Array Value) ++ vs.toArray).toList = vs by simp]
  exact wpAny_pure h
theorem kp_laid {h : Heap} {vs : List Value} : Kp h ((h.push (seqObj "list" #[] 0)).update h.objs.size (Obj.mapSeq (· ++ vs.toArray))) := fun b o q => by
  have hlt : b < h.objs.size := Heap.lt_size q
  rw [Heap.get?_update_ne _ _ _ _ (Nat.ne_of_lt hlt)]
  exact Heap.get?_push_of_some _ q
/-- what a state may be behind a gathering -/
structure Aft (s s' : Shared) : Prop where
  kp : Kp s.heap s'.heap
  sz : s.heap.objs.size ≤ s'.heap.objs.size
  gens : s'.gens = s.gens
  os : s'.os = s.os
theorem aft_laid {vs : List Value} : Aft s { s with heap := (s.heap.push (seqObj "list" #[] 0)).update s.heap.objs.size (Obj.mapSeq (· ++ vs.toArray)) } :=
  ⟨kp_laid, by show _ ≤ ((s.heap.push (seqObj "list" #[] 0)).update s.heap.objs.size (Obj.mapSeq (· ++ vs.toArray))).objs.size; rw [Heap.size_update, size_push']; omega, rfl, rfl⟩
/-- sorted(x), x gathered in some way -/
theorem sorted_col {x : Value} {ltv : Value → Value → Bool} {Pv : List Value → Prop} {Q : Value → Shared → Prop} (O : Swo ltv)
    (hcol : ∀ Q' : List Value → Shared → Prop, (∀ s' vs, Aft s s' → Pv vs → Q' vs s') → wpAny (model prog w) A.in1 (collect x) Q' E s)
    (hz : ∀ vs, Pv vs → vs.length ≤ sizeLine)
    (hS : ∀ vs, Pv vs → 2 ≤ vs.length → ∀ (s' : Shared) (a : Addr), Kp s.heap s'.heap → s.heap.get? a = none → SortableO prog w A.in1.in1 s' a vs ltv)
    (h : ∀ s' vs out p n, Aft s s' → Pv vs → Srtd ltv out → Stb ltv out vs → s.heap.objs.size ≤ p → s'.heap.get? p = some (seqObj "list" out.toArray n) → Q (.ref p) s') :
    wpAny (model prog w) A (PySem.call (.builtin "sorted") [x]) Q E s := by
  refine Calls.call_function_entry kind_sorted plain_sorted entry_sorted (args_sorted1 _) ?_
  unfold Builtin.«sorted»
  refine wpAny_bind (m := checkCount "sorted" 1 1 _) (wpAny_pure ?_)
  refine wpAny_bind (hcol _ fun s1 vs a1 pv => ?_)
  refine wpAny_bind (wpAny_newList ?_ (hz vs pv))
  have hoL : (s1.heap.push (seqObj "list" vs.toArray 0)).get? s1.heap.objs.size = some (seqObj "list" vs.toArray 0) := Heap.get?_push_size _ rfl
  show wpAny _ _ _ _ _ { s1 with heap := s1.heap.push (seqObj "list" vs.toArray 0) }
  have nn : s.heap.get? s1.heap.objs.size = none := Heap.get?_none_of_le a1.sz
  refine wpAny_bind (wpAny_holding (wpAny_call_entry slot_list_sort ⟨_, hoL, rfl⟩ entry_list_sort (SrtO.list_sort_ord O hoL (hz vs pv) (fun h2 => hS vs pv h2 { s1 with heap := s1.heap.push (seqObj "list" vs.toArray 0) } _ (fun b o e => Heap.get?_push_of_some _ (a1.kp b o e)) nn) fun out hs hb => ⟨_, rfl, ?_⟩) (args_list_sort _)))
  obtain ⟨e', he'⟩ := PyProof.Rows.sortedHeap_at (vs := vs) (out := out.toArray) hoL
  refine wpAny_pure ⟨_, rfl, h _ vs out _ e' ⟨fun b o e => ?_, ?_, a1.gens, a1.os⟩ pv hs hb a1.sz he'⟩
  · have hb : b < s1.heap.objs.size := Heap.lt_size (a1.kp b o e)
    show (sortedHeap _ _ _ _).get? b = _
    rw [PyProof.Rows.sortedHeap_old (Nat.ne_of_lt hb) (by rw [size_push']; exact Nat.lt_succ_of_lt hb)]
    exact Heap.get?_push_of_some _ (a1.kp b o e)
  · have := Heap.lt_size he'
    exact Nat.le_trans a1.sz (Nat.le_of_lt this)
/-! ### texts -/
def strV : Value → Str
  | .str x _ => x
  | _ => ""
theorem swo_map {α β : Type} {lt : β → β → Bool} (O : Swo lt) (f : α → β) : Swo fun x y => lt (f x) (f y) := ⟨fun x y h => O.asym _ _ h, fun x y z h1 h2 => O.tr _ _ _ h1 h2⟩
theorem strs_sortable {a : Addr} {vs : List Value} {xs : List Str} (h : StrsAre vs xs) (h2 : 2 ≤ vs.length) : SortableO prog w A s a vs fun v u => strLt (strV v) (strV u) := by
  intro h' _
  refine ⟨oneType', fun Q E q => ?_, fun p q hp hq => ?_⟩
  · match vs, h, h2 with
    | v1 :: v2 :: r, h, _ =>
      rw [keyKind_strs h]
      exact wpAny_pure q
  · have one : ∀ v ∈ vs, ∃ x t, v = .str x t := by
      clear hp hq p q h2
      induction h with
      | nil => intro v hv; cases hv
      | cons x t r ih =>
        intro v hv
        rcases List.mem_cons.mp hv with e | hv
        · exact ⟨x, t, e⟩
        · exact ih v hv
    obtain ⟨x, t, e1⟩ := one _ hp
    obtain ⟨y, u, e2⟩ := one _ hq
    rw [e1, e2]
    refine oneLt_str ⟨rfl, ?_⟩
    show decide _ = strLt (strV p.1) (strV q.1)
    rw [e1, e2]
    rfl
end
end Sf
end
section
set_option maxRecDepth 100000
set_option maxHeartbeats 4000000
namespace Sf
open PySem PySem.Spec L2
open PyProof.Rows hiding St
open SrtO (Swo Srtd Stb eqv stb_uniq SortableO)
section
variable {X : Cx} {pins : List (Addr × Obj)} {σ : L2.St} {H : Hp} {s s' : Shared}
theorem inv_aft (I : Inv X pins σ H s) (a : Aft s s') : Inv X pins σ H s' := by
  have h := I.call (g' := s'.gens) (t' := s'.toks) (d' := s'.drawn) (ch := []) (Un.kept a.kp) (I.hok.kept a.kp) (by rw [a.gens]; exact I.bare) (fun _ z => nomatch z)
  have e : s' = { s with heap := s'.heap, gens := s'.gens, drawn := s'.drawn, toks := s'.toks } := by
    obtain ⟨k1, k2, k3, k4⟩ := a
    cases s'
    simp only at k4
    subst k4
    rfl
  rw [e]
  exact h
/-- a new list is laid -/
theorem inv_aft_lst {s1 : Shared} {p : Addr} {ys : List V} {out : List Value} {n : Nat} (I : Inv X pins σ H s) (a : Aft s s') (hp : s.heap.objs.size ≤ p) (hl : s'.heap.get? p = some (seqObj "list" out.toArray n)) (r : Vals ys out) (hz : ys.length ≤ sizeLine) :
    Inv X pins σ (upd H p (.lst ys)) s' ∧ H p = none := by
  have hf := I.hok.fresh hp
  have u : Un (frs X.stack) [] H (upd H p (.lst ys)) s.heap s'.heap := Un.laid a.kp hp hf
  have h := I.call (g' := s'.gens) (t' := s'.toks) (d' := s'.drawn) (ch := []) u (I.hok.laid a.kp hp ⟨hz, out, n, r, hl⟩) (by rw [a.gens]; exact I.bare) (fun _ z => nomatch z)
  have e : s' = { s with heap := s'.heap, gens := s'.gens, drawn := s'.drawn, toks := s'.toks } := by
    obtain ⟨k1, k2, k3, k4⟩ := a
    cases s'
    simp only at k4
    subst k4
    rfl
  rw [e]
  exact ⟨h, hf⟩
end
end Sf
end
section
set_option maxRecDepth 100000
set_option maxHeartbeats 4000000
namespace Sf
open PySem PySem.Spec L2
open PyProof.Rows hiding St
open SrtO (Swo Srtd Stb eqv stb_uniq SortableO)
theorem str_ext {a b : Str} (h : a.cps.toList = b.cps.toList) : a = b := by
  cases a; cases b
  simp only [Str.mk.injEq] at h ⊢
  exact Array.ext' h
theorem strLt_eqv {a b : Str} : eqv strLt a b = true ↔ a = b := by
  rw [SrtO.eqv_iff]
  unfold strLt
  constructor
  · rintro ⟨h1, h2⟩
    exact str_ext (List.le_antisymm (List.not_lt.mp (of_decide_eq_false h2)) (List.not_lt.mp (of_decide_eq_false h1)))
  · rintro rfl
    exact ⟨decide_eq_false (List.lt_irrefl _), decide_eq_false (List.lt_irrefl _)⟩
theorem stb_total {A : Type} [DecidableEq A] {lt : A → A → Bool} (h : ∀ a b, eqv lt a b = true ↔ a = b) {l m : List A} (p : l.Perm m) : Stb lt l m := ⟨p, fun x => by
  have e : ∀ k : List A, k.filter (eqv lt x) = List.replicate (k.count x) x := fun k => by
    rw [← List.filter_beq]
    refine List.filter_congr fun y _ => ?_
    rw [Bool.eq_iff_iff, h, beq_iff_eq]
    exact ⟨fun e => e.symm, fun e => e.symm⟩
  rw [e, e, p.count_eq]⟩
theorem rising_srtd : ∀ {l : List Str} {x : Str}, risingS x l = true → Srtd strLt (x :: l)
  | [], x, _ => List.pairwise_singleton _ _
  | y :: l, x, h => by
    unfold risingS at h
    have h := Bool.and_eq_true_iff.mp h
    have ih := rising_srtd h.2
    have hxy : strLt y x = false := by
      unfold strLt
      refine decide_eq_false fun z => ?_
      have h1 := h.1
      rw [ltCps_eq, decide_eq_true z] at h1
      cases h1
    refine List.pairwise_cons.mpr ⟨fun z hz => ?_, ih⟩
    rcases List.mem_cons.mp hz with e | hz
    · rw [e]; exact hxy
    · exact strLt_swo.tr x y z hxy ((List.pairwise_cons.mp ih).1 z hz)
theorem sortedS_eq {ys ks : List Str} (p : ys.Perm ks) (h : sortedS ys = true) : ys = sortB strLe ks := by
  have s : Srtd strLt ys := by
    cases ys with
    | nil => exact List.Pairwise.nil
    | cons y r => exact rising_srtd h
  exact sortB_uniq strLt_swo s (stb_total (fun _ _ => strLt_eqv) p)
theorem strs_of_all : ∀ {vs : List Value}, (∀ v ∈ vs, ∃ x t, v = .str x t) → StrsAre vs (vs.map strV)
  | [], _ => .nil
  | v :: vs, h => by
    obtain ⟨x, t, rfl⟩ := h v List.mem_cons_self
    exact .cons x t (strs_of_all fun u hu => h u (List.mem_cons_of_mem _ hu))
theorem all_of_strs {vs : List Value} {xs : List Str} (h : StrsAre vs xs) : (∀ v ∈ vs, ∃ x t, v = .str x t) ∧ vs.map strV = xs := by
  induction h with
  | nil => exact ⟨fun v hv => (nomatch hv), rfl⟩
  | cons x t r ih =>
    refine ⟨fun v hv => ?_, by simp [strV, ih.2]⟩
    rcases List.mem_cons.mp hv with e | hv
    · exact ⟨x, t, e⟩
    · exact ih.1 v hv
section
variable {X : Cx}
theorem kv_keys {K : PySem.W.Frag} {H : Hp} {m : Mu} : ∀ {kvs : List (Str × D)} {ks : List (Key × V)}, KvD K H m kvs ks → ks.map (·.1) = (kvs.map (·.1)).map Sum.inr
  | [], _, h => by cases h; rfl
  | p :: r, _, h => by
    cases h with
    | cons h1 h2 => rw [List.map_cons, List.map_cons, List.map_cons, kv_keys h2, h1.1]
theorem rp_strs {K : PySem.W.Frag} {H : Hp} {m : Mu} : ∀ {l : List PyData} {xs : List Str} {vs : List V}, strsOf l = some xs → RpAll K H m l vs → vs = xs.map V.str
  | [], xs, _, e, h => by cases h; cases e; rfl
  | d :: r, xs, _, e, h => by
    cases h with
    | cons h1 h2 =>
      cases d with
      | str x =>
        simp only [strsOf] at e
        cases q : strsOf r with
        | none => rw [q] at e; cases e
        | some n =>
          rw [q] at e
          cases e
          cases h1
          rw [rp_strs q h2]
          rfl
      | _ => simp [strsOf] at e
theorem rps_strs {K : PySem.W.Frag} {H : Hp} {m : Mu} : ∀ (xs : List Str), RpDs K H m (xs.map fun x => .py (.str x)) (xs.map V.str)
  | [] => .nil
  | x :: xs => .cons (.str x) (rps_strs xs)
/-- sorted of what gathers into texts -/
theorem sorted_strsC {pins : List (Addr × Obj)} {σ : L2.St} {H : Hp} {s : Shared} {Q : VK} {x : Value} {xs : List Str} (I : Inv X pins σ H s) (hl : xs.length ≤ sizeLine)
    (hcol : ∀ Q' : List Value → Shared → Prop, (∀ s' vs, Aft s s' → StrsAre vs xs → Q' vs s') → wpAny (model X.prog X.w) X.A.in1 (collect x) Q' X.xe s)
    (q : ∀ p, H p = none → Q (.ref p) (upd H p (.lst ((sortB strLe xs).map V.str)))) :
    wpAny (model X.prog X.w) X.A (PySem.call (.builtin "sorted") [x]) (EP X pins σ Q) X.xe s := by
  refine sorted_col (ltv := fun v u => strLt (strV v) (strV u)) (Pv := fun vs => StrsAre vs xs) (swo_map strLt_swo strV) hcol (fun vs hv => by rw [hv.length]; exact hl) (fun vs hv h2 s' a _ _ => strs_sortable hv h2) fun s' vs out p n a hv h1 h2 hp hn => ?_
  obtain ⟨av, ev⟩ := all_of_strs hv
  have ao : ∀ v ∈ out, ∃ x t, v = .str x t := fun v hv => av v (h2.perm.mem_iff.mp hv)
  have e : out.map strV = sortB strLe xs := by
    have b := SrtO.Stb.map strLt_swo strV h2
    rw [ev] at b
    exact sortB_uniq strLt_swo (SrtO.srtd_map h1) b
  have so := strs_of_all ao
  rw [e] at so
  obtain ⟨J, hf⟩ := inv_aft_lst (s1 := s) I a hp hn (vals_of_strs so) (by rw [List.length_map, sortB_perm.length_eq]; exact hl)
  exact ⟨.ref p, _, J, rfl, q p hf⟩
theorem rp_sorted {K : PySem.W.Frag} {H : Hp} {m : Mu} {S : Store} {mu : Bool} {l r : List PyData} {Q : VK} {xs : List Str} (st : StOk K H m S) (e : strsOf l = some xs) (e2 : sortP l = some r) (h : Fin K m H (mkLst mu (r.map .py) S) (ValQ K Q)) :
    xs.length < 1000000 ∧ ∀ p, H p = none → Q (.ref p) (upd H p (.lst ((sortB strLe xs).map V.str))) := by
  unfold sortP at e2
  rw [e] at e2
  cases e2
  have e3 : ((sortB strLe xs).map PyData.str).map D.py = (sortB strLe xs).map fun x => D.py (.str x) := by rw [List.map_map]; rfl
  rw [e3] at h
  obtain ⟨z1, z2⟩ := mkLst_ok st (rps_strs _) h
  rw [List.length_map, sortB_perm.length_eq] at z1
  exact ⟨z1, z2⟩
/-- what is sorted here: texts -/
def strsOnly (l : List PyData) : Bool := (strsOf l).isSome
theorem cb_sorted (hcalm : X.calm = true) {mu : Bool} : CallR X (.builtin "sorted") (rBlt X.K mu .sorted) := by
  intro pins s σ H vs us Q I r h
  obtain ⟨m, S, ds, st, rs, h⟩ := h
  unfold bltD at h
  split at h <;> first | contradiction | exact h.elim | skip
  rename_i d _
  obtain ⟨v, rfl, rd⟩ := one_of rs
  cases q : view S d with
  | dS kvs =>
    rw [q] at h
    obtain ⟨a, ks, rfl, h1, h2⟩ := view_dS st rd q
    simp only at h
    split at h
    · rename_i hb
      obtain ⟨z1, z2⟩ := mkLst_ok st (rps_strs _) h
      refine call_sortedD hcalm pins s σ H _ us Q I r ⟨a, ks, kvs.map (·.1), rfl, h1, kv_keys h2, by rw [List.length_map]; exact Nat.blt_eq.mp hb, fun ys p hp hs hn => ?_⟩
      rw [sortedS_eq hp hs]
      exact z2 p hn
    · exact h.elim
  | lst xs =>
    rw [q] at h
    obtain ⟨a, ws, rfl, h1, h2⟩ := view_lst st rd q
    simp only at h
    cases q2 : pys xs with
    | none => simp only [q2] at h; exact h.elim
    | some l =>
      simp only [q2] at h
      cases q3 : sortP l with
      | none => simp only [q3] at h; exact h.elim
      | some o =>
        simp only [q3] at h
        cases q4 : strsOf l with
        | none => simp [sortP, q4] at q3
        | some ts =>
          obtain ⟨z1, z2⟩ := rp_sorted st q4 q3 h
          have ew := rp_strs q4 (pys_all q2 h2)
          subst ew
          obtain ⟨its, rv, hl, hz⟩ := I.list h1
          rw [List.length_map] at hz
          rw [Vals.ref1 r]
          exact sorted_strsC I hz (fun Q' k => collect_list hl.isList (k _ _ aft_laid rv.strs) (by rw [← rv.length, List.length_map]; exact hz)) z2
  | tup xs =>
    rw [q] at h
    obtain ⟨a, ws, rfl, h1, _, h2⟩ := view_tup st rd q
    simp only at h
    cases q2 : pys xs with
    | none => simp only [q2] at h; exact h.elim
    | some l =>
      simp only [q2] at h
      cases q3 : sortP l with
      | none => simp only [q3] at h; exact h.elim
      | some o =>
        simp only [q3] at h
        cases q4 : strsOf l with
        | none => simp [sortP, q4] at q3
        | some ts =>
          obtain ⟨z1, z2⟩ := rp_sorted st q4 q3 h
          have ew := rp_strs q4 (pys_all q2 h2)
          subst ew
          obtain ⟨its, rv, hl, hz⟩ := I.tuple (SqT.of h1)
          rw [List.length_map] at hz
          rw [Vals.ref1 r]
          exact sorted_strsC I hz (fun Q' k => collect_tup hl (k _ _ aft_laid rv.strs) (by rw [← rv.length, List.length_map]; exact hz)) z2
  | _ => rw [q] at h; exact h.elim
/-- repr of data -/
theorem cb_repr {mu : Bool} (hg : X.A.guards = some []) (hu : X.A.units + 66 < cLine) : CallR X (.builtin "repr") (rBlt X.K mu .repr) := by
  intro pins s σ H vs us Q I r h
  obtain ⟨m, S, ds, st, rs, h⟩ := h
  unfold bltD at h
  split at h <;> first | contradiction | exact h.elim | skip
  rename_i d _
  obtain ⟨v, rfl, rd⟩ := one_of rs
  cases q : frzD S d with
  | none => simp only [q] at h; exact h.elim
  | some x =>
    simp only [q] at h
    split at h
    · rename_i hc
      have hc := Bool.and_eq_true_iff.mp hc
      have hc0 := Bool.and_eq_true_iff.mp hc.1
      have hc1 := Bool.and_eq_true_iff.mp hc0.1
      have hwt : x.weight ≤ 1000000 := Nat.ble_eq.mp hc.2
      have fz : x.shown.length ≤ sizeLine := PyData.shown_fits (B := 13) (by omega) (by omega) (PyData.leavesShort_of_canLay0 13 x (SeqAt.canLay_of_shaped hc1.1) hc0.2) (Nat.le_trans hwt (by decide))
      have hd := SeqAt.depth_of_shaped hc1.1
      have nd := PyData.hasDict_of_canLay x (SeqAt.canLay_of_shaped hc1.1)
      have dp := frz_dp st rd q hc1.1
      obtain ⟨u, rfl, ru⟩ := vals1 r
      obtain ⟨as, rr⟩ := Dp.reads I x v u dp ru
      have fin := fin_py (Q := Q) st (.str _) h
      have go : ∀ (h' : Heap) (t : Tok) (tk : Nat), Kp s.heap h' → EP X pins σ Q (.str x.shown t) { s with heap := h', toks := tk } := fun h' t tk k => ⟨.str x.shown, H, I.kept k, ⟨t, rfl⟩, fin⟩
      have refs : ∀ a, u = .ref a → wpAny (model X.prog X.w) X.A (PySem.call (.builtin "repr") [u]) (EP X pins σ Q) X.xe s := fun a e => by
        subst e
        exact repr_of_reads' rr hc1.2 (PyData.noDict_hsm nd) hg (by omega) (fun _ _ e => e) (fun h' t tk k => go h' t tk k) fz
      cases rr with
      | none => exact PySem.P.repr_of_none ⟨.str _, H, I.tok _, ⟨_, rfl⟩, fin⟩
      | bool b => exact PySem.P.repr_of_bool ⟨.str _, H, I.tok _, ⟨_, rfl⟩, fin⟩
      | int i t => exact PySem.P.repr_of_int (of_decide_eq_true hc1.2) ⟨.str _, H, I.tok _, ⟨_, rfl⟩, fin⟩
      | str y t => exact PySem.P.repr_of_str ⟨.str _, H, I.tok _, ⟨_, rfl⟩, fin⟩ fz
      | list _ _ _ _ => exact refs _ rfl
      | tuple _ _ _ _ => exact refs _ rfl
      | dict _ _ _ _ _ => exact refs _ rfl
    · exact h.elim
end
end Sf
end
section
set_option maxRecDepth 100000
set_option maxHeartbeats 4000000
namespace Sf
open PySem PySem.Spec L2
open PyProof.Rows hiding St
open SrtO (Swo Srtd Stb eqv stb_uniq SortableO)
/-! ### a step over a frame: all but the frame's own dict stands, and its names stand -/
def allNews (h base : Heap) (L : Addr) : List (Addr × Obj) := (List.range h.objs.size).filterMap fun b => match h.get? b with
  | some o => if b = L ∨ (base.get? b).isSome = true then none else some (b, o)
  | none => none
theorem allNews_mem {h base : Heap} {L b : Addr} {o : Obj} : (b, o) ∈ allNews h base L ↔ h.get? b = some o ∧ b ≠ L ∧ base.get? b = none := by
  unfold allNews
  rw [List.mem_filterMap]
  constructor
  · rintro ⟨c, hc, e⟩
    split at e
    · rename_i o' q
      split at e
      · cases e
      · rename_i n
        cases e
        refine ⟨q, fun z => n (.inl z), ?_⟩
        cases q2 : base.get? b with
        | none => rfl
        | some _ => exact absurd (.inr (by rw [q2]; rfl)) n
    · cases e
  · rintro ⟨q, n, b0⟩
    refine ⟨b, List.mem_range.mpr (Heap.lt_size q), ?_⟩
    rw [q]
    show (if b = L ∨ (base.get? b).isSome = true then none else some (b, o)) = some (b, o)
    rw [if_neg]
    rintro (z | z)
    · exact n z
    · rw [b0] at z; cases z
theorem objOk_there {P : Program} {w : World} {H : Hp} {h : Heap} {a : Addr} {o : HO} (x : ObjOk P w H h a o) : ∃ u, h.get? a = some u := by
  cases o with
  | lst xs => obtain ⟨_, _, _, _, e⟩ := x; exact ⟨_, e⟩
  | tup xs => obtain ⟨_, _, _, o, e, _⟩ := x; exact ⟨_, e⟩
  | dK kvs => obtain ⟨_, _, _, _, o, _, _, e, _⟩ := x; exact ⟨_, e⟩
  | dT kvs => obtain ⟨_, _, _, _, o, _, _, e, _⟩ := x; exact ⟨_, e⟩
  | set S n => obtain ⟨o, _, _, _, e, _⟩ := x; exact ⟨_, e⟩
  | ins C dx fs => obtain ⟨_, _, _, e, _⟩ := x; exact ⟨_, e⟩
  | own y => obtain ⟨_, e⟩ := x; exact ⟨_, e⟩
  | xd fs => obtain ⟨_, ⟨_, _, _, e, _⟩, _⟩ := x; exact ⟨_, e⟩
  | rng lo hi => obtain ⟨_, _, _, e⟩ := x; exact ⟨_, e⟩
  | frz ob u => obtain ⟨e, _⟩ := x; exact ⟨_, e⟩
  | tbl ps => exact ⟨_, show h.get? a = some _ from x⟩
  | met f y => exact ⟨_, show h.get? a = some _ from x⟩
  | ext φ => obtain ⟨_, ⟨_, e⟩, _⟩ := x; exact ⟨_, e⟩
section
variable {X : Cx} {pins : List (Addr × Obj)} {σ : L2.St} {H : Hp} {s : Shared}
theorem inv_frame {h' : Heap} {tk : Nat} {D : Addr} {ys : List V} {out : List Value} {c : Nat} {m : Str → Option Value} (I : Inv X pins σ H s) (hm : s.heap.Ns X.env.locals m) (F : Fr X.base X.env.locals h' m)
    (N : News X.base X.env.locals h' ((D, seqObj "list" out.toArray c) :: allNews s.heap X.base X.env.locals)) (hD : ∀ q ∈ allNews s.heap X.base X.env.locals, q.1 < D) (r : Vals ys out) (hz : ys.length ≤ sizeLine) :
    Inv X pins σ (upd H D (.lst ys)) { s with heap := h', toks := tk } ∧ H D = none := by
  have nD := N _ List.mem_cons_self
  have keep : ∀ b o, b ≠ X.env.locals → s.heap.get? b = some o → h'.get? b = some o := fun b o hb e => by
    cases q : X.base.get? b with
    | none => exact (N _ (List.mem_cons_of_mem _ (allNews_mem.mpr ⟨e, hb, q⟩))).1
    | some o' =>
      have := I.bk b o' q
      rw [e] at this
      cases this
      exact F.keep b o q
  have dn : s.heap.get? D = none := by
    cases q : s.heap.get? D with
    | none => rfl
    | some o => exact absurd (hD _ (allNews_mem.mpr ⟨q, nD.2.1, nD.2.2⟩)) (Nat.lt_irrefl _)
  have hn : H D = none := by
    cases q : H D with
    | none => rfl
    | some u =>
      obtain ⟨o, ho⟩ := objOk_there (I.hok D u q)
      rw [dn] at ho
      cases ho
  have hloc : H X.env.locals = none := I.free
  have nL : ∀ b u, H b = some u → b ≠ X.env.locals := fun b u e z => by rw [z, hloc] at e; cases e
  have hok : HOk X.prog X.w (upd H D (.lst ys)) h' := fun b u e => by
    by_cases hb : b = D
    · subst hb
      rw [upd_same] at e
      cases e
      exact ⟨hz, out, c, r, nD.1⟩
    · rw [upd_ne hb] at e
      refine (I.hok b u e).stay (fun d v hd q => keep d v ?_ q) (fun d q => by rw [upd_ne (ne_of_none q hn)]; exact q) fun d xs q => by rw [upd_ne (ne_of_none q hn)]; exact q
      rcases hd with z | z
      · rw [z]; exact nL b u e
      · exact nL d _ z
  have step := I.step (H' := upd H D (.lst ys)) (h' := h') (g' := s.gens) (t' := tk) (d' := s.drawn) (ch := []) (fun _ z => nomatch z) (fun b o hb _ _ e _ => keep b o hb e) (fun b o hb _ _ e _ => ⟨o.slots, keep b o hb e⟩)
    (fun b o _ e n => by rw [upd_ne (fun z => by rw [z, dn] at e; cases e)]; exact n)
    (fun b o _ e => by
      by_cases hb : b = X.env.locals
      · obtain ⟨o', _, _, ho, _⟩ := F.ns
        exact ⟨o', by rw [hb]; exact ho⟩
      · exact ⟨o, keep b o hb e⟩)
    (fun b xs q => by rw [upd_ne (ne_of_none q hn)]; exact q) (fun b o u q => by rw [upd_ne (ne_of_none q hn)]; exact q) (fun b ps q => ⟨#[], by rw [upd_ne (ne_of_none q hn), q]; simp⟩)
    (fun m' hm' => by rw [hm'.eq_nsMap, ← hm.eq_nsMap]; exact F.ns) hok I.bare
  exact ⟨step, hn⟩
/-! ### sorted(xs, key=len), xs a list of tuples -/
theorem lens_uniq {ts : List (Nat × V × Value)} {out : List Value} (h : KskOutSt false (ts.map fun t => (t.1 : Int)) (ts.map fun t => t.2.2) out) : out = (sortB (fun p q => Nat.ble p.1 q.1) ts).map fun t => t.2.2 := by
  obtain ⟨ps, h1, rfl, h3, h4⟩ := h
  have ez : (ts.map fun t => (t.1 : Int)).zip (ts.map fun t => t.2.2) = ts.map fun t => ((t.1 : Int), t.2.2) := by
    rw [List.zip_map']
  rw [ez] at h1 h4
  have O : Swo (fun p q : Int × Value => decide (p.1 < q.1)) := ⟨fun x y h => by
      have := of_decide_eq_true h
      exact decide_eq_false (by omega), fun x y z h1 h2 => by
      have := of_decide_eq_false h1
      have := of_decide_eq_false h2
      exact decide_eq_false (by omega)⟩
  have s : Srtd (fun p q : Int × Value => decide (p.1 < q.1)) ps := h3.imp fun {a b} z => decide_eq_false (by simpa using z)
  have b : Stb (fun p q : Int × Value => decide (p.1 < q.1)) ps (ts.map fun t => ((t.1 : Int), t.2.2)) := ⟨h1, fun x => by
    have e : (eqv (fun p q : Int × Value => decide (p.1 < q.1)) x) = fun p => p.1 == x.1 := by
      funext p
      rw [Bool.eq_iff_iff, SrtO.eqv_iff, beq_iff_eq]
      simp only [decide_eq_false_iff_not]
      omega
    rw [e]
    exact h4 x.1⟩
  rw [sortB_uniq O s b, sortB_map, List.map_map]
  have e : (fun (a b : Nat × V × Value) => leOf (fun p q : Int × Value => decide (p.1 < q.1)) ((a.1 : Int), a.2.2) ((b.1 : Int), b.2.2)) = fun p q => Nat.ble p.1 q.1 := by
    funext a b
    rw [Bool.eq_iff_iff, Nat.ble_eq]
    simp
  rw [e]
  rfl
/-- what is asked ahead of sorted(.., key=len) -/
def askLen (K : PySem.W.Frag) (Q : VK) (v : V) (H1 : Hp) : Prop := ∃ (a : Addr) (ts : List (Nat × V)), v = .ref a ∧ SqL K H1 a (ts.map (·.2)) ∧ (∀ t ∈ ts, ∃ b ws, t.2 = V.ref b ∧ SqT K H1 b ws ∧ ws.length = t.1) ∧
      ∀ q, H1 q = none → Q (.ref q) (upd H1 q (.lst ((sortB (fun p q => Nat.ble p.1 q.1) ts).map (·.2))))
def askLens (K : PySem.W.Frag) (Q : VK) : List V → Hp → Prop
  | [v], H1 => askLen K Q v H1
  | _, _ => False
theorem pe_sortLen {e : PySem.Expr} {te : TE} {p p2 kp pos : Pos} (he : PE X e te) (hg : Gl X "sorted") (hm : X.mg "sorted" = none) (hg2 : Gl X "len") (hm2 : X.mg "len" = none)
    (hs : starEach [e] X.env = (false, eval e X.env) :: starEach [] X.env) (hb : backTo pos (starEach [e] X.env) = (false, eval e X.env) :: backTo pos (starEach [] X.env)) (hpl : (backTo pos (starEach [e] X.env)).any (·.1) = false) :
    PE X (.Call (.Name "sorted" p) [e] [⟨some "key", .Name "len" p2, kp⟩] pos) (fun σ H Q => te σ H fun v H1 => askLen X.K Q v H1) := by
  refine ⟨fun pins s σ H Q I h => ?_⟩
  have pa := pa_cons he pa_nil hs
  refine wpAny_Call_Name_kw (ld_blt (u := .builtin "sorted") I hg hm (by decide +kernel) ?_)
  refine PyProof.Rows.callWith_kw (thn (pa.run pos pins s σ H (askLens X.K Q) I h) fun us s1 ⟨vs, H1, I1, r1, q1⟩ => ?_) hb hpl rfl rfl
  match vs, q1, r1 with
  | [v], q1, r1 =>
    obtain ⟨a, ts, rfl, hl, ht, q⟩ := q1
    obtain ⟨u, rfl, ru⟩ := vals1 r1
    obtain rfl : u = Value.ref a := ru
    show wpAny _ _ (evalAll ((do let v ← eval (.Name "len" p2) X.env; standAt pos; pure v) :: [])) _ _ s1
    refine wpAny_evalAll_cons (wpAny_bind (ld_blt (u := .builtin "len") I1 hg2 hm2 (by decide +kernel) (wpAny_bind (wpAny_standAt (wpAny_pure ?_)))))
    refine wpAny_evalAll_nil ?_
    show wpAny _ _ (PySem.call (.builtin "sorted") [.ref a] [(Str.ofString "key", .builtin "len")]) _ _ s1
    obtain ⟨its, rv, hll, hz⟩ := I1.list hl
    obtain ⟨m, hns, _⟩ := id I1.loc
    have F : Fr X.base X.env.locals s1.heap m := ⟨hns, I1.bk, Nat.le_trans I1.ok.bsz I1.ok.above⟩
    have N : News X.base X.env.locals s1.heap (allNews s1.heap X.base X.env.locals) := fun p hp => by
      obtain ⟨b, o⟩ := p
      exact allNews_mem.mp hp
    obtain ⟨tv, e1, e2, e3⟩ : ∃ tv : List (Nat × V × Value), ts = tv.map (fun t => (t.1, t.2.1)) ∧ its = tv.map (fun t => t.2.2) ∧ ∀ t ∈ tv, RelV t.2.1 t.2.2 := by
      clear q ht hl hll hz F N
      induction ts generalizing its with
      | nil =>
        cases rv
        exact ⟨[], rfl, rfl, fun _ h => nomatch h⟩
      | cons t ts ih =>
        cases rv with
        | @cons _ u _ us r1 r2 =>
          obtain ⟨tv, a1, a2, a3⟩ := ih us r2
          refine ⟨(t.1, t.2, u) :: tv, by rw [a1]; rfl, by rw [a2]; rfl, fun x hx => ?_⟩
          rcases List.mem_cons.mp hx with z | z
          · rw [z]; exact r1
          · exact a3 x z
    subst e1 e2
    refine ksk_sortedSt (b := false) (kz := tv.map fun t => (t.1 : Int)) (f := .builtin "len") F N hll.isList (by simp) (by rw [List.length_map] at hz ⊢; rw [List.length_map] at hz; exact hz) (ksk_s1 _ _) (fun x => ksk_l1 _ _) (fun x => ksk_t4 "len" x) ?turn ?fin
    case turn =>
      intro i v k hv hk h tk own F' N'
      rw [List.getElem?_map] at hv hk
      cases qt : tv[i]? with
      | none => rw [qt] at hv; cases hv
      | some t =>
        rw [qt] at hv hk
        cases hv
        cases hk
        have tm : t ∈ tv := List.mem_of_getElem? qt
        obtain ⟨b, ws, hb1, hb2, hb3⟩ := ht (t.1, t.2.1) (List.mem_map.mpr ⟨t, tm, rfl⟩)
        have rr := e3 t tm
        have hb1 : t.2.1 = V.ref b := hb1
        rw [hb1] at rr
        have rr : t.2.2 = Value.ref b := rr
        show wpAny (model X.prog X.w) X.A.in1.in1 (PySem.call (Value.builtin "len") [t.2.2]) (KskEnd X.base X.env.locals m (allNews s1.heap X.base X.env.locals ++ own) (t.1 : Int) { s1 with heap := h, toks := tk }) _ _
        rw [rr]
        obtain ⟨its2, rv2, ht2, hz2⟩ := I1.tuple hb2
        have lt2 : its2.length = t.1 := by rw [← rv2.length]; exact hb3
        have hz3 := hz2
        rw [sizeLine_eq] at hz3
        obtain ⟨o, ho, hc, n, hd⟩ := ht2
        have neL : b ≠ X.env.locals := fun z => by
          obtain ⟨o', es, ep, ho', hd', _⟩ := hns
          rw [z, ho'] at ho
          cases ho
          rw [hd'] at hd
          cases hd
        have ho' : h.get? b = some o := by
          cases qb : X.base.get? b with
          | none => exact (N' _ (List.mem_append_left _ (allNews_mem.mpr ⟨ho, neL, qb⟩))).1
          | some o' =>
            have := I1.bk b o' qb
            rw [ho] at this
            cases this
            exact F'.keep b o qb
        refine len_tuple (items := its2.toArray) ⟨o, ho', hc, n, hd⟩ ?_ ?_
        · rw [List.size_toArray, lt2]
          have : t.1 = ws.length := hb3.symm
          omega
        · rw [List.size_toArray, lt2]
          exact ⟨h, _, _, rfl, rfl, F', N'⟩
    case fin =>
      intro Dd h' tk out c F' N' hlt ko
      have eo := lens_uniq ko
      have perm : (sortB (fun (p q : Nat × V × Value) => Nat.ble p.1 q.1) tv).Perm tv := sortB_perm
      have rv' : ∀ l : List (Nat × V × Value), (∀ t ∈ l, RelV t.2.1 t.2.2) → Vals (l.map fun t => t.2.1) (l.map fun t => t.2.2) := fun l hl => by
        induction l with
        | nil => exact .nil
        | cons t l ih => exact .cons (hl t List.mem_cons_self) (ih fun x hx => hl x (List.mem_cons_of_mem _ hx))
      have rel := rv' _ fun t ht' => e3 t (perm.mem_iff.mp ht')
      rw [← eo] at rel
      have ea : out.toList.toArray = out := by rw [Array.toArray_toList]
      rw [← ea] at N'
      obtain ⟨J, hn⟩ := inv_frame (tk := tk) I1 hns F' N' hlt rel (by rw [List.length_map, perm.length_eq]; rw [List.length_map, List.length_map] at hz; exact hz)
      refine ⟨.ref Dd, _, J, rfl, ?_⟩
      have q := q Dd hn
      rw [sortB_map, List.map_map] at q
      exact q
variable {G : Gam}
theorem lens_rp {K : PySem.W.Frag} {H : Hp} {m : Mu} : ∀ {l : List PyData} {t : List (Nat × PyData)} {vs : List V}, lensT l = some t → RpAll K H m l vs → ∃ tv : List (Nat × PyData × V), t = tv.map (fun p => (p.1, p.2.1)) ∧ vs = tv.map (fun p => p.2.2) ∧ ∀ p ∈ tv, Rp K H m p.2.1 p.2.2 ∧ ∃ b ws, p.2.2 = V.ref b ∧ H b = some (.tup ws) ∧ ws.length = p.1
  | [], t, _, e, h => by
    cases h
    cases e
    exact ⟨[], rfl, rfl, fun _ h => nomatch h⟩
  | d :: r, t, _, e, h => by
    cases h with
    | @cons _ _ v vs h1 h2 =>
      unfold lensT at e
      cases d with
      | tuple xs =>
        simp only [lenT] at e
        cases q : lensT r with
        | none => rw [q] at e; cases e
        | some k =>
          rw [q] at e
          cases e
          obtain ⟨tv, a1, a2, a3⟩ := lens_rp q h2
          refine ⟨(xs.length, .tuple xs, v) :: tv, by rw [a1]; rfl, by rw [a2]; rfl, fun p hp => ?_⟩
          rcases List.mem_cons.mp hp with z | z
          · subst z
            refine ⟨h1, ?_⟩
            cases h1 with
            | @tup b ws _ t1 t2 t3 => exact ⟨b, ws, rfl, t1, t3.length.symm⟩
          · exact a3 p z
      | _ => simp [lenT] at e
theorem se_sortLen {e : PySem.Expr} {c : CE} {p p2 kp pos : Pos} (he : PE X e (rdE X.K G c)) (hg : Gl X "sorted") (hm : X.mg "sorted" = none) (hg2 : Gl X "len") (hm2 : X.mg "len" = none)
    (hs : starEach [e] X.env = (false, eval e X.env) :: starEach [] X.env) (hb : backTo pos (starEach [e] X.env) = (false, eval e X.env) :: backTo pos (starEach [] X.env)) (hpl : (backTo pos (starEach [e] X.env)).any (·.1) = false) :
    PE X (.Call (.Name "sorted" p) [e] [⟨some "key", .Name "len" p2, kp⟩] pos) (rdE X.K G (.sortLen c)) :=
  (pe_sortLen he hg hm hg2 hm2 hs hb hpl).mono fun σ H Q ⟨m, r, S, lo, st, h⟩ => by
    simp only [evE] at h
    refine ⟨m, r, S, lo, st, h.bind.mono fun d S1 m1 H1 e1 s1 h1 v rp => ?_⟩
    cases q : view S1 d with
    | lst xs =>
      rw [q] at h1
      obtain ⟨a, ws, rfl, z1, z2⟩ := view_lst s1 rp q
      simp only at h1
      cases q2 : pys xs with
      | none => simp only [q2] at h1; exact h1.elim
      | some l =>
        simp only [q2] at h1
        cases q3 : lensT l with
        | none => simp only [q3] at h1; exact h1.elim
        | some t =>
          simp only [q3] at h1
          obtain ⟨tv, a1, a2, a3⟩ := lens_rp q3 (pys_all q2 z2)
          subst a1 a2
          have rel : ∀ l : List (Nat × PyData × V), (∀ p ∈ l, Rp X.K H1 m1 p.2.1 p.2.2) → RpDs X.K H1 m1 (l.map fun p => .py p.2.1) (l.map fun p => p.2.2) := fun l hl => by
            induction l with
            | nil => exact .nil
            | cons t l ih => exact .cons (hl t List.mem_cons_self) (ih fun x hx => hl x (List.mem_cons_of_mem _ hx))
          have perm : (sortB (fun (p q : Nat × PyData × V) => Nat.ble p.1 q.1) tv).Perm tv := sortB_perm
          have e3 : ((sortB (fun (p q : Nat × PyData) => Nat.ble p.1 q.1) (tv.map fun p => (p.1, p.2.1))).map fun p => D.py p.2) = (sortB (fun (p q : Nat × PyData × V) => Nat.ble p.1 q.1) tv).map fun p => D.py p.2.1 := by
            rw [sortB_map, List.map_map]
            rfl
          rw [e3] at h1
          obtain ⟨y1, y2⟩ := mkLst_ok s1 (rel _ fun p hp => (a3 p (perm.mem_iff.mp hp)).1) h1
          refine ⟨a, tv.map (fun p => (p.1, p.2.2)), rfl, by rw [List.map_map]; exact z1, fun t ht => ?_, fun q hq => ?_⟩
          · obtain ⟨p, hp, rfl⟩ := List.mem_map.mp ht
            obtain ⟨b, ws, w1, w2, w3⟩ := (a3 p hp).2
            exact ⟨b, ws, w1, SqT.of w2, w3⟩
          · have y := y2 q hq
            rw [sortB_map, List.map_map]
            exact y
    | _ => rw [q] at h1; exact h1.elim
/-! ### short words -/
theorem room_u66 {k : Nat} {A : Around} (r : Room k A) : A.units + 66 < cLine := by have := r.un; omega
theorem qsortLen {e : PySem.Expr} {c : CE} {p p2 kp pos : Pos} (hm : X.mg "sorted" = none) (hm2 : X.mg "len" = none) (he : PE X e (rdE X.K G c)) (hg : Gl X "sorted" := by rfl) (hg2 : Gl X "len" := by rfl)
    (hs : starEach [e] X.env = (false, eval e X.env) :: starEach [] X.env := by rfl) (hb : backTo pos (starEach [e] X.env) = (false, eval e X.env) :: backTo pos (starEach [] X.env) := by rfl) (hpl : (backTo pos (starEach [e] X.env)).any (·.1) = false := by rfl) :
    PE X (.Call (.Name "sorted" p) [e] [⟨some "key", .Name "len" p2, kp⟩] pos) (rdE X.K G (.sortLen c)) := se_sortLen he hg hm hg2 hm2 hs hb hpl
theorem qsorted {mu : Bool} {e : PySem.Expr} {es : List PySem.Expr} {cs : CEs} {p pos : Pos} (hm : X.mg "sorted" = none) (ha : PA X (e :: es) (rdA X.K G cs)) (hc : X.calm = true := by rfl) (hg : Gl X "sorted" := by rfl)
    (he : starEach (e :: es) X.env = (false, eval e X.env) :: starEach es X.env := by rfl) (hpl : (backTo pos (starEach es X.env)).any (·.1) = false := by rfl) : PE X (.Call (.Name "sorted" p) (e :: es) [] pos) (rdE X.K G (.blt mu .sorted cs)) :=
  se_bltF (b := .sorted) (id := "sorted") (cb_sorted hc) hg hm (by decide +kernel) ha (by decide) (by decide) he hpl
theorem qrepr {mu : Bool} {e : PySem.Expr} {es : List PySem.Expr} {cs : CEs} {p pos : Pos} (hu : X.A.units + 66 < cLine) (hgd : X.A.guards = some []) (hm : X.mg "repr" = none) (ha : PA X (e :: es) (rdA X.K G cs)) (hg : Gl X "repr" := by rfl)
    (he : starEach (e :: es) X.env = (false, eval e X.env) :: starEach es X.env := by rfl) (hpl : (backTo pos (starEach es X.env)).any (·.1) = false := by rfl) : PE X (.Call (.Name "repr" p) (e :: es) [] pos) (rdE X.K G (.blt mu .repr cs)) :=
  se_bltF (b := .repr) (id := "repr") (cb_repr hgd hu) hg hm (by decide +kernel) ha (by decide) (by decide) he hpl
end
end Sf
end
section
set_option maxRecDepth 100000
set_option maxHeartbeats 4000000
namespace Sf
open PySem PySem.Spec L2
open PyProof.Rows hiding St
/-! ### drawing: what the laws' own helpers do -/
def d__law_mixed : Fn := ⟨2, 2,
  (.cons (.asg 0 (.bop false .mod (.blt false .int (.cons (.loc 0) .nil)) (.con (.int 2147483647))))
  (.cons (.ret (.bop false .mod (.bop false .mul (.bop false .mod (.bop false .add (.bop false .add (.bop false .mul (.loc 0) (.bop false .add (.con (.int 48271)) (.bop false .mul (.bop false .mul (.con (.int 2)) (.loc 1)) (.loc 1)))) (.bop false .mul (.con (.int 69621)) (.loc 1))) (.con (.int 11))) (.con (.int 2147483647))) (.con (.int 69621))) (.con (.int 2147483629))))
  .nil))⟩
def d__law_draw : Fn := ⟨2, 6,
  (.cons (.asg 2 (.idx (.loc 0) (.con (.str "at"))))
  (.cons (.sub (.loc 0) (.con (.str "at")) (.bop false .add (.loc 2) (.con (.int 1))))
  (.cons (.asg 3 (.bop false .mod (.blt false .int (.cons (.loc 2) .nil)) (.blt false .len (.cons (.idx (.loc 0) (.con (.str "cells"))) .nil))))
  (.cons (.asg 4 (.idx (.idx (.loc 0) (.con (.str "lefts"))) (.loc 3)))
  (.cons (.ite (.cmp .gt (.loc 4) (.con (.int 0))) (.cons (.sub (.idx (.loc 0) (.con (.str "lefts"))) (.loc 3) (.bop false .fdiv (.loc 4) (.loc 1)))
  (.cons (.ret (.bop false .mod (.blt false .int (.cons (.loc 4) .nil)) (.loc 1)))
  .nil)) .nil)
  (.cons (.asg 5 (.call false "_law_mixed" (.cons (.call false "_law_mixed" (.cons (.idx (.idx (.loc 0) (.con (.str "cells"))) (.loc 3)) (.cons (.loc 2) .nil))) (.cons (.bop false .add (.con (.int 40)) (.loc 2)) .nil))))
  (.cons (.ret (.bop false .mod (.bop false .fdiv (.blt false .int (.cons (.bop false .add (.bop false .mul (.loc 5) (.con (.int 2147483647))) (.call false "_law_mixed" (.cons (.loc 5) (.cons (.bop false .add (.con (.int 7)) (.loc 2)) .nil)))) .nil)) (.con (.int 64))) (.loc 1)))
  .nil)))))))⟩
def d__law_begin : Fn := ⟨1, 3,
  (.cons (.asg 1 (.ite (.cmp .ne (.loc 0) (.lst false .nil)) (.blt false .list (.cons (.loc 0) .nil)) (.lst false (.cons (.con (.int 0)) .nil))))
  (.cons (.ret (.dic true (.cons (.con (.str "cells")) (.cons (.loc 1) (.cons (.con (.str "lefts")) (.cons (.lc true (.ite (.cmp .ge (.loc 2) (.bop false .pow (.con (.int 10)) (.con (.int 18)))) (.loc 2) (.con (.int 0))) [2] (.one 2) (.seq (.loc 1)) .none) (.cons (.con (.str "at")) (.cons (.con (.int 0)) (.cons (.con (.str "room")) (.cons (.con (.int 0)) .nil))))))))))
  .nil))⟩
/-- what the state holds -/
structure Sta where
  cells : List Int
  lefts : List Int
  at_ : Int
def intsL (l : List Int) : List D := l.map fun i => .py (.int i)
def stO (q : Sta) : Store := [.lst (intsL q.lefts), .dS [("cells", .py (.list (q.cells.map .int))), ("lefts", .ref 0), ("at", .py (.int q.at_)), ("room", .py (.int 0))]]
structure Sta.Ok (q : Sta) : Prop where
  ne : q.cells ≠ []
  len : q.lefts.length = q.cells.length
  low : 0 ≤ q.at_
def mixN (cell k : Int) : Int := (cell % 2147483647 * (48271 + 2 * k * k) + 69621 * k + 11) % 2147483647 * 69621 % 2147483629
theorem small_of {i : Int} (h1 : -(2 ^ 64) < i) (h2 : i < 2 ^ 64) : small64 i = true := by
  unfold small64
  rw [decide_eq_true h1, decide_eq_true h2]
  rfl
theorem mixed_run {G : Gam} {F : Nat} {cell k : Int} {S : Store} (h0 : 0 ≤ k) (h1 : k < 2 ^ 62) : (exSs G F d__law_mixed.body [some (.py (.int cell)), some (.py (.int k))] S).bind endD = .ok (.py (.int (mixN cell k))) S := by
  have m1 : small64 (cell % 2147483647) = true := small_of (by omega) (by omega)
  have m2 : small64 2 = true := by decide
  have m3 : small64 k = true := small_of (by omega) (by omega)
  have m4 : small64 69621 = true := by decide
  simp [d__law_mixed, exSs, exS, evE, evEs, bltD, bopD, m1, m2, m3, m4, endD, mixN]
theorem view_st {q : Sta} {rest : Store} : view (stO q ++ rest) (.ref 1) = .dS [("cells", .py (.list (q.cells.map .int))), ("lefts", .ref 0), ("at", .py (.int q.at_)), ("room", .py (.int 0))] := rfl
theorem view_lefts {q : Sta} {rest : Store} : view (stO q ++ rest) (.ref 0) = .lst (intsL q.lefts) := rfl
theorem idx_at {q : Sta} {rest : Store} : idxD (stO q ++ rest) (.ref 1) (.py (.str "at")) = some (.py (.int q.at_)) := rfl
theorem idx_cells {q : Sta} {rest : Store} : idxD (stO q ++ rest) (.ref 1) (.py (.str "cells")) = some (.py (.list (q.cells.map .int))) := rfl
theorem idx_lefts {q : Sta} {rest : Store} : idxD (stO q ++ rest) (.ref 1) (.py (.str "lefts")) = some (.ref 0) := rfl
theorem put_at {q : Sta} {rest : Store} {i : Int} : putD (.ref 1) (.py (.str "at")) (.py (.int i)) (stO q ++ rest) = some (stO { q with at_ := i } ++ rest) := rfl
theorem ix_of {n : Nat} {k : Int} (h0 : 0 ≤ k) (h1 : k < n) : ixN n k = some k.toNat := by
  unfold ixN
  simp [h0, h1]
theorem put_lefts {q : Sta} {rest : Store} {k : Nat} (h : k < q.lefts.length) {v : Int} : putD (.ref 0) (.py (.int k)) (.py (.int v)) (stO q ++ rest) = some (stO { q with lefts := q.lefts.set k v } ++ rest) := by
  have : ixN (intsL q.lefts).length k = some k := by
    rw [ix_of (by omega) (by simp [intsL]; omega)]
    simp
  show (match ixN (intsL q.lefts).length k with
      | some j => some ((stO q ++ rest).set 0 (.lst ((intsL q.lefts).set j (.py (.int v)))))
      | none => none) = _
  rw [this]
  simp [stO, intsL, List.map_set]
theorem idx_list {S : Store} {l : List Int} {k : Nat} {x : Int} (h : l[k]? = some x) : idxD S (.py (.list (l.map .int))) (.py (.int k)) = some (.py (.int x)) := by
  show atI ((l.map PyData.int).map D.py) k = _
  exact atI_nat (j := k) (by simp [h])
theorem idx_refl {q : Sta} {rest : Store} {k : Nat} {x : Int} (h : q.lefts[k]? = some x) : idxD (stO q ++ rest) (.ref 0) (.py (.int k)) = some (.py (.int x)) := by
  show atI (intsL q.lefts) k = _
  exact atI_nat (j := k) (by simp [intsL, h])
theorem draw_run {G : Gam} {F : Nat} {m : Int} {q : Sta} {rest : Store} (ok : q.Ok) (hat : q.at_ < 2 ^ 60) (h0 : 0 < m) (h1 : m < 1073741824) (hG : ∀ (cell k : Int) (S : Store), 0 ≤ k → k < 2 ^ 62 → G false "_law_mixed" [.py (.int cell), .py (.int k)] S = .ok (.py (.int (mixN cell k))) S) :
    ∃ i q', 0 ≤ i ∧ i < m ∧ q'.Ok ∧ q'.at_ = q.at_ + 1 ∧ (exSs G F d__law_draw.body [some (.ref 1), some (.py (.int m)), none, none, none, none] (stO q ++ rest)).bind endD = .ok (.py (.int i)) (stO q' ++ rest) := by
  obtain ⟨hc, hl, ha⟩ := ok
  have hcl : 0 < q.cells.length := List.length_pos_iff.mpr hc
  obtain ⟨p, hp⟩ : ∃ p : Nat, q.at_ % (q.cells.length : Int) = p := ⟨(q.at_ % (q.cells.length : Int)).toNat, by rw [Int.toNat_of_nonneg (Int.emod_nonneg _ (by omega))]⟩
  have hpl : p < q.cells.length := by
    have := Int.emod_lt_of_pos q.at_ (show (0 : Int) < q.cells.length by omega)
    omega
  have hle : q.lefts[p]? = some q.lefts[p] := List.getElem?_eq_getElem (by omega)
  have hce : q.cells[p]? = some q.cells[p] := List.getElem?_eq_getElem hpl
  generalize q.lefts[p] = L at hle
  generalize q.cells[p] = C at hce
  have ln : ∀ S, lenD S (.py (.list (q.cells.map .int))) = some q.cells.length := fun S => by simp [lenD, view]
  have hcz : (0 : Int) < (q.cells.length : Int) := by omega
  have hG1 := hG C q.at_
  have hm5 : small64 2147483647 = true := by decide
  by_cases hL : L > 0
  · refine ⟨L % m, { q with at_ := q.at_ + 1, lefts := q.lefts.set p (L / m) }, Int.emod_nonneg _ (by omega), Int.emod_lt_of_pos _ h0, ⟨hc, by simp [hl], by show 0 ≤ q.at_ + 1; omega⟩, rfl, ?_⟩
    have e1 := @idx_refl { q with at_ := q.at_ + 1 } rest p L hle
    have e2 := @put_lefts { q with at_ := q.at_ + 1 } rest p (by show p < q.lefts.length; omega) (L / m)
    simp [d__law_draw, exSs, exS, evE, evEs, bltD, bopD, idx_at, idx_cells, idx_lefts, put_at, ln, hcz, hcl, hp, e1, e2, cmpD, truth, bl, hL, h0, h1, endD]
  · have e1 := @idx_refl { q with at_ := q.at_ + 1 } rest p L hle
    have e3 := fun S => @idx_list S q.cells p C hce
    refine ⟨(mixN (mixN C q.at_) (40 + q.at_) * 2147483647 + mixN (mixN (mixN C q.at_) (40 + q.at_)) (7 + q.at_)) / 64 % m, { q with at_ := q.at_ + 1 }, Int.emod_nonneg _ (by omega), Int.emod_lt_of_pos _ h0, ⟨hc, hl, by show 0 ≤ q.at_ + 1; omega⟩, rfl, ?_⟩
    simp [d__law_draw, exSs, exS, evE, evEs, bltD, bopD, idx_at, idx_cells, idx_lefts, put_at, ln, hcz, hcl, hp, e1, e3, cmpD, truth, bl, hL, h0, h1, endD, hG1 _ (show 0 ≤ q.at_ by omega) (by omega), hG _ (40 + q.at_) _ (by omega) (by omega), hG _ (7 + q.at_) _ (by omega) (by omega), hm5]
end Sf
end
section
set_option maxRecDepth 100000
set_option maxHeartbeats 4000000
namespace Sf
open PySem PySem.Spec L2
open PyProof.Rows hiding St
/-! ### data that == may be asked of -/
structure Shp (n : Nat) (d : PyData) : Prop where
  lay : d.canLay0 = true
  dep : d.depth ≤ n
theorem Shp.shaped {n : Nat} {d : PyData} (h : Shp n d) (hn : n ≤ 64) : SeqAt.shaped d = true := by
  unfold SeqAt.shaped
  rw [h.lay, decide_eq_true (Nat.le_trans h.dep hn)]
  rfl
theorem Shp.mono {n k : Nat} {d : PyData} (h : Shp n d) (hn : n ≤ k) : Shp k d := ⟨h.lay, Nat.le_trans h.dep hn⟩
theorem shp_all {n : Nat} : ∀ {xs : List PyData}, (∀ x ∈ xs, Shp n x) → PyData.canLayAll0 xs = true ∧ PyData.depthAll xs ≤ n
  | [], _ => ⟨rfl, Nat.zero_le _⟩
  | x :: xs, h => by
    obtain ⟨h1, h2⟩ := h x List.mem_cons_self
    obtain ⟨h3, h4⟩ := shp_all fun y hy => h y (List.mem_cons_of_mem _ hy)
    refine ⟨by simp [PyData.canLayAll0, h1, h3], ?_⟩
    simp only [PyData.depthAll]
    omega
theorem shp_tup {n : Nat} {xs : List PyData} (h : ∀ x ∈ xs, Shp n x) : Shp (n + 1) (.tuple xs) := by
  obtain ⟨h1, h2⟩ := shp_all h
  exact ⟨by simpa [PyData.canLay0] using h1, by simp only [PyData.depth]; omega⟩
theorem shp_lst {n : Nat} {xs : List PyData} (h : ∀ x ∈ xs, Shp n x) : Shp (n + 1) (.list xs) := by
  obtain ⟨h1, h2⟩ := shp_all h
  exact ⟨by simpa [PyData.canLay0] using h1, by simp only [PyData.depth]; omega⟩
theorem shp_int {i : Int} : Shp 0 (.int i) := ⟨rfl, Nat.le_refl _⟩
theorem shp_bool {b : Bool} : Shp 0 (.bool b) := ⟨rfl, Nat.le_refl _⟩
theorem shp_non : Shp 0 .none := ⟨rfl, Nat.le_refl _⟩
theorem shp_str {x : Str} (h : PyData.strOk x = true) : Shp 0 (.str x) := ⟨by simpa [PyData.canLay0] using h, Nat.le_refl _⟩
mutual
theorem eqv_refl : ∀ {d : PyData}, d.canLay0 = true → PyData.eqv d d = true
  | .none, _ => rfl
  | .bool b, _ => by simp [PyData.eqv]
  | .int b, _ => by simp [PyData.eqv]
  | .str b, _ => by simp [PyData.eqv]
  | .list xs, h => by simp only [PyData.eqv]; exact eqvAll_refl (by simpa [PyData.canLay0] using h)
  | .tuple xs, h => by simp only [PyData.eqv]; exact eqvAll_refl (by simpa [PyData.canLay0] using h)
  | .dict xs, h => by simp [PyData.canLay0] at h
theorem eqvAll_refl : ∀ {xs : List PyData}, PyData.canLayAll0 xs = true → PyData.eqvAll xs xs = true
  | [], _ => rfl
  | x :: xs, h => by
    have h : x.canLay0 = true ∧ PyData.canLayAll0 xs = true := by simpa [PyData.canLayAll0] using h
    simp [PyData.eqvAll, eqv_refl h.1, eqvAll_refl h.2]
end
theorem eqD_same {n : Nat} {S : Store} {d : PyData} (h : Shp n d) (hn : n ≤ 64) : eqD S (.py d) (.py d) = some true := by
  unfold eqD
  split
  · rename_i x y e1 e2
    cases e1
    cases e2
    simp
  · simp [eqG, frzD, h.shaped hn, eqv_refl h.lay]
theorem eqD_py {n k : Nat} {S : Store} {d e : PyData} (h : Shp n d) (hn : n ≤ 64) (h' : Shp k e) (hk : k ≤ 64) : eqD S (.py d) (.py e) = some (PyData.eqv d e) := by
  unfold eqD
  split
  · rename_i x y e1 e2
    cases e1
    cases e2
    simp only [PyData.eqv]
    rw [show (x == y) = decide (x = y) from by rw [Bool.eq_iff_iff]; simp]
  · simp [eqG, frzD, h.shaped hn, h'.shaped hk]
/-! ### one step each -/
def tt3 {A : Type} (o : Option Bool) (a b : R A) : R A := match o with
  | some true => a
  | some false => b
  | none => .bad
@[simp] theorem tt3_t {A : Type} {a b : R A} : tt3 (some true) a b = a := rfl
@[simp] theorem tt3_f {A : Type} {a b : R A} : tt3 (some false) a b = b := rfl
def okO {A B : Type} (o : Option A) (f : A → R B) : R B := match o with
  | some a => f a
  | none => .bad
@[simp] theorem okO_some {A B : Type} {a : A} {f : A → R B} : okO (some a) f = f a := rfl
def okL (o : Option (Option D)) (S : Store) : R D := match o with
  | some (some d) => .ok d S
  | _ => .bad
@[simp] theorem okL_some {d : D} {S : Store} : okL (some (some d)) S = .ok d S := rfl
section
variable {G : Gam} {F : Nat} {r : Rho} {S : Store}
theorem ev_con {d : PyData} : evE G (.con d) r S = .ok (.py d) S := rfl
theorem ev_glo {x : Str} {d : PyData} : evE G (.glo x d) r S = .ok (.py d) S := rfl
theorem ev_loc {i : Nat} : evE G (.loc i) r S = okL r[i]? S := by simp only [evE]; rfl
theorem ev_tup {es : CEs} : evE G (.tup es) r S = (evEs G es r S).bind fun ds S1 => mkTup ds S1 := by simp only [evE]
theorem ev_lst {mu : Bool} {es : CEs} : evE G (.lst mu es) r S = (evEs G es r S).bind fun ds S1 => mkLst mu ds S1 := by simp only [evE]
theorem ev_dic {mu : Bool} {es : CEs} : evE G (.dic mu es) r S = (evEs G es r S).bind fun ds S1 => okO (pairsD ds) fun kvs => if Nat.ble kvs.length 15 then mkDS mu (mergeS [] kvs) S1 else .bad := by
  simp only [evE]
  congr
  funext ds S1
  cases pairsD ds <;> rfl
theorem ev_bop {mu : Bool} {o : Bop} {a b : CE} : evE G (.bop mu o a b) r S = (evE G a r S).bind fun x S1 => (evE G b r S1).bind fun y S2 => bopD mu o x y S2 := by simp only [evE]
theorem ev_cmp {o : Cop} {a b : CE} : evE G (.cmp o a b) r S = (evE G a r S).bind fun x S1 => (evE G b r S1).bind fun y S2 => R.of ((cmpD S2 o x y).map bl) S2 := by simp only [evE]
theorem ev_cmp2 {o p : Cop} {a b c : CE} : evE G (.cmp2 o p a b c) r S = (evE G a r S).bind fun x S1 => (evE G b r S1).bind fun y S2 => tt3 (cmpD S2 o x y) ((evE G c r S2).bind fun z S3 => R.of ((cmpD S3 p y z).map bl) S3) (.ok (bl false) S2) := by simp only [evE]; rfl
theorem ev_and {a b : CE} : evE G (.and a b) r S = (evE G a r S).bind fun x S1 => tt3 (truth S1 x) (evE G b r S1) (.ok x S1) := by simp only [evE]; rfl
theorem ev_or {a b : CE} : evE G (.or a b) r S = (evE G a r S).bind fun x S1 => tt3 (truth S1 x) (.ok x S1) (evE G b r S1) := by simp only [evE]; rfl
theorem ev_not {a : CE} : evE G (.not a) r S = (evE G a r S).bind fun x S1 => R.of ((truth S1 x).map fun b => bl !b) S1 := by simp only [evE]
theorem ev_ite {c a b : CE} : evE G (.ite c a b) r S = (evE G c r S).bind fun x S1 => tt3 (truth S1 x) (evE G a r S1) (evE G b r S1) := by simp only [evE]; rfl
theorem ev_idx {a b : CE} : evE G (.idx a b) r S = (evE G a r S).bind fun x S1 => (evE G b r S1).bind fun y S2 => R.of (idxD S2 x y) S2 := by simp only [evE]
theorem ev_call {mu : Bool} {f : Str} {es : CEs} : evE G (.call mu f es) r S = (evEs G es r S).bind fun ds S1 => G mu f ds S1 := by simp only [evE]
theorem ev_blt {mu : Bool} {b : Blt} {es : CEs} : evE G (.blt mu b es) r S = (evEs G es r S).bind fun ds S1 => bltD mu b ds S1 := by simp only [evE]
theorem ev_isi {a : CE} {t : Ty} : evE G (.isi a t) r S = (evE G a r S).bind fun x S1 => R.of ((isiD S1 x t).map bl) S1 := by simp only [evE]
theorem ev_met {mu : Bool} {m : Met} {o : CE} {es : CEs} : evE G (.met mu m o es) r S = (evE G o r S).bind fun x S1 => if recv m S1 x then (evEs G es r S1).bind fun ds S2 => metD mu m x ds S2 else .bad := by simp only [evE]
theorem ev_nil : evEs G .nil r S = .ok [] S := rfl
theorem ev_cons {e : CE} {es : CEs} : evEs G (.cons e es) r S = (evE G e r S).bind fun d S1 => (evEs G es r S1).bind fun ds S2 => .ok (d :: ds) S2 := by simp only [evEs]
theorem x_nil : exSs G F .nil r S = .ok (.nx r) S := rfl
theorem x_cons {s : CS} {ss : CSs} : exSs G F (.cons s ss) r S = (exS G F s r S).bind fun fl S1 => match fl with
    | .nx r1 => exSs G F ss r1 S1
    | .ct r1 => .ok (.ct r1) S1
    | .bk r1 => .ok (.bk r1) S1
    | .rt d => .ok (.rt d) S1 := by simp only [exSs] <;> rfl
theorem x_exp {e : CE} : exS G F (.exp e) r S = (evE G e r S).bind fun _ S1 => .ok (.nx r) S1 := by simp only [exS]
theorem x_asg {i : Nat} {e : CE} : exS G F (.asg i e) r S = (evE G e r S).bind fun d S1 => .ok (.nx (r.set i (some d))) S1 := by simp only [exS]
theorem x_ret {e : CE} : exS G F (.ret e) r S = (evE G e r S).bind fun d S1 => .ok (.rt d) S1 := by simp only [exS]
theorem x_ite {c : CE} {a b : CSs} : exS G F (.ite c a b) r S = (evE G c r S).bind fun x S1 => tt3 (truth S1 x) (exSs G F a r S1) (exSs G F b r S1) := by simp only [exS]; rfl
theorem x_par {is : List Nat} {es : CEs} : exS G F (.par is es) r S = (evEs G es r S).bind fun ds S1 => R.of ((setAll is ds r).map .nx) S1 := by simp only [exS]
theorem x_unp {is : List Nat} {e : CE} : exS G F (.unp is e) r S = (evE G e r S).bind fun d S1 => R.of ((bindT (.many is) d r).map .nx) S1 := by simp only [exS]
theorem x_sub {o i e : CE} : exS G F (.sub o i e) r S = (evE G e r S).bind fun v S1 => (evE G o r S1).bind fun x S2 => (evE G i r S2).bind fun k S3 => okO (putD x k v S3) fun S4 => .ok (.nx r) S4 := by
  simp only [exS]
  congr
  funext v S1
  congr
  funext x S2
  congr
  funext k S3
  cases putD x k v S3 <;> rfl
theorem x_loop {t : Tg} {it : CI} {b : CSs} : exS G F (.loop t it b) r S = (evI G it r S).bind fun src S1 => loopF src.stands (fun x r1 S2 => match bindT t x r1 with
    | some r2 => exSs G F b r2 S2
    | none => .bad) src.items r S1 := by simp only [exS] <;> rfl
end
/-! ### loops that leave the store -/
theorem loopC_map {A : Type} {ok : Store → Bool} {f : D → Store → R (Option A)} {S : Store} (g : D → Option A) (h0 : ok S = true) : ∀ {xs : List D}, (∀ x ∈ xs, f x S = .ok (g x) S) → loopC ok f xs S = .ok (xs.filterMap g) S
  | [], _ => rfl
  | x :: xs, h => by
    simp only [loopC, h x List.mem_cons_self, R.bind_ok, h0, if_true, loopC_map g h0 fun y hy => h y (List.mem_cons_of_mem _ hy)]
    cases q : g x with
    | none => simp [q]
    | some y => simp [q]
theorem loopC_ex {A B : Type} {ok : Store → Bool} {f : D → Store → R (Option A)} {S : Store} (e : B → D) (g : B → Option A) (h0 : ok S = true) {xs : List B} (h : ∀ x ∈ xs, f (e x) S = .ok (g x) S) : loopC ok f (xs.map e) S = .ok (xs.filterMap g) S := by
  induction xs with
  | nil => rfl
  | cons x xs ih =>
    simp only [List.map_cons, loopC, h x List.mem_cons_self, R.bind_ok, h0, if_true, ih fun y hy => h y (List.mem_cons_of_mem _ hy)]
    cases q : g x with
    | none => simp [q]
    | some y => simp [q]
theorem ev_lc {G : Gam} {mu : Bool} {elt : CE} {own : List Nat} {t : Tg} {it : CI} {c : CO} {r : Rho} {S : Store} {src : Src} {B : Type} (e : B → D) (g : B → Option D) (xs : List B) (hi : evI G it r S = .ok src S) (hx : src.items = xs.map e) (hs : src.stands S = true)
    (h : ∀ x ∈ xs, turnC G elt own t c r (e x) S = .ok (g x) S) : evE G (.lc mu elt own t it c) r S = mkLst mu (xs.filterMap g) S := by
  rw [evE_lc, hi, R.bind_ok, hx, loopC_ex e g hs h, R.bind_ok]
theorem src_list {G : Gam} {c : CE} {r : Rho} {S S1 : Store} {xs : List PyData} (h : evE G c r S = .ok (.py (.list xs)) S1) : evI G (.seq c) r S = .ok ⟨xs.map .py, none⟩ S1 := by
  simp [evI, h, srcOf]
theorem src_tup {G : Gam} {c : CE} {r : Rho} {S S1 : Store} {xs : List PyData} (h : evE G c r S = .ok (.py (.tuple xs)) S1) : evI G (.seq c) r S = .ok ⟨xs.map .py, none⟩ S1 := by
  simp [evI, h, srcOf]
theorem fits_of {n : Nat} (h : n < 1000000) : fits n = true := Nat.blt_eq.mpr h
/-! ### calls -/
theorem call_py {T : Tab} {F n : Nat} {mu : Bool} {f : Str} {xs : List PyData} {S S' : Store} {d : PyData} {fn : Fn} (hT : T f = some fn) (hl : xs.length = fn.ps) (h : (exSs (call T F n) F fn.body (startD fn (xs.map .py)) []).bind endD = .ok (.py d) S') :
    call T F (n + 1) mu f (xs.map .py) S = .ok (.py d) S := by
  have h1 : (xs.map D.py).all isPy = true := by simp [isPy]
  simp only [call, h1, if_true, runF, hT, List.length_map, hl, h, R.bind_ok, endP]
structure StdD (T : Tab) : Prop where
  mixed : T "_law_mixed" = some d__law_mixed
  draw : T "_law_draw" = some d__law_draw
  begin : T "_law_begin" = some d__law_begin
section
variable {T : Tab} {F n : Nat} {mu : Bool}
theorem call_mixed (h : StdD T) {cell k : Int} {S : Store} (h0 : 0 ≤ k) (h1 : k < 2 ^ 62) : call T F (n + 1) mu "_law_mixed" [.py (.int cell), .py (.int k)] S = .ok (.py (.int (mixN cell k))) S :=
  call_py (xs := [.int cell, .int k]) h.mixed rfl (mixed_run h0 h1)
theorem end_same {d : D} {S S' : Store} (h : S'.length = S.length) : endC S d S' = .ok d S' := by
  unfold endC
  split
  · rw [List.take_of_length_le (by omega)]
  · rfl
theorem stO_len {q q' : Sta} {rest : Store} : (stO q' ++ rest).length = (stO q ++ rest).length := by simp [stO]
theorem call_draw (h : StdD T) {m : Int} {q : Sta} {rest : Store} (ok : q.Ok) (hat : q.at_ < 2 ^ 60) (h0 : 0 < m) (h1 : m < 1073741824) :
    ∃ i q', 0 ≤ i ∧ i < m ∧ q'.Ok ∧ q'.at_ = q.at_ + 1 ∧ call T F (n + 2) mu "_law_draw" [.ref 1, .py (.int m)] (stO q ++ rest) = .ok (.py (.int i)) (stO q' ++ rest) := by
  obtain ⟨i, q', a1, a2, a3, a4, a5⟩ := draw_run (G := call T F (n + 1)) (F := F) (rest := rest) ok hat h0 h1 fun cell k S k0 k1 => call_mixed h k0 k1
  refine ⟨i, q', a1, a2, a3, a4, ?_⟩
  have e : startD d__law_draw [.ref 1, .py (.int m)] = [some (.ref 1), some (.py (.int m)), none, none, none, none] := rfl
  have hp : [D.ref 1, .py (.int m)].all isPy = false := rfl
  rw [call]
  simp only [hp, Bool.false_eq_true, if_false, runF, h.draw, e, a5]
  rw [if_pos (show [D.ref 1, D.py (.int m)].length = d__law_draw.ps from rfl), R.bind_ok, end_same stO_len]
def cellsOf (ns : List Int) : List Int := if ns = [] then [0] else ns
theorem begin_run {G : Gam} {ns : List Int} (hl : ns.length ≤ 63) : (exSs G F d__law_begin.body [some (.scr ns), none, none] []).bind endD = .ok (.ref 1) (stO ⟨cellsOf ns, (cellsOf ns).map fun c => if c ≥ 1000000000000000000 then c else 0, 0⟩) := by
  have hne : ∀ S, eqD S (.scr ns) (.py (.list [])) = some (decide (ns = [])) := fun S => by
    have s1 : Shp 1 (.list (ns.map .int)) := shp_lst fun x hx => by
      obtain ⟨i, _, rfl⟩ := List.mem_map.mp hx
      exact shp_int
    have s2 : Shp 1 (.list []) := shp_lst fun x hx => nomatch hx
    simp only [eqD, eqG, frzD, s1.shaped (by omega), s2.shaped (by omega), Bool.and_self, if_true]
    cases ns with
    | nil => rfl
    | cons i r => rfl
  have lc : ∀ (l : List Int) (d : Option D), l.length ≤ 63 → evE G (.lc true (.ite (.cmp .ge (.loc 2) (.bop false .pow (.con (.int 10)) (.con (.int 18)))) (.loc 2) (.con (.int 0))) [2] (.one 2) (.seq (.loc 1)) .none) [d, some (.py (.list (l.map .int))), none] [] =
      .ok (.ref 0) [.lst (intsL (l.map fun c => if c ≥ 1000000000000000000 then c else 0))] := by
    intro l d hl
    have hp : (10 : Int) ^ (18 : Int).toNat = 1000000000000000000 := by decide
    have h10 : small64 10 = true := by decide
    have hf : fits l.length = true := fits_of (by omega)
    rw [ev_lc (src := ⟨(l.map PyData.int).map .py, none⟩) (fun i : Int => D.py (.int i)) (fun c => some (D.py (.int (if c ≥ 1000000000000000000 then c else 0)))) l (src_list rfl) (by simp) rfl]
    · simp [mkLst, hf, intsL, List.filterMap_eq_map']
    · intro x _
      by_cases hx : x ≥ 1000000000000000000
      · simp [turnC, bindT, wipeD, evC, evE, bopD, h10, hp, cmpD, truth, bl, hx]
      · have : ¬ (1000000000000000000 ≤ x) := hx
        simp [turnC, bindT, wipeD, evC, evE, bopD, h10, hp, cmpD, truth, bl, this]
  have hm : ∀ (l : List Int) (d : Option D), l.length ≤ 63 → (exSs G F (.cons (.ret (.dic true (.cons (.con (.str "cells")) (.cons (.loc 1) (.cons (.con (.str "lefts")) (.cons (.lc true (.ite (.cmp .ge (.loc 2) (.bop false .pow (.con (.int 10)) (.con (.int 18)))) (.loc 2) (.con (.int 0))) [2] (.one 2) (.seq (.loc 1)) .none) (.cons (.con (.str "at")) (.cons (.con (.int 0)) (.cons (.con (.str "room")) (.cons (.con (.int 0)) .nil)))))))))) .nil) [d, some (.py (.list (l.map .int))), none] []).bind endD =
      .ok (.ref 1) (stO ⟨l, l.map fun c => if c ≥ 1000000000000000000 then c else 0, 0⟩) := by
    intro l d hl
    have e := lc l d hl
    simp only [x_cons, x_ret, ev_dic, ev_cons, ev_con, ev_loc, R.bind_ok, List.getElem?_cons_succ, List.getElem?_cons_zero, e, ev_nil, okL_some]
    rfl
  have hb : d__law_begin.body = .cons (.asg 1 (.ite (.cmp .ne (.loc 0) (.lst false .nil)) (.blt false .list (.cons (.loc 0) .nil)) (.lst false (.cons (.con (.int 0)) .nil)))) (.cons (.ret (.dic true (.cons (.con (.str "cells")) (.cons (.loc 1) (.cons (.con (.str "lefts")) (.cons (.lc true (.ite (.cmp .ge (.loc 2) (.bop false .pow (.con (.int 10)) (.con (.int 18)))) (.loc 2) (.con (.int 0))) [2] (.one 2) (.seq (.loc 1)) .none) (.cons (.con (.str "at")) (.cons (.con (.int 0)) (.cons (.con (.str "room")) (.cons (.con (.int 0)) .nil)))))))))) .nil) := rfl
  have hf : fits ns.length = true := fits_of (by omega)
  have hi : (ns.map fun i => D.py (.int i)) = (ns.map PyData.int).map D.py := by simp
  have first : exS G F (.asg 1 (.ite (.cmp .ne (.loc 0) (.lst false .nil)) (.blt false .list (.cons (.loc 0) .nil)) (.lst false (.cons (.con (.int 0)) .nil)))) [some (.scr ns), none, none] [] = .ok (.nx [some (.scr ns), some (.py (.list ((cellsOf ns).map .int))), none]) [] := by
    have m0 : mkLst false [] [] = .ok (.py (.list [])) [] := rfl
    simp only [x_asg, ev_ite, ev_cmp, ev_loc, List.getElem?_cons_zero, R.bind_ok, ev_lst, ev_nil, m0, cmpD, hne, okL_some]
    by_cases e : ns = []
    · subst e
      rfl
    · have hc : cellsOf ns = ns := if_neg e
      simp only [e, decide_false, Option.map_some, Bool.not_false, R.of_some, R.bind_ok, bl, truth, tt3_t, okL_some, ev_blt, ev_cons, ev_nil, ev_loc, List.getElem?_cons_zero, bltD, itemsD, view, mkLst, List.length_map, hf, if_true, hi, pys_py, hc]
      rfl
  rw [hb, x_cons, first, R.bind_ok]
  exact hm (cellsOf ns) (some (.scr ns)) (by unfold cellsOf; split <;> simp [hl])
end
end Sf
end
section
set_option maxRecDepth 100000
set_option maxHeartbeats 4000000
namespace Sf
open PySem PySem.Spec L2
open PyProof.Rows hiding St
/-! ### the laws' own helpers that draw -/
def d__law_value : Fn := ⟨1, 1,
  (.cons (.ret (.idx (.lst false (.cons (.con (.str "plain")) (.cons (.con (.str "u")) (.cons (.con (.str "v")) (.cons (.con (.str "u")) .nil))))) (.call false "_law_draw" (.cons (.loc 0) (.cons (.con (.int 4)) .nil)))))
  .nil)⟩
def d__law_of : Fn := ⟨2, 2,
  (.cons (.ret (.idx (.loc 1) (.call false "_law_draw" (.cons (.loc 0) (.cons (.blt false .len (.cons (.loc 1) .nil)) .nil)))))
  .nil)⟩
def d__law_book : Fn := ⟨2, 9,
  (.cons (.asg 2 (.idx (.lst false (.cons (.tup (.cons (.con (.str "a")) .nil)) (.cons (.tup (.cons (.con (.str "a")) (.cons (.con (.str "b")) .nil))) (.cons (.tup (.cons (.con (.str "a")) (.cons (.con (.str "b")) (.cons (.con (.str "c")) .nil)))) (.cons (.tup (.cons (.con (.str "a")) (.cons (.con (.str "b")) .nil))) .nil))))) (.call false "_law_draw" (.cons (.loc 0) (.cons (.con (.int 4)) .nil)))))
  (.cons (.asg 3 (.blt false .tuple (.cons (.lc false (.loc 8) [8] (.one 8) (.seq (.loc 2)) (.some (.cmp .eq (.call false "_law_draw" (.cons (.loc 0) (.cons (.con (.int 2)) .nil))) (.con (.int 0))))) .nil)))
  (.cons (.asg 4 (.lst true .nil))
  (.cons (.loop (.one 5) (.rng1 (.bop false .add (.con (.int 1)) (.call false "_law_draw" (.cons (.loc 0) (.cons (.loc 1) .nil))))) (.cons (.asg 6 (.blt false .tuple (.cons (.lc false (.tup (.cons (.loc 8) (.cons (.call false "_law_value" (.cons (.loc 0) .nil)) .nil))) [8] (.one 8) (.seq (.loc 2)) (.some (.cmp .eq (.call false "_law_draw" (.cons (.loc 0) (.cons (.con (.int 2)) .nil))) (.con (.int 0))))) .nil)))
  (.cons (.ite (.cmp .eq (.loc 6) (.tup .nil)) (.cons (.asg 6 (.tup (.cons (.tup (.cons (.idx (.loc 2) (.con (.int 0))) (.cons (.call false "_law_value" (.cons (.loc 0) .nil)) .nil))) .nil)))
  .nil) .nil)
  (.cons (.asg 7 (.idx (.lst false (.cons (.con (.str "1")) (.cons (.con (.str "2")) (.cons (.con (.str "22")) (.cons (.con (.str "3;4")) (.cons (.con (.str "0")) (.cons (.con (.str "38;5;1")) (.cons (.con (.str "9")) (.cons (.con (.str "44")) .nil))))))))) (.loc 5)))
  (.cons (.exp (.met false .append (.loc 4) (.cons (.tup (.cons (.loc 7) (.cons (.idx (.lst false (.cons (.con (.str "j")) (.cons (.con (.str "k")) (.cons (.con (.str "k")) (.cons (.con (.str "l")) .nil))))) (.call false "_law_draw" (.cons (.loc 0) (.cons (.con (.int 4)) .nil)))) (.cons (.loc 6) .nil)))) .nil)))
  .nil)))))
  (.cons (.ret (.tup (.cons (.loc 2) (.cons (.loc 3) (.cons (.blt false .tuple (.cons (.loc 4) .nil)) .nil)))))
  .nil)))))⟩
def d__law_row : Fn := ⟨3, 6,
  (.cons (.asg 3 (.lc false (.idx (.loc 4) (.con (.int 0))) [4] (.one 4) (.seq (.idx (.loc 1) (.con (.int 2)))) .none))
  (.cons (.ret (.blt false .tuple (.cons (.lc false (.call false "_law_of" (.cons (.loc 0) (.cons (.loc 3) .nil))) [5] (.one 5) (.rng1 (.call false "_law_draw" (.cons (.loc 0) (.cons (.bop false .add (.loc 2) (.con (.int 1))) .nil)))) .none) .nil)))
  .nil))⟩
def d__law_stream : Fn := ⟨3, 7,
  (.cons (.par [3, 4] (.cons (.lc false (.idx (.loc 6) (.con (.int 0))) [6] (.one 6) (.seq (.idx (.loc 1) (.con (.int 2)))) .none) (.cons (.lst true .nil) .nil)))
  (.cons (.loop (.one 5) (.rng1 (.call false "_law_draw" (.cons (.loc 0) (.cons (.bop false .add (.loc 2) (.con (.int 1))) .nil)))) (.cons (.ite (.cmp .gt (.call false "_law_draw" (.cons (.loc 0) (.cons (.con (.int 3)) .nil))) (.con (.int 0))) (.cons (.exp (.met false .append (.loc 4) (.cons (.idx (.loc 3) (.call false "_law_draw" (.cons (.loc 0) (.cons (.blt false .len (.cons (.loc 3) .nil)) .nil)))) .nil)))
  .nil) (.cons (.exp (.met false .append (.loc 4) (.cons (.idx (.lst false (.cons (.con (.str "x")) (.cons (.con (.str "y")) (.cons (.con (.str "x")) (.cons (.con (.str " ")) (.cons (.con (.str "z")) (.cons (.con (.str "\n")) .nil))))))) (.call false "_law_draw" (.cons (.loc 0) (.cons (.con (.int 6)) .nil)))) .nil)))
  .nil))
  .nil))
  (.cons (.ret (.blt false .tuple (.cons (.loc 4) .nil)))
  .nil)))⟩
structure StdH (T : Tab) : Prop extends StdD T where
  value : T "_law_value" = some d__law_value
  of_ : T "_law_of" = some d__law_of
  book : T "_law_book" = some d__law_book
  row : T "_law_row" = some d__law_row
  stream : T "_law_stream" = some d__law_stream
/-- at most c numbers were drawn -/
structure Drw (c : Nat) (q q' : Sta) : Prop where
  ok : q'.Ok
  lo : q.at_ ≤ q'.at_
  hi : q'.at_ ≤ q.at_ + c
theorem Drw.trans {c d : Nat} {q q1 q2 : Sta} (a : Drw c q q1) (b : Drw d q1 q2) : Drw (c + d) q q2 := ⟨b.ok, by have := a.lo; have := b.lo; omega, by have := a.hi; have := b.hi; omega⟩
theorem Drw.mono {c d : Nat} {q q1 : Sta} (a : Drw c q q1) (h : c ≤ d) : Drw d q q1 := ⟨a.ok, a.lo, by have := a.hi; omega⟩
/-- a piece of a run that draws at most c numbers; rest, rest': what lies behind the state -/
def Dr {A : Type} (c : Nat) (f : Store → R A) (rest : Store) (P : A → Store → Prop) : Prop := ∀ q : Sta, q.Ok → q.at_ + c < 2 ^ 60 → ∃ a q' rest', P a rest' ∧ Drw c q q' ∧ f (stO q ++ rest) = .ok a (stO q' ++ rest')
theorem Dr.bind {A B : Type} {c d : Nat} {f : Store → R A} {k : A → Store → R B} {rest : Store} {P : A → Store → Prop} {Q : B → Store → Prop} (h : Dr c f rest P) (h2 : ∀ a rest', P a rest' → Dr d (k a) rest' Q) : Dr (c + d) (fun S => (f S).bind k) rest Q := by
  intro q ok hat
  obtain ⟨a, q1, r1, p1, d1, e1⟩ := h q ok (by omega)
  obtain ⟨b, q2, r2, p2, d2, e2⟩ := h2 a r1 p1 q1 d1.ok (by have := d1.hi; omega)
  refine ⟨b, q2, r2, p2, d1.trans d2, ?_⟩
  show (f (stO q ++ rest)).bind k = _
  rw [e1, R.bind_ok, e2]
theorem Dr.pure {A : Type} {f : Store → R A} {rest rest' : Store} {P : A → Store → Prop} (a : A) (h : ∀ q : Sta, f (stO q ++ rest) = .ok a (stO q ++ rest')) (p : P a rest') : Dr 0 f rest P := fun q ok _ => ⟨a, q, rest', p, ⟨ok, Int.le_refl _, by omega⟩, h q⟩
theorem Dr.mono {A : Type} {c d : Nat} {f : Store → R A} {rest : Store} {P Q : A → Store → Prop} (h : Dr c f rest P) (hc : c ≤ d) (f2 : ∀ a r, P a r → Q a r) : Dr d f rest Q := fun q ok hat => by
  obtain ⟨a, q1, r1, p1, d1, e1⟩ := h q ok (by omega)
  exact ⟨a, q1, r1, f2 a r1 p1, d1.mono hc, e1⟩
theorem Dr.eq {A : Type} {c : Nat} {f g : Store → R A} {rest : Store} {P : A → Store → Prop} (h : Dr c f rest P) (e : ∀ q, g (stO q ++ rest) = f (stO q ++ rest)) : Dr c g rest P := fun q ok hat => by
  obtain ⟨a, q1, r1, p1, d1, e1⟩ := h q ok hat
  exact ⟨a, q1, r1, p1, d1, (e q).trans e1⟩
section
variable {T : Tab} {F n : Nat} {mu : Bool}
theorem call_st {f : Str} {ds : List D} {S S' : Store} {d : D} {fn : Fn} (hT : T f = some fn) (hl : ds.length = fn.ps) (hp : ds.all isPy = false) (h : (exSs (call T F n) F fn.body (startD fn ds) S).bind endD = .ok d S') : call T F (n + 1) mu f ds S = endC S d S' := by
  rw [call]
  simp only [hp, Bool.false_eq_true, if_false, runF, hT, hl, if_true, h, R.bind_ok]
theorem closed_st {q : Sta} {k : Nat} (hk : 0 < k) : (stO q).all (closedO k) = true := by
  simp [stO, closedO, intsL, closedD, hk]
theorem end_cut {d : PyData} {q q' : Sta} {more : Store} : endC (stO q ++ []) (.py d) (stO q' ++ more) = .ok (.py d) (stO q' ++ []) := by
  have e : (stO q' ++ more).take (stO q ++ []).length = stO q' := by simp [stO]
  unfold endC
  rw [e, closed_st (by simp [stO])]
  simp [isPy]
/-- a call that is handed the state -/
theorem dr_call {c : Nat} {f : Str} {ds : List D} {fn : Fn} {P : D → Prop} (hT : T f = some fn) (hl : ds.length = fn.ps) (hp : ds.all isPy = false) (h : Dr c (fun S => (exSs (call T F n) F fn.body (startD fn ds) S).bind endD) [] (fun d _ => P d ∧ ∃ x, d = .py x)) :
    Dr c (call T F (n + 1) mu f ds) [] (fun d r => P d ∧ r = []) := fun q ok hat => by
  obtain ⟨a, q1, r1, ⟨p1, x, rfl⟩, d1, e1⟩ := h q ok hat
  refine ⟨_, q1, [], ⟨p1, rfl⟩, d1, ?_⟩
  rw [call_st hT hl hp e1, end_cut]
theorem dr_draw (h : StdD T) {m : Int} {rest : Store} (h0 : 0 < m) (h1 : m < 1073741824) : Dr 1 (call T F (n + 2) mu "_law_draw" [.ref 1, .py (.int m)]) rest (fun d r => (∃ i : Int, 0 ≤ i ∧ i < m ∧ d = .py (.int i)) ∧ r = rest) := fun q ok hat => by
  obtain ⟨i, q', a1, a2, a3, a4, a5⟩ := call_draw (F := F) (n := n) (mu := mu) (rest := rest) h ok (by omega) h0 h1
  exact ⟨_, q', rest, ⟨⟨i, a1, a2, rfl⟩, rfl⟩, ⟨a3, by omega, by omega⟩, a5⟩
theorem dr_keep {c : Nat} {f : Str} {ds : List D} {fn : Fn} {P : D → Prop} {rest : Store} (hT : T f = some fn) (hl : ds.length = fn.ps) (hp : ds.all isPy = false) (h : Dr c (fun S => (exSs (call T F n) F fn.body (startD fn ds) S).bind endD) rest (fun d r => P d ∧ r = rest)) :
    Dr c (call T F (n + 1) mu f ds) rest (fun d r => P d ∧ r = rest) := fun q ok hat => by
  obtain ⟨a, q1, r1, ⟨p1, rfl⟩, d1, e1⟩ := h q ok hat
  refine ⟨_, q1, r1, ⟨p1, rfl⟩, d1, ?_⟩
  rw [call_st hT hl hp e1, end_same stO_len]
theorem int4 {i : Int} (h0 : 0 ≤ i) (h1 : i < 4) : i = 0 ∨ i = 1 ∨ i = 2 ∨ i = 3 := by omega
theorem int6 {i : Int} (h0 : 0 ≤ i) (h1 : i < 6) : i = 0 ∨ i = 1 ∨ i = 2 ∨ i = 3 ∨ i = 4 ∨ i = 5 := by omega
theorem mkL {xs : List PyData} {S : Store} (h : xs.length < 1000000) : mkLst false (xs.map .py) S = .ok (.py (.list xs)) S := by
  simp [mkLst, fits_of h]
theorem mkT {xs : List PyData} {S : Store} (h : xs.length < 1000000) : mkTup (xs.map .py) S = .ok (.py (.tuple xs)) S := by
  simp [mkTup, fits_of h]
def vals3 : List Str := ["plain", "u", "v"]
theorem dr_value (h : StdH T) {rest : Store} : Dr 1 (call T F (n + 3) mu "_law_value" [.ref 1]) rest (fun d r => (∃ v ∈ vals3, d = .py (.str v)) ∧ r = rest) := by
  refine dr_keep h.value rfl rfl ?_
  have dd := dr_draw (F := F) (n := n) (mu := false) (rest := rest) h.toStdD (m := 4) (by decide) (by decide)
  intro q ok hat
  obtain ⟨a, q1, r1, ⟨⟨i, i0, i4, rfl⟩, rfl⟩, d1, e1⟩ := dd q ok hat
  have m4 : ∀ S, mkLst false [.py (.str "plain"), .py (.str "u"), .py (.str "v"), .py (.str "u")] S = .ok (.py (.list [.str "plain", .str "u", .str "v", .str "u"])) S := fun S => rfl
  have run : ∀ v : Str, idxD (stO q1 ++ r1) (.py (.list [.str "plain", .str "u", .str "v", .str "u"])) (.py (.int i)) = some (.py (.str v)) → (exSs (call T F (n + 2)) F d__law_value.body (startD d__law_value [.ref 1]) (stO q ++ r1)).bind endD = .ok (.py (.str v)) (stO q1 ++ r1) := by
    intro v hv
    have hs : startD d__law_value [.ref 1] = [some (.ref 1)] := rfl
    have hb : d__law_value.body = .cons (.ret (.idx (.lst false (.cons (.con (.str "plain")) (.cons (.con (.str "u")) (.cons (.con (.str "v")) (.cons (.con (.str "u")) .nil))))) (.call false "_law_draw" (.cons (.loc 0) (.cons (.con (.int 4)) .nil))))) .nil := rfl
    rw [hs, hb]
    simp only [x_cons, x_ret, ev_idx, ev_lst, ev_cons, ev_con, ev_nil, R.bind_ok, m4, ev_call, ev_loc, List.getElem?_cons_zero, okL_some, e1, hv, R.of_some, endD]
  rcases int4 i0 i4 with rfl | rfl | rfl | rfl
  · exact ⟨_, q1, r1, ⟨⟨"plain", by decide, rfl⟩, rfl⟩, d1, run _ rfl⟩
  · exact ⟨_, q1, r1, ⟨⟨"u", by decide, rfl⟩, rfl⟩, d1, run _ rfl⟩
  · exact ⟨_, q1, r1, ⟨⟨"v", by decide, rfl⟩, rfl⟩, d1, run _ rfl⟩
  · exact ⟨_, q1, r1, ⟨⟨"u", by decide, rfl⟩, rfl⟩, d1, run _ rfl⟩
/-- one of a list -/
theorem dr_of (h : StdH T) {xs : List PyData} {rest : Store} (h0 : xs ≠ []) (h1 : xs.length < 1000) : Dr 1 (call T F (n + 3) mu "_law_of" [.ref 1, .py (.list xs)]) rest (fun d r => (∃ x ∈ xs, d = .py x) ∧ r = rest) := by
  refine dr_keep h.of_ rfl rfl ?_
  have hl : 0 < xs.length := List.length_pos_iff.mpr h0
  have dd := dr_draw (F := F) (n := n) (mu := false) (rest := rest) h.toStdD (m := xs.length) (by omega) (by omega)
  intro q ok hat
  obtain ⟨a, q1, r1, ⟨⟨i, i0, i4, rfl⟩, rfl⟩, d1, e1⟩ := dd q ok hat
  obtain ⟨k, rfl⟩ : ∃ k : Nat, i = k := ⟨i.toNat, by omega⟩
  have hk : k < xs.length := by omega
  refine ⟨_, q1, r1, ⟨⟨xs[k], List.getElem_mem hk, rfl⟩, rfl⟩, d1, ?_⟩
  have hs : startD d__law_of [.ref 1, .py (.list xs)] = [some (.ref 1), some (.py (.list xs))] := rfl
  have hb : d__law_of.body = .cons (.ret (.idx (.loc 1) (.call false "_law_draw" (.cons (.loc 0) (.cons (.blt false .len (.cons (.loc 1) .nil)) .nil))))) .nil := rfl
  have hln : ∀ S, bltD false .len [.py (.list xs)] S = .ok (.py (.int xs.length)) S := fun S => by simp [bltD, lenD, view]
  have hix : idxD (stO q1 ++ r1) (.py (.list xs)) (.py (.int k)) = some (.py xs[k]) := by
    show atI (xs.map D.py) k = _
    exact atI_nat (j := k) (by simp [hk])
  rw [hs, hb]
  simp only [x_cons, x_ret, ev_idx, ev_blt, ev_cons, ev_con, ev_nil, R.bind_ok, ev_call, ev_loc, List.getElem?_cons_zero, List.getElem?_cons_succ, okL_some, hln, e1, hix, R.of_some, endD]
end
end Sf
end
section
set_option maxRecDepth 100000
set_option maxHeartbeats 4000000
namespace Sf
open PySem PySem.Spec L2
open PyProof.Rows hiding St
/-! ### books as plain data -/
structure Code where
  word : Str
  kind : Str
  gives : List (Str × Str)
structure Book where
  asp : List Str
  shown : List Str
  codes : List Code
def eStrs (l : List Str) : PyData := .tuple (l.map .str)
def ePair (p : Str × Str) : PyData := .tuple [.str p.1, .str p.2]
def eChain (l : List (Str × Str)) : PyData := .tuple (l.map ePair)
def eCode (c : Code) : PyData := .tuple [.str c.word, .str c.kind, eChain c.gives]
def eBook (b : Book) : PyData := .tuple [eStrs b.asp, eStrs b.shown, .tuple (b.codes.map eCode)]
def asps3 : List (List Str) := [["a"], ["a", "b"], ["a", "b", "c"]]
def words8 : List Str := ["1", "2", "22", "3;4", "0", "38;5;1", "9", "44"]
def kinds3 : List Str := ["j", "k", "l"]
structure CodeOk (asp : List Str) (c : Code) : Prop where
  kind : c.kind ∈ kinds3
  ne : c.gives ≠ []
  keys : (c.gives.map (·.1)).Sublist asp
  vals : ∀ g ∈ c.gives, g.2 ∈ vals3
structure BookOk (b : Book) : Prop where
  asp : b.asp ∈ asps3
  shown : b.shown.Sublist b.asp
  words : b.codes.map (·.word) = words8.take b.codes.length
  ne : b.codes ≠ []
  few : b.codes.length ≤ 8
  codes : ∀ c ∈ b.codes, CodeOk b.asp c
/-! ### loops that draw -/
theorem dr_loopC {A B : Type} {ok : Store → Bool} {f : D → Store → R (Option A)} {rest : Store} {c : Nat} (e : B → D) (Q : B → Option A → Prop) (hok : ∀ q, ok (stO q ++ rest) = true) : ∀ {xs : List B}, (∀ x ∈ xs, Dr c (f (e x)) rest (fun o r => Q x o ∧ r = rest)) →
    Dr (c * xs.length) (loopC ok f (xs.map e)) rest (fun ys r => (∃ os : List (Option A), Paired Q xs os ∧ ys = os.filterMap id) ∧ r = rest)
  | [], _ => Dr.pure [] (fun q => rfl) ⟨⟨[], .nil, rfl⟩, rfl⟩
  | x :: xs, h => by
    have h1 := h x List.mem_cons_self
    have h2 := dr_loopC e Q hok fun y hy => h y (List.mem_cons_of_mem _ hy)
    intro q okq hat
    rw [List.length_cons, Nat.mul_succ] at hat
    obtain ⟨o, q1, r1, ⟨p1, rfl⟩, d1, e1⟩ := h1 q okq (by omega)
    obtain ⟨ys, q2, r2, ⟨⟨os, p2, rfl⟩, rfl⟩, d2, e2⟩ := h2 q1 d1.ok (by have := d1.hi; omega)
    refine ⟨_, q2, r2, ⟨⟨o :: os, .cons p1 p2, rfl⟩, rfl⟩, (d1.trans d2).mono (by rw [List.length_cons, Nat.mul_succ]; omega), ?_⟩
    simp only [List.map_cons, loopC, e1, R.bind_ok, hok, if_true, e2]
    cases o <;> simp
theorem dr_loopF {ok : Store → Bool} {f : D → Rho → Store → R Fl} {c : Nat} : ∀ {xs : List D} {r : Rho} {rest : Store} (I : Nat → Rho → Store → Prop), (∀ k r rest q, I k r rest → ok (stO q ++ rest) = true) →
    (∀ k x, xs[k]? = some x → ∀ r rest, I k r rest → Dr c (f x r) rest (fun fl rest' => ∃ r', fl = .nx r' ∧ I (k + 1) r' rest')) → I 0 r rest → Dr (c * xs.length) (loopF ok f xs r) rest (fun fl rest' => ∃ r', fl = .nx r' ∧ I xs.length r' rest')
  | [], r, rest, I, _, _, i => Dr.pure (.nx r) (fun q => rfl) ⟨r, rfl, i⟩
  | x :: xs, r, rest, I, hok, h, i => by
    have h1 := h 0 x rfl r rest i
    intro q okq hat
    rw [List.length_cons, Nat.mul_succ] at hat
    obtain ⟨fl, q1, r1, ⟨r', rfl, i1⟩, d1, e1⟩ := h1 q okq (by omega)
    have h2 := dr_loopF (xs := xs) (r := r') (rest := r1) (fun k => I (k + 1)) (fun k => hok (k + 1)) (fun k x hx => h (k + 1) x (by simpa using hx)) i1
    obtain ⟨fl, q2, r2, p2, d2, e2⟩ := h2 q1 d1.ok (by have := d1.hi; omega)
    refine ⟨fl, q2, r2, p2, (d1.trans d2).mono (by rw [List.length_cons, Nat.mul_succ]; omega), ?_⟩
    simp only [loopF, e1, R.bind_ok, hok 1 r' r1 q1 i1, if_true, e2]
section
variable {G : Gam} {F : Nat} {r : Rho} {rest : Store}
theorem dr_seq {c d : Nat} {s : CS} {ss : CSs} {P : Rho → Store → Prop} {Q : Fl → Store → Prop} (h1 : Dr c (exS G F s r) rest (fun fl rest' => ∃ r', fl = .nx r' ∧ P r' rest')) (h2 : ∀ r' rest', P r' rest' → Dr d (exSs G F ss r') rest' Q) : Dr (c + d) (exSs G F (.cons s ss) r) rest Q := by
  intro q ok hat
  obtain ⟨fl, q1, r1, ⟨r', rfl, p1⟩, d1, e1⟩ := h1 q ok (by omega)
  obtain ⟨b, q2, r2, p2, d2, e2⟩ := h2 r' r1 p1 q1 d1.ok (by have := d1.hi; omega)
  refine ⟨b, q2, r2, p2, d1.trans d2, ?_⟩
  rw [x_cons, e1, R.bind_ok]
  exact e2
theorem dr_asg {c : Nat} {i : Nat} {e : CE} {P : D → Store → Prop} (h : Dr c (evE G e r) rest P) : Dr c (exS G F (.asg i e) r) rest (fun fl rest' => ∃ r', fl = .nx r' ∧ ∃ d, r' = r.set i (some d) ∧ P d rest') := by
  intro q ok hat
  obtain ⟨d, q1, r1, p1, d1, e1⟩ := h q ok hat
  refine ⟨_, q1, r1, ⟨_, rfl, d, rfl, p1⟩, d1, ?_⟩
  rw [x_asg, e1, R.bind_ok]
theorem dr_ret {c : Nat} {e : CE} {ss : CSs} {P : D → Store → Prop} (h : Dr c (evE G e r) rest P) : Dr c (exSs G F (.cons (.ret e) ss) r) rest (fun fl rest' => ∃ d, fl = .rt d ∧ P d rest') := by
  intro q ok hat
  obtain ⟨d, q1, r1, p1, d1, e1⟩ := h q ok hat
  refine ⟨_, q1, r1, ⟨d, rfl, p1⟩, d1, ?_⟩
  rw [x_cons, x_ret, e1, R.bind_ok, R.bind_ok]
theorem dr_end {c : Nat} {ss : CSs} {P : D → Store → Prop} (h : Dr c (exSs G F ss r) rest (fun fl rest' => ∃ d, fl = .rt d ∧ P d rest')) : Dr c (fun S => (exSs G F ss r S).bind endD) rest P := by
  intro q ok hat
  obtain ⟨fl, q1, r1, ⟨d, rfl, p1⟩, d1, e1⟩ := h q ok hat
  refine ⟨d, q1, r1, p1, d1, ?_⟩
  show (exSs G F ss r (stO q ++ rest)).bind endD = _
  rw [e1]
  rfl
end
/-! ### texts -/
def texts : List Str := ["a", "b", "c", "j", "k", "l", "plain", "u", "v", "1", "2", "22", "3;4", "0", "38;5;1", "9", "44", "x", "y", "z", " ", "\n"]
theorem texts_ok : ∀ x ∈ texts, PyData.strOk x = true := by decide +kernel
theorem shp_t {x : Str} (h : x ∈ texts) : Shp 0 (.str x) := shp_str (texts_ok x h)
theorem vals_t : ∀ x ∈ vals3, x ∈ texts := by decide +kernel
theorem kinds_t : ∀ x ∈ kinds3, x ∈ texts := by decide +kernel
theorem words_t : ∀ x ∈ words8, x ∈ texts := by decide +kernel
theorem asps_t : ∀ l ∈ asps3, ∀ x ∈ l, x ∈ texts := by decide +kernel
theorem shp_strs {l : List Str} (h : ∀ x ∈ l, x ∈ texts) : Shp 1 (eStrs l) := shp_tup fun d hd => by
  obtain ⟨x, hx, rfl⟩ := List.mem_map.mp hd
  exact shp_t (h x hx)
theorem shp_pair {p : Str × Str} (h1 : p.1 ∈ texts) (h2 : p.2 ∈ texts) : Shp 1 (ePair p) := shp_tup fun d hd => by
  rcases List.mem_cons.mp hd with rfl | hd
  · exact shp_t h1
  · rw [List.mem_singleton.mp hd]
    exact shp_t h2
theorem shp_chain {l : List (Str × Str)} (h : ∀ p ∈ l, p.1 ∈ texts ∧ p.2 ∈ texts) : Shp 2 (eChain l) := shp_tup fun d hd => by
  obtain ⟨x, hx, rfl⟩ := List.mem_map.mp hd
  exact shp_pair (h x hx).1 (h x hx).2
end Sf
end
section
set_option maxRecDepth 100000
set_option maxHeartbeats 4000000
namespace Sf
open PySem PySem.Spec L2
open PyProof.Rows hiding St
section
variable {G : Gam} {F : Nat} {r : Rho} {rest : Store}
theorem dr_turn {c d : Nat} {elt : CE} {own : List Nat} {t : Tg} {cnd : CO} {x : D} {r1 : Rho} {Q : D → Prop} (hb : bindT t x (wipeD r own) = some r1) (hc : Dr c (evC G cnd r1) rest (fun _ r' => r' = rest)) (he : Dr d (evE G elt r1) rest (fun y r' => Q y ∧ r' = rest)) :
    Dr (c + d) (turnC G elt own t cnd r x) rest (fun o r' => (o = none ∨ ∃ y, o = some y ∧ Q y) ∧ r' = rest) := by
  intro q ok hat
  obtain ⟨b, q1, r2, rfl, d1, e1⟩ := hc q ok (by omega)
  cases b with
  | false =>
    refine ⟨none, q1, r2, ⟨.inl rfl, rfl⟩, d1.mono (by omega), ?_⟩
    unfold turnC
    rw [hb]
    simp only [e1, R.bind_ok]
    rfl
  | true =>
    obtain ⟨y, q2, r3, ⟨p, rfl⟩, d2, e2⟩ := he q1 d1.ok (by have := d1.hi; omega)
    refine ⟨some y, q2, r3, ⟨.inr ⟨y, rfl, p⟩, rfl⟩, d1.trans d2, ?_⟩
    unfold turnC
    rw [hb]
    simp only [e1, R.bind_ok, if_true, e2]
theorem some_of {B C : Type} {enc : C → PyData} {Q : B → C → Prop} : ∀ {xs : List B} {os : List (Option D)}, Paired (fun x o => o = none ∨ ∃ y, o = some (D.py (enc y)) ∧ Q x y) xs os →
    ∃ zs : List (B × C), os.filterMap id = (zs.map fun z => enc z.2).map D.py ∧ (zs.map (·.1)).Sublist xs ∧ ∀ z ∈ zs, Q z.1 z.2
  | _, _, .nil => ⟨[], rfl, .slnil, fun _ h => nomatch h⟩
  | x :: xs, _, .cons h t => by
    obtain ⟨zs, e, s, p⟩ := some_of t
    rcases h with rfl | ⟨y, rfl, hy⟩
    · exact ⟨zs, by simpa using e, .cons _ s, p⟩
    · refine ⟨(x, y) :: zs, by simpa using e, .cons_cons _ s, fun z hz => ?_⟩
      rcases List.mem_cons.mp hz with rfl | hz
      · exact hy
      · exact p z hz
theorem dr_lc {B C : Type} {c : Nat} {elt : CE} {own : List Nat} {t : Tg} {it : CI} {cnd : CO} {xs : List B} (e : B → D) (enc : C → PyData) (Q : B → C → Prop) (hi : ∀ q, evI G it r (stO q ++ rest) = .ok ⟨xs.map e, none⟩ (stO q ++ rest)) (hl : xs.length < 1000000)
    (h : ∀ x ∈ xs, Dr c (turnC G elt own t cnd r (e x)) rest (fun o r' => (o = none ∨ ∃ y, o = some (.py (enc y)) ∧ Q x y) ∧ r' = rest)) :
    Dr (c * xs.length) (evE G (.lc false elt own t it cnd) r) rest (fun d r' => (∃ zs : List (B × C), d = .py (.list (zs.map fun z => enc z.2)) ∧ (zs.map (·.1)).Sublist xs ∧ ∀ z ∈ zs, Q z.1 z.2) ∧ r' = rest) := by
  have lp := dr_loopC (ok := (⟨xs.map e, none⟩ : Src).stands) e (fun x o => o = none ∨ ∃ y, o = some (D.py (enc y)) ∧ Q x y) (fun q => rfl) h
  intro q ok hat
  obtain ⟨ys, q1, r1, ⟨⟨os, p, rfl⟩, rfl⟩, d1, e1⟩ := lp q ok hat
  obtain ⟨zs, e2, s, p2⟩ := some_of p
  refine ⟨_, q1, r1, ⟨⟨zs, rfl, s, p2⟩, rfl⟩, d1, ?_⟩
  have hz : (zs.map fun z => enc z.2).length < 1000000 := by
    have := s.length_le
    rw [List.length_map] at this ⊢
    omega
  rw [evE_lc, hi, R.bind_ok]
  show (loopC _ _ (xs.map e) _).bind _ = _
  rw [e1, R.bind_ok, e2, mkL hz]
end
section
variable {T : Tab} {F n : Nat} {mu : Bool} {r : Rho} {rest : Store}
theorem dr_drawE (h : StdD T) {m : Int} (h0 : 0 < m) (h1 : m < 1073741824) (hr : r[0]? = some (some (.ref 1))) {c : CE} (hc : ∀ q, evE (call T F (n + 2)) c r (stO q ++ rest) = .ok (.py (.int m)) (stO q ++ rest)) :
    Dr 1 (evE (call T F (n + 2)) (.call false "_law_draw" (.cons (.loc 0) (.cons c .nil))) r) rest (fun d r' => (∃ i : Int, 0 ≤ i ∧ i < m ∧ d = .py (.int i)) ∧ r' = rest) :=
  (dr_draw (F := F) (n := n) (mu := false) h h0 h1).eq fun q => by
    simp only [ev_call, ev_cons, ev_loc, hr, okL_some, R.bind_ok, hc, ev_nil]
theorem dr_idx {c : Nat} {a b : CE} {G : Gam} {xs : List PyData} {m : Int} (hx : ∀ q, evE G a r (stO q ++ rest) = .ok (.py (.list xs)) (stO q ++ rest)) (hm : m = xs.length) (hb : Dr c (evE G b r) rest (fun d r' => (∃ i : Int, 0 ≤ i ∧ i < m ∧ d = .py (.int i)) ∧ r' = rest)) :
    Dr c (evE G (.idx a b) r) rest (fun d r' => (∃ x ∈ xs, d = .py x) ∧ r' = rest) := by
  intro q ok hat
  obtain ⟨d, q1, r1, ⟨⟨i, i0, i1, rfl⟩, rfl⟩, d1, e1⟩ := hb q ok hat
  obtain ⟨k, rfl⟩ : ∃ k : Nat, i = k := ⟨i.toNat, by omega⟩
  have hk : k < xs.length := by omega
  refine ⟨_, q1, r1, ⟨⟨xs[k], List.getElem_mem hk, rfl⟩, rfl⟩, d1, ?_⟩
  have hix : idxD (stO q1 ++ r1) (.py (.list xs)) (.py (.int k)) = some (.py xs[k]) := by
    show atI (xs.map D.py) k = _
    exact atI_nat (j := k) (by simp [hk])
  simp only [ev_idx, hx, R.bind_ok, e1, hix, R.of_some]
theorem dr_cond (h : StdD T) {m : Int} (h0 : 0 < m) (h1 : m < 1073741824) (hr : r[0]? = some (some (.ref 1))) {j : Int} {o : Cop} (ho : o = .eq ∨ o = .gt) :
    Dr 1 (evC (call T F (n + 2)) (.some (.cmp o (.call false "_law_draw" (.cons (.loc 0) (.cons (.con (.int m)) .nil))) (.con (.int j)))) r) rest (fun _ r' => r' = rest) := by
  intro q ok hat
  obtain ⟨d, q1, r1, ⟨⟨i, i0, i1, rfl⟩, rfl⟩, d1, e1⟩ := dr_drawE (F := F) (n := n) (rest := rest) h h0 h1 hr (c := .con (.int m)) (fun q => rfl) q ok hat
  have hq : ∃ b, cmpD (stO q1 ++ r1) o (.py (.int i)) (.py (.int j)) = some b := by
    rcases ho with rfl | rfl
    · exact ⟨_, eqD_py (S := stO q1 ++ r1) shp_int (Nat.zero_le _) shp_int (Nat.zero_le _)⟩
    · exact ⟨_, rfl⟩
  obtain ⟨b, hb⟩ := hq
  refine ⟨b, q1, r1, rfl, d1, ?_⟩
  simp only [evC, ev_cmp, e1, R.bind_ok, ev_con, hb, Option.map_some, R.of_some, bl, truth]
def wantD (P : PyData → Prop) : D → Prop := fun d => ∃ x, d = .py x ∧ P x
/-- some of the aspects, each drawn -/
theorem dr_blank (h : StdD T) {asp : List Str} {i j : Nat} (hl : asp.length < 1000) (hr : (wipeD r [j])[0]? = some (some (.ref 1))) (hj : 0 ≠ j) (ha : r[i]? = some (some (.py (eStrs asp)))) (hjr : j < r.length) :
    Dr asp.length (evE (call T F (n + 2)) (.blt false .tuple (.cons (.lc false (.loc j) [j] (.one j) (.seq (.loc i)) (.some (.cmp .eq (.call false "_law_draw" (.cons (.loc 0) (.cons (.con (.int 2)) .nil))) (.con (.int 0))))) .nil)) r) rest
      (fun d r' => (∃ l : List Str, d = .py (eStrs l) ∧ l.Sublist asp) ∧ r' = rest) := by
  have lc := dr_lc (G := call T F (n + 2)) (r := r) (rest := rest) (c := 1) (elt := .loc j) (own := [j]) (t := .one j) (it := .seq (.loc i)) (cnd := .some (.cmp .eq (.call false "_law_draw" (.cons (.loc 0) (.cons (.con (.int 2)) .nil))) (.con (.int 0)))) (xs := asp) (fun x => .py (.str x)) PyData.str (fun x y => y = x)
    (fun q => by simp [evI, ev_loc, ha, srcOf, eStrs]) (by omega) (fun x hx => by
      refine (dr_turn (c := 1) (d := 0) (r1 := (wipeD r [j]).set j (some (.py (.str x)))) (Q := fun y => y = .py (.str x)) rfl (dr_cond h (by decide) (by decide) (by rw [List.getElem?_set_ne (Ne.symm hj)]; exact hr) (.inl rfl)) (Dr.pure (.py (.str x)) (fun q => ?_) ⟨rfl, rfl⟩)).mono (Nat.le_refl _) ?_
      · rw [ev_loc, List.getElem?_set_self (by simpa [wipeD] using hjr)]
        rfl
      · rintro o r' ⟨h1 | ⟨y, h1, rfl⟩, h2⟩
        · exact ⟨.inl h1, h2⟩
        · exact ⟨.inr ⟨x, h1, rfl⟩, h2⟩)
  intro q ok hat
  obtain ⟨d, q1, r1, ⟨⟨zs, rfl, s, p⟩, rfl⟩, d1, e1⟩ := lc q ok (by omega)
  have hz : (zs.map fun z => PyData.str z.2) = (zs.map (·.1)).map .str := by
    rw [List.map_map]
    exact List.map_congr_left fun z hz => by rw [p z hz]; rfl
  have hlz : (zs.map fun z => PyData.str z.2).length < 1000000 := by
    have := s.length_le
    rw [List.length_map] at this ⊢
    omega
  refine ⟨_, q1, r1, ⟨⟨zs.map (·.1), rfl, s⟩, rfl⟩, d1.mono (by omega), ?_⟩
  simp only [ev_blt, ev_cons, e1, R.bind_ok, ev_nil, bltD, itemsD, view, mkT hlz]
  rw [hz]
  rfl
theorem dr_gives (h : StdH T) {asp : List Str} {i j : Nat} (hl : asp.length < 1000) (hr : (wipeD r [j])[0]? = some (some (.ref 1))) (hj : 0 ≠ j) (ha : r[i]? = some (some (.py (eStrs asp)))) (hjr : j < r.length) :
    Dr (2 * asp.length) (evE (call T F (n + 3)) (.blt false .tuple (.cons (.lc false (.tup (.cons (.loc j) (.cons (.call false "_law_value" (.cons (.loc 0) .nil)) .nil))) [j] (.one j) (.seq (.loc i)) (.some (.cmp .eq (.call false "_law_draw" (.cons (.loc 0) (.cons (.con (.int 2)) .nil))) (.con (.int 0))))) .nil)) r) rest
      (fun d r' => (∃ l : List (Str × Str), d = .py (eChain l) ∧ (l.map (·.1)).Sublist asp ∧ ∀ g ∈ l, g.2 ∈ vals3) ∧ r' = rest) := by
  have lc := dr_lc (G := call T F (n + 3)) (r := r) (rest := rest) (c := 2) (elt := .tup (.cons (.loc j) (.cons (.call false "_law_value" (.cons (.loc 0) .nil)) .nil))) (own := [j]) (t := .one j) (it := .seq (.loc i)) (cnd := .some (.cmp .eq (.call false "_law_draw" (.cons (.loc 0) (.cons (.con (.int 2)) .nil))) (.con (.int 0)))) (xs := asp) (fun x => .py (.str x)) ePair (fun x y => y.1 = x ∧ y.2 ∈ vals3)
    (fun q => by simp [evI, ev_loc, ha, srcOf, eStrs]) (by omega) (fun x hx => by
      have h0 : ((wipeD r [j]).set j (some (D.py (.str x))))[0]? = some (some (.ref 1)) := by rw [List.getElem?_set_ne (Ne.symm hj)]; exact hr
      have hjj : ((wipeD r [j]).set j (some (D.py (.str x))))[j]? = some (some (D.py (.str x))) := List.getElem?_set_self (by simpa [wipeD] using hjr)
      refine (dr_turn (c := 1) (d := 1) (r1 := (wipeD r [j]).set j (some (.py (.str x)))) (Q := fun y => ∃ v ∈ vals3, y = .py (ePair (x, v))) rfl (dr_cond (n := n + 1) h.toStdD (by decide) (by decide) h0 (.inl rfl)) ?_).mono (Nat.le_refl _) ?_
      · intro q ok hat
        obtain ⟨d, q1, r1, ⟨⟨v, hv, rfl⟩, rfl⟩, d1, e1⟩ := dr_value (F := F) (n := n) (mu := false) (rest := rest) h q ok hat
        refine ⟨_, q1, r1, ⟨⟨v, hv, rfl⟩, rfl⟩, d1, ?_⟩
        simp only [ev_tup, ev_cons, ev_loc, h0, hjj, okL_some, R.bind_ok, ev_call, ev_nil, e1]
        rfl
      · rintro o r' ⟨h1 | ⟨y, h1, v, hv, rfl⟩, h2⟩
        · exact ⟨.inl h1, h2⟩
        · exact ⟨.inr ⟨(x, v), h1, rfl, hv⟩, h2⟩)
  intro q ok hat
  obtain ⟨d, q1, r1, ⟨⟨zs, rfl, s, p⟩, rfl⟩, d1, e1⟩ := lc q ok (by omega)
  have hlz : (zs.map fun z => ePair z.2).length < 1000000 := by
    have := s.length_le
    rw [List.length_map] at this ⊢
    omega
  refine ⟨_, q1, r1, ⟨⟨zs.map (·.2), rfl, ?_, ?_⟩, rfl⟩, d1.mono (by omega), ?_⟩
  · rw [List.map_map]
    have : zs.map ((fun x => x.fst) ∘ fun x => x.snd) = zs.map (·.1) := List.map_congr_left fun z hz => (p z hz).1
    rw [this]
    exact s
  · intro g hg
    obtain ⟨z, hz, rfl⟩ := List.mem_map.mp hg
    exact (p z hz).2
  · simp only [ev_blt, ev_cons, e1, R.bind_ok, ev_nil, bltD, itemsD, view, mkT hlz]
    simp [eChain, Function.comp_def]
end
end Sf
end
section
set_option maxRecDepth 100000
set_option maxHeartbeats 4000000
namespace Sf
open PySem PySem.Spec L2
open PyProof.Rows hiding St
section
variable {T : Tab} {F n : Nat} {mu : Bool} {rest : Store}
theorem asps_few : ∀ l ∈ asps3, l.length ≤ 3 ∧ l ≠ [] := by decide +kernel
theorem rangeD_get {hi : Int} {k : Nat} {x : D} (h : (rangeD 0 hi)[k]? = some x) : x = .py (.int k) ∧ (k : Int) < hi := by
  unfold rangeD at h
  rw [List.getElem?_map] at h
  cases q : (List.range (hi - 0).toNat)[k]? with
  | none => rw [q] at h; cases h
  | some j =>
    rw [q] at h
    obtain ⟨h1, h2⟩ := List.getElem?_eq_some_iff.mp q
    rw [List.getElem_range] at h2
    rw [List.length_range] at h1
    subst h2
    simp at h
    exact ⟨h.symm, by omega⟩
theorem rangeD_len {hi : Int} : (rangeD 0 hi).length = hi.toNat := by simp [rangeD]
/-- one code of a book -/
def codeB : CSs := (.cons (.asg 6 (.blt false .tuple (.cons (.lc false (.tup (.cons (.loc 8) (.cons (.call false "_law_value" (.cons (.loc 0) .nil)) .nil))) [8] (.one 8) (.seq (.loc 2)) (.some (.cmp .eq (.call false "_law_draw" (.cons (.loc 0) (.cons (.con (.int 2)) .nil))) (.con (.int 0))))) .nil)))
  (.cons (.ite (.cmp .eq (.loc 6) (.tup .nil)) (.cons (.asg 6 (.tup (.cons (.tup (.cons (.idx (.loc 2) (.con (.int 0))) (.cons (.call false "_law_value" (.cons (.loc 0) .nil)) .nil))) .nil))) .nil) .nil)
  (.cons (.asg 7 (.idx (.lst false (.cons (.con (.str "1")) (.cons (.con (.str "2")) (.cons (.con (.str "22")) (.cons (.con (.str "3;4")) (.cons (.con (.str "0")) (.cons (.con (.str "38;5;1")) (.cons (.con (.str "9")) (.cons (.con (.str "44")) .nil))))))))) (.loc 5)))
  (.cons (.exp (.met false .append (.loc 4) (.cons (.tup (.cons (.loc 7) (.cons (.idx (.lst false (.cons (.con (.str "j")) (.cons (.con (.str "k")) (.cons (.con (.str "k")) (.cons (.con (.str "l")) .nil))))) (.call false "_law_draw" (.cons (.loc 0) (.cons (.con (.int 4)) .nil)))) (.cons (.loc 6) .nil)))) .nil)))
  .nil))))
def rowB (most : Int) (asp bk : PyData) (a b c : Option D) : Rho := [some (.ref 1), some (.py (.int most)), some (.py asp), some (.py bk), some (.ref 2), a, b, c, none]
theorem dr_code (h : StdH T) {most : Int} {asp : List Str} {bk : PyData} {b c : Option D} {k : Nat} {cs : List PyData} (ha : asp ∈ asps3) (hk : k < 8) (hcs : cs.length < 1000) :
    Dr 8 (exSs (call T F (n + 3)) F codeB (rowB most (eStrs asp) bk (some (.py (.int k))) b c)) [.lst (cs.map .py)]
      (fun fl r' => ∃ g w, fl = .nx (rowB most (eStrs asp) bk (some (.py (.int k))) (some g) (some w)) ∧ ∃ cd : Code, CodeOk asp cd ∧ cd.word = words8.getD k "" ∧ r' = [.lst ((cs ++ [eCode cd]).map .py)]) := by
  obtain ⟨hal, hane⟩ := asps_few asp ha
  have t1 : ∀ x ∈ asp, x ∈ texts := asps_t asp ha
  -- gives
  refine (dr_seq (c := 6) (d := 2) (P := fun r' rest' => ∃ l : List (Str × Str), r' = rowB most (eStrs asp) bk (some (.py (.int k))) (some (.py (eChain l))) c ∧ (l.map (·.1)).Sublist asp ∧ (∀ g ∈ l, g.2 ∈ vals3) ∧ rest' = [.lst (cs.map .py)]) ?_ ?_)
  · refine (dr_asg ((dr_gives (r := rowB most (eStrs asp) bk (some (.py (.int k))) b c) h (i := 2) (j := 8) (asp := asp) (by omega) rfl (by decide) rfl (by simp [rowB])).mono (d := 6) (by omega) fun _ _ z => z)).mono (Nat.le_refl _) ?_
    rintro fl r' ⟨r1, rfl, d, rfl, ⟨l, rfl, s, v⟩, rfl⟩
    exact ⟨_, rfl, l, rfl, s, v, rfl⟩
  rintro r' rest' ⟨l, rfl, sl, vl, rfl⟩
  have sh : Shp 2 (eChain l) := shp_chain fun p hp => ⟨t1 _ (sl.subset (List.mem_map.mpr ⟨p, hp, rfl⟩)), vals_t _ (vl p hp)⟩
  -- if none
  refine (dr_seq (c := 1) (d := 1) (P := fun r' rest' => ∃ l : List (Str × Str), r' = rowB most (eStrs asp) bk (some (.py (.int k))) (some (.py (eChain l))) c ∧ l ≠ [] ∧ (l.map (·.1)).Sublist asp ∧ (∀ g ∈ l, g.2 ∈ vals3) ∧ rest' = [.lst (cs.map .py)]) ?_ ?_)
  · have m0 : ∀ S, mkTup [] S = .ok (.py (.tuple [])) S := fun S => rfl
    have eq0 : ∀ S, eqD S (.py (eChain l)) (.py (.tuple [])) = some l.isEmpty := fun S => by
      rw [eqD_py sh (by omega) (shp_tup (n := 0) (xs := []) fun _ h => by cases h) (by omega)]
      cases l <;> rfl
    cases hl : l with
    | cons p l2 =>
      refine (Dr.pure (rest' := [.lst (cs.map .py)]) (.nx (rowB most (eStrs asp) bk (some (.py (.int k))) (some (.py (eChain (p :: l2)))) c)) (fun q => ?_) ?_).mono (Nat.zero_le _) fun _ _ z => z
      · rw [hl] at eq0
        simp only [x_ite, ev_cmp, ev_loc, ev_tup, ev_nil, R.bind_ok, m0, cmpD, rowB, List.getElem?_cons_succ, List.getElem?_cons_zero, okL_some, eq0, Option.map_some, R.of_some, bl, truth, List.isEmpty_cons, tt3_f, x_nil]
      · exact ⟨_, rfl, p :: l2, rfl, by simp, hl ▸ sl, hl ▸ vl, rfl⟩
    | nil =>
      obtain ⟨a0, ar, rfl⟩ : ∃ a0 ar, asp = a0 :: ar := by
        cases asp with
        | nil => exact absurd rfl hane
        | cons a r => exact ⟨a, r, rfl⟩
      intro q ok hat
      obtain ⟨d, q1, r1, ⟨⟨v, hv, rfl⟩, rfl⟩, d1, e1⟩ := dr_value (F := F) (n := n) (mu := false) (rest := [.lst (cs.map .py)]) h q ok hat
      refine ⟨.nx (rowB most (eStrs (a0 :: ar)) bk (some (.py (.int k))) (some (.py (eChain [(a0, v)]))) c), q1, _, ⟨_, rfl, [(a0, v)], rfl, by simp, by simp, by simpa using hv, rfl⟩, d1, ?_⟩
      rw [hl] at eq0
      have hix : ∀ S, idxD S (.py (eStrs (a0 :: ar))) (.py (.int 0)) = some (.py (.str a0)) := fun S => by
        show atI ((PyData.str a0 :: ar.map PyData.str).map D.py) ((0 : Nat) : Int) = _
        exact atI_nat (j := 0) rfl
      simp only [x_ite, ev_cmp, ev_loc, ev_tup, ev_nil, R.bind_ok, m0, cmpD, rowB, List.getElem?_cons_succ, List.getElem?_cons_zero, okL_some, eq0, Option.map_some, R.of_some, bl, truth, List.isEmpty_nil, tt3_t, x_cons, x_asg, ev_cons, ev_idx, ev_con, hix, ev_call, e1]
      rfl
  rintro r' rest' ⟨l, rfl, ne, sl, vl, rfl⟩
  -- the word
  have w8 : ∀ S, evE (call T F (n + 3)) (.idx (.lst false (.cons (.con (.str "1")) (.cons (.con (.str "2")) (.cons (.con (.str "22")) (.cons (.con (.str "3;4")) (.cons (.con (.str "0")) (.cons (.con (.str "38;5;1")) (.cons (.con (.str "9")) (.cons (.con (.str "44")) .nil))))))))) (.loc 5)) (rowB most (eStrs asp) bk (some (.py (.int k))) (some (.py (eChain l))) c) S = .ok (.py (.str (words8.getD k ""))) S := fun S => by
    have m8 : ∀ S, mkLst false (words8.map fun w => D.py (.str w)) S = .ok (.py (.list (words8.map .str))) S := fun S => rfl
    have hix : idxD S (.py (.list (words8.map .str))) (.py (.int k)) = some (.py (.str (words8.getD k ""))) := by
      show atI ((words8.map PyData.str).map D.py) k = _
      refine atI_nat (j := k) ?_
      have hk8 : k < words8.length := hk
      simp [List.getD_eq_getElem?_getD, hk8]
    have m8' : ∀ S, mkLst false [.py (.str "1"), .py (.str "2"), .py (.str "22"), .py (.str "3;4"), .py (.str "0"), .py (.str "38;5;1"), .py (.str "9"), .py (.str "44")] S = .ok (.py (.list (words8.map .str))) S := m8
    simp only [ev_idx, ev_lst, ev_cons, ev_con, ev_nil, R.bind_ok, m8', ev_loc, rowB, List.getElem?_cons_succ, List.getElem?_cons_zero, okL_some, hix, R.of_some]
  refine (dr_seq (c := 0) (d := 1) (P := fun r' rest' => r' = rowB most (eStrs asp) bk (some (.py (.int k))) (some (.py (eChain l))) (some (.py (.str (words8.getD k "")))) ∧ rest' = [.lst (cs.map .py)]) ?_ ?_)
  · refine Dr.pure (.nx (rowB most (eStrs asp) bk (some (.py (.int k))) (some (.py (eChain l))) (some (.py (.str (words8.getD k "")))))) (rest' := [.lst (cs.map .py)]) (fun q => ?_) ⟨_, rfl, rfl, rfl⟩
    rw [x_asg, w8]
    rfl
  rintro r' rest' ⟨rfl, rfl⟩
  -- append
  intro q ok hat
  obtain ⟨d, q1, r1, ⟨⟨x, hx, rfl⟩, rfl⟩, d1, e1⟩ := dr_idx (a := .lst false (.cons (.con (.str "j")) (.cons (.con (.str "k")) (.cons (.con (.str "k")) (.cons (.con (.str "l")) .nil))))) (xs := [.str "j", .str "k", .str "k", .str "l"]) (fun q => rfl) rfl
    (dr_drawE (F := F) (n := n + 1) (r := rowB most (eStrs asp) bk (some (.py (.int k))) (some (.py (eChain l))) (some (.py (.str (words8.getD k ""))))) (rest := [.lst (cs.map .py)]) h.toStdD (m := 4) (by decide) (by decide) rfl (c := .con (.int 4)) (fun q => rfl)) q ok hat
  obtain ⟨kd, hkd, rfl⟩ : ∃ kd ∈ kinds3, x = .str kd := by
    simp only [List.mem_cons, List.not_mem_nil, or_false] at hx
    rcases hx with rfl | rfl | rfl | rfl
    · exact ⟨"j", by decide, rfl⟩
    · exact ⟨"k", by decide, rfl⟩
    · exact ⟨"k", by decide, rfl⟩
    · exact ⟨"l", by decide, rfl⟩
  have rv : ∀ q : Sta, recv .append (stO q ++ [.lst (cs.map .py)]) (.ref 2) = true := fun q => rfl
  have mt : metD false .append (.ref 2) [.py (eCode ⟨words8.getD k "", kd, l⟩)] (stO q1 ++ [.lst (cs.map .py)]) = .ok (.py .none) (stO q1 ++ [.lst ((cs ++ [eCode ⟨words8.getD k "", kd, l⟩]).map .py)]) := by
    show (if fits (cs.map D.py).length then R.ok (D.py .none) ((stO q1 ++ [Ob.lst (cs.map D.py)]).set 2 (Ob.lst (cs.map D.py ++ [D.py (eCode ⟨words8.getD k "", kd, l⟩)]))) else .bad) = _
    rw [if_pos (fits_of (by rw [List.length_map]; omega))]
    simp [stO]
  refine ⟨.nx (rowB most (eStrs asp) bk (some (.py (.int k))) (some (.py (eChain l))) (some (.py (.str (words8.getD k ""))))), q1, _, ⟨_, _, rfl, ⟨words8.getD k "", kd, l⟩, ⟨hkd, ne, sl, vl⟩, rfl, rfl⟩, d1, ?_⟩
  rw [x_cons, x_exp, ev_met]
  simp only [ev_loc, show (rowB most (eStrs asp) bk (some (.py (.int k))) (some (.py (eChain l))) (some (.py (.str (words8.getD k "")))))[4]? = some (some (.ref 2)) from rfl, okL_some, R.bind_ok, rv, if_true, ev_cons, ev_tup, show (rowB most (eStrs asp) bk (some (.py (.int k))) (some (.py (eChain l))) (some (.py (.str (words8.getD k "")))))[7]? = some (some (.py (.str (words8.getD k "")))) from rfl, e1,
    show (rowB most (eStrs asp) bk (some (.py (.int k))) (some (.py (eChain l))) (some (.py (.str (words8.getD k "")))))[6]? = some (some (.py (eChain l))) from rfl, ev_nil,
    show ∀ S, mkTup [.py (.str (words8.getD k "")), .py (.str kd), .py (eChain l)] S = .ok (.py (eCode ⟨words8.getD k "", kd, l⟩)) S from fun S => rfl, mt, x_nil]
end
end Sf
end
section
set_option maxRecDepth 100000
set_option maxHeartbeats 4000000
namespace Sf
open PySem PySem.Spec L2
open PyProof.Rows hiding St
section
variable {T : Tab} {F n : Nat} {mu : Bool} {rest : Store}
theorem body_book : d__law_book.body = .cons (.asg 2 (.idx (.lst false (.cons (.tup (.cons (.con (.str "a")) .nil)) (.cons (.tup (.cons (.con (.str "a")) (.cons (.con (.str "b")) .nil))) (.cons (.tup (.cons (.con (.str "a")) (.cons (.con (.str "b")) (.cons (.con (.str "c")) .nil)))) (.cons (.tup (.cons (.con (.str "a")) (.cons (.con (.str "b")) .nil))) .nil))))) (.call false "_law_draw" (.cons (.loc 0) (.cons (.con (.int 4)) .nil)))))
  (.cons (.asg 3 (.blt false .tuple (.cons (.lc false (.loc 8) [8] (.one 8) (.seq (.loc 2)) (.some (.cmp .eq (.call false "_law_draw" (.cons (.loc 0) (.cons (.con (.int 2)) .nil))) (.con (.int 0))))) .nil)))
  (.cons (.asg 4 (.lst true .nil)) (.cons (.loop (.one 5) (.rng1 (.bop false .add (.con (.int 1)) (.call false "_law_draw" (.cons (.loc 0) (.cons (.loc 1) .nil))))) codeB)
  (.cons (.ret (.tup (.cons (.loc 2) (.cons (.loc 3) (.cons (.blt false .tuple (.cons (.loc 4) .nil)) .nil))))) .nil)))) := rfl
theorem rng_small {j : Int} (h0 : 0 ≤ j) (h1 : j < 1000000) : rng (.py (.int 0)) (.py (.int j)) = some ⟨rangeD 0 j, none⟩ := by
  have e : (decide (-(2 ^ 62) ≤ (0 : Int)) && decide ((0 : Int) < 2 ^ 62) && decide (-(2 ^ 62) ≤ j) && decide (j < 2 ^ 62)) = true := by
    simp
    omega
  show (if (decide (-(2 ^ 62) ≤ (0 : Int)) && decide ((0 : Int) < 2 ^ 62) && decide (-(2 ^ 62) ≤ j) && decide (j < 2 ^ 62)) = true then some (⟨rangeD 0 j, none⟩ : Src) else none) = _
  rw [if_pos e]
theorem take_succ_getD {k : Nat} {l : List Str} (h : k < l.length) : l.take (k + 1) = l.take k ++ [l.getD k ""] := by
  rw [List.take_add_one, List.getD_eq_getElem?_getD, List.getElem?_eq_getElem h]
  rfl
theorem dr_book (h : StdH T) {most : Int} (h0 : 0 < most) (h8 : most ≤ 8) : Dr 100 (call T F (n + 4) mu "_law_book" [.ref 1, .py (.int most)]) [] (fun d r => (∃ b, BookOk b ∧ d = .py (eBook b)) ∧ r = []) := by
  refine dr_call h.book rfl rfl ?_
  refine (dr_end (c := 80) ?_).mono (by omega) fun _ _ z => z
  rw [body_book]
  have hs : startD d__law_book [.ref 1, .py (.int most)] = [some (.ref 1), some (.py (.int most)), none, none, none, none, none, none, none] := rfl
  rw [hs]
  -- aspects
  refine (dr_seq (c := 1) (d := 79) (P := fun r' rest' => ∃ asp ∈ asps3, r' = [some (.ref 1), some (.py (.int most)), some (.py (eStrs asp)), none, none, none, none, none, none] ∧ rest' = []) ?_ ?_)
  · refine (dr_asg (dr_idx (xs := [eStrs ["a"], eStrs ["a", "b"], eStrs ["a", "b", "c"], eStrs ["a", "b"]]) (fun q => rfl) rfl (dr_drawE (F := F) (n := n + 1) h.toStdD (m := 4) (by decide) (by decide) rfl (c := .con (.int 4)) (fun q => rfl)))).mono (Nat.le_refl _) ?_
    rintro fl r' ⟨r1, rfl, d, rfl, ⟨x, hx, rfl⟩, rfl⟩
    simp only [List.mem_cons, List.not_mem_nil, or_false] at hx
    rcases hx with rfl | rfl | rfl | rfl
    · exact ⟨_, rfl, _, List.mem_cons_self, rfl, rfl⟩
    · exact ⟨_, rfl, ["a", "b"], by decide +kernel, rfl, rfl⟩
    · exact ⟨_, rfl, ["a", "b", "c"], by decide +kernel, rfl, rfl⟩
    · exact ⟨_, rfl, ["a", "b"], by decide +kernel, rfl, rfl⟩
  rintro r' rest' ⟨asp, hasp, rfl, rfl⟩
  obtain ⟨hal, hane⟩ := asps_few asp hasp
  -- blank
  refine (dr_seq (c := 3) (d := 76) (P := fun r' rest' => ∃ bk : List Str, bk.Sublist asp ∧ r' = [some (.ref 1), some (.py (.int most)), some (.py (eStrs asp)), some (.py (eStrs bk)), none, none, none, none, none] ∧ rest' = []) ?_ ?_)
  · refine (dr_asg ((dr_blank (F := F) (n := n + 1) h.toStdD (i := 2) (j := 8) (asp := asp) (by omega) rfl (by decide) rfl (by simp)).mono (d := 3) (by omega) fun _ _ z => z)).mono (Nat.le_refl _) ?_
    rintro fl r' ⟨r1, rfl, d, rfl, ⟨l, rfl, s⟩, rfl⟩
    exact ⟨_, rfl, l, s, rfl, rfl⟩
  rintro r' rest' ⟨bk, hbk, rfl, rfl⟩
  -- codes = []
  refine (dr_seq (c := 0) (d := 76) (P := fun r' rest' => r' = rowB most (eStrs asp) (eStrs bk) none none none ∧ rest' = [.lst []]) ?_ ?_)
  · exact Dr.pure (rest' := [.lst []]) (.nx (rowB most (eStrs asp) (eStrs bk) none none none)) (fun q => rfl) ⟨_, rfl, rfl, rfl⟩
  rintro r' rest' ⟨rfl, rfl⟩
  -- the loop
  refine (dr_seq (c := 76) (d := 0) (P := fun r' rest' => ∃ kk g w, ∃ cs : List Code, r' = rowB most (eStrs asp) (eStrs bk) kk g w ∧ cs ≠ [] ∧ cs.length ≤ 8 ∧ cs.map (·.word) = words8.take cs.length ∧ (∀ c ∈ cs, CodeOk asp c) ∧ rest' = [.lst ((cs.map eCode).map .py)]) ?_ ?_)
  · intro q ok hat
    obtain ⟨d, q1, r1, ⟨⟨i, i0, i1, rfl⟩, rfl⟩, d1, e1⟩ := dr_drawE (F := F) (n := n + 1) (r := rowB most (eStrs asp) (eStrs bk) none none none) (rest := [.lst []]) h.toStdD (m := most) h0 (by omega) rfl (c := .loc 1) (fun q => rfl) q ok (by omega)
    have hsrc : evI (call T F (n + 3)) (.rng1 (.bop false .add (.con (.int 1)) (.call false "_law_draw" (.cons (.loc 0) (.cons (.loc 1) .nil))))) (rowB most (eStrs asp) (eStrs bk) none none none) (stO q ++ [.lst []]) = .ok ⟨rangeD 0 (1 + i), none⟩ (stO q1 ++ [.lst []]) := by
      have hr : rng (.py (.int 0)) (.py (.int (1 + i))) = some ⟨rangeD 0 (1 + i), none⟩ := rng_small (by omega) (by omega)
      simp only [evI, ev_bop, ev_con, R.bind_ok, e1, bopD, hr, R.of_some]
    have lp := dr_loopF (ok := (⟨rangeD 0 (1 + i), none⟩ : Src).stands) (f := fun x r1 S2 => match bindT (.one 5) x r1 with
      | some r2 => exSs (call T F (n + 3)) F codeB r2 S2
      | none => .bad) (c := 8) (xs := rangeD 0 (1 + i)) (r := rowB most (eStrs asp) (eStrs bk) none none none) (rest := [.lst []])
      (fun k r' rest' => ∃ kk g w, ∃ cs : List Code, r' = rowB most (eStrs asp) (eStrs bk) kk g w ∧ cs.length = k ∧ k ≤ 8 ∧ cs.map (·.word) = words8.take k ∧ (∀ c ∈ cs, CodeOk asp c) ∧ rest' = [.lst ((cs.map eCode).map .py)])
      (fun k r rest q _ => rfl) (fun k x hx r rest ⟨kk, g, w, cs, hr, hlen, h8', hw, hcs, hre⟩ => by
        obtain ⟨rfl, hlt⟩ := rangeD_get hx
        subst hr hre
        have hk8 : k < 8 := by omega
        refine (dr_code (F := F) (n := n) (b := g) (c := w) (most := most) (bk := eStrs bk) (cs := cs.map eCode) h hasp hk8 (by rw [List.length_map]; omega)).mono (Nat.le_refl _) ?_
        rintro fl r' ⟨g', w', rfl, cd, hcd, hwd, rfl⟩
        refine ⟨_, rfl, _, _, _, cs ++ [cd], rfl, by simp [hlen], by omega, ?_, ?_, ?_⟩
        · rw [List.map_append, hw, take_succ_getD (show k < words8.length from hk8), ← hwd]
          rfl
        · intro c hc
          rcases List.mem_append.mp hc with z | z
          · exact hcs c z
          · rw [List.mem_singleton.mp z]; exact hcd
        · simp) ⟨none, none, none, [], rfl, rfl, by omega, rfl, (fun _ h => by cases h), rfl⟩
    have hln : (rangeD 0 (1 + i)).length = (1 + i).toNat := rangeD_len
    obtain ⟨fl, q2, r2, ⟨r', rfl, kk, g, w, cs, rfl, p1, p2, p3, p4, rfl⟩, d2, e2⟩ := lp q1 d1.ok (by have := d1.hi; rw [hln]; omega)
    rw [hln] at p1 p2 p3
    refine ⟨_, q2, _, ⟨_, rfl, kk, g, w, cs, rfl, ?_, by omega, by rw [p1]; exact p3, p4, rfl⟩, (d1.trans d2).mono (by rw [hln]; omega), ?_⟩
    · intro e
      rw [e] at p1
      simp at p1
      omega
    · rw [x_loop, hsrc, R.bind_ok]
      exact e2
  rintro r' rest' ⟨kk, g, w, cs, rfl, ne, c8, cw, cok, rfl⟩
  -- the end
  refine (dr_ret (P := fun d r => d = .py (eBook ⟨asp, bk, cs⟩)) (Dr.pure (rest' := [.lst ((cs.map eCode).map .py)]) (.py (eBook ⟨asp, bk, cs⟩)) (fun q => ?_) rfl)).mono (Nat.le_refl _) ?_
  · have tp : bltD false .tuple [.ref 2] (stO q ++ [.lst ((cs.map eCode).map .py)]) = .ok (.py (.tuple (cs.map eCode))) (stO q ++ [.lst ((cs.map eCode).map .py)]) := by
      show mkTup ((cs.map eCode).map .py) _ = _
      exact mkT (by rw [List.length_map]; omega)
    simp only [ev_tup, ev_cons, ev_loc, rowB, List.getElem?_cons_succ, List.getElem?_cons_zero, okL_some, R.bind_ok, ev_blt, ev_nil, tp]
    rfl
  · rintro fl r' ⟨d, rfl, rfl⟩
    exact ⟨_, rfl, ⟨_, ⟨hasp, hbk, cw, ne, c8, cok⟩, rfl⟩, _, rfl⟩
end
end Sf
end
section
set_option maxRecDepth 100000
set_option maxHeartbeats 4000000
namespace Sf
open PySem PySem.Spec L2
open PyProof.Rows hiding St
def Book.words (b : Book) : List Str := b.codes.map (·.word)
theorem atD {S : Store} {xs : List PyData} {k : Nat} {x : PyData} (h : xs[k]? = some x) : idxD S (.py (.list xs)) (.py (.int k)) = some (.py x) := by
  show atI (xs.map D.py) k = _
  exact atI_nat (j := k) (by simp [h])
theorem atT {S : Store} {xs : List PyData} {k : Nat} {x : PyData} (h : xs[k]? = some x) : idxD S (.py (.tuple xs)) (.py (.int k)) = some (.py x) := by
  show atI (xs.map D.py) k = _
  exact atI_nat (j := k) (by simp [h])
section
variable {G : Gam} {F : Nat} {r : Rho} {S : Store}
theorem ev_at {j k : Nat} {xs : List PyData} {x : PyData} (hj : r[j]? = some (some (.py (.tuple xs)))) (h : xs[k]? = some x) : evE G (.idx (.loc j) (.con (.int k))) r S = .ok (.py x) S := by
  simp only [ev_idx, ev_loc, hj, okL_some, R.bind_ok, ev_con, atT h, R.of_some]
theorem wipe1 {r : Rho} {i : Nat} {d : D} (h : i < r.length) : ((wipeD r [i]).set i (some d))[i]? = some (some d) := List.getElem?_set_self (by simpa [wipeD] using h)
theorem wipe1_ne {r : Rho} {i j : Nat} {d : D} (h : i ≠ j) : ((wipeD r [i]).set i (some d))[j]? = r[j]? := by
  rw [List.getElem?_set_ne h]
  show (r.set i none)[j]? = _
  rw [List.getElem?_set_ne h]
/-- a list comprehension without a test that leaves the store -/
theorem ev_lc1 {B : Type} {elt : CE} {i : Nat} {it : CI} {xs : List B} (e : B → PyData) (g : B → PyData) (hi : evI G it r S = .ok ⟨(xs.map e).map .py, none⟩ S) (hl : xs.length < 1000000) (h : ∀ x ∈ xs, evE G elt ((wipeD r [i]).set i (some (.py (e x)))) S = .ok (.py (g x)) S) :
    evE G (.lc false elt [i] (.one i) it .none) r S = .ok (.py (.list (xs.map g))) S := by
  rw [ev_lc (fun x => D.py (e x)) (fun x => some (D.py (g x))) xs hi (by simp [Function.comp_def]) rfl]
  · rw [List.filterMap_eq_map', show (fun x => D.py (g x)) = D.py ∘ g from rfl, ← List.map_map, mkL (by rw [List.length_map]; exact hl)]
  · intro x hx
    simp only [turnC, bindT, evC, R.bind_ok, if_true, h x hx]
theorem ev_words {i j : Nat} {b : Book} (hj : r[j]? = some (some (.py (eBook b)))) (hi : i < r.length) (hl : b.codes.length < 1000000) : evE G (.lc false (.idx (.loc i) (.con (.int 0))) [i] (.one i) (.seq (.idx (.loc j) (.con (.int 2)))) .none) r S = .ok (.py (.list (b.words.map .str))) S := by
  have e2 : evE G (.idx (.loc j) (.con (.int 2))) r S = .ok (.py (.tuple (b.codes.map eCode))) S := ev_at (k := 2) hj rfl
  refine (ev_lc1 (xs := b.codes) eCode (fun c => .str c.word) (src_tup e2) hl fun c hc => ?_).trans ?_
  · exact ev_at (k := 0) (wipe1 hi) rfl
  · simp [Book.words, Function.comp_def]
end
section
variable {T : Tab} {F n : Nat} {mu : Bool} {r : Rho} {rest : Store}
/-- how often, drawn -/
theorem dr_range {G : Gam} {c : CE} {m : Int} (hm : m < 1000000) (hd : Dr 1 (evE G c r) rest (fun d r' => (∃ i : Int, 0 ≤ i ∧ i < m ∧ d = .py (.int i)) ∧ r' = rest)) :
    Dr 1 (evI G (.rng1 c) r) rest (fun src r' => (∃ k : Nat, (k : Int) < m ∧ src = ⟨(List.range k).map fun j : Nat => .py (.int j), none⟩) ∧ r' = rest) := by
  intro q ok hat
  obtain ⟨d, q1, r1, ⟨⟨i, i0, i1, rfl⟩, rfl⟩, d1, e1⟩ := hd q ok hat
  obtain ⟨k, rfl⟩ : ∃ k : Nat, i = k := ⟨i.toNat, by omega⟩
  refine ⟨_, q1, r1, ⟨⟨k, i1, rfl⟩, rfl⟩, d1, ?_⟩
  have e : rangeD 0 (k : Int) = (List.range k).map fun j : Nat => .py (.int j) := by
    unfold rangeD
    rw [show ((k : Int) - 0).toNat = k by omega]
    exact List.map_congr_left fun j _ => by simp
  have e4 := rng_small (j := (k : Int)) (by omega) (by omega)
  rw [e] at e4
  rw [evI, e1, R.bind_ok, e4]
  rfl
theorem body_row : d__law_row.body = .cons (.asg 3 (.lc false (.idx (.loc 4) (.con (.int 0))) [4] (.one 4) (.seq (.idx (.loc 1) (.con (.int 2)))) .none)) (.cons (.ret (.blt false .tuple (.cons (.lc false (.call false "_law_of" (.cons (.loc 0) (.cons (.loc 3) .nil))) [5] (.one 5) (.rng1 (.call false "_law_draw" (.cons (.loc 0) (.cons (.bop false .add (.loc 2) (.con (.int 1))) .nil)))) .none) .nil))) .nil) := rfl
theorem dr_row (h : StdH T) {b : Book} {most : Int} (hb : BookOk b) (h0 : 0 ≤ most) (h1 : most ≤ 60) : Dr 64 (call T F (n + 4) mu "_law_row" [.ref 1, .py (eBook b), .py (.int most)]) [] (fun d r => (∃ l : List Str, d = .py (eStrs l) ∧ (∀ x ∈ l, x ∈ b.words) ∧ (l.length : Int) ≤ most) ∧ r = []) := by
  refine dr_call h.row rfl rfl ?_
  refine (dr_end (c := 62) (P := fun d _ => (∃ l : List Str, d = .py (eStrs l) ∧ (∀ x ∈ l, x ∈ b.words) ∧ (l.length : Int) ≤ most) ∧ ∃ x, d = .py x) ?_).mono (by omega) fun _ _ z => z
  rw [body_row]
  have hs : startD d__law_row [.ref 1, .py (eBook b), .py (.int most)] = [some (.ref 1), some (.py (eBook b)), some (.py (.int most)), none, none, none] := rfl
  rw [hs]
  have hbl : b.codes.length < 1000000 := by have := hb.few; omega
  refine (dr_seq (c := 0) (d := 62) (P := fun r' rest' => r' = [some (.ref 1), some (.py (eBook b)), some (.py (.int most)), some (.py (.list (b.words.map .str))), none, none] ∧ rest' = []) ?_ ?_)
  · refine Dr.pure (rest' := []) (.nx [some (.ref 1), some (.py (eBook b)), some (.py (.int most)), some (.py (.list (b.words.map .str))), none, none]) (fun q => ?_) ⟨_, rfl, rfl, rfl⟩
    rw [x_asg, ev_words (j := 1) rfl (by simp) hbl]
    rfl
  rintro r' rest' ⟨rfl, rfl⟩
  refine (dr_ret (P := fun d _ => (∃ l : List Str, d = .py (eStrs l) ∧ (∀ x ∈ l, x ∈ b.words) ∧ (l.length : Int) ≤ most) ∧ ∃ x, d = .py x) ?_)
  have hwl : b.words ≠ [] := by
    unfold Book.words
    intro e
    exact hb.ne (List.map_eq_nil_iff.mp e)
  have hw1 : (b.words.map PyData.str).length < 1000 := by
    rw [List.length_map]
    unfold Book.words
    rw [List.length_map]
    have := hb.few
    omega
  intro q ok hat
  obtain ⟨src, q1, r1, ⟨⟨k, hk, rfl⟩, rfl⟩, d1, e1⟩ := dr_range (m := most + 1) (by omega) (dr_drawE (F := F) (n := n + 1) (r := [some (.ref 1), some (.py (eBook b)), some (.py (.int most)), some (.py (.list (b.words.map .str))), none, none]) (rest := []) h.toStdD (m := most + 1) (by omega) (by omega) rfl (c := .bop false .add (.loc 2) (.con (.int 1))) (fun q => rfl)) q ok (by omega)
  have lp := dr_loopC (ok := (⟨(List.range k).map fun j : Nat => .py (.int j), none⟩ : Src).stands) (f := turnC (call T F (n + 3)) (.call false "_law_of" (.cons (.loc 0) (.cons (.loc 3) .nil))) [5] (.one 5) .none [some (.ref 1), some (.py (eBook b)), some (.py (.int most)), some (.py (.list (b.words.map .str))), none, none]) (rest := []) (c := 1) (xs := List.range k) (fun j : Nat => D.py (.int j)) (fun _ o => o = none ∨ ∃ y, o = some (D.py (.str y)) ∧ y ∈ b.words) (fun q => rfl) (fun x hx => by
    refine (dr_turn (c := 0) (d := 1) (r1 := [some (.ref 1), some (.py (eBook b)), some (.py (.int most)), some (.py (.list (b.words.map .str))), none, some (.py (.int x))]) (Q := fun y => ∃ z ∈ b.words, y = .py (.str z)) rfl (Dr.pure true (fun q => rfl) rfl) ?_).mono (Nat.le_refl _) ?_
    · refine ((dr_of (F := F) (n := n) (mu := false) (rest := []) h (xs := b.words.map .str) (by simpa using hwl) hw1).eq (g := evE (call T F (n + 3)) (.call false "_law_of" (.cons (.loc 0) (.cons (.loc 3) .nil))) _) fun q => rfl).mono (Nat.le_refl _) ?_
      rintro d r' ⟨⟨y, hy, rfl⟩, rfl⟩
      obtain ⟨z, hz, rfl⟩ := List.mem_map.mp hy
      exact ⟨⟨z, hz, rfl⟩, rfl⟩
    · rintro o r' ⟨z | ⟨y, rfl, z, hz, rfl⟩, rfl⟩
      · exact ⟨.inl z, rfl⟩
      · exact ⟨.inr ⟨z, rfl, hz⟩, rfl⟩)
  obtain ⟨ys, q2, r2, ⟨⟨os, p, rfl⟩, rfl⟩, d2, e2⟩ := lp q1 d1.ok (by have := d1.hi; rw [List.length_range]; omega)
  obtain ⟨zs, e3, s, p2⟩ := some_of (enc := PyData.str) (Q := fun _ y => y ∈ b.words) p
  have hzl : zs.length ≤ k := by
    have := s.length_le
    rw [List.length_map, List.length_range] at this
    exact this
  refine ⟨.py (eStrs (zs.map (·.2))), q2, [], ⟨⟨zs.map (·.2), rfl, ?_, by rw [List.length_map]; omega⟩, _, rfl⟩, (d1.trans d2).mono (by rw [List.length_range]; omega), ?_⟩
  · intro x hx
    obtain ⟨z, hz, rfl⟩ := List.mem_map.mp hx
    exact p2 z hz
  · have hz : (zs.map fun z => PyData.str z.2).length < 1000000 := by rw [List.length_map]; omega
    rw [ev_blt, ev_cons, evE_lc, e1, R.bind_ok]
    show ((((loopC _ _ ((List.range k).map fun j : Nat => D.py (.int j)) _).bind _).bind _).bind _) = _
    rw [e2, R.bind_ok, e3, mkL hz]
    simp only [R.bind_ok, ev_nil, bltD, itemsD, view, mkT hz]
    simp [eStrs, Function.comp_def]
end
end Sf
end
section
set_option maxRecDepth 100000
set_option maxHeartbeats 4000000
namespace Sf
open PySem PySem.Spec L2
open PyProof.Rows hiding St
def signs5 : List Str := ["x", "y", " ", "z", "\n"]
section
variable {G : Gam} {F : Nat} {r : Rho} {rest : Store}
theorem dr_ite {c d : Nat} {t : CE} {a b : CSs} {Q : Fl → Store → Prop} (ht : Dr c (evE G t r) rest (fun x r' => (∃ v, x = bl v) ∧ r' = rest)) (ha : Dr d (exSs G F a r) rest Q) (hb : Dr d (exSs G F b r) rest Q) : Dr (c + d) (exS G F (.ite t a b) r) rest Q := by
  intro q ok hat
  obtain ⟨x, q1, r1, ⟨⟨v, rfl⟩, rfl⟩, d1, e1⟩ := ht q ok (by omega)
  cases v with
  | true =>
    obtain ⟨y, q2, r2, p, d2, e2⟩ := ha q1 d1.ok (by have := d1.hi; omega)
    refine ⟨y, q2, r2, p, d1.trans d2, ?_⟩
    rw [x_ite, e1, R.bind_ok]
    exact e2
  | false =>
    obtain ⟨y, q2, r2, p, d2, e2⟩ := hb q1 d1.ok (by have := d1.hi; omega)
    refine ⟨y, q2, r2, p, d1.trans d2, ?_⟩
    rw [x_ite, e1, R.bind_ok]
    exact e2
theorem dr_app {c j : Nat} {e : CE} {xs : List PyData} {P : PyData → Prop} (hj : r[j]? = some (some (.ref 2))) (hx : xs.length < 1000) (he : Dr c (evE G e r) [.lst (xs.map .py)] (fun d r' => (∃ x, P x ∧ d = .py x) ∧ r' = [.lst (xs.map .py)])) :
    Dr c (exSs G F (.cons (.exp (.met false .append (.loc j) (.cons e .nil))) .nil) r) [.lst (xs.map .py)] (fun fl r' => fl = .nx r ∧ ∃ x, P x ∧ r' = [.lst ((xs ++ [x]).map .py)]) := by
  intro q ok hat
  obtain ⟨d, q1, r1, ⟨⟨x, px, rfl⟩, rfl⟩, d1, e1⟩ := he q ok hat
  have rv : recv .append (stO q ++ [.lst (xs.map .py)]) (.ref 2) = true := rfl
  have mt : metD false .append (.ref 2) [.py x] (stO q1 ++ [.lst (xs.map .py)]) = .ok (.py .none) (stO q1 ++ [.lst ((xs ++ [x]).map .py)]) := by
    show (if fits (xs.map D.py).length then R.ok (D.py .none) ((stO q1 ++ [Ob.lst (xs.map D.py)]).set 2 (Ob.lst (xs.map D.py ++ [D.py x]))) else .bad) = _
    rw [if_pos (fits_of (by rw [List.length_map]; omega))]
    simp [stO]
  refine ⟨_, q1, _, ⟨rfl, x, px, rfl⟩, d1, ?_⟩
  rw [x_cons, x_exp, ev_met]
  simp only [ev_loc, hj, okL_some, R.bind_ok, rv, if_true, ev_cons, e1, ev_nil, mt, x_nil]
end
section
variable {T : Tab} {F n : Nat} {mu : Bool} {r : Rho} {rest : Store}
theorem dr_gt (h : StdD T) {m j : Int} (h0 : 0 < m) (h1 : m < 1073741824) (hr : r[0]? = some (some (.ref 1))) :
    Dr 1 (evE (call T F (n + 2)) (.cmp .gt (.call false "_law_draw" (.cons (.loc 0) (.cons (.con (.int m)) .nil))) (.con (.int j))) r) rest (fun d r' => (∃ v, d = bl v) ∧ r' = rest) := by
  intro q ok hat
  obtain ⟨d, q1, r1, ⟨⟨i, i0, i1, rfl⟩, rfl⟩, d1, e1⟩ := dr_drawE (F := F) (n := n) (rest := rest) h h0 h1 hr (c := .con (.int m)) (fun q => rfl) q ok hat
  refine ⟨bl (decide (j < i)), q1, r1, ⟨⟨_, rfl⟩, rfl⟩, d1, ?_⟩
  simp only [ev_cmp, e1, R.bind_ok, ev_con, cmpD, Option.map_some, R.of_some]
def streamB : CSs := (.cons (.ite (.cmp .gt (.call false "_law_draw" (.cons (.loc 0) (.cons (.con (.int 3)) .nil))) (.con (.int 0))) (.cons (.exp (.met false .append (.loc 4) (.cons (.idx (.loc 3) (.call false "_law_draw" (.cons (.loc 0) (.cons (.blt false .len (.cons (.loc 3) .nil)) .nil)))) .nil))) .nil)
  (.cons (.exp (.met false .append (.loc 4) (.cons (.idx (.lst false (.cons (.con (.str "x")) (.cons (.con (.str "y")) (.cons (.con (.str "x")) (.cons (.con (.str " ")) (.cons (.con (.str "z")) (.cons (.con (.str "\n")) .nil))))))) (.call false "_law_draw" (.cons (.loc 0) (.cons (.con (.int 6)) .nil)))) .nil))) .nil)) .nil)
theorem body_stream : d__law_stream.body = .cons (.par [3, 4] (.cons (.lc false (.idx (.loc 6) (.con (.int 0))) [6] (.one 6) (.seq (.idx (.loc 1) (.con (.int 2)))) .none) (.cons (.lst true .nil) .nil))) (.cons (.loop (.one 5) (.rng1 (.call false "_law_draw" (.cons (.loc 0) (.cons (.bop false .add (.loc 2) (.con (.int 1))) .nil)))) streamB) (.cons (.ret (.blt false .tuple (.cons (.loc 4) .nil))) .nil)) := rfl
def rowS (b : Book) (most : Int) (k : Option D) : Rho := [some (.ref 1), some (.py (eBook b)), some (.py (.int most)), some (.py (.list (b.words.map .str))), some (.ref 2), k, none]
theorem dr_item (h : StdH T) {b : Book} {most : Int} {k : Option D} {xs : List PyData} (hb : BookOk b) (hx : xs.length < 1000) : Dr 2 (exSs (call T F (n + 3)) F streamB (rowS b most k)) [.lst (xs.map .py)]
    (fun fl r' => fl = .nx (rowS b most k) ∧ ∃ y : Str, (y ∈ b.words ∨ y ∈ signs5) ∧ r' = [.lst ((xs ++ [PyData.str y]).map .py)]) := by
  have hwl : b.words ≠ [] := fun e => hb.ne (List.map_eq_nil_iff.mp e)
  have hw1 : 0 < b.words.length ∧ b.words.length ≤ 8 := ⟨List.length_pos_iff.mpr hwl, by unfold Book.words; rw [List.length_map]; exact hb.few⟩
  have key : Dr 2 (exS (call T F (n + 3)) F (.ite (.cmp .gt (.call false "_law_draw" (.cons (.loc 0) (.cons (.con (.int 3)) .nil))) (.con (.int 0))) (.cons (.exp (.met false .append (.loc 4) (.cons (.idx (.loc 3) (.call false "_law_draw" (.cons (.loc 0) (.cons (.blt false .len (.cons (.loc 3) .nil)) .nil)))) .nil))) .nil)
      (.cons (.exp (.met false .append (.loc 4) (.cons (.idx (.lst false (.cons (.con (.str "x")) (.cons (.con (.str "y")) (.cons (.con (.str "x")) (.cons (.con (.str " ")) (.cons (.con (.str "z")) (.cons (.con (.str "\n")) .nil))))))) (.call false "_law_draw" (.cons (.loc 0) (.cons (.con (.int 6)) .nil)))) .nil))) .nil)) (rowS b most k)) [.lst (xs.map .py)]
      (fun fl r' => fl = .nx (rowS b most k) ∧ ∃ x, (∃ y : Str, x = .str y ∧ (y ∈ b.words ∨ y ∈ signs5)) ∧ r' = [.lst ((xs ++ [x]).map .py)]) := by
    refine dr_ite (c := 1) (d := 1) (dr_gt (n := n + 1) h.toStdD (by decide) (by decide) rfl) ?_ ?_
    · refine dr_app (j := 4) rfl hx ?_
      refine (dr_idx (a := .loc 3) (xs := b.words.map .str) (m := b.words.length) (fun q => rfl) (by rw [List.length_map]) (dr_drawE (F := F) (n := n + 1) h.toStdD (m := b.words.length) (by omega) (by omega) rfl (c := .blt false .len (.cons (.loc 3) .nil)) (fun q => ?_))).mono (Nat.le_refl _) ?_
      · simp only [ev_blt, ev_cons, ev_loc, rowS, List.getElem?_cons_succ, List.getElem?_cons_zero, okL_some, R.bind_ok, ev_nil, bltD, lenD, view, List.length_map]
      · rintro d r' ⟨⟨x, hx, rfl⟩, rfl⟩
        obtain ⟨y, hy, rfl⟩ := List.mem_map.mp hx
        exact ⟨⟨_, ⟨y, rfl, .inl hy⟩, rfl⟩, rfl⟩
    · refine dr_app (j := 4) rfl hx ?_
      refine (dr_idx (a := .lst false (.cons (.con (.str "x")) (.cons (.con (.str "y")) (.cons (.con (.str "x")) (.cons (.con (.str " ")) (.cons (.con (.str "z")) (.cons (.con (.str "\n")) .nil))))))) (xs := [.str "x", .str "y", .str "x", .str " ", .str "z", .str "\n"]) (m := 6) (fun q => rfl) rfl (dr_drawE (F := F) (n := n + 1) h.toStdD (m := 6) (by decide) (by decide) rfl (c := .con (.int 6)) (fun q => rfl))).mono (Nat.le_refl _) ?_
      rintro d r' ⟨⟨x, hx, rfl⟩, rfl⟩
      refine ⟨⟨x, ?_, rfl⟩, rfl⟩
      simp only [List.mem_cons, List.not_mem_nil, or_false] at hx
      rcases hx with rfl | rfl | rfl | rfl | rfl | rfl <;> exact ⟨_, rfl, .inr (by decide +kernel)⟩
  intro q ok hat
  obtain ⟨fl, q1, r1, ⟨rfl, x, ⟨y, rfl, hy⟩, rfl⟩, d1, e1⟩ := key q ok hat
  refine ⟨_, q1, _, ⟨rfl, y, hy, rfl⟩, d1, ?_⟩
  rw [streamB, x_cons, e1, R.bind_ok]
  rfl
theorem dr_stream (h : StdH T) {b : Book} {most : Int} (hb : BookOk b) (h0 : 0 ≤ most) (h1 : most ≤ 60) : Dr 128 (call T F (n + 4) mu "_law_stream" [.ref 1, .py (eBook b), .py (.int most)]) [] (fun d r => (∃ l : List Str, d = .py (eStrs l) ∧ (∀ x ∈ l, x ∈ b.words ∨ x ∈ signs5) ∧ (l.length : Int) ≤ most) ∧ r = []) := by
  refine dr_call h.stream rfl rfl ?_
  refine (dr_end (c := 122) (P := fun d _ => (∃ l : List Str, d = .py (eStrs l) ∧ (∀ x ∈ l, x ∈ b.words ∨ x ∈ signs5) ∧ (l.length : Int) ≤ most) ∧ ∃ x, d = .py x) ?_).mono (by omega) fun _ _ z => z
  rw [body_stream]
  have hs : startD d__law_stream [.ref 1, .py (eBook b), .py (.int most)] = [some (.ref 1), some (.py (eBook b)), some (.py (.int most)), none, none, none, none] := rfl
  rw [hs]
  have hbl : b.codes.length < 1000000 := by have := hb.few; omega
  refine (dr_seq (c := 0) (d := 122) (P := fun r' rest' => r' = rowS b most none ∧ rest' = [.lst []]) ?_ ?_)
  · refine Dr.pure (rest' := [.lst []]) (.nx (rowS b most none)) (fun q => ?_) ⟨_, rfl, rfl, rfl⟩
    rw [x_par, ev_cons, ev_words (j := 1) rfl (by simp) hbl]
    rfl
  rintro r' rest' ⟨rfl, rfl⟩
  refine (dr_seq (c := 122) (d := 0) (P := fun r' rest' => ∃ kk, ∃ l : List Str, r' = rowS b most kk ∧ (∀ x ∈ l, x ∈ b.words ∨ x ∈ signs5) ∧ (l.length : Int) ≤ most ∧ rest' = [.lst ((l.map .str).map .py)]) ?_ ?_)
  · intro q ok hat
    obtain ⟨src, q1, r1, ⟨⟨k, hk, rfl⟩, rfl⟩, d1, e1⟩ := dr_range (m := most + 1) (by omega) (dr_drawE (F := F) (n := n + 1) (r := rowS b most none) (rest := [.lst []]) h.toStdD (m := most + 1) (by omega) (by omega) rfl (c := .bop false .add (.loc 2) (.con (.int 1))) (fun q => rfl)) q ok (by omega)
    have lp := dr_loopF (ok := (⟨(List.range k).map fun j : Nat => .py (.int j), none⟩ : Src).stands) (f := fun x r1 S2 => match bindT (.one 5) x r1 with
      | some r2 => exSs (call T F (n + 3)) F streamB r2 S2
      | none => .bad) (c := 2) (xs := (List.range k).map fun j : Nat => D.py (.int j)) (r := rowS b most none) (rest := [.lst []])
      (fun j r' rest' => ∃ kk, ∃ l : List Str, r' = rowS b most kk ∧ l.length = j ∧ j ≤ k ∧ (∀ x ∈ l, x ∈ b.words ∨ x ∈ signs5) ∧ rest' = [.lst ((l.map .str).map .py)])
      (fun k r rest q _ => rfl) (fun j x hx r rest ⟨kk, l, hr, hlen, hjk, hl, hre⟩ => by
        subst hr hre
        have hj : j < k := by
          have := (List.getElem?_eq_some_iff.mp hx).1
          simpa using this
        have hx' : x = .py (.int j) := by
          rw [List.getElem?_map, List.getElem?_range hj] at hx
          exact (Option.some.inj hx).symm
        subst hx'
        refine (dr_item (F := F) (n := n) (most := most) (k := some (.py (.int j))) (xs := l.map .str) h hb (by rw [List.length_map]; omega)).mono (Nat.le_refl _) ?_
        rintro fl r' ⟨rfl, y, hy, rfl⟩
        refine ⟨_, rfl, _, l ++ [y], rfl, by simp [hlen], by omega, fun z hz => ?_, by simp⟩
        rcases List.mem_append.mp hz with z | z
        · exact hl _ z
        · rw [List.mem_singleton.mp z]; exact hy) ⟨none, [], rfl, rfl, by omega, (fun _ h => by cases h), rfl⟩
    have hln : ((List.range k).map fun j : Nat => D.py (.int j)).length = k := by simp
    obtain ⟨fl, q2, r2, ⟨r', rfl, kk, l, rfl, p1, p2, p3, rfl⟩, d2, e2⟩ := lp q1 d1.ok (by have := d1.hi; rw [hln]; omega)
    rw [hln] at p1 p2
    refine ⟨_, q2, _, ⟨_, rfl, kk, l, rfl, p3, by omega, rfl⟩, (d1.trans d2).mono (by rw [hln]; omega), ?_⟩
    rw [x_loop, e1, R.bind_ok]
    exact e2
  rintro r' rest' ⟨kk, l, rfl, hl, hlm, rfl⟩
  refine (dr_ret (P := fun d r => d = .py (eStrs l)) (Dr.pure (rest' := [.lst ((l.map .str).map .py)]) (.py (eStrs l)) (fun q => ?_) rfl)).mono (Nat.le_refl _) ?_
  · have tp : bltD false .tuple [.ref 2] (stO q ++ [.lst ((l.map .str).map .py)]) = .ok (.py (.tuple (l.map .str))) (stO q ++ [.lst ((l.map .str).map .py)]) := by
      show mkTup ((l.map PyData.str).map .py) _ = _
      exact mkT (by rw [List.length_map]; omega)
    simp only [ev_blt, ev_cons, ev_loc, rowS, List.getElem?_cons_succ, List.getElem?_cons_zero, okL_some, R.bind_ok, ev_nil, tp]
    rfl
  · rintro fl r' ⟨d, rfl, rfl⟩
    exact ⟨_, rfl, ⟨l, rfl, hl, hlm⟩, _, rfl⟩
end
end Sf
end
section
set_option maxRecDepth 100000
set_option maxHeartbeats 4000000
namespace Sf
open PySem PySem.Spec L2
open PyProof.Rows hiding St
/-! ### the program's defs about books -/
def d_is_of : Fn := ⟨2, 3,
  (.cons (.ite (.or (.not (.isi (.loc 0) .str)) (.not (.cmp2 .le .le (.con (.int 1)) (.blt false .len (.cons (.loc 0) .nil)) (.glo "" (.int 8))))) (.cons (.ret (.con (.bool false)))
  .nil) .nil)
  (.cons (.ret (.blt false .all (.cons (.lc false (.cmp .isin (.loc 2) (.loc 1)) [2] (.one 2) (.seq (.loc 0)) .none) .nil)))
  .nil))⟩
def d_is_mark : Fn := ⟨1, 1,
  (.cons (.ret (.call false "is_of" (.cons (.loc 0) (.cons (.glo "" (.str "abcdefghijklmnopqrstuvwxyz")) .nil))))
  .nil)⟩
def d_is_word : Fn := ⟨1, 1,
  (.cons (.ret (.and (.call false "is_of" (.cons (.loc 0) (.cons (.bop false .add (.glo "" (.str "0123456789")) (.glo "" (.str ";"))) .nil))) (.and (.cmp .ne (.idx (.loc 0) (.con (.int 0))) (.glo "" (.str ";"))) (.cmp .ne (.idx (.loc 0) (.neg (.con (.int 1)))) (.glo "" (.str ";"))))))
  .nil)⟩
def d_are_rising : Fn := ⟨1, 2,
  (.cons (.ret (.blt false .all (.cons (.lc false (.cmp .lt (.idx (.loc 0) (.loc 1)) (.idx (.loc 0) (.bop false .add (.loc 1) (.con (.int 1))))) [1] (.one 1) (.rng1 (.bop false .sub (.blt false .len (.cons (.loc 0) .nil)) (.con (.int 1)))) .none) .nil)))
  .nil)⟩
def d_are_marks : Fn := ⟨1, 2,
  (.cons (.ret (.and (.isi (.loc 0) .tuple) (.and (.blt false .all (.cons (.lc false (.call false "is_mark" (.cons (.loc 1) .nil)) [1] (.one 1) (.seq (.loc 0)) .none) .nil)) (.call false "are_rising" (.cons (.loc 0) .nil)))))
  .nil)⟩
def d_are_gives : Fn := ⟨1, 2,
  (.cons (.ite (.or (.not (.isi (.loc 0) .tuple)) (.cmp .eq (.blt false .len (.cons (.loc 0) .nil)) (.con (.int 0)))) (.cons (.ret (.con (.bool false)))
  .nil) .nil)
  (.cons (.loop (.one 1) (.seq (.loc 0)) (.cons (.ite (.or (.not (.isi (.loc 1) .tuple)) (.or (.cmp .ne (.blt false .len (.cons (.loc 1) .nil)) (.con (.int 2))) (.or (.not (.call false "is_mark" (.cons (.idx (.loc 1) (.con (.int 0))) .nil))) (.not (.call false "is_mark" (.cons (.idx (.loc 1) (.con (.int 1))) .nil)))))) (.cons (.ret (.con (.bool false)))
  .nil) .nil)
  .nil))
  (.cons (.ret (.call false "are_rising" (.cons (.lc false (.idx (.loc 1) (.con (.int 0))) [1] (.one 1) (.seq (.loc 0)) .none) .nil)))
  .nil)))⟩
def d_is_code : Fn := ⟨1, 1,
  (.cons (.ite (.or (.not (.isi (.loc 0) .tuple)) (.cmp .ne (.blt false .len (.cons (.loc 0) .nil)) (.con (.int 3)))) (.cons (.ret (.con (.bool false)))
  .nil) .nil)
  (.cons (.ret (.and (.call false "is_word" (.cons (.idx (.loc 0) (.con (.int 0))) .nil)) (.and (.call false "is_mark" (.cons (.idx (.loc 0) (.con (.int 1))) .nil)) (.call false "are_gives" (.cons (.idx (.loc 0) (.con (.int 2))) .nil)))))
  .nil))⟩
def d_need_codes : Fn := ⟨2, 7,
  (.cons (.par [2, 3] (.cons (.dic true .nil) (.cons (.dic true .nil) .nil)))
  (.cons (.loop (.many [4, 5]) (.enu (.loc 1)) (.cons (.ite (.or (.not (.call false "is_code" (.cons (.loc 5) .nil))) (.or (.cmp .isin (.idx (.loc 5) (.con (.int 0))) (.loc 2)) (.not (.blt false .all (.cons (.lc false (.cmp .isin (.idx (.loc 6) (.con (.int 0))) (.loc 0)) [6] (.one 6) (.seq (.idx (.loc 5) (.con (.int 2)))) .none) .nil))))) (.cons .rais
  .nil) .nil)
  (.cons (.sub (.loc 2) (.idx (.loc 5) (.con (.int 0))) (.con (.bool true)))
  (.cons (.sub (.loc 3) (.idx (.loc 5) (.con (.int 1))) (.con (.bool true)))
  (.cons (.ite (.cmp .gt (.blt false .len (.cons (.loc 3) .nil)) (.glo "" (.int 6))) (.cons .rais
  .nil) .nil)
  .nil)))))
  .nil))⟩
def d_need_book : Fn := ⟨1, 5,
  (.cons (.ite (.or (.not (.isi (.loc 0) .tuple)) (.cmp .ne (.blt false .len (.cons (.loc 0) .nil)) (.con (.int 3)))) (.cons .rais
  .nil) .nil)
  (.cons (.unp [1, 2, 3] (.loc 0))
  (.cons (.ite (.or (.not (.call false "are_marks" (.cons (.loc 1) .nil))) (.not (.cmp2 .le .le (.con (.int 1)) (.blt false .len (.cons (.loc 1) .nil)) (.glo "" (.int 6))))) (.cons .rais
  .nil) .nil)
  (.cons (.ite (.or (.not (.call false "are_marks" (.cons (.loc 2) .nil))) (.not (.blt false .all (.cons (.lc false (.cmp .isin (.loc 4) (.loc 1)) [4] (.one 4) (.seq (.loc 2)) .none) .nil)))) (.cons .rais
  .nil) .nil)
  (.cons (.ite (.or (.not (.isi (.loc 3) .tuple)) (.cmp .gt (.blt false .len (.cons (.loc 3) .nil)) (.glo "" (.int 16)))) (.cons .rais
  .nil) .nil)
  (.cons (.exp (.call false "need_codes" (.cons (.loc 1) (.cons (.loc 3) .nil))))
  (.cons (.ret (.loc 0))
  .nil)))))))⟩
def d_codes_in : Fn := ⟨1, 2,
  (.cons (.ret (.dc false (.idx (.loc 1) (.con (.int 0))) (.loc 1) [1] (.one 1) (.seq (.idx (.loc 0) (.con (.int 2)))) .none))
  .nil)⟩
def d_is_sign : Fn := ⟨1, 1,
  (.cons (.ret (.and (.isi (.loc 0) .str) (.and (.cmp .eq (.blt false .len (.cons (.loc 0) .nil)) (.con (.int 1))) (.cmp .isin (.loc 0) (.bop false .add (.bop false .add (.glo "" (.str "abcdefghijklmnopqrstuvwxyz")) (.glo "" (.str " "))) (.glo "" (.str "\n")))))))
  .nil)⟩
structure StdP (T : Tab) : Prop where
  is_of : T "is_of" = some d_is_of
  is_mark : T "is_mark" = some d_is_mark
  is_word : T "is_word" = some d_is_word
  are_rising : T "are_rising" = some d_are_rising
  are_marks : T "are_marks" = some d_are_marks
  are_gives : T "are_gives" = some d_are_gives
  is_code : T "is_code" = some d_is_code
  need_codes : T "need_codes" = some d_need_codes
  need_book : T "need_book" = some d_need_book
  codes_in : T "codes_in" = some d_codes_in
  is_sign : T "is_sign" = some d_is_sign
section
variable {T : Tab} {F n : Nat} {mu : Bool} {S : Store}
theorem isi_str {S : Store} {x : Str} : isiD S (.py (.str x)) .str = some true := rfl
theorem isi_tup {S : Store} {xs : List PyData} : isiD S (.py (.tuple xs)) .tuple = some true := rfl
theorem len_str {S : Store} {x : Str} (h : x.length < 1000000) : bltD false .len [.py (.str x)] S = .ok (.py (.int x.length)) S := by
  simp [bltD, lenD, view, fits_of h]
theorem len_tup {S : Store} {xs : List PyData} : bltD false .len [.py (.tuple xs)] S = .ok (.py (.int xs.length)) S := by
  simp [bltD, lenD, view]
theorem len_lst {S : Store} {xs : List PyData} : bltD false .len [.py (.list xs)] S = .ok (.py (.int xs.length)) S := by
  simp [bltD, lenD, view]
theorem bls_map {B : Type} (xs : List B) (g : B → Bool) : blsD (xs.map fun x => D.py (.bool (g x))) = some (xs.map g) := by
  induction xs with
  | nil => rfl
  | cons x xs ih => simp [blsD, ih]
theorem all_true {B : Type} {S : Store} {xs : List B} : bltD false .all [.py (.list (xs.map fun _ => .bool true))] S = .ok (bl true) S := by
  have : (xs.map fun _ => PyData.bool true).map D.py = xs.map fun _ => D.py (.bool true) := by simp [Function.comp_def]
  simp only [bltD, view, this, bls_map xs fun _ => true]
  rw [show (xs.map fun _ => true).all id = true by simp]
/-- all([..]), each true -/
theorem ev_all {G : Gam} {B : Type} {elt : CE} {i : Nat} {it : CI} {xs : List B} {r : Rho} (e : B → PyData) (hi : evI G it r S = .ok ⟨(xs.map e).map .py, none⟩ S) (hl : xs.length < 1000000) (h : ∀ x ∈ xs, evE G elt ((wipeD r [i]).set i (some (.py (e x)))) S = .ok (bl true) S) :
    evE G (.blt false .all (.cons (.lc false elt [i] (.one i) it .none) .nil)) r S = .ok (bl true) S := by
  rw [ev_blt, ev_cons, ev_lc1 e (fun _ => .bool true) hi hl h]
  simp only [R.bind_ok, ev_nil, all_true]
theorem k_is_of (h : StdP T) {x z : Str} (h1 : 1 ≤ x.length) (h8 : x.length ≤ 8) (ha : ∀ c ∈ x.cps.toList, c ∈ z.cps.toList) : call T F (n + 1) mu "is_of" [.py (.str x), .py (.str z)] S = .ok (bl true) S := by
  refine call_py (xs := [.str x, .str z]) (S' := []) h.is_of rfl ?_
  have hs : startD d_is_of ([PyData.str x, .str z].map .py) = [some (.py (.str x)), some (.py (.str z)), none] := rfl
  have hx : x.cps.toList.length = x.length := by simp [Str.length]
  have al : evE (call T F n) (.blt false .all (.cons (.lc false (.cmp .isin (.loc 2) (.loc 1)) [2] (.one 2) (.seq (.loc 0)) .none) .nil)) [some (.py (.str x)), some (.py (.str z)), none] [] = .ok (bl true) [] := by
    refine ev_all (xs := x.cps.toList) (fun c => .str ⟨#[c]⟩) ?_ (by omega) ?_
    · simp [evI, ev_loc, srcOf, Function.comp_def]
    · intro c hc
      have : inD [] (.py (.str ⟨#[c]⟩)) (.py (.str z)) = some true := by
        show some (decide (c ∈ z.cps.toList)) = _
        rw [decide_eq_true (ha c hc)]
      simp [ev_cmp, ev_loc, wipeD, cmpD, this]
  have c1 : decide ((1 : Int) ≤ x.length) = true := decide_eq_true (by omega)
  have c2 : decide ((x.length : Int) ≤ 8) = true := decide_eq_true (by omega)
  rw [hs]
  simp only [d_is_of, x_cons, x_ite, ev_or, ev_not, ev_isi, ev_loc, List.getElem?_cons_zero, okL_some, R.bind_ok, isi_str, Option.map_some, R.of_some, bl, truth, Bool.not_true, tt3_f, ev_cmp2, ev_con, ev_blt, ev_cons, ev_nil, len_str (show x.length < 1000000 by omega), cmpD, c1, tt3_t, ev_glo, c2, x_nil]
  rw [x_ret, al]
  rfl
theorem loopF_inv {ok : Store → Bool} {f : D → Rho → Store → R Fl} : ∀ {xs : List D} {r : Rho} {S : Store} (I : Nat → Rho → Store → Prop), (∀ k r S, I k r S → ok S = true) → (∀ k x, xs[k]? = some x → ∀ r S, I k r S → ∃ r' S', f x r S = .ok (.nx r') S' ∧ I (k + 1) r' S') → I 0 r S → ∃ r' S', loopF ok f xs r S = .ok (.nx r') S' ∧ I xs.length r' S'
  | [], r, S, I, _, _, i => ⟨r, S, rfl, i⟩
  | x :: xs, r, S, I, hok, h, i => by
    obtain ⟨r1, S1, e1, i1⟩ := h 0 x rfl r S i
    obtain ⟨r2, S2, e2, i2⟩ := loopF_inv (xs := xs) (fun k => I (k + 1)) (fun k => hok (k + 1)) (fun k y hy => h (k + 1) y (by simpa using hy)) i1
    refine ⟨r2, S2, ?_, i2⟩
    simp only [loopF, e1, R.bind_ok, hok 1 r1 S1 i1, if_true, e2]
theorem ev_neg {G : Gam} {r : Rho} {i : Int} : evE G (.neg (.con (.int i))) r S = .ok (.py (.int (-i))) S := rfl
def letters : Str := "abcdefghijklmnopqrstuvwxyz"
def ofB (z x : Str) : Bool := Nat.ble 1 x.length && Nat.ble x.length 8 && x.cps.toList.all fun c => z.cps.toList.contains c
theorem ofB_of {z x : Str} (h : ofB z x = true) : 1 ≤ x.length ∧ x.length ≤ 8 ∧ ∀ c ∈ x.cps.toList, c ∈ z.cps.toList := by
  unfold ofB at h
  simp only [Bool.and_eq_true, List.all_eq_true] at h
  refine ⟨Nat.le_of_ble_eq_true h.1.1, Nat.le_of_ble_eq_true h.1.2, fun c hc => ?_⟩
  have := h.2 c hc
  simpa using this
theorem k_is_mark (h : StdP T) {x : Str} (hx : ofB letters x = true) : call T F (n + 2) mu "is_mark" [.py (.str x)] S = .ok (bl true) S := by
  obtain ⟨h1, h2, h3⟩ := ofB_of hx
  refine call_py (xs := [.str x]) (S' := []) h.is_mark rfl ?_
  have e := k_is_of (F := F) (n := n) (mu := false) (S := []) h h1 h2 h3
  have hs : startD d_is_mark ([PyData.str x].map .py) = [some (.py (.str x))] := rfl
  rw [hs]
  simp only [d_is_mark, x_cons, x_ret, ev_call, ev_cons, ev_loc, List.getElem?_cons_zero, okL_some, R.bind_ok, ev_glo, ev_nil]
  rw [show (Str.ofString "abcdefghijklmnopqrstuvwxyz") = letters from rfl, e]
  rfl
def wordZ : Str := "0123456789;"
def wordB (x : Str) : Bool := ofB wordZ x && (match x.cps.toList with
  | [] => false
  | c :: r => c != 59 && (c :: r).getLastD 0 != 59)
theorem k_is_word (h : StdP T) {x : Str} (hx : x ∈ words8) : call T F (n + 2) mu "is_word" [.py (.str x)] S = .ok (bl true) S := by
  have ok : ∀ x ∈ words8, ofB wordZ x = true := by decide +kernel
  obtain ⟨h1, h2, h3⟩ := ofB_of (ok x hx)
  refine call_py (xs := [.str x]) (S' := []) h.is_word rfl ?_
  have e := k_is_of (F := F) (n := n) (mu := false) (S := []) h h1 h2 h3
  have hs : startD d_is_word ([PyData.str x].map .py) = [some (.py (.str x))] := rfl
  have cat : bopD false .add (.py (.str "0123456789")) (.py (.str ";")) [] = .ok (.py (.str wordZ)) [] := rfl
  have first : ∃ a, idxD [] (.py (.str x)) (.py (.int 0)) = some (.py (.str a)) ∧ eqD [] (.py (.str a)) (.py (.str ";")) = some false := by
    simp only [words8, List.mem_cons, List.not_mem_nil, or_false] at hx
    rcases hx with rfl | rfl | rfl | rfl | rfl | rfl | rfl | rfl <;> exact ⟨_, rfl, by decide +kernel⟩
  have last : ∃ a, idxD [] (.py (.str x)) (.py (.int (-1))) = some (.py (.str a)) ∧ eqD [] (.py (.str a)) (.py (.str ";")) = some false := by
    simp only [words8, List.mem_cons, List.not_mem_nil, or_false] at hx
    rcases hx with rfl | rfl | rfl | rfl | rfl | rfl | rfl | rfl <;> exact ⟨_, rfl, by decide +kernel⟩
  obtain ⟨a, a1, a2⟩ := first
  obtain ⟨b, b1, b2⟩ := last
  rw [hs]
  simp only [d_is_word, x_cons, x_ret, ev_and, ev_call, ev_cons, ev_loc, List.getElem?_cons_zero, okL_some, R.bind_ok, ev_bop, ev_glo, cat, ev_nil, e, bl, truth, tt3_t, ev_cmp, ev_idx, ev_con, a1, R.of_some, cmpD, a2, Option.map_some, Bool.not_false, ev_neg, b1, b2]
  rfl
/-- rising texts -/
def risB : List Str → Bool
  | a :: b :: r => strLt a b && risB (b :: r)
  | _ => true
theorem risB_at : ∀ {l : List Str} {k : Nat} {x y : Str}, risB l = true → l[k]? = some x → l[k + 1]? = some y → strLt x y = true
  | [], k, x, y, h, a, b => by simp at a
  | [z], k, x, y, h, a, b => by simp at b
  | z :: w :: r, 0, x, y, h, a, b => by
    simp only [risB, Bool.and_eq_true] at h
    simp at a b
    subst a b
    exact h.1
  | z :: w :: r, k + 1, x, y, h, a, b => by
    simp only [risB, Bool.and_eq_true] at h
    exact risB_at (l := w :: r) (k := k) h.2 (by simpa using a) (by simpa using b)
theorem k_are_rising (h : StdP T) {l : List Str} {d : PyData} (hd : d = .tuple (l.map .str) ∨ d = .list (l.map .str)) (hl : l.length < 1000) (hr : risB l = true) : call T F (n + 1) mu "are_rising" [.py d] S = .ok (bl true) S := by
  refine call_py (xs := [d]) (S' := []) h.are_rising rfl ?_
  have hs : startD d_are_rising ([d].map .py) = [some (.py d), none] := rfl
  have hln : bltD false .len [.py d] [] = .ok (.py (.int l.length)) [] := by
    rcases hd with rfl | rfl
    · rw [len_tup, List.length_map]
    · rw [len_lst, List.length_map]
  have hix : ∀ (k : Nat) (x : Str), l[k]? = some x → idxD [] (.py d) (.py (.int k)) = some (.py (.str x)) := by
    intro k x hx
    rcases hd with rfl | rfl
    · exact atT (by simp [hx])
    · exact atD (by simp [hx])
  have al : evE (call T F n) (.blt false .all (.cons (.lc false (.cmp .lt (.idx (.loc 0) (.loc 1)) (.idx (.loc 0) (.bop false .add (.loc 1) (.con (.int 1))))) [1] (.one 1) (.rng1 (.bop false .sub (.blt false .len (.cons (.loc 0) .nil)) (.con (.int 1)))) .none) .nil)) [some (.py d), none] [] = .ok (bl true) [] := by
    refine ev_all (xs := List.range (l.length - 1)) (fun k : Nat => .int k) ?_ (by rw [List.length_range]; omega) ?_
    · have e : rangeD 0 ((l.length : Int) - 1) = ((List.range (l.length - 1)).map fun k : Nat => PyData.int k).map D.py := by
        unfold rangeD
        rw [show ((l.length : Int) - 1 - 0).toNat = l.length - 1 by omega, List.map_map]
        exact List.map_congr_left fun j _ => by simp
      have hrg : rng (.py (.int 0)) (.py (.int ((l.length : Int) - 1))) = some ⟨rangeD 0 ((l.length : Int) - 1), none⟩ := by
        have e : (decide (-(2 ^ 62) ≤ (0 : Int)) && decide ((0 : Int) < 2 ^ 62) && decide (-(2 ^ 62) ≤ ((l.length : Int) - 1)) && decide (((l.length : Int) - 1) < 2 ^ 62)) = true := by
          simp
          omega
        show (if (decide (-(2 ^ 62) ≤ (0 : Int)) && decide ((0 : Int) < 2 ^ 62) && decide (-(2 ^ 62) ≤ ((l.length : Int) - 1)) && decide (((l.length : Int) - 1) < 2 ^ 62)) = true then some (⟨rangeD 0 ((l.length : Int) - 1), none⟩ : Src) else none) = _
        rw [if_pos e]
      have hev : evE (call T F n) (.bop false .sub (.blt false .len (.cons (.loc 0) .nil)) (.con (.int 1))) [some (.py d), none] [] = .ok (.py (.int ((l.length : Int) - 1))) [] := by
        simp only [ev_bop, ev_blt, ev_cons, ev_loc, List.getElem?_cons_zero, okL_some, R.bind_ok, ev_nil, hln, ev_con, bopD]
      rw [evI, hev, R.bind_ok, hrg, e]
      rfl
    · intro k hk
      have hk' : k + 1 < l.length := by have := List.mem_range.mp hk; omega
      have g1 : l[k]? = some l[k] := List.getElem?_eq_getElem (by omega)
      have g2 : l[k + 1]? = some l[k + 1] := List.getElem?_eq_getElem hk'
      have lt := risB_at hr g1 g2
      have hw : (wipeD [some (D.py d), none] [1]).set 1 (some (.py (.int k))) = [some (.py d), some (.py (.int k))] := rfl
      have i2 := hix (k + 1) _ g2
      rw [show ((k + 1 : Nat) : Int) = (k : Int) + 1 by omega] at i2
      rw [hw]
      simp only [ev_cmp, ev_idx, ev_loc, List.getElem?_cons_zero, List.getElem?_cons_succ, okL_some, R.bind_ok, hix k _ g1, R.of_some, ev_bop, ev_con, bopD, i2, cmpD, lt, Option.map_some]
  rw [hs]
  simp only [d_are_rising, x_cons]
  rw [x_ret, al]
  rfl
end
end Sf
end
section
set_option maxRecDepth 100000
set_option maxHeartbeats 4000000
namespace Sf
open PySem PySem.Spec L2
open PyProof.Rows hiding St
/-! ### facts of drawn books -/
theorem sub_cons {A : Type} {l xs : List A} {x : A} (h : l.Sublist (x :: xs)) : l.Sublist xs ∨ ∃ l', l = x :: l' ∧ l'.Sublist xs := by
  cases h with
  | cons _ h => exact .inl h
  | cons_cons _ h => exact .inr ⟨_, rfl, h⟩
def subs8 : List (List Str) := [[], ["a"], ["b"], ["c"], ["a", "b"], ["a", "c"], ["b", "c"], ["a", "b", "c"]]
theorem asps_sub : ∀ l ∈ asps3, l.Sublist ["a", "b", "c"] := by
  intro l hl
  simp only [asps3, List.mem_cons, List.not_mem_nil, or_false] at hl
  rcases hl with rfl | rfl | rfl
  · exact .cons_cons _ (.cons _ (.cons _ .slnil))
  · exact .cons_cons _ (.cons_cons _ (.cons _ .slnil))
  · exact List.Sublist.refl _
theorem subs_of {l asp : List Str} (ha : asp ∈ asps3) (h : l.Sublist asp) : l ∈ subs8 := by
  have h := h.trans (asps_sub asp ha)
  simp only [subs8, List.mem_cons, List.not_mem_nil, or_false]
  rcases sub_cons h with h1 | ⟨l1, rfl, h1⟩ <;> rcases sub_cons h1 with h2 | ⟨l2, rfl, h2⟩ <;> rcases sub_cons h2 with h3 | ⟨l3, rfl, h3⟩ <;> (have e := List.sublist_nil.mp h3; subst e; simp)
theorem subs_ris : ∀ l ∈ subs8, risB l = true ∧ l.length ≤ 3 ∧ (∀ x ∈ l, ofB letters x = true) := by decide +kernel
theorem vals_mark : ∀ x ∈ vals3, ofB letters x = true := by decide +kernel
theorem kinds_mark : ∀ x ∈ kinds3, ofB letters x = true := by decide +kernel
theorem words_nd : words8.Nodup := by decide +kernel
theorem nodup_len {A : Type} [DecidableEq A] : ∀ {l m : List A}, l.Nodup → (∀ x ∈ l, x ∈ m) → l.length ≤ m.length
  | [], m, _, _ => Nat.zero_le _
  | x :: l, m, h, s => by
    have h' := List.nodup_cons.mp h
    have hx := s x List.mem_cons_self
    have ih := nodup_len (l := l) (m := m.erase x) h'.2 fun y hy => (List.mem_erase_of_ne fun (e : y = x) => h'.1 (e ▸ hy)).mpr (s y (List.mem_cons_of_mem _ hy))
    rw [List.length_erase_of_mem hx] at ih
    have := List.length_pos_of_mem hx
    rw [List.length_cons]
    omega
theorem in_strs {S : Store} {x : Str} {l : List Str} : inD S (.py (.str x)) (.py (eStrs l)) = some (decide (x ∈ l)) := by
  have h1 : pys ((l.map PyData.str).map D.py) = some (l.map .str) := pys_py _
  have h2 : (l.map PyData.str).all flatP = true := by simp [flatP]
  have h3 : ((l.map PyData.str).any fun e => PyData.eqv e (.str x)) = decide (x ∈ l) := by
    induction l with
    | nil => rfl
    | cons y l ih =>
      rw [List.map_cons, List.any_cons, ih (pys_py _) (by simp [flatP])]
      simp only [PyData.eqv, List.mem_cons]
      by_cases e : y = x
      · subst e; simp
      · have : (y == x) = false := by simpa using e
        rw [this]
        have e' : ¬ x = y := fun z => e z.symm
        simp [e']
  show (match (D.py (.str x)), pys ((l.map PyData.str).map D.py) with
    | .py d, some l => if flatP d && l.all flatP then some (l.any fun e => PyData.eqv e d) else none
    | _, _ => none) = _
  rw [h1]
  show (if flatP (.str x) && (l.map PyData.str).all flatP then some ((l.map PyData.str).any fun e => PyData.eqv e (.str x)) else none) = _
  rw [h2, h3]
  rfl
section
variable {T : Tab} {F n : Nat} {mu : Bool} {S : Store}
theorem k_are_marks (h : StdP T) {l : List Str} (hl : l ∈ subs8) : call T F (n + 3) mu "are_marks" [.py (eStrs l)] S = .ok (bl true) S := by
  obtain ⟨h1, h2, h3⟩ := subs_ris l hl
  refine call_py (xs := [eStrs l]) (S' := []) h.are_marks rfl ?_
  have hs : startD d_are_marks ([eStrs l].map .py) = [some (.py (eStrs l)), none] := rfl
  have al : evE (call T F (n + 2)) (.blt false .all (.cons (.lc false (.call false "is_mark" (.cons (.loc 1) .nil)) [1] (.one 1) (.seq (.loc 0)) .none) .nil)) [some (.py (eStrs l)), none] [] = .ok (bl true) [] := by
    refine ev_all (xs := l) PyData.str (src_tup rfl) (by omega) fun x hx => ?_
    have hw : (wipeD [some (D.py (eStrs l)), none] [1]).set 1 (some (.py (.str x))) = [some (.py (eStrs l)), some (.py (.str x))] := rfl
    rw [hw]
    simp only [ev_call, ev_cons, ev_loc, List.getElem?_cons_succ, List.getElem?_cons_zero, okL_some, R.bind_ok, ev_nil, k_is_mark h (h3 x hx)]
  have rs := k_are_rising (F := F) (n := n + 1) (mu := false) (S := []) h (l := l) (d := eStrs l) (.inl rfl) (by omega) h1
  rw [hs]
  simp only [d_are_marks, x_cons, x_ret, ev_and, al, ev_isi, ev_loc, List.getElem?_cons_zero, okL_some, R.bind_ok, show isiD [] (.py (eStrs l)) .tuple = some true from rfl, Option.map_some, R.of_some, bl, truth, tt3_t, ev_call, ev_cons, ev_nil, rs]
  rfl
theorem k_are_gives (h : StdP T) {g : List (Str × Str)} (ne : g ≠ []) (hk : g.map (·.1) ∈ subs8) (hv : ∀ p ∈ g, p.2 ∈ vals3) : call T F (n + 3) mu "are_gives" [.py (eChain g)] S = .ok (bl true) S := by
  obtain ⟨h1, h2, h3⟩ := subs_ris _ hk
  rw [List.length_map] at h2
  refine call_py (xs := [eChain g]) (S' := []) h.are_gives rfl ?_
  have hs : startD d_are_gives ([eChain g].map .py) = [some (.py (eChain g)), none] := rfl
  have c0 : eqD [] (.py (.int (g.map ePair).length)) (.py (.int 0)) = some false := by
    rw [eqD_py shp_int (Nat.zero_le _) shp_int (Nat.zero_le _), List.length_map]
    have : 0 < g.length := List.length_pos_iff.mpr ne
    simp only [PyData.eqv]
    rw [show ((g.length : Int) == 0) = false by simp; omega]
  -- the loop leaves all
  obtain ⟨r', S', e1, x, hr', rfl⟩ := loopF_inv (ok := (⟨(g.map ePair).map .py, none⟩ : Src).stands) (f := fun x r1 S2 => match bindT (.one 1) x r1 with
      | some r2 => exSs (call T F (n + 2)) F (.cons (.ite (.or (.not (.isi (.loc 1) .tuple)) (.or (.cmp .ne (.blt false .len (.cons (.loc 1) .nil)) (.con (.int 2))) (.or (.not (.call false "is_mark" (.cons (.idx (.loc 1) (.con (.int 0))) .nil))) (.not (.call false "is_mark" (.cons (.idx (.loc 1) (.con (.int 1))) .nil)))))) (.cons (.ret (.con (.bool false))) .nil) .nil) .nil) r2 S2
      | none => .bad) (xs := (g.map ePair).map .py) (r := [some (.py (eChain g)), none]) (S := []) (fun k r S => ∃ x, r = [some (.py (eChain g)), x] ∧ S = []) (fun _ _ _ _ => rfl)
    (fun k d hd r S ⟨x, hr, hS⟩ => by
      subst hr hS
      obtain ⟨p, hp, rfl⟩ : ∃ p ∈ g, d = .py (ePair p) := by
        have hm := List.mem_of_getElem? hd
        rw [List.map_map] at hm
        obtain ⟨p, hp, e⟩ := List.mem_map.mp hm
        exact ⟨p, hp, e.symm⟩
      refine ⟨[some (.py (eChain g)), some (.py (ePair p))], [], ?_, _, rfl, rfl⟩
      have m1 := k_is_mark (F := F) (n := n) (mu := false) (S := []) h (h3 p.1 (List.mem_map.mpr ⟨p, hp, rfl⟩))
      have m2 := k_is_mark (F := F) (n := n) (mu := false) (S := []) h (vals_mark p.2 (hv p hp))
      have i0 : idxD [] (.py (ePair p)) (.py (.int 0)) = some (.py (.str p.1)) := atT (k := 0) rfl
      have i1 : idxD [] (.py (ePair p)) (.py (.int 1)) = some (.py (.str p.2)) := atT (k := 1) rfl
      have cl : eqD [] (.py (.int 2)) (.py (.int 2)) = some true := eqD_same shp_int (Nat.zero_le _)
      have ln : bltD false .len [.py (ePair p)] [] = .ok (.py (.int 2)) [] := len_tup
      simp only [bindT, List.set_cons_succ, List.set_cons_zero, x_cons, x_ite, ev_or, ev_not, ev_isi, ev_loc, List.getElem?_cons_succ, List.getElem?_cons_zero, okL_some, R.bind_ok, show isiD [] (.py (ePair p)) .tuple = some true from rfl, Option.map_some, R.of_some, bl, truth, Bool.not_true, tt3_f, ev_cmp, ev_blt, ev_cons, ev_nil, ln, ev_con, cmpD, cl, ev_call, ev_idx, i0, i1, m1, m2, x_nil]) ⟨none, rfl, rfl⟩
  have rs := k_are_rising (F := F) (n := n + 1) (mu := false) (S := []) h (l := g.map (·.1)) (d := .list ((g.map (·.1)).map .str)) (.inr rfl) (by rw [List.length_map]; omega) h1
  have lc : evE (call T F (n + 2)) (.lc false (.idx (.loc 1) (.con (.int 0))) [1] (.one 1) (.seq (.loc 0)) .none) [some (.py (eChain g)), x] [] = .ok (.py (.list ((g.map (·.1)).map .str))) [] := by
    refine (ev_lc1 (xs := g) ePair (fun p => .str p.1) (src_tup rfl) (by omega) fun p hp => ?_).trans (by simp [Function.comp_def])
    have hw : (wipeD [some (D.py (eChain g)), x] [1]).set 1 (some (.py (ePair p))) = [some (.py (eChain g)), some (.py (ePair p))] := rfl
    rw [hw]
    exact ev_at (k := 0) rfl rfl
  rw [hs]
  have hl : exS (call T F (n + 2)) F (.loop (.one 1) (.seq (.loc 0)) (.cons (.ite (.or (.not (.isi (.loc 1) .tuple)) (.or (.cmp .ne (.blt false .len (.cons (.loc 1) .nil)) (.con (.int 2))) (.or (.not (.call false "is_mark" (.cons (.idx (.loc 1) (.con (.int 0))) .nil))) (.not (.call false "is_mark" (.cons (.idx (.loc 1) (.con (.int 1))) .nil)))))) (.cons (.ret (.con (.bool false))) .nil) .nil) .nil)) [some (.py (eChain g)), none] [] = .ok (.nx [some (.py (eChain g)), x]) [] := by
    rw [x_loop, src_tup (xs := g.map ePair) rfl, R.bind_ok]
    rw [hr'] at e1
    exact e1
  have ln : bltD false .len [.py (eChain g)] [] = .ok (.py (.int (g.map ePair).length)) [] := len_tup
  simp only [d_are_gives, x_cons, hl, x_ite, ev_or, ev_not, ev_isi, ev_loc, List.getElem?_cons_succ, List.getElem?_cons_zero, okL_some, R.bind_ok, show isiD [] (.py (eChain g)) .tuple = some true from rfl, Option.map_some, R.of_some, bl, truth, Bool.not_true, tt3_f, ev_cmp, ev_blt, ev_cons, ev_nil, ln, ev_con, cmpD, c0, x_nil, x_ret, ev_call, lc, rs]
  rfl
theorem k_is_code (h : StdP T) {asp : List Str} {c : Code} (ha : asp ∈ asps3) (hw : c.word ∈ words8) (hc : CodeOk asp c) : call T F (n + 4) mu "is_code" [.py (eCode c)] S = .ok (bl true) S := by
  refine call_py (xs := [eCode c]) (S' := []) h.is_code rfl ?_
  have hs : startD d_is_code ([eCode c].map .py) = [some (.py (eCode c))] := rfl
  have w := k_is_word (F := F) (n := n + 1) (mu := false) (S := []) h hw
  have k := k_is_mark (F := F) (n := n + 1) (mu := false) (S := []) h (kinds_mark _ hc.kind)
  have g := k_are_gives (F := F) (n := n) (mu := false) (S := []) h hc.ne (subs_of ha hc.keys) hc.vals
  have i0 : idxD [] (.py (eCode c)) (.py (.int 0)) = some (.py (.str c.word)) := atT (k := 0) rfl
  have i1 : idxD [] (.py (eCode c)) (.py (.int 1)) = some (.py (.str c.kind)) := atT (k := 1) rfl
  have i2 : idxD [] (.py (eCode c)) (.py (.int 2)) = some (.py (eChain c.gives)) := atT (k := 2) rfl
  have cl : eqD [] (.py (.int 3)) (.py (.int 3)) = some true := eqD_same shp_int (Nat.zero_le _)
  have ln : bltD false .len [.py (eCode c)] [] = .ok (.py (.int 3)) [] := len_tup
  rw [hs]
  simp only [d_is_code, x_cons, x_ite, ev_or, ev_not, ev_isi, ev_loc, List.getElem?_cons_zero, okL_some, R.bind_ok, show isiD [] (.py (eCode c)) .tuple = some true from rfl, Option.map_some, R.of_some, bl, truth, Bool.not_true, tt3_f, ev_cmp, ev_blt, ev_cons, ev_nil, ln, ev_con, cmpD, cl, x_nil, x_ret, ev_and, ev_call, ev_idx, i0, i1, i2, w, k, g, tt3_t]
  rfl
end
end Sf
end
section
set_option maxRecDepth 100000
set_option maxHeartbeats 4000000
namespace Sf
open PySem PySem.Spec L2
open PyProof.Rows hiding St
/-! ### tables -/
theorem dget_none {A : Type} [DecidableEq A] {kvs : List (A × D)} {k : A} (h : k ∉ kvs.map (·.1)) : dget kvs k = none := by
  unfold dget
  rw [List.find?_eq_none.mpr fun x hx => by
    simp only [decide_eq_true_eq]
    exact fun e => h (List.mem_map.mpr ⟨x, hx, e⟩)]
  rfl
theorem dput_new {A : Type} [DecidableEq A] {kvs : List (A × D)} {k : A} {v : D} (h : k ∉ kvs.map (·.1)) : dput kvs k v = kvs ++ [(k, v)] := by
  unfold dput
  rw [if_neg]
  intro z
  obtain ⟨x, hx, e⟩ := List.any_eq_true.mp z
  exact h (List.mem_map.mpr ⟨x, hx, of_decide_eq_true e⟩)
theorem dput_old {A : Type} [DecidableEq A] {kvs : List (A × D)} {k : A} {v : D} (h : k ∈ kvs.map (·.1)) : dput kvs k v = kvs.map (fun kv => if kv.1 = k then (kv.1, v) else kv) := by
  unfold dput
  rw [if_pos]
  obtain ⟨x, hx, e⟩ := List.mem_map.mp h
  exact List.any_eq_true.mpr ⟨x, hx, decide_eq_true e⟩
theorem dput_keys {A : Type} [DecidableEq A] {kvs : List (A × D)} {k : A} {v : D} : (dput kvs k v).map (·.1) = if k ∈ kvs.map (·.1) then kvs.map (·.1) else kvs.map (·.1) ++ [k] := by
  split
  · rename_i h
    rw [dput_old h, List.map_map]
    refine List.map_congr_left fun kv _ => ?_
    show (if kv.1 = k then (kv.1, v) else kv).1 = kv.1
    split <;> rfl
  · rename_i h
    rw [dput_new h, List.map_append]
    rfl
theorem mergeS_new : ∀ {ys kvs : List (Str × D)}, (kvs.map (·.1) ++ ys.map (·.1)).Nodup → mergeS kvs ys = kvs ++ ys
  | [], kvs, _ => (List.append_nil _).symm
  | (k, v) :: ys, kvs, h => by
    have hk : k ∉ kvs.map (·.1) := by
      rw [List.map_cons, List.nodup_append] at h
      intro z
      exact h.2.2 k z k List.mem_cons_self rfl
    show mergeS (dput kvs k v) ys = _
    rw [dput_new hk, mergeS_new (by simpa using h)]
    simp
section
variable {T : Tab} {F n : Nat} {mu : Bool} {S : Store}
def needB : CSs := (.cons (.ite (.or (.not (.call false "is_code" (.cons (.loc 5) .nil))) (.or (.cmp .isin (.idx (.loc 5) (.con (.int 0))) (.loc 2)) (.not (.blt false .all (.cons (.lc false (.cmp .isin (.idx (.loc 6) (.con (.int 0))) (.loc 0)) [6] (.one 6) (.seq (.idx (.loc 5) (.con (.int 2)))) .none) .nil))))) (.cons .rais .nil) .nil)
  (.cons (.sub (.loc 2) (.idx (.loc 5) (.con (.int 0))) (.con (.bool true))) (.cons (.sub (.loc 3) (.idx (.loc 5) (.con (.int 1))) (.con (.bool true))) (.cons (.ite (.cmp .gt (.blt false .len (.cons (.loc 3) .nil)) (.glo "" (.int 6))) (.cons .rais .nil) .nil) .nil))))
theorem body_need : d_need_codes.body = .cons (.par [2, 3] (.cons (.dic true .nil) (.cons (.dic true .nil) .nil))) (.cons (.loop (.many [4, 5]) (.enu (.loc 1)) needB) .nil) := rfl
def rowN (asp : List Str) (codes : PyData) (a b : Option D) : Rho := [some (.py (eStrs asp)), some (.py codes), some (.ref 0), some (.ref 1), a, b, none]
theorem enum_get {l : List PyData} {m k : Nat} {x : D} (h : (enumD m l)[k]? = some x) : ∃ d, l[k]? = some d ∧ x = .py (.tuple [.int (m + k : Nat), d]) := by
  have hk : k < l.length := by
    have := (List.getElem?_eq_some_iff.mp h).1
    rwa [enumD_length] at this
  have e := enumD_get l m k l[k] (List.getElem?_eq_getElem hk)
  rw [h] at e
  exact ⟨_, List.getElem?_eq_getElem hk, Option.some.inj e⟩
theorem k_need_codes (h : StdP T) {b : Book} (hb : BookOk b) : call T F (n + 5) mu "need_codes" [.py (eStrs b.asp), .py (.tuple (b.codes.map eCode))] S = .ok (.py .none) S := by
  have wnd : b.words.Nodup := by
    unfold Book.words
    rw [hb.words]
    exact words_nd.sublist (List.take_sublist _ _)
  have wmem : ∀ x ∈ b.words, x ∈ words8 := fun x hx => by
    unfold Book.words at hx
    rw [hb.words] at hx
    exact List.mem_of_mem_take hx
  obtain ⟨r', S', e1, a', b', wl, kl, hr', hS', _⟩ := loopF_inv (ok := (⟨enumD 0 (b.codes.map eCode), none⟩ : Src).stands) (f := fun x r1 S2 => match bindT (.many [4, 5]) x r1 with
      | some r2 => exSs (call T F (n + 4)) F needB r2 S2
      | none => .bad) (xs := enumD 0 (b.codes.map eCode)) (r := rowN b.asp (.tuple (b.codes.map eCode)) none none) (S := [.dS [], .dS []])
    (fun k r S => ∃ a' b' wl kl, r = rowN b.asp (.tuple (b.codes.map eCode)) a' b' ∧ S = [.dS wl, .dS kl] ∧ wl.map (·.1) = b.words.take k ∧ (kl.map (·.1)).Nodup ∧ (∀ x ∈ kl.map (·.1), x ∈ kinds3)) (fun _ _ _ _ => rfl)
    (fun k d hd r S ⟨a', b', wl, kl, hr, hS, hw, hk, hkk⟩ => by
      subst hr hS
      obtain ⟨cd, hcd, rfl⟩ := enum_get hd
      rw [List.getElem?_map] at hcd
      cases q : b.codes[k]? with
      | none => rw [q] at hcd; cases hcd
      | some c =>
        rw [q] at hcd
        cases hcd
        have hc := hb.codes c (List.mem_of_getElem? q)
        have hwk : b.words[k]? = some c.word := by
          unfold Book.words
          rw [List.getElem?_map, q]
          rfl
        have hwm := wmem _ (List.mem_of_getElem? hwk)
        have hnew : c.word ∉ wl.map (·.1) := by
          rw [hw]
          intro z
          obtain ⟨j, hj, ej⟩ := List.getElem_of_mem z
          have hjk : j < k := by
            have := hj
            rw [List.length_take] at this
            omega
          have e2 : b.words[j]? = some c.word := by
            rw [← ej, List.getElem_take]
            exact List.getElem?_eq_getElem _
          have : j = k := ((List.getElem?_inj (by have := (List.getElem?_eq_some_iff.mp e2).1; exact this) wnd).mp (e2.trans hwk.symm))
          omega
        have kl3 : (kl.map (·.1)).length ≤ 3 := nodup_len hk hkk
        rw [List.length_map] at kl3
        have wl8 : wl.length ≤ 8 := by
          have := congrArg List.length hw
          rw [List.length_map, List.length_take] at this
          have h8 : b.words.length ≤ 8 := by unfold Book.words; rw [List.length_map]; exact hb.few
          omega
        have e_code := k_is_code (F := F) (n := n) (mu := false) (S := [.dS wl, .dS kl]) h hb.asp hwm hc
        have i0 : ∀ S, idxD S (.py (eCode c)) (.py (.int 0)) = some (.py (.str c.word)) := fun S => atT (k := 0) rfl
        have i1 : ∀ S, idxD S (.py (eCode c)) (.py (.int 1)) = some (.py (.str c.kind)) := fun S => atT (k := 1) rfl
        have e_in : inD [.dS wl, .dS kl] (.py (.str c.word)) (.ref 0) = some false := by
          show some (dget wl c.word).isSome = _
          rw [dget_none hnew]
          rfl
        have al : evE (call T F (n + 4)) (.blt false .all (.cons (.lc false (.cmp .isin (.idx (.loc 6) (.con (.int 0))) (.loc 0)) [6] (.one 6) (.seq (.idx (.loc 5) (.con (.int 2)))) .none) .nil)) (rowN b.asp (.tuple (b.codes.map eCode)) (some (.py (.int k))) (some (.py (eCode c)))) [.dS wl, .dS kl] = .ok (bl true) [.dS wl, .dS kl] := by
          have e2 : evE (call T F (n + 4)) (.idx (.loc 5) (.con (.int 2))) (rowN b.asp (.tuple (b.codes.map eCode)) (some (.py (.int k))) (some (.py (eCode c)))) [.dS wl, .dS kl] = .ok (.py (.tuple (c.gives.map ePair))) [.dS wl, .dS kl] := ev_at (k := 2) rfl rfl
          have hgl : c.gives.length < 1000000 := by
            have := hc.keys.length_le
            have h3 := (asps_few _ hb.asp).1
            rw [List.length_map] at this
            omega
          refine ev_all (xs := c.gives) ePair (src_tup e2) hgl fun p hp => ?_
          have hm : p.1 ∈ b.asp := hc.keys.subset (List.mem_map.mpr ⟨p, hp, rfl⟩)
          have hwp : (wipeD (rowN b.asp (.tuple (b.codes.map eCode)) (some (.py (.int k))) (some (.py (eCode c)))) [6]).set 6 (some (.py (ePair p))) = [some (.py (eStrs b.asp)), some (.py (.tuple (b.codes.map eCode))), some (.ref 0), some (.ref 1), some (.py (.int k)), some (.py (eCode c)), some (.py (ePair p))] := rfl
          have ip : ∀ S, idxD S (.py (ePair p)) (.py (.int 0)) = some (.py (.str p.1)) := fun S => atT (k := 0) rfl
          rw [hwp]
          simp only [ev_cmp, ev_idx, ev_loc, List.getElem?_cons_succ, List.getElem?_cons_zero, okL_some, R.bind_ok, ev_con, ip, R.of_some, cmpD, in_strs, decide_eq_true hm, Option.map_some]
        have p1 : putD (.ref 0) (.py (.str c.word)) (.py (.bool true)) [.dS wl, .dS kl] = some [.dS (dput wl c.word (.py (.bool true))), .dS kl] := by
          show (if fits wl.length then some (([Ob.dS wl, .dS kl] : Store).set 0 (.dS (dput wl c.word (.py (.bool true))))) else none) = _
          rw [if_pos (fits_of (by omega))]
          rfl
        have p2 : putD (.ref 1) (.py (.str c.kind)) (.py (.bool true)) [.dS (dput wl c.word (.py (.bool true))), .dS kl] = some [.dS (dput wl c.word (.py (.bool true))), .dS (dput kl c.kind (.py (.bool true)))] := by
          show (if fits kl.length then some (([Ob.dS (dput wl c.word (.py (.bool true))), .dS kl] : Store).set 1 (.dS (dput kl c.kind (.py (.bool true))))) else none) = _
          rw [if_pos (fits_of (by omega))]
          rfl
        have nk : ((dput kl c.kind (.py (.bool true))).map (·.1)).Nodup ∧ ∀ x ∈ (dput kl c.kind (.py (.bool true))).map (·.1), x ∈ kinds3 := by
          rw [dput_keys]
          split
          · exact ⟨hk, hkk⟩
          · rename_i hn
            refine ⟨List.nodup_append.mpr ⟨hk, by simp, fun x hx y hy e => hn (by rw [List.mem_singleton.mp hy] at e; exact e ▸ hx)⟩, fun x hx => ?_⟩
            rcases List.mem_append.mp hx with z | z
            · exact hkk x z
            · rw [List.mem_singleton.mp z]; exact hc.kind
        have nl : (dput kl c.kind (.py (.bool true))).length ≤ 3 := by
          have := nodup_len nk.1 nk.2
          rw [List.length_map] at this
          exact this
        have ln : bltD false .len [.ref 1] [.dS (dput wl c.word (.py (.bool true))), .dS (dput kl c.kind (.py (.bool true)))] = .ok (.py (.int (dput kl c.kind (.py (.bool true))).length)) [.dS (dput wl c.word (.py (.bool true))), .dS (dput kl c.kind (.py (.bool true)))] := rfl
        have gt : decide ((6 : Int) < (dput kl c.kind (.py (.bool true))).length) = false := decide_eq_false (by omega)
        refine ⟨rowN b.asp (.tuple (b.codes.map eCode)) (some (.py (.int k))) (some (.py (eCode c))), [.dS (dput wl c.word (.py (.bool true))), .dS (dput kl c.kind (.py (.bool true)))], ?_, _, _, _, _, rfl, rfl, ?_, nk.1, nk.2⟩
        · have hbt : bindT (.many [4, 5]) (.py (.tuple [.int (0 + k : Nat), eCode c])) (rowN b.asp (.tuple (b.codes.map eCode)) a' b') = some (rowN b.asp (.tuple (b.codes.map eCode)) (some (.py (.int k))) (some (.py (eCode c)))) := by
            rw [Nat.zero_add]
            rfl
          rw [hbt]
          have l5 : (rowN b.asp (.tuple (b.codes.map eCode)) (some (.py (.int k))) (some (.py (eCode c))))[5]? = some (some (.py (eCode c))) := rfl
          have l2 : (rowN b.asp (.tuple (b.codes.map eCode)) (some (.py (.int k))) (some (.py (eCode c))))[2]? = some (some (.ref 0)) := rfl
          have l3 : (rowN b.asp (.tuple (b.codes.map eCode)) (some (.py (.int k))) (some (.py (eCode c))))[3]? = some (some (.ref 1)) := rfl
          have lnE : ∀ r S, evE (call T F (n + 4)) (.blt false .len (.cons (.loc 3) .nil)) r S = (okL r[3]? S).bind fun d S1 => bltD false .len [d] S1 := fun r S => by
            simp only [ev_blt, ev_cons, ev_loc, ev_nil]
            cases okL r[3]? S <;> rfl
          simp only [needB, x_cons, x_ite, ev_or, ev_not, al, lnE, ev_call, ev_cons, ev_loc, l5, l2, l3, okL_some, R.bind_ok, ev_nil, e_code, bl, truth, Option.map_some, Bool.not_true, R.of_some, tt3_f, ev_cmp, ev_idx, ev_con, i0, i1, cmpD, e_in, x_nil, x_sub, p1, okO_some, p2, ln, ev_glo, gt]
        · rw [dput_new hnew, List.map_append, hw, List.take_add_one, hwk]
          rfl) ⟨none, none, [], [], rfl, rfl, rfl, List.nodup_nil, fun x hx => by cases hx⟩
  refine call_py (xs := [eStrs b.asp, .tuple (b.codes.map eCode)]) (S' := [.dS wl, .dS kl]) h.need_codes rfl ?_
  have hs : startD d_need_codes ([eStrs b.asp, .tuple (b.codes.map eCode)].map .py) = [some (.py (eStrs b.asp)), some (.py (.tuple (b.codes.map eCode))), none, none, none, none, none] := rfl
  have first : exS (call T F (n + 4)) F (.par [2, 3] (.cons (.dic true .nil) (.cons (.dic true .nil) .nil))) [some (.py (eStrs b.asp)), some (.py (.tuple (b.codes.map eCode))), none, none, none, none, none] [] = .ok (.nx (rowN b.asp (.tuple (b.codes.map eCode)) none none)) [.dS [], .dS []] := rfl
  have en : evI (call T F (n + 4)) (.enu (.loc 1)) (rowN b.asp (.tuple (b.codes.map eCode)) none none) [.dS [], .dS []] = .ok ⟨enumD 0 (b.codes.map eCode), none⟩ [.dS [], .dS []] := rfl
  subst hr' hS'
  rw [hs, body_need, x_cons, first, R.bind_ok]
  have lp : exS (call T F (n + 4)) F (.loop (.many [4, 5]) (.enu (.loc 1)) needB) (rowN b.asp (.tuple (b.codes.map eCode)) none none) [.dS [], .dS []] = .ok (.nx (rowN b.asp (.tuple (b.codes.map eCode)) a' b')) [.dS wl, .dS kl] := by
    rw [x_loop, en, R.bind_ok]
    exact e1
  show (exSs _ _ (.cons (.loop (.many [4, 5]) (.enu (.loc 1)) needB) .nil) (rowN b.asp (.tuple (b.codes.map eCode)) none none) [.dS [], .dS []]).bind endD = _
  rw [x_cons, lp]
  rfl
end
end Sf
end
section
set_option maxRecDepth 100000
set_option maxHeartbeats 4000000
namespace Sf
open PySem PySem.Spec L2
open PyProof.Rows hiding St
theorem words_nodup {b : Book} (hb : BookOk b) : b.words.Nodup := by
  unfold Book.words
  rw [hb.words]
  exact words_nd.sublist (List.take_sublist _ _)
theorem words_mem {b : Book} (hb : BookOk b) : ∀ x ∈ b.words, x ∈ words8 := fun x hx => by
  unfold Book.words at hx
  rw [hb.words] at hx
  exact List.mem_of_mem_take hx
theorem asps_subs : ∀ l ∈ asps3, l ∈ subs8 := by decide +kernel
section
variable {T : Tab} {F n : Nat} {mu : Bool} {S : Store}
theorem k_need_book (h : StdP T) {b : Book} (hb : BookOk b) : call T F (n + 6) mu "need_book" [.py (eBook b)] S = .ok (.py (eBook b)) S := by
  refine call_py (xs := [eBook b]) (S' := []) h.need_book rfl ?_
  have hs : startD d_need_book ([eBook b].map .py) = [some (.py (eBook b)), none, none, none, none] := rfl
  have a1 := k_are_marks (F := F) (n := n + 2) (mu := false) (S := []) h (asps_subs _ hb.asp)
  have a2 := k_are_marks (F := F) (n := n + 2) (mu := false) (S := []) h (subs_of hb.asp hb.shown)
  have nc := k_need_codes (F := F) (n := n) (mu := false) (S := []) h hb
  obtain ⟨l3, lne⟩ := asps_few _ hb.asp
  have l1 : 0 < b.asp.length := List.length_pos_iff.mpr lne
  have un : bindT (.many [1, 2, 3]) (.py (eBook b)) [some (.py (eBook b)), none, none, none, none] = some [some (.py (eBook b)), some (.py (eStrs b.asp)), some (.py (eStrs b.shown)), some (.py (.tuple (b.codes.map eCode))), none] := rfl
  have ln0 : bltD false .len [.py (eBook b)] [] = .ok (.py (.int 3)) [] := len_tup
  have c3 : eqD [] (.py (.int 3)) (.py (.int 3)) = some true := eqD_same shp_int (Nat.zero_le _)
  have ln1 : bltD false .len [.py (eStrs b.asp)] [] = .ok (.py (.int b.asp.length)) [] := by
    have := len_tup (S := []) (xs := b.asp.map .str)
    rw [List.length_map] at this
    exact this
  have ln3 : bltD false .len [.py (.tuple (b.codes.map eCode))] [] = .ok (.py (.int b.codes.length)) [] := by
    have := len_tup (S := []) (xs := b.codes.map eCode)
    rw [List.length_map] at this
    exact this
  have al : evE (call T F (n + 5)) (.blt false .all (.cons (.lc false (.cmp .isin (.loc 4) (.loc 1)) [4] (.one 4) (.seq (.loc 2)) .none) .nil)) [some (.py (eBook b)), some (.py (eStrs b.asp)), some (.py (eStrs b.shown)), some (.py (.tuple (b.codes.map eCode))), none] [] = .ok (bl true) [] := by
    refine ev_all (xs := b.shown) PyData.str (src_tup rfl) (by have := hb.shown.length_le; omega) fun x hx => ?_
    have hm : x ∈ b.asp := hb.shown.subset hx
    have hwp : (wipeD [some (.py (eBook b)), some (.py (eStrs b.asp)), some (.py (eStrs b.shown)), some (D.py (.tuple (b.codes.map eCode))), none] [4]).set 4 (some (.py (.str x))) = [some (.py (eBook b)), some (.py (eStrs b.asp)), some (.py (eStrs b.shown)), some (.py (.tuple (b.codes.map eCode))), some (.py (.str x))] := rfl
    rw [hwp]
    simp only [ev_cmp, ev_loc, List.getElem?_cons_succ, List.getElem?_cons_zero, okL_some, R.bind_ok, cmpD, in_strs, decide_eq_true hm, Option.map_some, R.of_some]
  have d1 : decide ((1 : Int) ≤ b.asp.length) = true := decide_eq_true (by omega)
  have d2 : decide ((b.asp.length : Int) ≤ 6) = true := decide_eq_true (by omega)
  have d3 : decide ((16 : Int) < b.codes.length) = false := decide_eq_false (by have := hb.few; omega)
  have lnE : ∀ i r S, evE (call T F (n + 5)) (.blt false .len (.cons (.loc i) .nil)) r S = (okL r[i]? S).bind fun d S1 => bltD false .len [d] S1 := fun i r S => by
    simp only [ev_blt, ev_cons, ev_loc, ev_nil]
    cases okL r[i]? S <;> rfl
  rw [hs]
  simp only [d_need_book, x_cons, x_ite, ev_or, ev_not, ev_isi, ev_loc, List.getElem?_cons_succ, List.getElem?_cons_zero, okL_some, R.bind_ok, show isiD [] (.py (eBook b)) .tuple = some true from rfl, show isiD [] (.py (.tuple (b.codes.map eCode))) .tuple = some true from rfl, Option.map_some, R.of_some, bl, truth, Bool.not_true, Bool.not_false, tt3_f, tt3_t, ev_cmp, lnE, ln0, ln1, ln3, ev_con, ev_glo, cmpD, c3, x_nil, x_unp, un, ev_call, ev_cons, ev_nil, a1, a2, ev_cmp2, d1, d2, al, d3, x_exp, nc, x_ret]
  rfl
/-- the codes by their words -/
def eTab (b : Book) : PyData := .dict (b.codes.map fun c => (.str c.word, eCode c))
theorem pyKv_map {B : Type} (k : B → Str) (v : B → PyData) : ∀ xs : List B, pyKv PyData.str (xs.map fun x => (k x, D.py (v x))) = some (xs.map fun x => (.str (k x), v x))
  | [] => rfl
  | x :: xs => by simp [pyKv, pyKv_map k v xs]
theorem loopC_all {A B : Type} {ok : Store → Bool} {f : D → Store → R (Option A)} {S : Store} (e : B → D) (g : B → A) (h0 : ok S = true) {xs : List B} (h : ∀ x ∈ xs, f (e x) S = .ok (some (g x)) S) : loopC ok f (xs.map e) S = .ok (xs.map g) S := by
  rw [loopC_ex e (fun x => some (g x)) h0 h, List.filterMap_eq_map']
theorem ev_dc1 {G : Gam} {B : Type} {ck cv : CE} {i : Nat} {it : CI} {r : Rho} {xs : List B} (e : B → PyData) (k : B → Str) (v : B → PyData) (hi : evI G it r S = .ok ⟨(xs.map e).map .py, none⟩ S) (hl : xs.length < 1000000) (nd : (xs.map k).Nodup)
    (hk : ∀ x ∈ xs, evE G ck ((wipeD r [i]).set i (some (.py (e x)))) S = .ok (.py (.str (k x))) S) (hv : ∀ x ∈ xs, evE G cv ((wipeD r [i]).set i (some (.py (e x)))) S = .ok (.py (v x)) S) :
    evE G (.dc mu ck cv [i] (.one i) it .none) r S = mkDS mu (xs.map fun x => (k x, D.py (v x))) S := by
  have lp : loopC (⟨(xs.map e).map .py, none⟩ : Src).stands (turnD G ck cv [i] (.one i) .none r) ((xs.map e).map .py) S = .ok (xs.map fun x => (k x, D.py (v x))) S := by
    rw [List.map_map]
    refine loopC_all (D.py ∘ e) (fun x => (k x, D.py (v x))) rfl fun x hx => ?_
    simp only [turnD, bindT, Function.comp, evC, R.bind_ok, if_true, hk x hx, hv x hx]
  rw [evE_dc, hi, R.bind_ok, lp, R.bind_ok]
  unfold mkDC
  rw [if_pos (fits_of (by rw [List.length_map]; exact hl)), mergeS_new (kvs := []) (by simpa [Function.comp_def] using nd)]
  rfl
theorem k_codes_in (h : StdP T) {b : Book} (hb : BookOk b) : call T F (n + 1) mu "codes_in" [.py (eBook b)] S = .ok (.py (eTab b)) S := by
  refine call_py (xs := [eBook b]) (S' := []) h.codes_in rfl ?_
  have hs : startD d_codes_in ([eBook b].map .py) = [some (.py (eBook b)), none] := rfl
  have hl : b.codes.length < 1000000 := by have := hb.few; omega
  have e2 : evE (call T F n) (.idx (.loc 0) (.con (.int 2))) [some (.py (eBook b)), none] [] = .ok (.py (.tuple (b.codes.map eCode))) [] := ev_at (k := 2) rfl rfl
  have dc : evE (call T F n) (.dc false (.idx (.loc 1) (.con (.int 0))) (.loc 1) [1] (.one 1) (.seq (.idx (.loc 0) (.con (.int 2)))) .none) [some (.py (eBook b)), none] [] = .ok (.py (eTab b)) [] := by
    refine (ev_dc1 (mu := false) (ck := .idx (.loc 1) (.con (.int 0))) (cv := .loc 1) (i := 1) (xs := b.codes) eCode (·.word) eCode (src_tup e2) hl (words_nodup hb) (fun c hc => ev_at (k := 0) rfl rfl) (fun c hc => rfl)).trans ?_
    unfold mkDS
    rw [if_pos (fits_of (by rw [List.length_map]; exact hl)), pyKv_map]
    rfl
  rw [hs]
  simp only [d_codes_in, x_cons, x_ret, dc]
  rfl
/-- signs -/
def signZ : Str := "abcdefghijklmnopqrstuvwxyz \n"
def signB (x : Str) : Bool := match x.cps.toList with
  | [c] => signZ.cps.toList.contains c
  | _ => false
theorem k_is_sign (h : StdP T) {x : Str} (hx : x.length < 1000000) : call T F (n + 1) mu "is_sign" [.py (.str x)] S = .ok (bl (signB x)) S := by
  refine call_py (xs := [.str x]) (S' := []) h.is_sign rfl ?_
  have hs : startD d_is_sign ([PyData.str x].map .py) = [some (.py (.str x))] := rfl
  have cat1 : bopD false .add (.py (.str "abcdefghijklmnopqrstuvwxyz")) (.py (.str " ")) [] = .ok (.py (.str "abcdefghijklmnopqrstuvwxyz ")) [] := rfl
  have cat2 : bopD false .add (.py (.str "abcdefghijklmnopqrstuvwxyz ")) (.py (.str "\n")) [] = .ok (.py (.str signZ)) [] := rfl
  have ce : eqD [] (.py (.int x.length)) (.py (.int 1)) = some (decide (x.length = 1)) := by
    rw [eqD_py shp_int (Nat.zero_le _) shp_int (Nat.zero_le _)]
    simp only [PyData.eqv]
    congr 1
    rw [Bool.eq_iff_iff]
    simp
    omega
  obtain ⟨⟨l⟩⟩ := x
  rw [hs]
  simp only [d_is_sign, x_cons, x_ret, ev_and, ev_isi, ev_loc, List.getElem?_cons_zero, okL_some, R.bind_ok, isi_str, Option.map_some, R.of_some, bl, truth, tt3_t, ev_cmp, ev_blt, ev_cons, ev_nil, len_str hx, ev_con, cmpD, ce]
  match l, hx, ce with
  | [c], _, _ =>
    have hi : inD [] (.py (.str ⟨⟨[c]⟩⟩)) (.py (.str signZ)) = some (decide (c ∈ signZ.cps.toList)) := rfl
    simp only [show decide ((⟨⟨[c]⟩⟩ : Str).length = 1) = true from rfl, tt3_t, ev_bop, ev_glo, R.bind_ok, cat1, cat2, hi, Option.map_some, R.of_some, signB]
    simp [endD, bl]
  | [], _, _ => rfl
  | c :: d :: r, _, _ =>
    have : decide ((⟨⟨c :: d :: r⟩⟩ : Str).length = 1) = false := decide_eq_false (by simp [Str.length])
    simp only [this, tt3_f, signB]
    rfl
end
end Sf
end
section
set_option maxRecDepth 100000
set_option maxHeartbeats 4000000
namespace Sf
open PySem PySem.Spec L2
open PyProof.Rows hiding St
/-! ### chains, plainly -/
abbrev Ch := List (Str × Str)
abbrev Tb := List (Str × Ch)
def onTop (k v : Str) (c : Ch) : Ch := (k, v) :: c.filter fun q => decide (q.1 ≠ k)
def upd1 (k : Str) (t : Tb) (g : Str × Str) : Tb := t.map fun p => if p.1 = g.1 then (p.1, onTop k g.2 p.2) else p
structure ChOk (c : Ch) : Prop where
  nd : (c.map (·.1)).Nodup
  ks : ∀ q ∈ c, q.1 ∈ kinds3 ∧ q.2 ∈ vals3
structure TbOk (asp : List Str) (t : Tb) : Prop where
  keys : t.map (·.1) = asp
  ch : ∀ p ∈ t, ChOk p.2
theorem ChOk.len {c : Ch} (h : ChOk c) : c.length ≤ 3 := by
  have := nodup_len (m := kinds3) h.nd fun x hx => by
    obtain ⟨q, hq, rfl⟩ := List.mem_map.mp hx
    exact (h.ks q hq).1
  rw [List.length_map] at this
  exact this
theorem ChOk.top {c : Ch} (h : ChOk c) {k v : Str} (hk : k ∈ kinds3) (hv : v ∈ vals3) : ChOk (onTop k v c) := by
  constructor
  · unfold onTop
    rw [List.map_cons, List.nodup_cons]
    refine ⟨fun z => ?_, h.nd.sublist (List.Sublist.map _ List.filter_sublist)⟩
    obtain ⟨q, hq, e⟩ := List.mem_map.mp z
    have := (List.mem_filter.mp hq).2
    exact (of_decide_eq_true this) e
  · intro q hq
    rcases List.mem_cons.mp hq with rfl | hq
    · exact ⟨hk, hv⟩
    · exact h.ks q (List.mem_filter.mp hq).1
theorem TbOk.upd {asp : List Str} {t : Tb} (h : TbOk asp t) {k : Str} {g : Str × Str} (hk : k ∈ kinds3) (hv : g.2 ∈ vals3) : TbOk asp (upd1 k t g) := by
  constructor
  · rw [← h.keys]
    unfold upd1
    rw [List.map_map]
    refine List.map_congr_left fun p _ => ?_
    show (if p.1 = g.1 then (p.1, onTop k g.2 p.2) else p).1 = p.1
    split <;> rfl
  · intro p hp
    obtain ⟨q, hq, rfl⟩ := List.mem_map.mp hp
    split
    · exact (h.ch q hq).top hk hv
    · exact h.ch q hq
def eT (t : Tb) : List (Str × D) := t.map fun p => (p.1, D.py (eChain p.2))
theorem eT_keys {t : Tb} : (eT t).map (·.1) = t.map (·.1) := by simp [eT, Function.comp_def]
theorem eT_get {t : Tb} {a : Str} (h : a ∈ t.map (·.1)) : ∃ c, (a, c) ∈ t ∧ dget (eT t) a = some (.py (eChain c)) := by
  induction t with
  | nil => simp at h
  | cons p t ih =>
    by_cases e : p.1 = a
    · refine ⟨p.2, by rw [← e]; exact List.mem_cons_self, ?_⟩
      simp [dget, eT, e]
    · have : a ∈ t.map (·.1) := by
        rcases List.mem_cons.mp h with z | z
        · exact absurd z.symm e
        · exact z
      obtain ⟨c, h1, h2⟩ := ih this
      refine ⟨c, List.mem_cons_of_mem _ h1, ?_⟩
      simpa [dget, eT, e] using h2
theorem nodup_snd {A B : Type} {t : List (A × B)} {a : A} {x y : B} (nd : (t.map (·.1)).Nodup) (h1 : (a, x) ∈ t) (h2 : (a, y) ∈ t) : x = y := by
  induction t with
  | nil => cases h1
  | cons p t ih =>
    rw [List.map_cons, List.nodup_cons] at nd
    rcases List.mem_cons.mp h1 with z1 | z1 <;> rcases List.mem_cons.mp h2 with z2 | z2
    · rw [← z1] at z2
      exact (Prod.mk.inj z2).2.symm
    · exact absurd (List.mem_map.mpr ⟨_, z2, by rw [← z1]⟩) nd.1
    · exact absurd (List.mem_map.mpr ⟨_, z1, by rw [← z2]⟩) nd.1
    · exact ih nd.2 z1 z2
theorem eT_put {t : Tb} {a k v : Str} {c : Ch} (nd : (t.map (·.1)).Nodup) (h : (a, c) ∈ t) : dput (eT t) a (.py (eChain (onTop k v c))) = eT (upd1 k t (a, v)) := by
  rw [dput_old (by rw [eT_keys]; exact List.mem_map.mpr ⟨_, h, rfl⟩)]
  unfold eT upd1
  rw [List.map_map, List.map_map]
  refine List.map_congr_left fun p hp => ?_
  show (if p.1 = a then (p.1, D.py (eChain (onTop k v c))) else (p.1, D.py (eChain p.2))) = (fun p : Str × Ch => (p.1, D.py (eChain p.2))) (if p.1 = a then (p.1, onTop k v p.2) else p)
  by_cases e : p.1 = a
  · have : p.2 = c := nodup_snd nd (a := a) (by rw [← e]; exact hp) h
    rw [if_pos e, if_pos e, this]
  · rw [if_neg e, if_neg e]
theorem fm_filter {c : Ch} {k : Str} : c.filterMap (fun q : Str × Str => if q.1 ≠ k then some (D.py (ePair q)) else none) = ((c.filter fun q => decide (q.1 ≠ k)).map ePair).map D.py := by
  induction c with
  | nil => rfl
  | cons q c ih =>
    by_cases e : q.1 ≠ k
    · rw [List.filterMap_cons, List.filter_cons, if_pos (decide_eq_true e)]
      simp only [if_pos e, ih, List.map_cons]
    · have e2 : ¬ (decide (q.1 ≠ k) = true) := by rw [decide_eq_false e]; exact Bool.false_ne_true
      rw [List.filterMap_cons, List.filter_cons, if_neg e2]
      simp only [if_neg e, ih]
theorem asps_nd : ∀ l ∈ asps3, l.Nodup := by decide +kernel
theorem eqD_str {S : Store} {x y : Str} (hx : x ∈ texts) (hy : y ∈ texts) : eqD S (.py (.str x)) (.py (.str y)) = some (decide (x = y)) := by
  rw [eqD_py (shp_t hx) (Nat.zero_le _) (shp_t hy) (Nat.zero_le _)]
  simp only [PyData.eqv]
  congr 1
section
variable {G : Gam} {F : Nat} {r : Rho}
def upS (f a v k p : Nat) : CS := .sub (.loc f) (.loc a) (.bop false .add (.tup (.cons (.tup (.cons (.loc k) (.cons (.loc v) .nil))) .nil)) (.blt false .tuple (.cons (.lc false (.loc p) [p] (.one p) (.seq (.idx (.loc f) (.loc a))) (.some (.cmp .ne (.idx (.loc p) (.con (.int 0))) (.loc k)))) .nil)))
theorem run_up {f a v k p : Nat} {asp : List Str} {t : Tb} {xa xv xk : Str} (hasp : asp ∈ asps3) (ht : TbOk asp t) (rf : r[f]? = some (some (.ref 0))) (ra : r[a]? = some (some (.py (.str xa)))) (rv : r[v]? = some (some (.py (.str xv)))) (rk : r[k]? = some (some (.py (.str xk)))) (hp : p < r.length) (hpk : p ≠ k)
    (ha : xa ∈ asp) (hk : xk ∈ kinds3) (hv : xv ∈ vals3) : exS G F (upS f a v k p) r [.dS (eT t)] = .ok (.nx r) [.dS (eT (upd1 xk t (xa, xv)))] := by
  obtain ⟨c, hc, hg⟩ := eT_get (t := t) (a := xa) (by rw [ht.keys]; exact ha)
  have okc : ChOk c := ht.ch _ hc
  have lc3 := okc.len
  have ix : idxD [.dS (eT t)] (.ref 0) (.py (.str xa)) = some (.py (eChain c)) := hg
  have e1 : evE G (.idx (.loc f) (.loc a)) r [.dS (eT t)] = .ok (.py (.tuple (c.map ePair))) [.dS (eT t)] := by
    simp only [ev_idx, ev_loc, rf, ra, okL_some, R.bind_ok, ix, R.of_some]
    rfl
  have lc : evE G (.lc false (.loc p) [p] (.one p) (.seq (.idx (.loc f) (.loc a))) (.some (.cmp .ne (.idx (.loc p) (.con (.int 0))) (.loc k)))) r [.dS (eT t)] = .ok (.py (.list ((c.filter fun q => decide (q.1 ≠ xk)).map ePair))) [.dS (eT t)] := by
    rw [ev_lc (fun q => D.py (ePair q)) (fun q : Str × Str => if q.1 ≠ xk then some (D.py (ePair q)) else none) c (src_tup e1) (by simp [Function.comp_def]) rfl]
    · rw [fm_filter, mkL]
      have := List.length_filter_le (fun q : Str × Str => decide (q.1 ≠ xk)) c
      rw [List.length_map]
      omega
    · intro q hq
      have kq := (okc.ks q hq).1
      have l1 : ((wipeD r [p]).set p (some (D.py (ePair q))))[p]? = some (some (.py (ePair q))) := wipe1 hp
      have l2 : ((wipeD r [p]).set p (some (D.py (ePair q))))[k]? = some (some (.py (.str xk))) := by rw [wipe1_ne hpk]; exact rk
      have ip : ∀ S, idxD S (.py (ePair q)) (.py (.int 0)) = some (.py (.str q.1)) := fun S => atT (k := 0) rfl
      have ee := eqD_str (S := [.dS (eT t)]) (kinds_t _ kq) (kinds_t _ hk)
      by_cases e : q.1 = xk
      · simp only [turnC, bindT, evC, ev_cmp, ev_idx, ev_loc, l1, l2, okL_some, R.bind_ok, ev_con, ip, R.of_some, cmpD, ee, decide_eq_true e, Option.map_some, Bool.not_true, bl, truth]
        simp [e]
      · simp only [turnC, bindT, evC, ev_cmp, ev_idx, ev_loc, l1, l2, okL_some, R.bind_ok, ev_con, ip, R.of_some, cmpD, ee, decide_eq_false e, Option.map_some, Bool.not_false, bl, truth]
        simp [e]
  have tp : bltD false .tuple [.py (.list ((c.filter fun q => decide (q.1 ≠ xk)).map ePair))] [.dS (eT t)] = .ok (.py (.tuple ((c.filter fun q => decide (q.1 ≠ xk)).map ePair))) [.dS (eT t)] := by
    show mkTup (((c.filter fun q => decide (q.1 ≠ xk)).map ePair).map D.py) _ = _
    refine mkT ?_
    have := List.length_filter_le (fun q : Str × Str => decide (q.1 ≠ xk)) c
    rw [List.length_map]
    omega
  have m1 : ∀ S, mkTup [.py (.str xk), .py (.str xv)] S = .ok (.py (ePair (xk, xv))) S := fun S => rfl
  have m2 : ∀ S, mkTup [.py (ePair (xk, xv))] S = .ok (.py (.tuple [ePair (xk, xv)])) S := fun S => rfl
  have ad : bopD false .add (.py (.tuple [ePair (xk, xv)])) (.py (.tuple ((c.filter fun q => decide (q.1 ≠ xk)).map ePair))) [.dS (eT t)] = .ok (.py (eChain (onTop xk xv c))) [.dS (eT t)] := by
    show (if fits ([ePair (xk, xv)].length + ((c.filter fun q => decide (q.1 ≠ xk)).map ePair).length) then R.ok (D.py (.tuple ([ePair (xk, xv)] ++ (c.filter fun q => decide (q.1 ≠ xk)).map ePair))) [.dS (eT t)] else .bad) = _
    rw [if_pos]
    · rfl
    · refine fits_of ?_
      have := List.length_filter_le (fun q : Str × Str => decide (q.1 ≠ xk)) c
      rw [List.length_map]
      simp only [List.length_cons, List.length_nil]
      omega
  have tl : (eT t).length ≤ 3 := by
    have := (asps_few _ hasp).1
    rw [← ht.keys, List.length_map] at this
    simpa [eT] using this
  have pu : putD (.ref 0) (.py (.str xa)) (.py (eChain (onTop xk xv c))) [.dS (eT t)] = some [.dS (eT (upd1 xk t (xa, xv)))] := by
    show (if fits (eT t).length then some (([Ob.dS (eT t)] : Store).set 0 (.dS (dput (eT t) xa (.py (eChain (onTop xk xv c)))))) else none) = _
    rw [if_pos (fits_of (by omega)), eT_put (by rw [ht.keys]; exact asps_nd _ hasp) hc]
    rfl
  have bt : evE G (.blt false .tuple (.cons (.lc false (.loc p) [p] (.one p) (.seq (.idx (.loc f) (.loc a))) (.some (.cmp .ne (.idx (.loc p) (.con (.int 0))) (.loc k)))) .nil)) r [.dS (eT t)] = .ok (.py (.tuple ((c.filter fun q => decide (q.1 ≠ xk)).map ePair))) [.dS (eT t)] := by
    rw [ev_blt, ev_cons, lc, R.bind_ok, ev_nil, R.bind_ok, R.bind_ok, tp]
  unfold upS
  simp only [x_sub, ev_bop, ev_tup, ev_cons, ev_nil, ev_loc, rk, rv, rf, ra, okL_some, R.bind_ok, m1, m2, bt, ad, pu, okO_some]
end
end Sf
end
section
set_option maxRecDepth 100000
set_option maxHeartbeats 4000000
namespace Sf
open PySem PySem.Spec L2
open PyProof.Rows hiding St
/-- r, but for some slots -/
structure Like (is : List Nat) (r r' : Rho) : Prop where
  len : r'.length = r.length
  at_ : ∀ j, j ∉ is → r'[j]? = r[j]?
theorem Like.refl {is : List Nat} {r : Rho} : Like is r r := ⟨rfl, fun _ _ => rfl⟩
theorem Like.trans {is : List Nat} {r r1 r2 : Rho} (a : Like is r r1) (b : Like is r1 r2) : Like is r r2 := ⟨b.len.trans a.len, fun j hj => (b.at_ j hj).trans (a.at_ j hj)⟩
theorem Like.set {is : List Nat} {r : Rho} {i : Nat} {d : Option D} (h : i ∈ is) : Like is r (r.set i d) := ⟨List.length_set, fun j hj => List.getElem?_set_ne fun (e : i = j) => hj (e ▸ h)⟩
theorem Like.mono {is js : List Nat} {r r' : Rho} (h : Like is r r') (s : ∀ i ∈ is, i ∈ js) : Like js r r' := ⟨h.len, fun j hj => h.at_ j fun z => hj (s j z)⟩
section
variable {G : Gam} {F : Nat}
theorem lp_gives {ok : Store → Bool} (hok : ∀ S, ok S = true) {f a v k p : Nat} {asp : List Str} {xk : Str} (hasp : asp ∈ asps3) (hk : xk ∈ kinds3) (hpk : p ≠ k) (hav : a ≠ v) (hf : f ∉ [a, v]) (hkk : k ∉ [a, v]) : ∀ (gs : Ch) (r : Rho) (t : Tb), TbOk asp t → (∀ g ∈ gs, g.1 ∈ asp ∧ g.2 ∈ vals3) → r[f]? = some (some (.ref 0)) → r[k]? = some (some (.py (.str xk))) → p < r.length → a < r.length → v < r.length →
    ∃ r', loopF ok (fun x r1 S2 => match bindT (.many [a, v]) x r1 with
      | some r2 => exSs G F (.cons (upS f a v k p) .nil) r2 S2
      | none => .bad) ((gs.map ePair).map .py) r [.dS (eT t)] = .ok (.nx r') [.dS (eT (gs.foldl (upd1 xk) t))] ∧ Like [a, v] r r' ∧ TbOk asp (gs.foldl (upd1 xk) t)
  | [], r, t, ht, _, _, _, _, _, _ => ⟨r, rfl, .refl, ht⟩
  | g :: gs, r, t, ht, hg, rf, rk, hp, ha, hv => by
    have g1 := hg g List.mem_cons_self
    have lk : Like [a, v] r ((r.set a (some (.py (.str g.1)))).set v (some (.py (.str g.2)))) := (Like.set (by simp)).trans (Like.set (by simp))
    have la : ((r.set a (some (D.py (.str g.1)))).set v (some (.py (.str g.2))))[a]? = some (some (.py (.str g.1))) := by
      rw [List.getElem?_set_ne (Ne.symm hav), List.getElem?_set_self ha]
    have lv : ((r.set a (some (D.py (.str g.1)))).set v (some (.py (.str g.2))))[v]? = some (some (.py (.str g.2))) := List.getElem?_set_self (by rw [List.length_set]; exact hv)
    have up := run_up (G := G) (F := F) (f := f) (a := a) (v := v) (k := k) (p := p) (r := (r.set a (some (.py (.str g.1)))).set v (some (.py (.str g.2)))) hasp ht (by rw [lk.at_ f hf]; exact rf) la lv (by rw [lk.at_ k hkk]; exact rk) (by rw [lk.len]; exact hp) hpk g1.1 hk g1.2
    obtain ⟨r', e, l2, ok2⟩ := lp_gives hok hasp hk hpk hav hf hkk gs ((r.set a (some (.py (.str g.1)))).set v (some (.py (.str g.2)))) (upd1 xk t g) (ht.upd hk g1.2) (fun x hx => hg x (List.mem_cons_of_mem _ hx)) (by rw [lk.at_ f hf]; exact rf) (by rw [lk.at_ k hkk]; exact rk) (by rw [lk.len]; exact hp) (by rw [lk.len]; exact ha) (by rw [lk.len]; exact hv)
    refine ⟨r', ?_, lk.trans l2, ok2⟩
    have bt : bindT (.many [a, v]) (.py (ePair g)) r = some ((r.set a (some (.py (.str g.1)))).set v (some (.py (.str g.2)))) := rfl
    have st : exSs G F (.cons (upS f a v k p) .nil) ((r.set a (some (.py (.str g.1)))).set v (some (.py (.str g.2)))) [.dS (eT t)] = .ok (.nx ((r.set a (some (.py (.str g.1)))).set v (some (.py (.str g.2))))) [.dS (eT (upd1 xk t g))] := by
      rw [x_cons, up]
      rfl
    simp only [List.map_cons, loopF, bt, st, R.bind_ok, hok, if_true]
    exact e
end
/-! ### what a row of words makes -/
def codeOf (b : Book) (w : Str) : Option Code := b.codes.find? fun c => decide (c.word = w)
def stepW (b : Book) (t : Tb) (w : Str) : Tb := match codeOf b w with
  | some c => c.gives.foldl (upd1 c.kind) t
  | none => t
def tb0 (b : Book) : Tb := b.asp.map fun a => (a, [])
def chains (b : Book) (ws : List Str) : Tb := ws.foldl (stepW b) (tb0 b)
theorem code_of {b : Book} {w : Str} (h : w ∈ b.words) : ∃ c ∈ b.codes, c.word = w ∧ codeOf b w = some c := by
  unfold codeOf
  cases q : b.codes.find? fun c => decide (c.word = w) with
  | none =>
    obtain ⟨c, hc, e⟩ := List.mem_map.mp h
    have := List.find?_eq_none.mp q c hc
    simp [e] at this
  | some c => exact ⟨c, List.mem_of_find?_eq_some q, by have := List.find?_some q; simpa using this, rfl⟩
theorem tb0_ok {b : Book} : TbOk b.asp (tb0 b) := ⟨by simp [tb0, Function.comp_def], fun p hp => by
  obtain ⟨a, _, rfl⟩ := List.mem_map.mp hp
  exact ⟨List.nodup_nil, fun q hq => nomatch hq⟩⟩
theorem fold_ok {asp : List Str} {k : Str} (hk : k ∈ kinds3) : ∀ {gs : Ch} {t : Tb}, TbOk asp t → (∀ g ∈ gs, g.2 ∈ vals3) → TbOk asp (gs.foldl (upd1 k) t)
  | [], t, h, _ => h
  | g :: gs, t, h, hv => fold_ok (gs := gs) (t := upd1 k t g) hk (h.upd hk (hv g List.mem_cons_self)) fun x hx => hv x (List.mem_cons_of_mem _ hx)
theorem step_ok {b : Book} (hb : BookOk b) {t : Tb} {w : Str} (h : TbOk b.asp t) : TbOk b.asp (stepW b t w) := by
  unfold stepW
  cases q : codeOf b w with
  | none => exact h
  | some c =>
    have hc := hb.codes c (List.mem_of_find?_eq_some q)
    exact fold_ok hc.kind h hc.vals
theorem chains_ok {b : Book} (hb : BookOk b) : ∀ {ws : List Str} {t : Tb}, TbOk b.asp t → TbOk b.asp (ws.foldl (stepW b) t)
  | [], _, h => h
  | w :: ws, t, h => chains_ok (ws := ws) (t := stepW b t w) hb (step_ok hb h)
/-- the table read -/
theorem sKeys_map {B : Type} (k : B → Str) (v : B → PyData) : ∀ xs : List B, sKeys (xs.map fun x => (.str (k x), v x)) = some (xs.map fun x => (k x, D.py (v x)))
  | [] => rfl
  | x :: xs => by simp [sKeys, sKeys_map k v xs]
theorem view_tab {S : Store} {b : Book} : view S (.py (eTab b)) = .dS (b.codes.map fun c => (c.word, D.py (eCode c))) := by
  simp [view, eTab, sKeys_map (fun c : Code => c.word) eCode]
theorem tab_get {S : Store} {b : Book} {w : Str} {c : Code} (h : codeOf b w = some c) : idxD S (.py (eTab b)) (.py (.str w)) = some (.py (eCode c)) := by
  unfold idxD
  rw [view_tab]
  show dget (b.codes.map fun c => (c.word, D.py (eCode c))) w = _
  unfold dget
  rw [List.find?_map]
  unfold codeOf at h
  show ((b.codes.find? fun c => decide (c.word = w)).map fun c => (c.word, D.py (eCode c))).map (·.2) = _
  rw [h]
  rfl
theorem tab_in {S : Store} {b : Book} {w : Str} : inD S (.py (.str w)) (.py (eTab b)) = some (decide (w ∈ b.words)) := by
  unfold inD
  rw [view_tab]
  show some (dget (b.codes.map fun c => (c.word, D.py (eCode c))) w).isSome = _
  congr 1
  by_cases h : w ∈ b.words
  · obtain ⟨c, hc, _, e⟩ := code_of h
    have := tab_get (S := S) e
    unfold idxD at this
    rw [view_tab] at this
    have this : dget (b.codes.map fun c => (c.word, D.py (eCode c))) w = _ := this
    rw [this, decide_eq_true h]
    rfl
  · rw [dget_none, decide_eq_false h]
    · rfl
    · rw [List.map_map]
      exact h
end Sf
end
section
set_option maxRecDepth 100000
set_option maxHeartbeats 4000000
namespace Sf
open PySem PySem.Spec L2
open PyProof.Rows hiding St
def d_chains_in : Fn := ⟨2, 9,
  (.cons (.asg 2 (.call false "codes_in" (.cons (.loc 0) .nil)))
  (.cons (.asg 3 (.dc true (.loc 6) (.tup .nil) [6] (.one 6) (.seq (.idx (.loc 0) (.con (.int 0)))) .none))
  (.cons (.loop (.one 4) (.seq (.loc 1)) (.cons (.ite (.not (.call false "is_sign" (.cons (.loc 4) .nil))) (.cons (.asg 5 (.idx (.idx (.loc 2) (.loc 4)) (.con (.int 1))))
  (.cons (.loop (.many [6, 7]) (.seq (.idx (.idx (.loc 2) (.loc 4)) (.con (.int 2)))) (.cons (.sub (.loc 3) (.loc 6) (.bop false .add (.tup (.cons (.tup (.cons (.loc 5) (.cons (.loc 7) .nil))) .nil)) (.blt false .tuple (.cons (.lc false (.loc 8) [8] (.one 8) (.seq (.idx (.loc 3) (.loc 6))) (.some (.cmp .ne (.idx (.loc 8) (.con (.int 0))) (.loc 5)))) .nil))))
  .nil))
  .nil)) .nil)
  .nil))
  (.cons (.ret (.loc 3))
  .nil))))⟩
def d__law_codes : Fn := ⟨1, 4,
  (.cons (.ret (.blt false .dict (.cons (.lc false (.tup (.cons (.loc 1) (.cons (.tup (.cons (.loc 2) (.cons (.loc 3) .nil))) .nil))) [1, 2, 3] (.many [1, 2, 3]) (.seq (.idx (.loc 0) (.con (.int 2)))) .none) .nil)))
  .nil)⟩
def d__law_front : Fn := ⟨2, 10,
  (.cons (.par [2, 3] (.cons (.call false "_law_codes" (.cons (.loc 0) .nil)) (.cons (.blt true .dict (.cons (.lc false (.tup (.cons (.loc 7) (.cons (.tup .nil) .nil))) [7] (.one 7) (.seq (.idx (.loc 0) (.con (.int 0)))) .none) .nil)) .nil)))
  (.cons (.loop (.one 4) (.seq (.loc 1)) (.cons (.unp [5, 6] (.idx (.loc 2) (.loc 4)))
  (.cons (.loop (.many [7, 8]) (.seq (.loc 6)) (.cons (.sub (.loc 3) (.loc 7) (.bop false .add (.tup (.cons (.tup (.cons (.loc 5) (.cons (.loc 8) .nil))) .nil)) (.blt false .tuple (.cons (.lc false (.loc 9) [9] (.one 9) (.seq (.idx (.loc 3) (.loc 7))) (.some (.cmp .ne (.idx (.loc 9) (.con (.int 0))) (.loc 5)))) .nil))))
  .nil))
  .nil)))
  (.cons (.ret (.loc 3))
  .nil)))⟩
def d_need_stream : Fn := ⟨2, 5,
  (.cons (.asg 2 (.call false "codes_in" (.cons (.call false "need_book" (.cons (.loc 0) .nil)) .nil)))
  (.cons (.ite (.or (.not (.isi (.loc 1) .tuple)) (.cmp .gt (.blt false .len (.cons (.loc 1) .nil)) (.glo "" (.int 200)))) (.cons .rais
  .nil) .nil)
  (.cons (.loop (.many [3, 4]) (.enu (.loc 1)) (.cons (.ite (.and (.not (.call false "is_sign" (.cons (.loc 4) .nil))) (.or (.not (.isi (.loc 4) .str)) (.cmp .notin (.loc 4) (.loc 2)))) (.cons .rais
  .nil) .nil)
  .nil))
  (.cons (.ret (.loc 1))
  .nil))))⟩
def d_is_whole : Fn := ⟨3, 3,
  (.cons (.ret (.and (.isi (.loc 0) .int) (.and (.not (.isi (.loc 0) .bool)) (.cmp2 .le .le (.loc 1) (.loc 0) (.loc 2)))))
  .nil)⟩
def d_chain_at : Fn := ⟨4, 4,
  (.cons (.exp (.call false "need_stream" (.cons (.loc 0) (.cons (.loc 1) .nil))))
  (.cons (.ite (.not (.call false "is_whole" (.cons (.loc 2) (.cons (.con (.int 0)) (.cons (.blt false .len (.cons (.loc 1) .nil)) .nil))))) (.cons .rais
  .nil) .nil)
  (.cons (.ite (.or (.not (.isi (.loc 3) .str)) (.cmp .notin (.loc 3) (.idx (.loc 0) (.con (.int 0))))) (.cons .rais
  .nil) .nil)
  (.cons (.ret (.idx (.call false "chains_in" (.cons (.loc 0) (.cons (.sli (.loc 1) .none (.some (.loc 2))) .nil))) (.loc 3)))
  .nil))))⟩
def d_are_words : Fn := ⟨3, 4,
  (.cons (.ite (.or (.not (.isi (.loc 1) .tuple)) (.cmp .gt (.blt false .len (.cons (.loc 1) .nil)) (.loc 2))) (.cons (.ret (.con (.bool false)))
  .nil) .nil)
  (.cons (.ret (.blt false .all (.cons (.lc false (.and (.isi (.loc 3) .str) (.cmp .isin (.loc 3) (.call false "codes_in" (.cons (.loc 0) .nil)))) [3] (.one 3) (.seq (.loc 1)) .none) .nil)))
  .nil))⟩
def d_need_row : Fn := ⟨2, 2,
  (.cons (.exp (.call false "need_book" (.cons (.loc 0) .nil)))
  (.cons (.ite (.not (.call false "are_words" (.cons (.loc 0) (.cons (.loc 1) (.cons (.glo "" (.int 60)) .nil))))) (.cons .rais
  .nil) .nil)
  (.cons (.ret (.loc 1))
  .nil)))⟩
def d_size_in : Fn := ⟨1, 2,
  (.cons (.ret (.blt false .sum (.cons (.lc false (.bop false .add (.blt false .len (.cons (.loc 1) .nil)) (.glo "" (.int 2))) [1] (.one 1) (.seq (.loc 0)) .none) .nil)))
  .nil)⟩
def d_size_of : Fn := ⟨2, 2,
  (.cons (.ret (.call false "size_in" (.cons (.call false "need_row" (.cons (.loc 0) (.cons (.loc 1) .nil))) .nil)))
  .nil)⟩
def d_front : Fn := ⟨2, 2,
  (.cons (.ret (.blt false .tuple (.cons (.met false .items (.call false "chains_in" (.cons (.loc 0) (.cons (.call false "need_row" (.cons (.loc 0) (.cons (.loc 1) .nil))) .nil))) .nil) .nil)))
  .nil)⟩
structure StdC (T : Tab) : Prop extends StdP T where
  chains_in : T "chains_in" = some d_chains_in
  _law_codes : T "_law_codes" = some d__law_codes
  _law_front : T "_law_front" = some d__law_front
  need_stream : T "need_stream" = some d_need_stream
  is_whole : T "is_whole" = some d_is_whole
  chain_at : T "chain_at" = some d_chain_at
  are_words : T "are_words" = some d_are_words
  need_row : T "need_row" = some d_need_row
  size_in : T "size_in" = some d_size_in
  size_of : T "size_of" = some d_size_of
  front : T "front" = some d_front
def eDict (t : Tb) : PyData := .dict (t.map fun p => (.str p.1, eChain p.2))
theorem words_sign : ∀ x ∈ words8, signB x = false ∧ x.length < 1000 := by decide +kernel
theorem signs_sign : ∀ x ∈ signs5, signB x = true ∧ x.length < 1000 := by decide +kernel
def Item (b : Book) (x : Str) : Prop := x ∈ b.words ∨ x ∈ signs5
theorem Item.sign {b : Book} (hb : BookOk b) {x : Str} (h : Item b x) : (x ∈ b.words ∧ signB x = false ∨ signB x = true) ∧ x.length < 1000000 := by
  rcases h with h | h
  · have := words_sign x (words_mem hb x h)
    exact ⟨.inl ⟨h, this.1⟩, by omega⟩
  · have := signs_sign x h
    exact ⟨.inr this.1, by omega⟩
def rowWords (l : List Str) : List Str := l.filter fun x => !signB x
section
variable {T : Tab} {F n : Nat} {S : Store}
theorem call_ref {f : Str} {xs : List PyData} {S S' : Store} {k : Nat} {d : PyData} {fn : Fn} (hT : T f = some fn) (hl : xs.length = fn.ps) (h : (exSs (call T F n) F fn.body (startD fn (xs.map .py)) []).bind endD = .ok (.ref k) S') (hf : frzD S' (.ref k) = some d) :
    call T F (n + 1) false f (xs.map .py) S = .ok (.py d) S := by
  have h1 : (xs.map D.py).all isPy = true := by simp [isPy]
  simp only [call, h1, if_true, runF, hT, List.length_map, hl, h, R.bind_ok, endP, Bool.false_eq_true, if_false, hf]
theorem frz_tb {t : Tb} {rest : Store} : frzD (.dS (eT t) :: rest) (.ref 0) = some (eDict t) := by
  show (pyKv PyData.str (eT t)).map PyData.dict = _
  rw [eT, pyKv_map (fun p : Str × Ch => p.1) fun p => eChain p.2]
  rfl
def chainB : CSs := .cons (.ite (.not (.call false "is_sign" (.cons (.loc 4) .nil))) (.cons (.asg 5 (.idx (.idx (.loc 2) (.loc 4)) (.con (.int 1)))) (.cons (.loop (.many [6, 7]) (.seq (.idx (.idx (.loc 2) (.loc 4)) (.con (.int 2)))) (.cons (upS 3 6 7 5 8) .nil)) .nil)) .nil) .nil
theorem body_chains : d_chains_in.body = .cons (.asg 2 (.call false "codes_in" (.cons (.loc 0) .nil))) (.cons (.asg 3 (.dc true (.loc 6) (.tup .nil) [6] (.one 6) (.seq (.idx (.loc 0) (.con (.int 0)))) .none)) (.cons (.loop (.one 4) (.seq (.loc 1)) chainB) (.cons (.ret (.loc 3)) .nil))) := rfl
theorem lp_items (h : StdC T) {b : Book} (hb : BookOk b) {ok : Store → Bool} (hok : ∀ S, ok S = true) : ∀ (l : List Str) (r : Rho) (t : Tb), TbOk b.asp t → (∀ x ∈ l, Item b x) → r[2]? = some (some (.py (eTab b))) → r[3]? = some (some (.ref 0)) → r.length = 9 →
    ∃ r', loopF ok (fun x r1 S2 => match bindT (.one 4) x r1 with
      | some r2 => exSs (call T F (n + 1)) F chainB r2 S2
      | none => .bad) ((l.map .str).map .py) r [.dS (eT t)] = .ok (.nx r') [.dS (eT ((rowWords l).foldl (stepW b) t))] ∧ Like [4, 5, 6, 7] r r'
  | [], r, t, _, _, _, _, _ => ⟨r, rfl, .refl⟩
  | x :: l, r, t, ht, hi, r2, r3, rl => by
    obtain ⟨hx, hlen⟩ := (hi x List.mem_cons_self).sign hb
    have sg := k_is_sign (F := F) (n := n) (mu := false) (S := [.dS (eT t)]) h.toStdP hlen
    have l4 : (r.set 4 (some (D.py (.str x))))[4]? = some (some (.py (.str x))) := List.getElem?_set_self (by omega)
    have bt : bindT (.one 4) (.py (.str x)) r = some (r.set 4 (some (.py (.str x)))) := rfl
    rcases hx with ⟨hw, hs⟩ | hs
    · obtain ⟨c, hc, hcw, hco⟩ := code_of hw
      have ck := hb.codes c hc
      have k0 : Like [4, 5, 6, 7] r (r.set 4 (some (.py (.str x)))) := Like.set (by simp)
      have k1 : Like [4, 5, 6, 7] r ((r.set 4 (some (.py (.str x)))).set 5 (some (.py (.str c.kind)))) := k0.trans (Like.set (by simp))
      have m4 : ((r.set 4 (some (D.py (.str x)))).set 5 (some (.py (.str c.kind))))[4]? = some (some (.py (.str x))) := by rw [List.getElem?_set_ne (by omega)]; exact l4
      have m5 : ((r.set 4 (some (D.py (.str x)))).set 5 (some (.py (.str c.kind))))[5]? = some (some (.py (.str c.kind))) := List.getElem?_set_self (by rw [List.length_set]; omega)
      have n2 : (r.set 4 (some (D.py (.str x))))[2]? = some (some (.py (eTab b))) := by rw [k0.at_ 2 (by simp)]; exact r2
      have m2 : ((r.set 4 (some (D.py (.str x)))).set 5 (some (.py (.str c.kind))))[2]? = some (some (.py (eTab b))) := by rw [k1.at_ 2 (by simp)]; exact r2
      have tg : ∀ S, idxD S (.py (eTab b)) (.py (.str x)) = some (.py (eCode c)) := fun S => tab_get hco
      have i1 : ∀ S, idxD S (.py (eCode c)) (.py (.int 1)) = some (.py (.str c.kind)) := fun S => atT (k := 1) rfl
      have i2 : ∀ S, idxD S (.py (eCode c)) (.py (.int 2)) = some (.py (eChain c.gives)) := fun S => atT (k := 2) rfl
      obtain ⟨r5, e5, l5, ok5⟩ := lp_gives (G := call T F (n + 1)) (F := F) (ok := (⟨(c.gives.map ePair).map .py, none⟩ : Src).stands) (fun _ => rfl) (f := 3) (a := 6) (v := 7) (k := 5) (p := 8) hb.asp ck.kind (by decide) (by decide) (by decide) (by decide) c.gives ((r.set 4 (some (.py (.str x)))).set 5 (some (.py (.str c.kind)))) t ht (fun g hg => ⟨ck.keys.subset (List.mem_map.mpr ⟨g, hg, rfl⟩), ck.vals g hg⟩) (by rw [k1.at_ 3 (by simp)]; exact r3) m5 (by rw [k1.len]; omega) (by rw [k1.len]; omega) (by rw [k1.len]; omega)
      have st : stepW b t x = c.gives.foldl (upd1 c.kind) t := by unfold stepW; rw [hco]
      have k5 : Like [4, 5, 6, 7] r r5 := k1.trans (l5.mono (by simp))
      obtain ⟨r', e, l2⟩ := lp_items h hb hok l r5 (stepW b t x) (step_ok hb ht) (fun y hy => hi y (List.mem_cons_of_mem _ hy)) (by rw [k5.at_ 2 (by simp)]; exact r2) (by rw [k5.at_ 3 (by simp)]; exact r3) (by rw [k5.len]; exact rl)
      have src : evI (call T F (n + 1)) (.seq (.idx (.idx (.loc 2) (.loc 4)) (.con (.int 2)))) ((r.set 4 (some (.py (.str x)))).set 5 (some (.py (.str c.kind)))) [.dS (eT t)] = .ok ⟨(c.gives.map ePair).map .py, none⟩ [.dS (eT t)] := by
        refine src_tup ?_
        simp only [ev_idx, ev_loc, m2, m4, okL_some, R.bind_ok, tg, R.of_some, ev_con, i2]
        rfl
      have lpe : exS (call T F (n + 1)) F (.loop (.many [6, 7]) (.seq (.idx (.idx (.loc 2) (.loc 4)) (.con (.int 2)))) (.cons (upS 3 6 7 5 8) .nil)) ((r.set 4 (some (.py (.str x)))).set 5 (some (.py (.str c.kind)))) [.dS (eT t)] = .ok (.nx r5) [.dS (eT (stepW b t x))] := by
        rw [x_loop, src, R.bind_ok, st]
        exact e5
      have bd : exSs (call T F (n + 1)) F chainB (r.set 4 (some (.py (.str x)))) [.dS (eT t)] = .ok (.nx r5) [.dS (eT (stepW b t x))] := by
        simp only [chainB, x_cons, x_ite, ev_not, ev_call, ev_cons, ev_loc, l4, okL_some, R.bind_ok, ev_nil, sg, hs, bl, truth, Option.map_some, Bool.not_false, R.of_some, tt3_t, x_asg, ev_idx, n2, tg, ev_con, i1, lpe, x_nil]
      refine ⟨r', ?_, k5.trans l2⟩
      have rw1 : rowWords (x :: l) = x :: rowWords l := by simp [rowWords, hs]
      rw [rw1]
      simp only [List.map_cons, loopF, bt, bd, R.bind_ok, hok, if_true]
      exact e
    · have k0 : Like [4, 5, 6, 7] r (r.set 4 (some (.py (.str x)))) := Like.set (by simp)
      obtain ⟨r', e, l2⟩ := lp_items h hb hok l (r.set 4 (some (.py (.str x)))) t ht (fun y hy => hi y (List.mem_cons_of_mem _ hy)) (by rw [k0.at_ 2 (by simp)]; exact r2) (by rw [k0.at_ 3 (by simp)]; exact r3) (by rw [k0.len]; exact rl)
      have bd : exSs (call T F (n + 1)) F chainB (r.set 4 (some (.py (.str x)))) [.dS (eT t)] = .ok (.nx (r.set 4 (some (.py (.str x))))) [.dS (eT t)] := by
        simp only [chainB, x_cons, x_ite, ev_not, ev_call, ev_cons, ev_loc, l4, okL_some, R.bind_ok, ev_nil, sg, hs, bl, truth, Option.map_some, Bool.not_true, R.of_some, tt3_f, x_nil]
      refine ⟨r', ?_, k0.trans l2⟩
      have rw1 : rowWords (x :: l) = rowWords l := by simp [rowWords, hs]
      rw [rw1]
      simp only [List.map_cons, loopF, bt, bd, R.bind_ok, hok, if_true]
      exact e
theorem k_chains_in (h : StdC T) {b : Book} (hb : BookOk b) {l : List Str} (hl : ∀ x ∈ l, Item b x) : call T F (n + 2) false "chains_in" [.py (eBook b), .py (eStrs l)] S = .ok (.py (eDict (chains b (rowWords l)))) S := by
  have hs : startD d_chains_in ([eBook b, eStrs l].map .py) = [some (.py (eBook b)), some (.py (eStrs l)), none, none, none, none, none, none, none] := rfl
  have ci := k_codes_in (F := F) (n := n) (mu := false) (S := []) h.toStdP hb
  have l3 := (asps_few _ hb.asp).1
  have e0 : evE (call T F (n + 1)) (.idx (.loc 0) (.con (.int 0))) [some (.py (eBook b)), some (.py (eStrs l)), some (.py (eTab b)), none, none, none, none, none, none] [] = .ok (.py (.tuple (b.asp.map .str))) [] := ev_at (k := 0) rfl rfl
  have dc : evE (call T F (n + 1)) (.dc true (.loc 6) (.tup .nil) [6] (.one 6) (.seq (.idx (.loc 0) (.con (.int 0)))) .none) [some (.py (eBook b)), some (.py (eStrs l)), some (.py (eTab b)), none, none, none, none, none, none] [] = .ok (.ref 0) [.dS (eT (tb0 b))] := by
    refine (ev_dc1 (mu := true) (ck := .loc 6) (cv := .tup .nil) (i := 6) (xs := b.asp) PyData.str id (fun _ => .tuple []) (src_tup e0) (by omega) (by simpa using asps_nd _ hb.asp) (fun c hc => rfl) (fun c hc => rfl)).trans ?_
    unfold mkDS
    rw [if_pos (fits_of (by rw [List.length_map]; omega))]
    simp [eT, tb0, eChain, Function.comp_def]
  obtain ⟨r', e, lk⟩ := lp_items (F := F) (n := n) h hb (ok := (⟨(l.map .str).map .py, none⟩ : Src).stands) (fun _ => rfl) l [some (.py (eBook b)), some (.py (eStrs l)), some (.py (eTab b)), some (.ref 0), none, none, none, none, none] (tb0 b) tb0_ok hl rfl rfl rfl
  have lpe : exS (call T F (n + 1)) F (.loop (.one 4) (.seq (.loc 1)) chainB) [some (.py (eBook b)), some (.py (eStrs l)), some (.py (eTab b)), some (.ref 0), none, none, none, none, none] [.dS (eT (tb0 b))] = .ok (.nx r') [.dS (eT (chains b (rowWords l)))] := by
    rw [x_loop, src_tup (xs := l.map .str) rfl, R.bind_ok]
    exact e
  have r3 : r'[3]? = some (some (.ref 0)) := by rw [lk.at_ 3 (by simp)]; rfl
  refine call_ref (xs := [eBook b, eStrs l]) (k := 0) (S' := [.dS (eT (chains b (rowWords l)))]) h.chains_in rfl ?_ frz_tb
  rw [hs, body_chains]
  simp only [x_cons, x_asg, ev_call, ev_cons, ev_loc, List.getElem?_cons_zero, okL_some, R.bind_ok, ev_nil, ci, List.set_cons_succ, List.set_cons_zero, dc, lpe, x_ret, r3]
  rfl
end
end Sf
end
section
set_option maxRecDepth 100000
set_option maxHeartbeats 4000000
namespace Sf
open PySem PySem.Spec L2
open PyProof.Rows hiding St
def eKG (c : Code) : PyData := .tuple [.str c.kind, eChain c.gives]
def eLaw (b : Book) : PyData := .dict (b.codes.map fun c => (.str c.word, eKG c))
theorem pairsS_map {B : Type} (k : B → Str) (v : B → PyData) : ∀ xs : List B, pairsS (xs.map fun x => .tuple [.str (k x), v x]) = some (xs.map fun x => (k x, D.py (v x)))
  | [] => rfl
  | x :: xs => by simp [pairsS, pairsS_map k v xs]
section
variable {T : Tab} {F n : Nat} {S : Store} {mu : Bool}
theorem dict_pairs {B : Type} {k : B → Str} {v : B → PyData} {xs : List B} (nd : (xs.map k).Nodup) : bltD mu .dict [.py (.list (xs.map fun x => .tuple [.str (k x), v x]))] S = mkDS mu (xs.map fun x => (k x, D.py (v x))) S := by
  simp only [bltD, view, pys_py, pairsS_map k v]
  rw [mergeS_new (kvs := []) (by simpa [Function.comp_def] using nd)]
  rfl
theorem k_law_codesP (h : T "_law_codes" = some d__law_codes) {b : Book} (hb : BookOk b) : call T F (n + 1) false "_law_codes" [.py (eBook b)] S = .ok (.py (eLaw b)) S := by
  refine call_py (xs := [eBook b]) (S' := []) h rfl ?_
  have hs : startD d__law_codes ([eBook b].map .py) = [some (.py (eBook b)), none, none, none] := rfl
  have hl : b.codes.length < 1000000 := by have := hb.few; omega
  have e2 : evE (call T F n) (.idx (.loc 0) (.con (.int 2))) [some (.py (eBook b)), none, none, none] [] = .ok (.py (.tuple (b.codes.map eCode))) [] := ev_at (k := 2) rfl rfl
  have lc : evE (call T F n) (.lc false (.tup (.cons (.loc 1) (.cons (.tup (.cons (.loc 2) (.cons (.loc 3) .nil))) .nil))) [1, 2, 3] (.many [1, 2, 3]) (.seq (.idx (.loc 0) (.con (.int 2)))) .none) [some (.py (eBook b)), none, none, none] [] = .ok (.py (.list (b.codes.map fun c => .tuple [.str c.word, eKG c]))) [] := by
    rw [ev_lc (fun c => D.py (eCode c)) (fun c => some (D.py (.tuple [.str c.word, eKG c]))) b.codes (src_tup e2) (by simp [Function.comp_def]) rfl]
    · rw [List.filterMap_eq_map', show (fun c : Code => D.py (.tuple [.str c.word, eKG c])) = D.py ∘ (fun c => .tuple [.str c.word, eKG c]) from rfl, ← List.map_map, mkL (by rw [List.length_map]; exact hl)]
    · intro c hc
      rfl
  have dd := dict_pairs (mu := false) (S := []) (k := fun c : Code => c.word) (v := eKG) (xs := b.codes) (words_nodup hb)
  have mk : mkDS false (b.codes.map fun c => (c.word, D.py (eKG c))) [] = .ok (.py (eLaw b)) [] := by
    unfold mkDS
    rw [if_pos (fits_of (by rw [List.length_map]; exact hl)), pyKv_map (fun c : Code => c.word) eKG]
    rfl
  rw [hs]
  simp only [d__law_codes, x_cons, x_ret, ev_blt, ev_cons, lc, R.bind_ok, ev_nil, dd, mk]
  rfl
theorem k_law_codes (h : StdC T) {b : Book} (hb : BookOk b) : call T F (n + 1) false "_law_codes" [.py (eBook b)] S = .ok (.py (eLaw b)) S := k_law_codesP h._law_codes hb
theorem view_law {b : Book} : view S (.py (eLaw b)) = .dS (b.codes.map fun c => (c.word, D.py (eKG c))) := by
  simp [view, eLaw, sKeys_map (fun c : Code => c.word) eKG]
theorem law_get {b : Book} {w : Str} {c : Code} (h : codeOf b w = some c) : idxD S (.py (eLaw b)) (.py (.str w)) = some (.py (eKG c)) := by
  unfold idxD
  rw [view_law]
  show dget (b.codes.map fun c => (c.word, D.py (eKG c))) w = _
  unfold dget
  rw [List.find?_map]
  unfold codeOf at h
  show ((b.codes.find? fun c => decide (c.word = w)).map fun c => (c.word, D.py (eKG c))).map (·.2) = _
  rw [h]
  rfl
theorem law_in {b : Book} {w : Str} : inD S (.py (.str w)) (.py (eLaw b)) = some (decide (w ∈ b.words)) := by
  unfold inD
  rw [view_law]
  show some (dget (b.codes.map fun c => (c.word, D.py (eKG c))) w).isSome = _
  congr 1
  by_cases h : w ∈ b.words
  · obtain ⟨c, hc, _, e⟩ := code_of h
    have := law_get (S := S) e
    unfold idxD at this
    rw [view_law] at this
    have this : dget (b.codes.map fun c => (c.word, D.py (eKG c))) w = _ := this
    rw [this, decide_eq_true h]
    rfl
  · rw [dget_none, decide_eq_false h]
    · rfl
    · rw [List.map_map]
      exact h
def frontB : CSs := .cons (.unp [5, 6] (.idx (.loc 2) (.loc 4))) (.cons (.loop (.many [7, 8]) (.seq (.loc 6)) (.cons (upS 3 7 8 5 9) .nil)) .nil)
theorem body_front : d__law_front.body = .cons (.par [2, 3] (.cons (.call false "_law_codes" (.cons (.loc 0) .nil)) (.cons (.blt true .dict (.cons (.lc false (.tup (.cons (.loc 7) (.cons (.tup .nil) .nil))) [7] (.one 7) (.seq (.idx (.loc 0) (.con (.int 0)))) .none) .nil)) .nil))) (.cons (.loop (.one 4) (.seq (.loc 1)) frontB) (.cons (.ret (.loc 3)) .nil)) := rfl
theorem lp_front {G : Gam} {b : Book} (hb : BookOk b) {ok : Store → Bool} (hok : ∀ S, ok S = true) : ∀ (l : List Str) (r : Rho) (t : Tb), TbOk b.asp t → (∀ x ∈ l, x ∈ b.words) → r[2]? = some (some (.py (eLaw b))) → r[3]? = some (some (.ref 0)) → r.length = 10 →
    ∃ r', loopF ok (fun x r1 S2 => match bindT (.one 4) x r1 with
      | some r2 => exSs G F frontB r2 S2
      | none => .bad) ((l.map .str).map .py) r [.dS (eT t)] = .ok (.nx r') [.dS (eT (l.foldl (stepW b) t))] ∧ Like [4, 5, 6, 7, 8] r r'
  | [], r, t, _, _, _, _, _ => ⟨r, rfl, .refl⟩
  | x :: l, r, t, ht, hi, r2, r3, rl => by
    obtain ⟨c, hc, hcw, hco⟩ := code_of (hi x List.mem_cons_self)
    have ck := hb.codes c hc
    have bt : bindT (.one 4) (.py (.str x)) r = some (r.set 4 (some (.py (.str x)))) := rfl
    have k0 : Like [4, 5, 6, 7, 8] r (r.set 4 (some (.py (.str x)))) := Like.set (by simp)
    have l4 : (r.set 4 (some (D.py (.str x))))[4]? = some (some (.py (.str x))) := List.getElem?_set_self (by omega)
    have n2 : (r.set 4 (some (D.py (.str x))))[2]? = some (some (.py (eLaw b))) := by rw [k0.at_ 2 (by simp)]; exact r2
    obtain ⟨Q1, hR⟩ : ∃ Q1, Q1 = ((r.set 4 (some (D.py (.str x)))).set 5 (some (.py (.str c.kind)))).set 6 (some (.py (eChain c.gives))) := ⟨_, rfl⟩
    have k1 : Like [4, 5, 6, 7, 8] r Q1 := by
      rw [hR]
      exact (k0.trans (Like.set (by simp))).trans (Like.set (by simp))
    have un : bindT (.many [5, 6]) (.py (eKG c)) (r.set 4 (some (.py (.str x)))) = some Q1 := by rw [hR]; rfl
    have m5 : Q1[5]? = some (some (.py (.str c.kind))) := by
      rw [hR, List.getElem?_set_ne (by omega), List.getElem?_set_self (by rw [List.length_set]; omega)]
    have m6 : Q1[6]? = some (some (.py (eChain c.gives))) := by
      rw [hR, List.getElem?_set_self (by rw [List.length_set, List.length_set]; omega)]
    have tg : ∀ S, idxD S (.py (eLaw b)) (.py (.str x)) = some (.py (eKG c)) := fun S => law_get hco
    obtain ⟨r5, e5, l5, ok5⟩ := lp_gives (G := G) (F := F) (ok := (⟨(c.gives.map ePair).map .py, none⟩ : Src).stands) (fun _ => rfl) (f := 3) (a := 7) (v := 8) (k := 5) (p := 9) hb.asp ck.kind (by decide) (by decide) (by decide) (by decide) c.gives Q1 t ht (fun g hg => ⟨ck.keys.subset (List.mem_map.mpr ⟨g, hg, rfl⟩), ck.vals g hg⟩) (by rw [k1.at_ 3 (by simp)]; exact r3) m5 (by rw [k1.len]; omega) (by rw [k1.len]; omega) (by rw [k1.len]; omega)
    have st : stepW b t x = c.gives.foldl (upd1 c.kind) t := by unfold stepW; rw [hco]
    have k5 : Like [4, 5, 6, 7, 8] r r5 := k1.trans (l5.mono (by simp))
    obtain ⟨r', e, l2⟩ := lp_front (G := G) hb hok l r5 (stepW b t x) (step_ok hb ht) (fun y hy => hi y (List.mem_cons_of_mem _ hy)) (by rw [k5.at_ 2 (by simp)]; exact r2) (by rw [k5.at_ 3 (by simp)]; exact r3) (by rw [k5.len]; exact rl)
    have lpe : exS G F (.loop (.many [7, 8]) (.seq (.loc 6)) (.cons (upS 3 7 8 5 9) .nil)) Q1 [.dS (eT t)] = .ok (.nx r5) [.dS (eT (stepW b t x))] := by
      rw [x_loop, src_tup (xs := c.gives.map ePair) (by rw [ev_loc, m6]; rfl), R.bind_ok, st]
      exact e5
    have bd : exSs G F frontB (r.set 4 (some (.py (.str x)))) [.dS (eT t)] = .ok (.nx r5) [.dS (eT (stepW b t x))] := by
      simp only [frontB, x_cons, x_unp, ev_idx, ev_loc, n2, l4, okL_some, R.bind_ok, tg, R.of_some, un, Option.map_some, lpe, x_nil]
    refine ⟨r', ?_, k5.trans l2⟩
    simp only [List.map_cons, loopF, bt, bd, R.bind_ok, hok, if_true]
    exact e
theorem k_law_front (h : StdC T) {b : Book} (hb : BookOk b) {l : List Str} {d : PyData} (hd : d = .tuple (l.map .str) ∨ d = .list (l.map .str)) (hl : ∀ x ∈ l, x ∈ b.words) : call T F (n + 2) false "_law_front" [.py (eBook b), .py d] S = .ok (.py (eDict (chains b l))) S := by
  have hs : startD d__law_front ([eBook b, d].map .py) = [some (.py (eBook b)), some (.py d), none, none, none, none, none, none, none, none] := rfl
  have ci := k_law_codes (F := F) (n := n) (S := []) h hb
  have l3 := (asps_few _ hb.asp).1
  have e0 : evE (call T F (n + 1)) (.idx (.loc 0) (.con (.int 0))) [some (.py (eBook b)), some (.py d), none, none, none, none, none, none, none, none] [] = .ok (.py (.tuple (b.asp.map .str))) [] := ev_at (k := 0) rfl rfl
  have lc : evE (call T F (n + 1)) (.lc false (.tup (.cons (.loc 7) (.cons (.tup .nil) .nil))) [7] (.one 7) (.seq (.idx (.loc 0) (.con (.int 0)))) .none) [some (.py (eBook b)), some (.py d), none, none, none, none, none, none, none, none] [] = .ok (.py (.list (b.asp.map fun a => .tuple [.str a, .tuple []]))) [] :=
    ev_lc1 (xs := b.asp) PyData.str (fun a => .tuple [.str a, .tuple []]) (src_tup e0) (by omega) fun x hx => rfl
  have dd : bltD true .dict [.py (.list (b.asp.map fun a => .tuple [.str a, .tuple []]))] [] = .ok (.ref 0) [.dS (eT (tb0 b))] := by
    refine (dict_pairs (mu := true) (S := []) (k := fun a : Str => a) (v := fun _ => PyData.tuple []) (xs := b.asp) (by simpa using asps_nd _ hb.asp)).trans ?_
    unfold mkDS
    rw [if_pos (fits_of (by rw [List.length_map]; omega))]
    simp [eT, tb0, eChain, Function.comp_def]
  obtain ⟨r', e, lk⟩ := lp_front (F := F) (G := call T F (n + 1)) hb (ok := (⟨(l.map .str).map .py, none⟩ : Src).stands) (fun _ => rfl) l [some (.py (eBook b)), some (.py d), some (.py (eLaw b)), some (.ref 0), none, none, none, none, none, none] (tb0 b) tb0_ok hl rfl rfl rfl
  have src : evI (call T F (n + 1)) (.seq (.loc 1)) [some (.py (eBook b)), some (.py d), some (.py (eLaw b)), some (.ref 0), none, none, none, none, none, none] [.dS (eT (tb0 b))] = .ok ⟨(l.map .str).map .py, none⟩ [.dS (eT (tb0 b))] := by
    rcases hd with rfl | rfl
    · exact src_tup rfl
    · exact src_list rfl
  have lpe : exS (call T F (n + 1)) F (.loop (.one 4) (.seq (.loc 1)) frontB) [some (.py (eBook b)), some (.py d), some (.py (eLaw b)), some (.ref 0), none, none, none, none, none, none] [.dS (eT (tb0 b))] = .ok (.nx r') [.dS (eT (chains b l))] := by
    rw [x_loop, src, R.bind_ok]
    exact e
  have r3 : r'[3]? = some (some (.ref 0)) := by rw [lk.at_ 3 (by simp)]; rfl
  refine call_ref (xs := [eBook b, d]) (k := 0) (S' := [.dS (eT (chains b l))]) h._law_front rfl ?_ frz_tb
  rw [hs, body_front]
  simp only [x_cons, x_par, ev_call, ev_cons, ev_loc, List.getElem?_cons_zero, okL_some, R.bind_ok, ev_nil, ci, ev_blt, lc, dd, setAll, List.set_cons_succ, List.set_cons_zero, Option.map_some, R.of_some, lpe, x_ret, r3]
  rfl
end
end Sf
end
section
set_option maxRecDepth 100000
set_option maxHeartbeats 4000000
namespace Sf
open PySem PySem.Spec L2
open PyProof.Rows hiding St
section
variable {T : Tab} {F n : Nat} {S : Store} {mu : Bool}
theorem len_strs {S : Store} {l : List Str} : bltD false .len [.py (eStrs l)] S = .ok (.py (.int l.length)) S := by
  have := len_tup (S := S) (xs := l.map .str)
  rw [List.length_map] at this
  exact this
def streamN : CSs := .cons (.ite (.and (.not (.call false "is_sign" (.cons (.loc 4) .nil))) (.or (.not (.isi (.loc 4) .str)) (.cmp .notin (.loc 4) (.loc 2)))) (.cons .rais .nil) .nil) .nil
theorem body_needS : d_need_stream.body = .cons (.asg 2 (.call false "codes_in" (.cons (.call false "need_book" (.cons (.loc 0) .nil)) .nil))) (.cons (.ite (.or (.not (.isi (.loc 1) .tuple)) (.cmp .gt (.blt false .len (.cons (.loc 1) .nil)) (.glo "" (.int 200)))) (.cons .rais .nil) .nil) (.cons (.loop (.many [3, 4]) (.enu (.loc 1)) streamN) (.cons (.ret (.loc 1)) .nil))) := rfl
theorem k_need_streamP (h : StdP T) (hn : T "need_stream" = some d_need_stream) {b : Book} (hb : BookOk b) {l : List Str} (hl : ∀ x ∈ l, Item b x) (h2 : l.length ≤ 200) : call T F (n + 7) mu "need_stream" [.py (eBook b), .py (eStrs l)] S = .ok (.py (eStrs l)) S := by
  have nb := k_need_book (F := F) (n := n) (mu := false) (S := []) h hb
  have ci := k_codes_in (F := F) (n := n + 5) (mu := false) (S := []) h hb
  obtain ⟨r', S', e1, x, y, hr', rfl⟩ := loopF_inv (ok := (⟨enumD 0 (l.map .str), none⟩ : Src).stands) (f := fun x r1 S2 => match bindT (.many [3, 4]) x r1 with
      | some r2 => exSs (call T F (n + 6)) F streamN r2 S2
      | none => .bad) (xs := enumD 0 (l.map .str)) (r := [some (.py (eBook b)), some (.py (eStrs l)), some (.py (eTab b)), none, none]) (S := [])
    (fun k r S => ∃ x y, r = [some (.py (eBook b)), some (.py (eStrs l)), some (.py (eTab b)), x, y] ∧ S = []) (fun _ _ _ _ => rfl)
    (fun k d hd r S ⟨x, y, hr, hS⟩ => by
      subst hr hS
      obtain ⟨d', hd', rfl⟩ := enum_get hd
      rw [List.getElem?_map] at hd'
      cases q : l[k]? with
      | none => rw [q] at hd'; cases hd'
      | some w =>
        rw [q] at hd'
        cases hd'
        obtain ⟨hx, hlen⟩ := (hl w (List.mem_of_getElem? q)).sign hb
        have sg := k_is_sign (F := F) (n := n + 5) (mu := false) (S := []) h hlen
        refine ⟨[some (.py (eBook b)), some (.py (eStrs l)), some (.py (eTab b)), some (.py (.int (0 + k : Nat))), some (.py (.str w))], [], ?_, _, _, rfl, rfl⟩
        have hbt : bindT (.many [3, 4]) (.py (.tuple [.int (0 + k : Nat), .str w])) [some (.py (eBook b)), some (.py (eStrs l)), some (.py (eTab b)), x, y] = some [some (.py (eBook b)), some (.py (eStrs l)), some (.py (eTab b)), some (.py (.int (0 + k : Nat))), some (.py (.str w))] := rfl
        rw [hbt]
        rcases hx with ⟨hw, hs⟩ | hs
        · simp only [streamN, x_cons, x_ite, ev_and, ev_or, ev_not, ev_call, ev_cons, ev_loc, List.getElem?_cons_succ, List.getElem?_cons_zero, okL_some, R.bind_ok, ev_nil, sg, hs, bl, truth, Option.map_some, Bool.not_false, Bool.not_true, R.of_some, tt3_t, tt3_f, ev_isi, isi_str, ev_cmp, cmpD, tab_in, decide_eq_true hw, x_nil]
        · simp only [streamN, x_cons, x_ite, ev_and, ev_not, ev_call, ev_cons, ev_loc, List.getElem?_cons_succ, List.getElem?_cons_zero, okL_some, R.bind_ok, ev_nil, sg, hs, bl, truth, Option.map_some, Bool.not_true, R.of_some, tt3_f, x_nil]) ⟨none, none, rfl, rfl⟩
  subst hr'
  refine call_py (xs := [eBook b, eStrs l]) (S' := []) hn rfl ?_
  have hs : startD d_need_stream ([eBook b, eStrs l].map .py) = [some (.py (eBook b)), some (.py (eStrs l)), none, none, none] := rfl
  have en : evI (call T F (n + 6)) (.enu (.loc 1)) [some (.py (eBook b)), some (.py (eStrs l)), some (.py (eTab b)), none, none] [] = .ok ⟨enumD 0 (l.map .str), none⟩ [] := rfl
  have lp : exS (call T F (n + 6)) F (.loop (.many [3, 4]) (.enu (.loc 1)) streamN) [some (.py (eBook b)), some (.py (eStrs l)), some (.py (eTab b)), none, none] [] = .ok (.nx [some (.py (eBook b)), some (.py (eStrs l)), some (.py (eTab b)), x, y]) [] := by
    rw [x_loop, en, R.bind_ok]
    exact e1
  have gt : decide ((200 : Int) < l.length) = false := decide_eq_false (by omega)
  rw [hs, body_needS]
  simp only [x_cons, x_asg, ev_call, ev_cons, ev_loc, List.getElem?_cons_zero, List.getElem?_cons_succ, okL_some, R.bind_ok, ev_nil, nb, ci, List.set_cons_succ, List.set_cons_zero, x_ite, ev_or, ev_not, ev_isi, show isiD [] (.py (eStrs l)) .tuple = some true from rfl, Option.map_some, R.of_some, bl, truth, Bool.not_true, tt3_f, ev_cmp, ev_blt, len_strs, ev_glo, cmpD, gt, x_nil, lp, x_ret]
  rfl
theorem k_need_stream (h : StdC T) {b : Book} (hb : BookOk b) {l : List Str} (hl : ∀ x ∈ l, Item b x) (h2 : l.length ≤ 200) : call T F (n + 7) mu "need_stream" [.py (eBook b), .py (eStrs l)] S = .ok (.py (eStrs l)) S := k_need_streamP h.toStdP h.need_stream hb hl h2
theorem k_is_whole (h : StdC T) {i : Int} {m : Int} (h0 : 0 ≤ i) (h1 : i ≤ m) : call T F (n + 1) mu "is_whole" [.py (.int i), .py (.int 0), .py (.int m)] S = .ok (bl true) S := by
  refine call_py (xs := [.int i, .int 0, .int m]) (S' := []) h.is_whole rfl ?_
  have hs : startD d_is_whole ([PyData.int i, .int 0, .int m].map .py) = [some (.py (.int i)), some (.py (.int 0)), some (.py (.int m))] := rfl
  rw [hs]
  simp only [d_is_whole, x_cons, x_ret, ev_and, ev_isi, ev_loc, List.getElem?_cons_zero, List.getElem?_cons_succ, okL_some, R.bind_ok, show isiD [] (.py (.int i)) .int = some true from rfl, show isiD [] (.py (.int i)) .bool = some false from rfl, Option.map_some, R.of_some, bl, truth, tt3_t, ev_not, Bool.not_false, ev_cmp2, cmpD, decide_eq_true h0, decide_eq_true h1]
  rfl
theorem eDict_get {t : Tb} {a : Str} (nd : (t.map (·.1)).Nodup) {c : Ch} (h : (a, c) ∈ t) : idxD S (.py (eDict t)) (.py (.str a)) = some (.py (eChain c)) := by
  have hv : view S (.py (eDict t)) = .dS (eT t) := by
    simp [view, eDict, eT, sKeys_map (fun p : Str × Ch => p.1) fun p => eChain p.2]
  unfold idxD
  rw [hv]
  obtain ⟨c', h1, h2⟩ := eT_get (t := t) (a := a) (List.mem_map.mpr ⟨_, h, rfl⟩)
  rw [nodup_snd nd h1 h] at h2
  exact h2
theorem k_chain_at (h : StdC T) {b : Book} (hb : BookOk b) {l : List Str} (hl : ∀ x ∈ l, Item b x) (h2 : l.length ≤ 200) {a : Str} (ha : a ∈ b.asp) {c : Ch} (hc : (a, c) ∈ chains b (rowWords l)) : call T F (n + 8) false "chain_at" [.py (eBook b), .py (eStrs l), .py (.int l.length), .py (.str a)] S = .ok (.py (eChain c)) S := by
  have ns := k_need_stream (F := F) (n := n) (mu := false) (S := []) h hb hl h2
  have iw := k_is_whole (F := F) (n := n + 6) (mu := false) (S := []) h (i := l.length) (m := l.length) (by omega) (Int.le_refl _)
  have ch := k_chains_in (F := F) (n := n + 5) (S := []) h hb hl
  have okc : TbOk b.asp (chains b (rowWords l)) := chains_ok hb tb0_ok
  have ge := eDict_get (S := []) (by rw [okc.keys]; exact asps_nd _ hb.asp) hc
  have sl : sliD [] (.py (eStrs l)) none (some (l.length : Int)) = some (.py (eStrs l)) := by
    show some (D.py (.tuple (cutD (l.map PyData.str) none (some (l.length : Int))))) = _
    rw [cutD_whole]
    · rfl
    · rw [List.length_map]
      refine ⟨HT.sIx_none _ _, ?_⟩
      rw [HT.sIx_nat]
      simp
  have e0 : evE (call T F (n + 7)) (.idx (.loc 0) (.con (.int 0))) [some (.py (eBook b)), some (.py (eStrs l)), some (.py (.int l.length)), some (.py (.str a))] [] = .ok (.py (eStrs b.asp)) [] := ev_at (k := 0) rfl rfl
  refine call_py (xs := [eBook b, eStrs l, .int l.length, .str a]) (S' := []) h.chain_at rfl ?_
  have hs : startD d_chain_at ([eBook b, eStrs l, .int l.length, .str a].map .py) = [some (.py (eBook b)), some (.py (eStrs l)), some (.py (.int l.length)), some (.py (.str a))] := rfl
  have sliE : evE (call T F (n + 7)) (.sli (.loc 1) .none (.some (.loc 2))) [some (.py (eBook b)), some (.py (eStrs l)), some (.py (.int l.length)), some (.py (.str a))] [] = .ok (.py (eStrs l)) [] := by
    have e : evE (call T F (n + 7)) (.sli (.loc 1) .none (.some (.loc 2))) [some (.py (eBook b)), some (.py (eStrs l)), some (.py (.int l.length)), some (.py (.str a))] [] = R.of (sliD [] (.py (eStrs l)) none (some (l.length : Int))) [] := by
      simp only [evE, evO, List.getElem?_cons_zero, List.getElem?_cons_succ, R.bind_ok, intO]
    rw [e, sl]
    rfl
  have inE : evE (call T F (n + 7)) (.cmp .notin (.loc 3) (.idx (.loc 0) (.con (.int 0)))) [some (.py (eBook b)), some (.py (eStrs l)), some (.py (.int l.length)), some (.py (.str a))] [] = .ok (bl false) [] := by
    simp only [ev_cmp, ev_loc, List.getElem?_cons_zero, List.getElem?_cons_succ, okL_some, R.bind_ok, e0, cmpD, in_strs, decide_eq_true ha, Option.map_some, Bool.not_true, R.of_some]
  rw [hs]
  simp only [d_chain_at, x_cons, x_exp, ev_call, ev_cons, ev_loc, List.getElem?_cons_zero, List.getElem?_cons_succ, okL_some, R.bind_ok, ev_nil, ns, x_ite, ev_not, ev_con, ev_blt, len_strs, iw, bl, truth, Option.map_some, Bool.not_true, R.of_some, tt3_f, x_nil, ev_or, ev_isi, isi_str, inE, x_ret, ev_idx, sliE, ch, ge]
  rfl
end
end Sf
end
section
set_option maxRecDepth 100000
set_option maxHeartbeats 4000000
namespace Sf
open PySem PySem.Spec L2
open PyProof.Rows hiding St
theorem intsD_map {B : Type} (g : B → Int) : ∀ xs : List B, intsD (xs.map fun x => D.py (.int (g x))) = some (xs.map g)
  | [] => rfl
  | x :: xs => by simp [intsD, intsD_map g xs]
section
variable {T : Tab} {F n : Nat} {S : Store} {mu : Bool}
theorem k_are_words (h : StdC T) {b : Book} (hb : BookOk b) {l : List Str} (hl : ∀ x ∈ l, x ∈ b.words) (h2 : l.length ≤ 60) : call T F (n + 2) mu "are_words" [.py (eBook b), .py (eStrs l), .py (.int 60)] S = .ok (bl true) S := by
  have ci := k_codes_in (F := F) (n := n) (mu := false) (S := []) h.toStdP hb
  refine call_py (xs := [eBook b, eStrs l, .int 60]) (S' := []) h.are_words rfl ?_
  have hs : startD d_are_words ([eBook b, eStrs l, .int 60].map .py) = [some (.py (eBook b)), some (.py (eStrs l)), some (.py (.int 60)), none] := rfl
  have al : evE (call T F (n + 1)) (.blt false .all (.cons (.lc false (.and (.isi (.loc 3) .str) (.cmp .isin (.loc 3) (.call false "codes_in" (.cons (.loc 0) .nil)))) [3] (.one 3) (.seq (.loc 1)) .none) .nil)) [some (.py (eBook b)), some (.py (eStrs l)), some (.py (.int 60)), none] [] = .ok (bl true) [] := by
    refine ev_all (xs := l) PyData.str (src_tup rfl) (by omega) fun x hx => ?_
    have hw : (wipeD [some (.py (eBook b)), some (.py (eStrs l)), some (D.py (.int 60)), none] [3]).set 3 (some (.py (.str x))) = [some (.py (eBook b)), some (.py (eStrs l)), some (.py (.int 60)), some (.py (.str x))] := rfl
    rw [hw]
    simp only [ev_and, ev_isi, ev_loc, List.getElem?_cons_zero, List.getElem?_cons_succ, okL_some, R.bind_ok, isi_str, Option.map_some, R.of_some, bl, truth, tt3_t, ev_cmp, ev_call, ev_cons, ev_nil, ci, cmpD, tab_in, decide_eq_true (hl x hx)]
  have gt : decide ((60 : Int) < l.length) = false := decide_eq_false (by omega)
  have lnE : ∀ i r S, evE (call T F (n + 1)) (.blt false .len (.cons (.loc i) .nil)) r S = (okL r[i]? S).bind fun d S1 => bltD false .len [d] S1 := fun i r S => by
    simp only [ev_blt, ev_cons, ev_loc, ev_nil]
    cases okL r[i]? S <;> rfl
  rw [hs]
  simp only [d_are_words, x_cons, x_ite, ev_or, ev_not, ev_isi, ev_loc, List.getElem?_cons_zero, List.getElem?_cons_succ, okL_some, R.bind_ok, show isiD [] (.py (eStrs l)) .tuple = some true from rfl, Option.map_some, R.of_some, bl, truth, Bool.not_true, tt3_f, ev_cmp, lnE, len_strs, cmpD, gt, x_nil, x_ret, al]
  rfl
theorem k_need_row (h : StdC T) {b : Book} (hb : BookOk b) {l : List Str} (hl : ∀ x ∈ l, x ∈ b.words) (h2 : l.length ≤ 60) : call T F (n + 7) mu "need_row" [.py (eBook b), .py (eStrs l)] S = .ok (.py (eStrs l)) S := by
  have nb := k_need_book (F := F) (n := n) (mu := false) (S := []) h.toStdP hb
  have aw := k_are_words (F := F) (n := n + 4) (mu := false) (S := []) h hb hl h2
  refine call_py (xs := [eBook b, eStrs l]) (S' := []) h.need_row rfl ?_
  have hs : startD d_need_row ([eBook b, eStrs l].map .py) = [some (.py (eBook b)), some (.py (eStrs l))] := rfl
  rw [hs]
  simp only [d_need_row, x_cons, x_exp, ev_call, ev_cons, ev_loc, List.getElem?_cons_zero, List.getElem?_cons_succ, okL_some, R.bind_ok, ev_nil, nb, x_ite, ev_not, ev_glo, aw, bl, truth, Option.map_some, Bool.not_true, R.of_some, tt3_f, x_nil, x_ret]
  rfl
def sizeOf_ (l : List Str) : Int := (l.map fun x => (x.length : Int) + 2).sum
/-- sum([len(word) + 2 for word in row]) -/
theorem ev_size {G : Gam} {r : Rho} {i j : Nat} {l : List Str} {c : CE} (hj : r[j]? = some (some (.py (eStrs l)))) (hi : i < r.length) (hc : ∀ r S, evE G c r S = .ok (.py (.int 2)) S) (hl : l.length < 1000) (hx : ∀ x ∈ l, x.length < 1000000) :
    evE G (.blt false .sum (.cons (.lc false (.bop false .add (.blt false .len (.cons (.loc i) .nil)) c) [i] (.one i) (.seq (.loc j)) .none) .nil)) r S = .ok (.py (.int (sizeOf_ l))) S := by
  have e1 : evE G (.loc j) r S = .ok (.py (.tuple (l.map .str))) S := by rw [ev_loc, hj]; rfl
  have lc : evE G (.lc false (.bop false .add (.blt false .len (.cons (.loc i) .nil)) c) [i] (.one i) (.seq (.loc j)) .none) r S = .ok (.py (.list (l.map fun x => .int ((x.length : Int) + 2)))) S := by
    refine ev_lc1 (xs := l) PyData.str (fun x => .int ((x.length : Int) + 2)) (src_tup e1) (by omega) fun x hx' => ?_
    simp only [ev_bop, ev_blt, ev_cons, ev_loc, wipe1 hi, okL_some, R.bind_ok, ev_nil, len_str (hx x hx'), hc, bopD]
  have sm : bltD false .sum [.py (.list (l.map fun x => .int ((x.length : Int) + 2)))] S = .ok (.py (.int (sizeOf_ l))) S := by
    have e : (l.map fun x : Str => PyData.int ((x.length : Int) + 2)).map D.py = l.map fun x => D.py (.int ((x.length : Int) + 2)) := by simp [Function.comp_def]
    simp only [bltD, view, e, intsD_map]
    rfl
  rw [ev_blt, ev_cons, lc, R.bind_ok, ev_nil, R.bind_ok, R.bind_ok, sm]
theorem k_size_of (h : StdC T) {b : Book} (hb : BookOk b) {l : List Str} (hl : ∀ x ∈ l, x ∈ b.words) (h2 : l.length ≤ 60) : call T F (n + 8) mu "size_of" [.py (eBook b), .py (eStrs l)] S = .ok (.py (.int (sizeOf_ l))) S := by
  have nr := k_need_row (F := F) (n := n) (mu := false) (S := []) h hb hl h2
  have hx : ∀ x ∈ l, x.length < 1000000 := fun x hx => by
    have := (words_sign x (words_mem hb x (hl x hx))).2
    omega
  have si : call T F (n + 7) false "size_in" [.py (eStrs l)] [] = .ok (.py (.int (sizeOf_ l))) [] := by
    refine call_py (xs := [eStrs l]) (S' := []) h.size_in rfl ?_
    have hs : startD d_size_in ([eStrs l].map .py) = [some (.py (eStrs l)), none] := rfl
    have ev := ev_size (G := call T F (n + 6)) (S := []) (r := [some (.py (eStrs l)), none]) (i := 1) (j := 0) (c := .glo "" (.int 2)) rfl (by simp) (fun _ _ => rfl) (by omega) hx
    rw [hs]
    simp only [d_size_in, x_cons, x_ret, ev]
    rfl
  refine call_py (xs := [eBook b, eStrs l]) (S' := []) h.size_of rfl ?_
  have hs : startD d_size_of ([eBook b, eStrs l].map .py) = [some (.py (eBook b)), some (.py (eStrs l))] := rfl
  rw [hs]
  simp only [d_size_of, x_cons, x_ret, ev_call, ev_cons, ev_loc, List.getElem?_cons_zero, List.getElem?_cons_succ, okL_some, R.bind_ok, ev_nil, nr, si]
  rfl
def eFront (t : Tb) : PyData := .tuple (t.map fun p => .tuple [.str p.1, eChain p.2])
theorem rowWords_of {b : Book} (hb : BookOk b) {l : List Str} (hl : ∀ x ∈ l, x ∈ b.words) : rowWords l = l := by
  unfold rowWords
  rw [List.filter_eq_self]
  intro x hx
  rw [(words_sign x (words_mem hb x (hl x hx))).1]
  rfl
theorem k_front (h : StdC T) {b : Book} (hb : BookOk b) {l : List Str} (hl : ∀ x ∈ l, x ∈ b.words) (h2 : l.length ≤ 60) : call T F (n + 8) mu "front" [.py (eBook b), .py (eStrs l)] S = .ok (.py (eFront (chains b l))) S := by
  have nr := k_need_row (F := F) (n := n) (mu := false) (S := []) h hb hl h2
  have ch := k_chains_in (F := F) (n := n + 5) (S := []) h hb (l := l) fun x hx => .inl (hl x hx)
  rw [rowWords_of hb hl] at ch
  have okc : TbOk b.asp (chains b l) := chains_ok hb tb0_ok
  have tl : (chains b l).length ≤ 3 := by
    have := (asps_few _ hb.asp).1
    rw [← okc.keys, List.length_map] at this
    exact this
  have hv : view [] (.py (eDict (chains b l))) = .dS (eT (chains b l)) := by
    simp [view, eDict, eT, sKeys_map (fun p : Str × Ch => p.1) fun p => eChain p.2]
  have rv : recv .items [] (.py (eDict (chains b l))) = true := by
    unfold recv
    rw [hv]
  have mi : metD false .items (.py (eDict (chains b l))) [] [] = .ok (.py (.list ((chains b l).map fun p => .tuple [.str p.1, eChain p.2]))) [] := by
    unfold metD
    rw [hv]
    show (match pyKv PyData.str (eT (chains b l)) with
      | some l => R.ok (D.py (.list (l.map fun p : PyData × PyData => PyData.tuple [p.1, p.2]))) []
      | none => .bad) = _
    rw [eT, pyKv_map (fun p : Str × Ch => p.1) fun p => eChain p.2]
    simp [Function.comp_def]
  have tp : bltD false .tuple [.py (.list ((chains b l).map fun p => .tuple [.str p.1, eChain p.2]))] [] = .ok (.py (eFront (chains b l))) [] := by
    show mkTup (((chains b l).map fun p => PyData.tuple [.str p.1, eChain p.2]).map D.py) _ = _
    exact mkT (by rw [List.length_map]; omega)
  refine call_py (xs := [eBook b, eStrs l]) (S' := []) h.front rfl ?_
  have hs : startD d_front ([eBook b, eStrs l].map .py) = [some (.py (eBook b)), some (.py (eStrs l))] := rfl
  rw [hs]
  simp only [d_front, x_cons, x_ret, ev_blt, ev_cons, ev_met, ev_call, ev_loc, List.getElem?_cons_zero, List.getElem?_cons_succ, okL_some, R.bind_ok, ev_nil, nr, ch, rv, if_true, mi, tp]
  rfl
end
end Sf
end
section
set_option maxRecDepth 100000
set_option maxHeartbeats 4000000
namespace Sf
open PySem PySem.Spec L2
open PyProof.Rows hiding St
/-! ### the law of fronts -/
def ov (d e : Ch) : Ch := d ++ e.filter fun q => decide (q.1 ∉ d.map (·.1))
theorem ov_top {k v : Str} {d e : Ch} : onTop k v (ov d e) = ov (onTop k v d) e := by
  unfold onTop ov
  rw [List.filter_append, List.filter_filter, List.cons_append]
  congr 2
  refine List.filter_congr fun q _ => ?_
  rw [Bool.eq_iff_iff]
  simp only [Bool.and_eq_true, decide_eq_true_eq, List.map_cons, List.mem_cons, not_or]
  constructor
  · rintro ⟨h1, h2⟩
    refine ⟨h1, fun z => h2 ?_⟩
    obtain ⟨p, hp, e⟩ := List.mem_map.mp z
    exact List.mem_map.mpr ⟨p, (List.mem_filter.mp hp).1, e⟩
  · rintro ⟨h1, h2⟩
    refine ⟨h1, fun z => h2 ?_⟩
    obtain ⟨p, hp, e⟩ := List.mem_map.mp z
    exact List.mem_map.mpr ⟨p, List.mem_filter.mpr ⟨hp, decide_eq_true (by rw [e]; exact h1)⟩, e⟩
def ovT (D E : Tb) : Tb := List.zipWith (fun p q => (p.1, ov p.2 q.2)) D E
theorem ovT_upd {k : Str} {g : Str × Str} : ∀ {D E : Tb}, upd1 k (ovT D E) g = ovT (upd1 k D g) E
  | [], _ => rfl
  | _ :: _, [] => rfl
  | p :: D, q :: E => by
    have ih := ovT_upd (k := k) (g := g) (D := D) (E := E)
    unfold upd1 ovT at ih ⊢
    rw [List.zipWith_cons_cons, List.map_cons, List.map_cons, List.zipWith_cons_cons, ih]
    congr 1
    by_cases e : p.1 = g.1
    · simp only [e, if_true, ov_top]
    · simp only [e, if_false]
theorem ovT_fold {k : Str} : ∀ {gs : Ch} {D E : Tb}, gs.foldl (upd1 k) (ovT D E) = ovT (gs.foldl (upd1 k) D) E
  | [], _, _ => rfl
  | g :: gs, D, E => by
    rw [List.foldl_cons, List.foldl_cons, ovT_upd]
    exact ovT_fold
theorem ovT_step {b : Book} {w : Str} {D E : Tb} : stepW b (ovT D E) w = ovT (stepW b D w) E := by
  unfold stepW
  cases codeOf b w with
  | none => rfl
  | some c => exact ovT_fold
theorem ovT_row {b : Book} : ∀ {ws : List Str} {D E : Tb}, ws.foldl (stepW b) (ovT D E) = ovT (ws.foldl (stepW b) D) E
  | [], _, _ => rfl
  | w :: ws, D, E => by
    rw [List.foldl_cons, List.foldl_cons, ovT_step]
    exact ovT_row
theorem ov_nil {e : Ch} : ov [] e = e := by simp [ov]
theorem ovT_zero : ∀ {asp : List Str} {E : Tb}, E.map (·.1) = asp → ovT (asp.map fun a => (a, [])) E = E
  | _, [], h => by rw [← h]; rfl
  | _, q :: E, h => by
    rw [← h]
    show ((q.1, ov [] q.2) :: ovT ((E.map (·.1)).map fun a => (a, [])) E) = _
    rw [ov_nil, ovT_zero rfl]
theorem chains_app {b : Book} (hb : BookOk b) {l m : List Str} : chains b (l ++ m) = ovT (chains b m) (chains b l) := by
  have okl : TbOk b.asp (chains b l) := chains_ok hb tb0_ok
  unfold chains
  rw [List.foldl_append]
  show m.foldl (stepW b) (chains b l) = _
  have e : chains b l = ovT (tb0 b) (chains b l) := (ovT_zero okl.keys).symm
  rw [e, ovT_row]
  rfl
theorem ovT_mem : ∀ {D E : Tb} {a : Str} {d e : Ch}, D.map (·.1) = E.map (·.1) → (D.map (·.1)).Nodup → (a, d) ∈ D → (a, e) ∈ E → (a, ov d e) ∈ ovT D E
  | [], _, _, _, _, _, _, h, _ => nomatch h
  | p :: D, [], _, _, _, h, _, _, _ => by simp at h
  | p :: D, q :: E, a, d, e, hk, nd, h1, h2 => by
    rw [List.map_cons, List.map_cons] at hk
    obtain ⟨k1, k2⟩ := List.cons.inj hk
    rw [List.map_cons, List.nodup_cons] at nd
    show (a, ov d e) ∈ (p.1, ov p.2 q.2) :: ovT D E
    rcases List.mem_cons.mp h1 with z1 | z1 <;> rcases List.mem_cons.mp h2 with z2 | z2
    · rw [← z1, ← z2]
      exact List.mem_cons_self
    · exact absurd (show p.1 ∈ D.map (·.1) by rw [k2]; exact List.mem_map.mpr ⟨_, z2, by rw [← z1]⟩) nd.1
    · exact absurd (show p.1 ∈ D.map (·.1) from List.mem_map.mpr ⟨_, z1, by rw [k1, ← z2]⟩) nd.1
    · exact List.mem_cons_of_mem _ (ovT_mem k2 nd.2 z1 z2)
theorem tb_get {asp : List Str} {t : Tb} (h : TbOk asp t) {a : Str} (ha : a ∈ asp) : ∃ c, (a, c) ∈ t := by
  rw [← h.keys] at ha
  obtain ⟨p, hp, rfl⟩ := List.mem_map.mp ha
  exact ⟨p.2, hp⟩
end Sf
end
section
set_option maxRecDepth 100000
set_option maxHeartbeats 4000000
namespace Sf
open PySem PySem.Spec L2
open PyProof.Rows hiding St

/-! ### tools -/
section
variable {G : Gam} {F : Nat} {r : Rho} {S : Store}
/-- a comprehension over data, some are left out -/
theorem lcF {A : Type} {mu : Bool} {elt : CE} {own : List Nat} {t : Tg} {it : CI} {c : CO} {xs : List A} (e g : A → PyData) (p : A → Bool) (hi : evI G it r S = .ok ⟨(xs.map e).map .py, none⟩ S)
    (h : ∀ x ∈ xs, turnC G elt own t c r (.py (e x)) S = .ok (if p x then some (.py (g x)) else none) S) : evE G (.lc mu elt own t it c) r S = mkLst mu (((xs.filter p).map g).map .py) S := by
  rw [ev_lc (fun x => D.py (e x)) (fun x => if p x then some (D.py (g x)) else none) xs hi (by simp [Function.comp_def]) rfl h]
  congr 1
  clear h hi
  induction xs with
  | nil => rfl
  | cons x xs ih =>
    cases q : p x with
    | true => simp [q]; simpa using ih
    | false => simp [q]; simpa using ih
theorem lcM {A : Type} {mu : Bool} {elt : CE} {own : List Nat} {t : Tg} {it : CI} {c : CO} {xs : List A} (e g : A → PyData) (hi : evI G it r S = .ok ⟨(xs.map e).map .py, none⟩ S)
    (h : ∀ x ∈ xs, turnC G elt own t c r (.py (e x)) S = .ok (some (.py (g x))) S) : evE G (.lc mu elt own t it c) r S = mkLst mu ((xs.map g).map .py) S := by
  rw [lcF (mu := mu) e g (fun _ => true) hi (fun x hx => (h x hx).trans rfl), List.filter_eq_self.mpr fun _ _ => rfl]
theorem mkLt {xs : List PyData} (h : xs.length < 1000000) : mkLst true (xs.map .py) S = .ok (.ref S.length) (S ++ [.lst (xs.map .py)]) := by
  simp [mkLst, fits_of h]
theorem tupOf {xs : List PyData} (h : xs.length < 1000000) : bltD false .tuple [.py (.list xs)] S = .ok (.py (.tuple xs)) S := by
  show mkTup (xs.map D.py) S = _
  exact mkT h
theorem mkT1 {a : PyData} : mkTup [.py a] S = .ok (.py (.tuple [a])) S := rfl
theorem mkT2 {a b : PyData} : mkTup [.py a, .py b] S = .ok (.py (.tuple [a, b])) S := rfl
theorem mkT0 : mkTup [] S = .ok (.py (.tuple [])) S := rfl
theorem idx0 {a : PyData} {l : List PyData} : idxD S (.py (.tuple (a :: l))) (.py (.int 0)) = some (.py a) := atT (xs := a :: l) (k := 0) rfl
theorem idx1 {a b : PyData} {l : List PyData} : idxD S (.py (.tuple (a :: b :: l))) (.py (.int 1)) = some (.py b) := atT (xs := a :: b :: l) (k := 1) rfl
theorem idx2 {a b c : PyData} {l : List PyData} : idxD S (.py (.tuple (a :: b :: c :: l))) (.py (.int 2)) = some (.py c) := atT (xs := a :: b :: c :: l) (k := 2) rfl
theorem in_lst {x : Str} {l : List Str} : inD S (.py (.str x)) (.py (.list (l.map .str))) = some (decide (x ∈ l)) := in_strs (S := S) (x := x) (l := l)
theorem eq_str {x y : Str} (hx : PyData.strOk x = true) (hy : PyData.strOk y = true) : eqD S (.py (.str x)) (.py (.str y)) = some (decide (x = y)) := by
  rw [eqD_py (shp_str hx) (by omega) (shp_str hy) (by omega)]
  simp only [PyData.eqv]
  rw [show (x == y) = decide (x = y) from by rw [Bool.eq_iff_iff]; simp]
theorem catT {x y : List PyData} (h : x.length + y.length < 1000000) : bopD false .add (.py (.tuple x)) (.py (.tuple y)) S = .ok (.py (.tuple (x ++ y))) S := by
  show (if fits (x.length + y.length) then R.ok (D.py (.tuple (x ++ y))) S else .bad) = _
  rw [if_pos (fits_of h)]
theorem catL {x y : List PyData} (h : x.length + y.length < 1000000) : bopD false .add (.py (.list x)) (.py (.list y)) S = .ok (.py (.list (x ++ y))) S := by
  show mkLst false (x.map D.py ++ y.map D.py) S = _
  rw [← List.map_append, mkL (by rw [List.length_append]; omega)]
end
/-! ### worth_in, over, shown_at -/
def d_worth_in : Fn := ⟨2, 4,
  (.cons (.loop (.many [2, 3]) (.seq (.loc 0)) (.cons (.ite (.cmp .isin (.loc 2) (.loc 1)) (.cons (.ret (.loc 3))
  .nil) .nil)
  .nil))
  (.cons (.ret (.con .none))
  .nil))⟩
def d_over : Fn := ⟨2, 6,
  (.cons (.asg 2 (.lc false (.loc 3) [3, 4] (.many [3, 4]) (.seq (.loc 0)) .none))
  (.cons (.ret (.bop false .add (.loc 0) (.blt false .tuple (.cons (.lc false (.loc 5) [5] (.one 5) (.seq (.loc 1)) (.some (.cmp .notin (.idx (.loc 5) (.con (.int 0))) (.loc 2)))) .nil))))
  .nil))⟩
def d_shown_at : Fn := ⟨2, 2,
  (.cons (.ite (.cmp .eq (.loc 1) (.glo "" (.str "\n"))) (.cons (.ret (.tup .nil))
  .nil) .nil)
  (.cons (.ret (.ite (.cmp .eq (.loc 1) (.glo "" (.str " "))) (.idx (.loc 0) (.con (.int 1))) (.idx (.loc 0) (.con (.int 0)))))
  .nil))⟩
def d_is_terminal : Fn := ⟨1, 2,
  (.cons (.ite (.or (.not (.isi (.loc 0) .tuple)) (.cmp .gt (.blt false .len (.cons (.loc 0) .nil)) (.glo "" (.int 12)))) (.cons (.ret (.con (.bool false)))
  .nil) .nil)
  (.cons (.ret (.and (.blt false .all (.cons (.lc false (.call false "is_mark" (.cons (.loc 1) .nil)) [1] (.one 1) (.seq (.loc 0)) .none) .nil)) (.call false "are_rising" (.cons (.loc 0) .nil))))
  .nil))⟩
def d_need_terminal : Fn := ⟨1, 1,
  (.cons (.ite (.not (.call false "is_terminal" (.cons (.loc 0) .nil))) (.cons .rais
  .nil) .nil)
  (.cons (.ret (.loc 0))
  .nil))⟩

structure StdW (T : Tab) : Prop extends StdP T where
  worth_in : T "worth_in" = some d_worth_in
  over : T "over" = some d_over
  shown_at : T "shown_at" = some d_shown_at
  is_terminal : T "is_terminal" = some d_is_terminal
  need_terminal : T "need_terminal" = some d_need_terminal

def worth (c : Ch) (t : List Str) : Option Str := (c.find? fun p => decide (p.1 ∈ t)).map (·.2)
def eO : Option Str → PyData
  | none => .none
  | some x => .str x
section
variable {T : Tab} {F n : Nat} {mu : Bool} {S : Store}
theorem lp_worth {G : Gam} {t : List Str} {e0 : PyData} {ok : Store → Bool} (hok : ∀ S, ok S = true) : ∀ (c : Ch) (x2 x3 : Option D), ∃ y2 y3, loopF ok (fun x r1 S2 => match bindT (.many [2, 3]) x r1 with
      | some r2 => exSs G F (.cons (.ite (.cmp .isin (.loc 2) (.loc 1)) (.cons (.ret (.loc 3)) .nil) .nil) .nil) r2 S2
      | none => .bad) ((c.map ePair).map .py) [some (.py e0), some (.py (eStrs t)), x2, x3] S = (match worth c t with
      | some v => .ok (.rt (.py (.str v))) S
      | none => .ok (.nx [some (.py e0), some (.py (eStrs t)), y2, y3]) S)
  | [], x2, x3 => ⟨x2, x3, rfl⟩
  | p :: c, x2, x3 => by
    obtain ⟨y2, y3, ih⟩ := lp_worth (G := G) (t := t) (e0 := e0) hok c (some (.py (.str p.1))) (some (.py (.str p.2)))
    refine ⟨y2, y3, ?_⟩
    have b : ∀ r0 : Rho, r0 = [some (.py e0), some (.py (eStrs t)), x2, x3] → bindT (.many [2, 3]) (.py (ePair p)) r0 = some [some (.py e0), some (.py (eStrs t)), some (.py (.str p.1)), some (.py (.str p.2))] := fun r0 e => by subst e; rfl
    simp only [List.map_cons, loopF, b _ rfl]
    by_cases hp : p.1 ∈ t
    · simp only [x_cons, x_nil, x_asg, x_ret, x_exp, x_ite, x_par, x_unp, x_sub, ev_con, ev_glo, ev_loc, ev_tup, ev_lst, ev_dic, ev_bop, ev_cmp, ev_cmp2, ev_and, ev_or, ev_not, ev_ite, ev_idx, ev_call, ev_blt, ev_isi, ev_met, ev_nil, ev_cons, R.bind_ok, R.of_some, okL_some, okO_some, tt3_t, tt3_f, List.getElem?_cons_zero, List.getElem?_cons_succ, List.set_cons_zero, List.set_cons_succ, bl, truth, Option.map_some, Bool.not_true, Bool.not_false, if_true, cmpD, in_strs, decide_eq_true hp, worth, List.find?_cons]
    · simp only [x_cons, x_nil, x_asg, x_ret, x_exp, x_ite, x_par, x_unp, x_sub, ev_con, ev_glo, ev_loc, ev_tup, ev_lst, ev_dic, ev_bop, ev_cmp, ev_cmp2, ev_and, ev_or, ev_not, ev_ite, ev_idx, ev_call, ev_blt, ev_isi, ev_met, ev_nil, ev_cons, R.bind_ok, R.of_some, okL_some, okO_some, tt3_t, tt3_f, List.getElem?_cons_zero, List.getElem?_cons_succ, List.set_cons_zero, List.set_cons_succ, bl, truth, Option.map_some, Bool.not_true, Bool.not_false, if_true, cmpD, in_strs, decide_eq_false hp, worth, List.find?_cons, hok]
      exact ih
theorem k_worth_in (h : StdW T) {c : Ch} {t : List Str} : call T F (n + 1) mu "worth_in" [.py (eChain c), .py (eStrs t)] S = .ok (.py (eO (worth c t))) S := by
  refine call_py (xs := [eChain c, eStrs t]) (S' := []) h.worth_in rfl ?_
  have hs : startD d_worth_in ([eChain c, eStrs t].map .py) = [some (.py (eChain c)), some (.py (eStrs t)), none, none] := rfl
  obtain ⟨y2, y3, e⟩ := lp_worth (G := call T F n) (F := F) (S := []) (t := t) (e0 := eChain c) (ok := (⟨(c.map ePair).map .py, none⟩ : Src).stands) (fun _ => rfl) c none none
  have s1 : exS (call T F n) F (.loop (.many [2, 3]) (.seq (.loc 0)) (.cons (.ite (.cmp .isin (.loc 2) (.loc 1)) (.cons (.ret (.loc 3)) .nil) .nil) .nil)) [some (.py (eChain c)), some (.py (eStrs t)), none, none] [] = (match worth c t with
      | some v => .ok (.rt (.py (.str v))) []
      | none => .ok (.nx [some (.py (eChain c)), some (.py (eStrs t)), y2, y3]) []) := by
    rw [x_loop, src_tup (xs := c.map ePair) rfl, R.bind_ok]
    exact e
  rw [hs]
  cases q : worth c t with
  | none => simp only [d_worth_in, x_cons, x_nil, x_asg, x_ret, x_exp, x_ite, x_par, x_unp, x_sub, ev_con, ev_glo, ev_loc, ev_tup, ev_lst, ev_dic, ev_bop, ev_cmp, ev_cmp2, ev_and, ev_or, ev_not, ev_ite, ev_idx, ev_call, ev_blt, ev_isi, ev_met, ev_nil, ev_cons, R.bind_ok, R.of_some, okL_some, okO_some, tt3_t, tt3_f, List.getElem?_cons_zero, List.getElem?_cons_succ, List.set_cons_zero, List.set_cons_succ, bl, truth, Option.map_some, Bool.not_true, Bool.not_false, if_true, s1, q, endD]; rfl
  | some v => simp only [d_worth_in, x_cons, x_nil, x_asg, x_ret, x_exp, x_ite, x_par, x_unp, x_sub, ev_con, ev_glo, ev_loc, ev_tup, ev_lst, ev_dic, ev_bop, ev_cmp, ev_cmp2, ev_and, ev_or, ev_not, ev_ite, ev_idx, ev_call, ev_blt, ev_isi, ev_met, ev_nil, ev_cons, R.bind_ok, R.of_some, okL_some, okO_some, tt3_t, tt3_f, List.getElem?_cons_zero, List.getElem?_cons_succ, List.set_cons_zero, List.set_cons_succ, bl, truth, Option.map_some, Bool.not_true, Bool.not_false, if_true, s1, q, endD]; rfl
theorem k_over (h : StdW T) {d e : Ch} (hd : d.length < 1000) (he : e.length < 1000) : call T F (n + 1) mu "over" [.py (eChain d), .py (eChain e)] S = .ok (.py (eChain (ov d e))) S := by
  refine call_py (xs := [eChain d, eChain e]) (S' := []) h.over rfl ?_
  have hs : startD d_over ([eChain d, eChain e].map .py) = [some (.py (eChain d)), some (.py (eChain e)), none, none, none, none] := rfl
  have lc1 : evE (call T F n) (.lc false (.loc 3) [3, 4] (.many [3, 4]) (.seq (.loc 0)) .none) [some (.py (eChain d)), some (.py (eChain e)), none, none, none, none] [] = .ok (.py (.list ((d.map (·.1)).map .str))) [] := by
    rw [lcM (xs := d) ePair (fun q => .str q.1) (src_tup rfl) (fun q _ => rfl), mkL (by rw [List.length_map]; omega), List.map_map]
    rfl
  have lc2 : evE (call T F n) (.lc false (.loc 5) [5] (.one 5) (.seq (.loc 1)) (.some (.cmp .notin (.idx (.loc 5) (.con (.int 0))) (.loc 2)))) [some (.py (eChain d)), some (.py (eChain e)), some (.py (.list ((d.map (·.1)).map .str))), none, none, none] [] = .ok (.py (.list ((e.filter fun q => decide (q.1 ∉ d.map (·.1))).map ePair))) [] := by
    rw [lcF (xs := e) ePair ePair (fun q => decide (q.1 ∉ d.map (·.1))) (src_tup rfl) (fun q _ => ?_), mkL]
    · have := List.length_filter_le (fun q : Str × Str => decide (q.1 ∉ d.map (·.1))) e
      rw [List.length_map]; omega
    · have ip : idxD [] (.py (ePair q)) (.py (.int 0)) = some (.py (.str q.1)) := rfl
      simp only [turnC, bindT, wipeD, evC, x_cons, x_nil, x_asg, x_ret, x_exp, x_ite, x_par, x_unp, x_sub, ev_con, ev_glo, ev_loc, ev_tup, ev_lst, ev_dic, ev_bop, ev_cmp, ev_cmp2, ev_and, ev_or, ev_not, ev_ite, ev_idx, ev_call, ev_blt, ev_isi, ev_met, ev_nil, ev_cons, R.bind_ok, R.of_some, okL_some, okO_some, tt3_t, tt3_f, List.getElem?_cons_zero, List.getElem?_cons_succ, List.set_cons_zero, List.set_cons_succ, bl, truth, Option.map_some, Bool.not_true, Bool.not_false, if_true, ip, cmpD, in_lst]
      by_cases hq : q.1 ∈ d.map (·.1)
      · simp [hq]
      · simp [hq]
  have ln := List.length_filter_le (fun q : Str × Str => decide (q.1 ∉ d.map (·.1))) e
  have tp := tupOf (S := []) (xs := (e.filter fun q => decide (q.1 ∉ d.map (·.1))).map ePair) (by rw [List.length_map]; omega)
  have ct := catT (S := []) (x := d.map ePair) (y := (e.filter fun q => decide (q.1 ∉ d.map (·.1))).map ePair) (by rw [List.length_map, List.length_map]; omega)
  rw [← List.map_append] at ct
  have ct : bopD false .add (.py (eChain d)) (.py (.tuple ((e.filter fun q => decide (q.1 ∉ d.map (·.1))).map ePair))) [] = .ok (.py (eChain (ov d e))) [] := ct
  rw [hs]
  simp only [d_over, x_cons, x_nil, x_asg, x_ret, x_exp, x_ite, x_par, x_unp, x_sub, ev_con, ev_glo, ev_loc, ev_tup, ev_lst, ev_dic, ev_bop, ev_cmp, ev_cmp2, ev_and, ev_or, ev_not, ev_ite, ev_idx, ev_call, ev_blt, ev_isi, ev_met, ev_nil, ev_cons, R.bind_ok, R.of_some, okL_some, okO_some, tt3_t, tt3_f, List.getElem?_cons_zero, List.getElem?_cons_succ, List.set_cons_zero, List.set_cons_succ, bl, truth, Option.map_some, Bool.not_true, Bool.not_false, if_true, lc1, lc2, tp, ct, endD]
def shownAt (b : Book) (x : Str) : List Str := if x = "\n" then [] else if x = " " then b.shown else b.asp
theorem k_shown_at (h : StdW T) {b : Book} {x : Str} (hx : PyData.strOk x = true) : call T F (n + 1) mu "shown_at" [.py (eBook b), .py (.str x)] S = .ok (.py (eStrs (shownAt b x))) S := by
  refine call_py (xs := [eBook b, .str x]) (S' := []) h.shown_at rfl ?_
  have hs : startD d_shown_at ([eBook b, .str x].map .py) = [some (.py (eBook b)), some (.py (.str x))] := rfl
  have e1 : eqD [] (.py (.str x)) (.py (.str "\n")) = some (decide (x = "\n")) := eq_str hx (by decide +kernel)
  have e2 : eqD [] (.py (.str x)) (.py (.str " ")) = some (decide (x = " ")) := eq_str hx (by decide +kernel)
  have i0 : idxD [] (.py (eBook b)) (.py (.int 0)) = some (.py (eStrs b.asp)) := rfl
  have i1 : idxD [] (.py (eBook b)) (.py (.int 1)) = some (.py (eStrs b.shown)) := rfl
  rw [hs]
  by_cases h1 : x = "\n"
  · simp only [d_shown_at, x_cons, x_nil, x_asg, x_ret, x_exp, x_ite, x_par, x_unp, x_sub, ev_con, ev_glo, ev_loc, ev_tup, ev_lst, ev_dic, ev_bop, ev_cmp, ev_cmp2, ev_and, ev_or, ev_not, ev_ite, ev_idx, ev_call, ev_blt, ev_isi, ev_met, ev_nil, ev_cons, R.bind_ok, R.of_some, okL_some, okO_some, tt3_t, tt3_f, List.getElem?_cons_zero, List.getElem?_cons_succ, List.set_cons_zero, List.set_cons_succ, bl, truth, Option.map_some, Bool.not_true, Bool.not_false, if_true, cmpD, e1, decide_eq_true h1, mkT0, endD, shownAt, if_pos h1]
    rfl
  · by_cases h2 : x = " "
    · simp only [d_shown_at, x_cons, x_nil, x_asg, x_ret, x_exp, x_ite, x_par, x_unp, x_sub, ev_con, ev_glo, ev_loc, ev_tup, ev_lst, ev_dic, ev_bop, ev_cmp, ev_cmp2, ev_and, ev_or, ev_not, ev_ite, ev_idx, ev_call, ev_blt, ev_isi, ev_met, ev_nil, ev_cons, R.bind_ok, R.of_some, okL_some, okO_some, tt3_t, tt3_f, List.getElem?_cons_zero, List.getElem?_cons_succ, List.set_cons_zero, List.set_cons_succ, bl, truth, Option.map_some, Bool.not_true, Bool.not_false, if_true, cmpD, e1, e2, decide_eq_false h1, decide_eq_true h2, i1, endD, shownAt, if_neg h1, if_pos h2]
    · simp only [d_shown_at, x_cons, x_nil, x_asg, x_ret, x_exp, x_ite, x_par, x_unp, x_sub, ev_con, ev_glo, ev_loc, ev_tup, ev_lst, ev_dic, ev_bop, ev_cmp, ev_cmp2, ev_and, ev_or, ev_not, ev_ite, ev_idx, ev_call, ev_blt, ev_isi, ev_met, ev_nil, ev_cons, R.bind_ok, R.of_some, okL_some, okO_some, tt3_t, tt3_f, List.getElem?_cons_zero, List.getElem?_cons_succ, List.set_cons_zero, List.set_cons_succ, bl, truth, Option.map_some, Bool.not_true, Bool.not_false, if_true, cmpD, e1, e2, decide_eq_false h1, decide_eq_false h2, i0, endD, shownAt, if_neg h1, if_neg h2]
/-- terminals: ascending kinds -/
structure TermOk (t : List Str) : Prop where
  few : t.length ≤ 12
  marks : ∀ x ∈ t, ofB letters x = true
  ris : risB t = true
theorem k_is_terminal (h : StdW T) {t : List Str} (ht : TermOk t) : call T F (n + 3) mu "is_terminal" [.py (eStrs t)] S = .ok (bl true) S := by
  have few := ht.few
  refine call_py (xs := [eStrs t]) (S' := []) h.is_terminal rfl ?_
  have hs : startD d_is_terminal ([eStrs t].map .py) = [some (.py (eStrs t)), none] := rfl
  have al : evE (call T F (n + 2)) (.lc false (.call false "is_mark" (.cons (.loc 1) .nil)) [1] (.one 1) (.seq (.loc 0)) .none) [some (.py (eStrs t)), none] [] = .ok (.py (.list (t.map fun _ => .bool true))) [] := by
    refine ev_lc1 (xs := t) .str (fun _ => .bool true) (src_tup rfl) (by omega) fun x hx => ?_
    have := k_is_mark (F := F) (n := n) (mu := false) (S := []) h.toStdP (ht.marks x hx)
    simp only [wipeD, x_cons, x_nil, x_asg, x_ret, x_exp, x_ite, x_par, x_unp, x_sub, ev_con, ev_glo, ev_loc, ev_tup, ev_lst, ev_dic, ev_bop, ev_cmp, ev_cmp2, ev_and, ev_or, ev_not, ev_ite, ev_idx, ev_call, ev_blt, ev_isi, ev_met, ev_nil, ev_cons, R.bind_ok, R.of_some, okL_some, okO_some, tt3_t, tt3_f, List.getElem?_cons_zero, List.getElem?_cons_succ, List.set_cons_zero, List.set_cons_succ, bl, truth, Option.map_some, Bool.not_true, Bool.not_false, if_true, this]
  have al2 := all_true (S := []) (xs := t)
  have ri := k_are_rising (F := F) (n := n + 1) (mu := false) (S := []) h.toStdP (l := t) (.inl rfl) (by omega) ht.ris
  have ri : call T F (n + 2) false "are_rising" [.py (eStrs t)] [] = .ok (bl true) [] := ri
  have gt : (decide ((12 : Int) < t.length)) = false := decide_eq_false (by omega)
  rw [hs]
  simp only [bl] at al2 ri
  simp only [d_is_terminal, x_cons, x_nil, x_asg, x_ret, x_exp, x_ite, x_par, x_unp, x_sub, ev_con, ev_glo, ev_loc, ev_tup, ev_lst, ev_dic, ev_bop, ev_cmp, ev_cmp2, ev_and, ev_or, ev_not, ev_ite, ev_idx, ev_call, ev_blt, ev_isi, ev_met, ev_nil, ev_cons, R.bind_ok, R.of_some, okL_some, okO_some, tt3_t, tt3_f, List.getElem?_cons_zero, List.getElem?_cons_succ, List.set_cons_zero, List.set_cons_succ, bl, truth, Option.map_some, Bool.not_true, Bool.not_false, if_true, isi_tup, show isiD [] (.py (eStrs t)) .tuple = some true from rfl, len_strs, cmpD, gt, al, al2, ri, endD]
theorem k_need_terminal (h : StdW T) {t : List Str} (ht : TermOk t) : call T F (n + 4) mu "need_terminal" [.py (eStrs t)] S = .ok (.py (eStrs t)) S := by
  have k := k_is_terminal (F := F) (n := n) (mu := false) (S := []) h ht
  refine call_py (xs := [eStrs t]) (S' := []) h.need_terminal rfl ?_
  have hs : startD d_need_terminal ([eStrs t].map .py) = [some (.py (eStrs t))] := rfl
  simp only [bl] at k
  rw [hs]
  simp only [d_need_terminal, x_cons, x_nil, x_asg, x_ret, x_exp, x_ite, x_par, x_unp, x_sub, ev_con, ev_glo, ev_loc, ev_tup, ev_lst, ev_dic, ev_bop, ev_cmp, ev_cmp2, ev_and, ev_or, ev_not, ev_ite, ev_idx, ev_call, ev_blt, ev_isi, ev_met, ev_nil, ev_cons, R.bind_ok, R.of_some, okL_some, okO_some, tt3_t, tt3_f, List.getElem?_cons_zero, List.getElem?_cons_succ, List.set_cons_zero, List.set_cons_succ, bl, truth, Option.map_some, Bool.not_true, Bool.not_false, if_true, k, endD]
end
end Sf
end
section
set_option maxRecDepth 100000
set_option maxHeartbeats 4000000
namespace Sf
open PySem PySem.Spec L2
open PyProof.Rows hiding St

/-! ### chains_by_signs -/
def d_chains_by_signs : Fn := ⟨2, 8,
  (.cons (.par [2, 3, 4] (.cons (.call false "codes_in" (.cons (.loc 0) .nil)) (.cons (.dc true (.loc 6) (.tup .nil) [6] (.one 6) (.seq (.idx (.loc 0) (.con (.int 0)))) .none) (.cons (.lst true .nil) .nil))))
  (.cons (.loop (.one 5) (.seq (.loc 1)) (.cons (.ite (.call false "is_sign" (.cons (.loc 5) .nil)) (.cons (.exp (.met false .append (.loc 4) (.cons (.lc false (.idx (.loc 3) (.loc 6)) [6] (.one 6) (.seq (.call false "shown_at" (.cons (.loc 0) (.cons (.loc 5) .nil)))) .none) .nil)))
  .nil) (.cons (.loop (.many [6, 7]) (.seq (.idx (.idx (.loc 2) (.loc 5)) (.con (.int 2)))) (.cons (.sub (.loc 3) (.loc 6) (.call false "over" (.cons (.tup (.cons (.tup (.cons (.idx (.idx (.loc 2) (.loc 5)) (.con (.int 1))) (.cons (.loc 7) .nil))) .nil)) (.cons (.idx (.loc 3) (.loc 6)) .nil))))
  .nil))
  .nil))
  .nil))
  (.cons (.ret (.loc 4))
  .nil)))⟩

structure StdS (T : Tab) : Prop extends StdW T where
  chains_by_signs : T "chains_by_signs" = some d_chains_by_signs

def tget (t : Tb) (a : Str) : Ch := match t.find? (fun p => decide (p.1 = a)) with
  | some p => p.2
  | none => []
theorem tget_mem {t : Tb} {a : Str} (h : a ∈ t.map (·.1)) : (a, tget t a) ∈ t := by
  unfold tget
  cases q : t.find? (fun p => decide (p.1 = a)) with
  | none =>
    obtain ⟨p, hp, rfl⟩ := List.mem_map.mp h
    have := List.find?_eq_none.mp q p hp
    simp at this
  | some p =>
    have h1 := List.find?_some q
    have h2 := List.mem_of_find?_eq_some q
    have h1 : p.1 = a := by simpa using h1
    rw [← h1]
    exact h2
theorem tget_eT {t : Tb} {a : Str} (h : a ∈ t.map (·.1)) : dget (eT t) a = some (.py (eChain (tget t a))) := by
  unfold dget tget eT
  rw [List.find?_map]
  have e : ((fun kv : Str × D => decide (kv.1 = a)) ∘ fun p : Str × Ch => (p.1, D.py (eChain p.2))) = fun p => decide (p.1 = a) := rfl
  rw [e]
  cases q : t.find? (fun p => decide (p.1 = a)) with
  | none =>
    obtain ⟨p, hp, rfl⟩ := List.mem_map.mp h
    have := List.find?_eq_none.mp q p hp
    simp at this
  | some p => rfl
/-- the chains that show at each sign -/
def sc (b : Book) : Tb → List Str → List (List Ch)
  | _, [] => []
  | t, x :: r => if signB x = true then ((shownAt b x).map (tget t)) :: sc b t r else sc b (stepW b t x) r
def eCs (cs : List Ch) : PyData := .list (cs.map eChain)
theorem shown_sub {b : Book} (hb : BookOk b) {x : Str} : ∀ a ∈ shownAt b x, a ∈ b.asp := by
  intro a ha
  unfold shownAt at ha
  split at ha
  · cases ha
  · split at ha
    · exact hb.shown.mem ha
    · exact ha
theorem shown_len {b : Book} (hb : BookOk b) {x : Str} : (shownAt b x).length ≤ 3 := by
  have h3 := (asps_few _ hb.asp).1
  unfold shownAt
  split
  · simp
  · split
    · exact Nat.le_trans hb.shown.length_le h3
    · exact h3
theorem item_ok {b : Book} (hb : BookOk b) {x : Str} (h : Item b x) : PyData.strOk x = true ∧ x.length < 1000000 := by
  refine ⟨?_, (h.sign hb).2⟩
  rcases h with h | h
  · exact texts_ok x (words_t x (words_mem hb x h))
  · exact texts_ok x ((by decide +kernel : ∀ x ∈ signs5, x ∈ texts) x h)
theorem ov_one {k v : Str} {c : Ch} : ov [(k, v)] c = onTop k v c := by
  unfold ov onTop
  rw [List.singleton_append]
  congr 1
  refine List.filter_congr fun q _ => ?_
  simp
section
variable {T : Tab} {F n : Nat} {mu : Bool} {S : Store}
def rowC (b : Book) (el : PyData) (x5 x6 x7 : Option D) : Rho := [some (.py (eBook b)), some (.py el), some (.py (eTab b)), some (.ref 0), some (.ref 1), x5, x6, x7]
def overB : CSs := .cons (.sub (.loc 3) (.loc 6) (.call false "over" (.cons (.tup (.cons (.tup (.cons (.idx (.idx (.loc 2) (.loc 5)) (.con (.int 1))) (.cons (.loc 7) .nil))) .nil)) (.cons (.idx (.loc 3) (.loc 6)) .nil)))) .nil
theorem lp_over (h : StdS T) {b : Book} {el : PyData} {x : Str} {c : Code} {ob : Ob} (hb : BookOk b) (hx : codeOf b x = some c) (hk : c.kind ∈ kinds3) {ok : Store → Bool} (hok : ∀ S, ok S = true) : ∀ (gs : Ch) (t : Tb) (x6 x7 : Option D), TbOk b.asp t → (∀ g ∈ gs, g.1 ∈ b.asp ∧ g.2 ∈ vals3) →
    ∃ y6 y7, loopF ok (fun x r1 S2 => match bindT (.many [6, 7]) x r1 with
      | some r2 => exSs (call T F (n + 1)) F overB r2 S2
      | none => .bad) ((gs.map ePair).map .py) (rowC b el (some (.py (.str x))) x6 x7) [.dS (eT t), ob] = .ok (.nx (rowC b el (some (.py (.str x))) y6 y7)) [.dS (eT (gs.foldl (upd1 c.kind) t)), ob]
  | [], t, x6, x7, _, _ => ⟨x6, x7, rfl⟩
  | g :: gs, t, x6, x7, ht, hg => by
    have hg0 := hg g List.mem_cons_self
    have ht2 := ht.upd (g := g) hk hg0.2
    obtain ⟨y6, y7, ih⟩ := lp_over h (el := el) (ob := ob) hb hx hk hok gs (upd1 c.kind t g) (some (.py (.str g.1))) (some (.py (.str g.2))) ht2 fun z hz => hg z (List.mem_cons_of_mem _ hz)
    refine ⟨y6, y7, ?_⟩
    have bt : bindT (.many [6, 7]) (.py (ePair g)) (rowC b el (some (.py (.str x))) x6 x7) = some (rowC b el (some (.py (.str x))) (some (.py (.str g.1))) (some (.py (.str g.2)))) := rfl
    have ka : g.1 ∈ t.map (·.1) := by rw [ht.keys]; exact hg0.1
    have tm := tget_mem ka
    have cl := (ht.ch _ tm).len
    have cl : (tget t g.1).length ≤ 3 := cl
    have i1 : idxD [.dS (eT t), ob] (.py (eTab b)) (.py (.str x)) = some (.py (eCode c)) := tab_get hx
    have i2 : idxD [.dS (eT t), ob] (.py (eCode c)) (.py (.int 1)) = some (.py (.str c.kind)) := rfl
    have i3 : idxD [.dS (eT t), ob] (.ref 0) (.py (.str g.1)) = some (.py (eChain (tget t g.1))) := tget_eT ka
    have ov := k_over (F := F) (n := n) (mu := false) (S := [.dS (eT t), ob]) h.toStdW (d := [(c.kind, g.2)]) (e := tget t g.1) (by simp) (by omega)
    rw [ov_one] at ov
    have ov : call T F (n + 1) false "over" [.py (.tuple [.tuple [.str c.kind, .str g.2]]), .py (eChain (tget t g.1))] [.dS (eT t), ob] = .ok (.py (eChain (onTop c.kind g.2 (tget t g.1)))) [.dS (eT t), ob] := ov
    have el3 : (eT t).length < 1000000 := by
      have := (asps_few _ hb.asp).1
      rw [← ht.keys, List.length_map] at this
      unfold eT
      rw [List.length_map]
      omega
    have pt : putD (.ref 0) (.py (.str g.1)) (.py (eChain (onTop c.kind g.2 (tget t g.1)))) [.dS (eT t), ob] = some [.dS (eT (upd1 c.kind t g)), ob] := by
      show (if fits (eT t).length then some ([Ob.dS (eT t), ob].set 0 (.dS (dput (eT t) g.1 (.py (eChain (onTop c.kind g.2 (tget t g.1))))))) else none) = _
      rw [if_pos (fits_of el3), eT_put (by rw [ht.keys]; exact asps_nd _ hb.asp) tm]
      rfl
    have run : exSs (call T F (n + 1)) F overB (rowC b el (some (.py (.str x))) (some (.py (.str g.1))) (some (.py (.str g.2)))) [.dS (eT t), ob] = .ok (.nx (rowC b el (some (.py (.str x))) (some (.py (.str g.1))) (some (.py (.str g.2))))) [.dS (eT (upd1 c.kind t g)), ob] := by
      simp only [overB, rowC, x_cons, x_nil, x_asg, x_ret, x_exp, x_ite, x_par, x_unp, x_sub, ev_con, ev_glo, ev_loc, ev_tup, ev_lst, ev_dic, ev_bop, ev_cmp, ev_cmp2, ev_and, ev_or, ev_not, ev_ite, ev_idx, ev_call, ev_blt, ev_isi, ev_met, ev_nil, ev_cons, R.bind_ok, R.of_some, okL_some, okO_some, tt3_t, tt3_f, List.getElem?_cons_zero, List.getElem?_cons_succ, List.set_cons_zero, List.set_cons_succ, bl, truth, Option.map_some, Bool.not_true, Bool.not_false, if_true, i1, i2, i3, mkT2, mkT1, ov, pt]
    simp only [List.map_cons, loopF, bt, run, R.bind_ok, hok, if_true, List.foldl_cons]
    exact ih
def cbsB : CSs := .cons (.ite (.call false "is_sign" (.cons (.loc 5) .nil)) (.cons (.exp (.met false .append (.loc 4) (.cons (.lc false (.idx (.loc 3) (.loc 6)) [6] (.one 6) (.seq (.call false "shown_at" (.cons (.loc 0) (.cons (.loc 5) .nil)))) .none) .nil))) .nil)
  (.cons (.loop (.many [6, 7]) (.seq (.idx (.idx (.loc 2) (.loc 5)) (.con (.int 2)))) overB) .nil)) .nil
theorem lp_cbs (h : StdS T) {b : Book} {el : PyData} (hb : BookOk b) {ok : Store → Bool} (hok : ∀ S, ok S = true) : ∀ (l : List Str) (t : Tb) (fd : List PyData) (x5 x6 x7 : Option D), TbOk b.asp t → (∀ x ∈ l, Item b x) → fd.length + l.length < 1000 →
    ∃ y5 y6 y7 t', loopF ok (fun x r1 S2 => match bindT (.one 5) x r1 with
      | some r2 => exSs (call T F (n + 1)) F cbsB r2 S2
      | none => .bad) ((l.map .str).map .py) (rowC b el x5 x6 x7) [.dS (eT t), .lst (fd.map .py)] = .ok (.nx (rowC b el y5 y6 y7)) [.dS (eT t'), .lst ((fd ++ (sc b t l).map eCs).map .py)]
  | [], t, fd, x5, x6, x7, _, _, _ => ⟨x5, x6, x7, t, by simp [sc, loopF]⟩
  | x :: l, t, fd, x5, x6, x7, ht, hl, hn => by
    have hx := hl x List.mem_cons_self
    obtain ⟨ox, lx⟩ := item_ok hb hx
    have bt : bindT (.one 5) (.py (.str x)) (rowC b el x5 x6 x7) = some (rowC b el (some (.py (.str x))) x6 x7) := rfl
    have ks := k_is_sign (F := F) (n := n) (mu := false) (S := [.dS (eT t), .lst (fd.map .py)]) h.toStdP lx
    cases q : signB x with
    | true =>
      rw [q] at ks
      obtain ⟨y5, y6, y7, t', ih⟩ := lp_cbs h (el := el) hb hok l t (fd ++ [eCs ((shownAt b x).map (tget t))]) (some (.py (.str x))) x6 x7 ht (fun z hz => hl z (List.mem_cons_of_mem _ hz)) (by simp at hn ⊢; omega)
      refine ⟨y5, y6, y7, t', ?_⟩
      have sa := k_shown_at (F := F) (n := n) (mu := false) (S := [.dS (eT t), .lst (fd.map .py)]) h.toStdW (b := b) ox
      have hi : evI (call T F (n + 1)) (.seq (.call false "shown_at" (.cons (.loc 0) (.cons (.loc 5) .nil)))) (rowC b el (some (.py (.str x))) x6 x7) [.dS (eT t), .lst (fd.map .py)] = .ok ⟨((shownAt b x).map .str).map .py, none⟩ [.dS (eT t), .lst (fd.map .py)] := by
        refine src_tup (xs := (shownAt b x).map .str) ?_
        simp only [rowC, x_cons, x_nil, x_asg, x_ret, x_exp, x_ite, x_par, x_unp, x_sub, ev_con, ev_glo, ev_loc, ev_tup, ev_lst, ev_dic, ev_bop, ev_cmp, ev_cmp2, ev_and, ev_or, ev_not, ev_ite, ev_idx, ev_call, ev_blt, ev_isi, ev_met, ev_nil, ev_cons, R.bind_ok, R.of_some, okL_some, okO_some, tt3_t, tt3_f, List.getElem?_cons_zero, List.getElem?_cons_succ, List.set_cons_zero, List.set_cons_succ, bl, truth, Option.map_some, Bool.not_true, Bool.not_false, if_true, sa]
        rfl
      have lc : evE (call T F (n + 1)) (.lc false (.idx (.loc 3) (.loc 6)) [6] (.one 6) (.seq (.call false "shown_at" (.cons (.loc 0) (.cons (.loc 5) .nil)))) .none) (rowC b el (some (.py (.str x))) x6 x7) [.dS (eT t), .lst (fd.map .py)] = .ok (.py (eCs ((shownAt b x).map (tget t)))) [.dS (eT t), .lst (fd.map .py)] := by
        rw [lcM (xs := shownAt b x) .str (fun a => eChain (tget t a)) hi (fun a ha => ?_), mkL (by rw [List.length_map]; have := shown_len hb (x := x); omega)]
        · rw [eCs, List.map_map]
          rfl
        · have i3 : idxD [.dS (eT t), .lst (fd.map .py)] (.ref 0) (.py (.str a)) = some (.py (eChain (tget t a))) := tget_eT (by rw [ht.keys]; exact shown_sub hb a ha)
          simp only [turnC, bindT, wipeD, evC, rowC, x_cons, x_nil, x_asg, x_ret, x_exp, x_ite, x_par, x_unp, x_sub, ev_con, ev_glo, ev_loc, ev_tup, ev_lst, ev_dic, ev_bop, ev_cmp, ev_cmp2, ev_and, ev_or, ev_not, ev_ite, ev_idx, ev_call, ev_blt, ev_isi, ev_met, ev_nil, ev_cons, R.bind_ok, R.of_some, okL_some, okO_some, tt3_t, tt3_f, List.getElem?_cons_zero, List.getElem?_cons_succ, List.set_cons_zero, List.set_cons_succ, bl, truth, Option.map_some, Bool.not_true, Bool.not_false, if_true, i3]
      have rv : recv .append [.dS (eT t), .lst (fd.map .py)] (.ref 1) = true := rfl
      have mt : metD false .append (.ref 1) [.py (eCs ((shownAt b x).map (tget t)))] [.dS (eT t), .lst (fd.map .py)] = .ok (.py .none) [.dS (eT t), .lst ((fd ++ [eCs ((shownAt b x).map (tget t))]).map .py)] := by
        show (if fits (fd.map D.py).length then R.ok (D.py .none) ([Ob.dS (eT t), .lst (fd.map .py)].set 1 (.lst (fd.map D.py ++ [D.py (eCs ((shownAt b x).map (tget t)))]))) else .bad) = _
        rw [if_pos (fits_of (by rw [List.length_map]; omega)), List.map_append]
        rfl
      simp only [rowC] at lc
      simp only [bl] at ks
      have run : exSs (call T F (n + 1)) F cbsB (rowC b el (some (.py (.str x))) x6 x7) [.dS (eT t), .lst (fd.map .py)] = .ok (.nx (rowC b el (some (.py (.str x))) x6 x7)) [.dS (eT t), .lst ((fd ++ [eCs ((shownAt b x).map (tget t))]).map .py)] := by
        simp only [cbsB, rowC, x_cons, x_nil, x_asg, x_ret, x_exp, x_ite, x_par, x_unp, x_sub, ev_con, ev_glo, ev_loc, ev_tup, ev_lst, ev_dic, ev_bop, ev_cmp, ev_cmp2, ev_and, ev_or, ev_not, ev_ite, ev_idx, ev_call, ev_blt, ev_isi, ev_met, ev_nil, ev_cons, R.bind_ok, R.of_some, okL_some, okO_some, tt3_t, tt3_f, List.getElem?_cons_zero, List.getElem?_cons_succ, List.set_cons_zero, List.set_cons_succ, bl, truth, Option.map_some, Bool.not_true, Bool.not_false, if_true, ks, lc, rv, mt]
      simp only [List.map_cons, loopF, bt, run, R.bind_ok, hok, if_true]
      rw [ih]
      simp [sc, q]
    | false =>
      rw [q] at ks
      have hw : x ∈ b.words := by
        rcases hx with z | z
        · exact z
        · rw [(signs_sign x z).1] at q; cases q
      obtain ⟨c, hc, hcw, cx⟩ := code_of hw
      have cok := hb.codes c hc
      have hg : ∀ g ∈ c.gives, g.1 ∈ b.asp ∧ g.2 ∈ vals3 := fun g hg => ⟨cok.keys.mem (List.mem_map.mpr ⟨g, hg, rfl⟩), cok.vals g hg⟩
      have st : stepW b t x = c.gives.foldl (upd1 c.kind) t := by unfold stepW; rw [cx]
      obtain ⟨z6, z7, e1⟩ := lp_over (F := F) (n := n) h (el := el) (ob := .lst (fd.map .py)) hb cx cok.kind (ok := (⟨(c.gives.map ePair).map .py, none⟩ : Src).stands) (fun _ => rfl) c.gives t x6 x7 ht hg
      obtain ⟨y5, y6, y7, t', ih⟩ := lp_cbs h (el := el) hb hok l (stepW b t x) fd (some (.py (.str x))) z6 z7 (step_ok hb ht) (fun z hz => hl z (List.mem_cons_of_mem _ hz)) (by simp at hn ⊢; omega)
      refine ⟨y5, y6, y7, t', ?_⟩
      have i1 : idxD [.dS (eT t), .lst (fd.map .py)] (.py (eTab b)) (.py (.str x)) = some (.py (eCode c)) := tab_get cx
      have i2 : idxD [.dS (eT t), .lst (fd.map .py)] (.py (eCode c)) (.py (.int 2)) = some (.py (eChain c.gives)) := rfl
      have s1 : exS (call T F (n + 1)) F (.loop (.many [6, 7]) (.seq (.idx (.idx (.loc 2) (.loc 5)) (.con (.int 2)))) overB) (rowC b el (some (.py (.str x))) x6 x7) [.dS (eT t), .lst (fd.map .py)] = .ok (.nx (rowC b el (some (.py (.str x))) z6 z7)) [.dS (eT (stepW b t x)), .lst (fd.map .py)] := by
        have e0 : evE (call T F (n + 1)) (.idx (.idx (.loc 2) (.loc 5)) (.con (.int 2))) (rowC b el (some (.py (.str x))) x6 x7) [.dS (eT t), .lst (fd.map .py)] = .ok (.py (.tuple (c.gives.map ePair))) [.dS (eT t), .lst (fd.map .py)] := by
          simp only [rowC, x_cons, x_nil, x_asg, x_ret, x_exp, x_ite, x_par, x_unp, x_sub, ev_con, ev_glo, ev_loc, ev_tup, ev_lst, ev_dic, ev_bop, ev_cmp, ev_cmp2, ev_and, ev_or, ev_not, ev_ite, ev_idx, ev_call, ev_blt, ev_isi, ev_met, ev_nil, ev_cons, R.bind_ok, R.of_some, okL_some, okO_some, tt3_t, tt3_f, List.getElem?_cons_zero, List.getElem?_cons_succ, List.set_cons_zero, List.set_cons_succ, bl, truth, Option.map_some, Bool.not_true, Bool.not_false, if_true, i1, i2]
          rfl
        rw [x_loop, src_tup e0, R.bind_ok, st]
        exact e1
      simp only [bl] at ks
      simp only [rowC] at s1
      have run : exSs (call T F (n + 1)) F cbsB (rowC b el (some (.py (.str x))) x6 x7) [.dS (eT t), .lst (fd.map .py)] = .ok (.nx (rowC b el (some (.py (.str x))) z6 z7)) [.dS (eT (stepW b t x)), .lst (fd.map .py)] := by
        simp only [cbsB, rowC, x_cons, x_nil, x_asg, x_ret, x_exp, x_ite, x_par, x_unp, x_sub, ev_con, ev_glo, ev_loc, ev_tup, ev_lst, ev_dic, ev_bop, ev_cmp, ev_cmp2, ev_and, ev_or, ev_not, ev_ite, ev_idx, ev_call, ev_blt, ev_isi, ev_met, ev_nil, ev_cons, R.bind_ok, R.of_some, okL_some, okO_some, tt3_t, tt3_f, List.getElem?_cons_zero, List.getElem?_cons_succ, List.set_cons_zero, List.set_cons_succ, bl, truth, Option.map_some, Bool.not_true, Bool.not_false, if_true, ks, s1]
      simp only [List.map_cons, loopF, bt, run, R.bind_ok, hok, if_true]
      rw [ih]
      simp [sc, q]
theorem k_cbs (h : StdS T) {b : Book} (hb : BookOk b) {l : List Str} (hl : ∀ x ∈ l, Item b x) (h2 : l.length < 1000) : call T F (n + 2) false "chains_by_signs" [.py (eBook b), .py (eStrs l)] S = .ok (.py (.list ((sc b (tb0 b) l).map eCs))) S := by
  obtain ⟨y5, y6, y7, t', e⟩ := lp_cbs (F := F) (n := n) h (el := eStrs l) hb (ok := (⟨(l.map .str).map .py, none⟩ : Src).stands) (fun _ => rfl) l (tb0 b) [] none none none tb0_ok hl (by simpa using h2)
  have cd := k_codes_in (F := F) (n := n) (mu := false) (S := []) h.toStdP hb
  have hbl : d_chains_by_signs.body = .cons (.par [2, 3, 4] (.cons (.call false "codes_in" (.cons (.loc 0) .nil)) (.cons (.dc true (.loc 6) (.tup .nil) [6] (.one 6) (.seq (.idx (.loc 0) (.con (.int 0)))) .none) (.cons (.lst true .nil) .nil)))) (.cons (.loop (.one 5) (.seq (.loc 1)) cbsB) (.cons (.ret (.loc 4)) .nil)) := rfl
  have hs : startD d_chains_by_signs ([eBook b, eStrs l].map .py) = [some (.py (eBook b)), some (.py (eStrs l)), none, none, none, none, none, none] := rfl
  have nd := asps_nd _ hb.asp
  have l3 := (asps_few _ hb.asp).1
  have dc : evE (call T F (n + 1)) (.dc true (.loc 6) (.tup .nil) [6] (.one 6) (.seq (.idx (.loc 0) (.con (.int 0)))) .none) [some (.py (eBook b)), some (.py (eStrs l)), none, none, none, none, none, none] [] = .ok (.ref 0) [.dS (eT (tb0 b))] := by
    have e0 : evE (call T F (n + 1)) (.idx (.loc 0) (.con (.int 0))) [some (.py (eBook b)), some (.py (eStrs l)), none, none, none, none, none, none] [] = .ok (.py (.tuple (b.asp.map .str))) [] := ev_at (k := 0) rfl rfl
    refine (ev_dc1 (mu := true) (ck := .loc 6) (cv := .tup .nil) (i := 6) (xs := b.asp) PyData.str id (fun _ => .tuple []) (src_tup e0) (by omega) (by simpa using nd) (fun c hc => rfl) (fun c hc => rfl)).trans ?_
    unfold mkDS
    rw [if_pos (fits_of (by rw [List.length_map]; omega))]
    simp [eT, tb0, eChain, Function.comp_def]
  refine call_ref (xs := [eBook b, eStrs l]) (k := 1) (S' := [.dS (eT t'), .lst (((sc b (tb0 b) l).map eCs).map .py)]) h.chains_by_signs rfl ?_ ?_
  · have s2 : exS (call T F (n + 1)) F (.loop (.one 5) (.seq (.loc 1)) cbsB) (rowC b (eStrs l) none none none) [.dS (eT (tb0 b)), .lst []] = .ok (.nx (rowC b (eStrs l) y5 y6 y7)) [.dS (eT t'), .lst (((sc b (tb0 b) l).map eCs).map .py)] := by
      rw [x_loop, src_tup (xs := l.map .str) rfl, R.bind_ok]
      exact e
    have sa : setAll [2, 3, 4] [D.py (eTab b), .ref 0, .ref 1] [some (.py (eBook b)), some (.py (eStrs l)), none, none, none, none, none, none] = some (rowC b (eStrs l) none none none) := rfl
    have ml : mkLst true [] [.dS (eT (tb0 b))] = .ok (.ref 1) [.dS (eT (tb0 b)), .lst []] := rfl
    rw [hs, hbl]
    simp only [x_cons, x_nil, x_asg, x_ret, x_exp, x_ite, x_par, x_unp, x_sub, ev_con, ev_glo, ev_loc, ev_tup, ev_lst, ev_dic, ev_bop, ev_cmp, ev_cmp2, ev_and, ev_or, ev_not, ev_ite, ev_idx, ev_call, ev_blt, ev_isi, ev_met, ev_nil, ev_cons, R.bind_ok, R.of_some, okL_some, okO_some, tt3_t, tt3_f, List.getElem?_cons_zero, List.getElem?_cons_succ, List.set_cons_zero, List.set_cons_succ, bl, truth, Option.map_some, Bool.not_true, Bool.not_false, if_true, cd, dc, ml, sa, s2]
    rfl
  · show (pys (((sc b (tb0 b) l).map eCs).map .py)).map PyData.list = _
    rw [pys_py]
    rfl
end
end Sf
end
section
set_option maxRecDepth 100000
set_option maxHeartbeats 4000000
namespace Sf
open PySem PySem.Spec L2
open PyProof.Rows hiding St

/-! ### numbers of a list, hangs -/
def d_hangs : Fn := ⟨3, 7,
  (.cons (.exp (.call false "need_stream" (.cons (.loc 0) (.cons (.loc 1) .nil))))
  (.cons (.exp (.call false "need_terminal" (.cons (.loc 2) .nil)))
  (.cons (.asg 3 (.call false "chains_by_signs" (.cons (.loc 0) (.cons (.loc 1) .nil))))
  (.cons (.ret (.lc true (.loc 4) [4, 5] (.many [4, 5]) (.enu (.loc 3)) (.some (.blt false .any (.cons (.lc false (.cmp .is (.call false "worth_in" (.cons (.loc 6) (.cons (.loc 2) .nil))) (.con .none)) [6] (.one 6) (.seq (.loc 5)) .none) .nil)))))
  .nil))))⟩

structure StdG (T : Tab) : Prop extends StdS T where
  hangs : T "hangs" = some d_hangs

  need_stream : T "need_stream" = some d_need_stream
theorem enumD_zip : ∀ (l : List PyData) (n : Nat), enumD n l = ((l.zipIdx n).map fun p => PyData.tuple [.int p.2, p.1]).map .py
  | [], _ => rfl
  | d :: l, n => by simp only [enumD, List.zipIdx_cons, List.map_cons, enumD_zip l (n + 1)]
theorem enumD_map {A : Type} (e : A → PyData) (xs : List A) : enumD 0 (xs.map e) = ((xs.zipIdx).map fun p => PyData.tuple [.int p.2, e p.1]).map .py := by
  rw [enumD_zip, List.zipIdx_map, List.map_map, List.map_map, List.map_map]
  rfl
def eNs (l : List Nat) : PyData := .list (l.map fun k : Nat => .int k)
/-- the signs, each with the table there -/
def sg (b : Book) : Tb → List Str → List (Str × Tb)
  | _, [] => []
  | t, x :: r => if signB x = true then (x, t) :: sg b t r else sg b (stepW b t x) r
theorem sc_sg {b : Book} : ∀ {l : List Str} {t : Tb}, sc b t l = (sg b t l).map fun p => (shownAt b p.1).map (tget p.2)
  | [], _ => rfl
  | x :: l, t => by
    unfold sc sg
    split
    · rw [List.map_cons, sc_sg]
    · exact sc_sg
theorem sg_ok {b : Book} (hb : BookOk b) : ∀ {l : List Str} {t : Tb}, TbOk b.asp t → (∀ x ∈ l, Item b x) → ∀ p ∈ sg b t l, TbOk b.asp p.2 ∧ p.1 ∈ signs5
  | [], _, _, _, _, h => nomatch h
  | x :: l, t, ht, hl, p, h => by
    unfold sg at h
    split at h
    · rename_i q
      rcases List.mem_cons.mp h with z | z
      · rw [z]
        refine ⟨ht, ?_⟩
        rcases hl x List.mem_cons_self with w | w
        · rw [(words_sign x (words_mem hb x w)).1] at q; cases q
        · exact w
      · exact sg_ok hb ht (fun z hz => hl z (List.mem_cons_of_mem _ hz)) p z
    · exact sg_ok hb (step_ok hb ht) (fun z hz => hl z (List.mem_cons_of_mem _ hz)) p h
theorem sg_len {b : Book} : ∀ {l : List Str} {t : Tb}, (sg b t l).length ≤ l.length
  | [], _ => Nat.le_refl _
  | x :: l, t => by
    unfold sg
    split
    · have := sg_len (b := b) (l := l) (t := t)
      simp only [List.length_cons]; omega
    · have := sg_len (b := b) (l := l) (t := stepW b t x)
      simp only [List.length_cons]; omega
/-- whether a sign hangs -/
def hangP (b : Book) (t : List Str) (p : Str × Tb) : Bool := (shownAt b p.1).any fun a => (worth (tget p.2 a) t).isNone
def hangN (b : Book) (t : List Str) (l : List Str) : List Nat := ((sg b (tb0 b) l).zipIdx.filter fun p => hangP b t p.1).map (·.2)
section
variable {T : Tab} {F n : Nat} {mu : Bool} {S : Store}
theorem any_map {A : Type} {xs : List A} {g : A → Bool} : bltD false .any [.py (.list (xs.map fun x => .bool (g x)))] S = .ok (bl (xs.any g)) S := by
  have e : ((xs.map fun x => PyData.bool (g x)).map D.py) = xs.map fun x => D.py (.bool (g x)) := by rw [List.map_map]; rfl
  show (match blsD ((xs.map fun x => PyData.bool (g x)).map D.py) with
    | some bs => R.ok (bl (bs.any id)) S
    | none => .bad) = _
  rw [e, bls_map]
  simp [Function.comp_def]
theorem is_none {o : Option Str} : cmpD S .is (.py (eO o)) (.py .none) = some o.isNone := by cases o <;> rfl
/-- what hangs leaves in its own store -/
theorem run_hangs (h : StdG T) (hn : StdP T) {b : Book} (hb : BookOk b) {l t : List Str} (hl : ∀ x ∈ l, Item b x) (h2 : l.length ≤ 200) (ht : TermOk t) : (exSs (call T F (n + 7)) F d_hangs.body (startD d_hangs [.py (eBook b), .py (eStrs l), .py (eStrs t)]) []).bind endD = .ok (.ref 0) [.lst (((hangN b t l).map fun k : Nat => PyData.int k).map .py)] := by
  have hs : startD d_hangs [.py (eBook b), .py (eStrs l), .py (eStrs t)] = [some (.py (eBook b)), some (.py (eStrs l)), some (.py (eStrs t)), none, none, none, none] := rfl
  have e1 := k_need_streamP (F := F) (n := n) (mu := false) (S := []) hn h.need_stream hb hl h2
  have e2 := k_need_terminal (F := F) (n := n + 3) (mu := false) (S := []) h.toStdW ht
  have e3 := k_cbs (F := F) (n := n + 5) (S := []) h.toStdS hb hl (by omega)
  have lg := sg_len (b := b) (l := l) (t := tb0 b)
  rw [sc_sg, List.map_map] at e3
  have lc : ∀ y4 y5 y6, evE (call T F (n + 7)) (.lc true (.loc 4) [4, 5] (.many [4, 5]) (.enu (.loc 3)) (.some (.blt false .any (.cons (.lc false (.cmp .is (.call false "worth_in" (.cons (.loc 6) (.cons (.loc 2) .nil))) (.con .none)) [6] (.one 6) (.seq (.loc 5)) .none) .nil)))) [some (.py (eBook b)), some (.py (eStrs l)), some (.py (eStrs t)), some (.py (.list ((sg b (tb0 b) l).map (eCs ∘ fun p => (shownAt b p.1).map (tget p.2))))), y4, y5, y6] [] = .ok (.ref 0) [.lst (((hangN b t l).map fun k : Nat => PyData.int k).map .py)] := by
    intro y4 y5 y6
    have hi : evI (call T F (n + 7)) (.enu (.loc 3)) [some (.py (eBook b)), some (.py (eStrs l)), some (.py (eStrs t)), some (.py (.list ((sg b (tb0 b) l).map (eCs ∘ fun p => (shownAt b p.1).map (tget p.2))))), y4, y5, y6] [] = .ok ⟨(((sg b (tb0 b) l).zipIdx).map fun p => PyData.tuple [.int p.2, (eCs ∘ fun p => (shownAt b p.1).map (tget p.2)) p.1]).map .py, none⟩ [] := by
      rw [← enumD_map]
      rfl
    rw [lcF (xs := (sg b (tb0 b) l).zipIdx) (fun p => PyData.tuple [.int p.2, (eCs ∘ fun p => (shownAt b p.1).map (tget p.2)) p.1]) (fun p => .int p.2) (fun p => hangP b t p.1) hi]
    · rw [mkLt]
      · simp [hangN, Function.comp_def]
      · have := List.length_filter_le (fun p => hangP b t p.1) (sg b (tb0 b) l).zipIdx
        rw [List.length_zipIdx] at this
        rw [List.length_map]
        omega
    · intro p hp
      have il : ∀ y4 y6, evE (call T F (n + 7)) (.lc false (.cmp .is (.call false "worth_in" (.cons (.loc 6) (.cons (.loc 2) .nil))) (.con .none)) [6] (.one 6) (.seq (.loc 5)) .none) [some (.py (eBook b)), some (.py (eStrs l)), some (.py (eStrs t)), some (.py (.list ((sg b (tb0 b) l).map (eCs ∘ fun p => (shownAt b p.1).map (tget p.2))))), y4, some (.py (eCs ((shownAt b p.1.1).map (tget p.1.2)))), y6] [] = .ok (.py (.list (((shownAt b p.1.1).map (tget p.1.2)).map fun c => .bool (worth c t).isNone))) [] := by
        intro y4 y6
        rw [lcM (xs := (shownAt b p.1.1).map (tget p.1.2)) eChain (fun c => .bool (worth c t).isNone) (src_list rfl) (fun c _ => ?_), mkL (by rw [List.length_map, List.length_map]; have := shown_len hb (x := p.1.1); omega)]
        have w := k_worth_in (F := F) (n := n + 6) (mu := false) (S := []) h.toStdW (c := c) (t := t)
        simp only [turnC, bindT, wipeD, evC, x_cons, x_nil, x_asg, x_ret, x_exp, x_ite, x_par, x_unp, x_sub, ev_con, ev_glo, ev_loc, ev_tup, ev_lst, ev_dic, ev_bop, ev_cmp, ev_cmp2, ev_and, ev_or, ev_not, ev_ite, ev_idx, ev_call, ev_blt, ev_isi, ev_met, ev_nil, ev_cons, R.bind_ok, R.of_some, okL_some, okO_some, tt3_t, tt3_f, List.getElem?_cons_zero, List.getElem?_cons_succ, List.set_cons_zero, List.set_cons_succ, bl, truth, Option.map_some, Bool.not_true, Bool.not_false, if_true, w, is_none]
      have am := any_map (S := []) (xs := (shownAt b p.1.1).map (tget p.1.2)) (g := fun c => (worth c t).isNone)
      have bt : bindT (.many [4, 5]) (.py (PyData.tuple [.int p.2, (eCs ∘ fun p => (shownAt b p.1).map (tget p.2)) p.1])) (wipeD [some (.py (eBook b)), some (.py (eStrs l)), some (.py (eStrs t)), some (.py (.list ((sg b (tb0 b) l).map (eCs ∘ fun p => (shownAt b p.1).map (tget p.2))))), y4, y5, y6] [4, 5]) = some [some (.py (eBook b)), some (.py (eStrs l)), some (.py (eStrs t)), some (.py (.list ((sg b (tb0 b) l).map (eCs ∘ fun p => (shownAt b p.1).map (tget p.2))))), some (.py (.int p.2)), some (.py (eCs ((shownAt b p.1.1).map (tget p.1.2)))), y6] := rfl
      have ha : ((shownAt b p.1.1).map (tget p.1.2)).any (fun c => (worth c t).isNone) = hangP b t p.1 := by
        rw [List.any_map]
        rfl
      rw [ha] at am
      simp only [bl] at am
      simp only [turnC]
      rw [bt]
      simp only [evC, x_cons, x_nil, x_asg, x_ret, x_exp, x_ite, x_par, x_unp, x_sub, ev_con, ev_glo, ev_loc, ev_tup, ev_lst, ev_dic, ev_bop, ev_cmp, ev_cmp2, ev_and, ev_or, ev_not, ev_ite, ev_idx, ev_call, ev_blt, ev_isi, ev_met, ev_nil, ev_cons, R.bind_ok, R.of_some, okL_some, okO_some, tt3_t, tt3_f, List.getElem?_cons_zero, List.getElem?_cons_succ, List.set_cons_zero, List.set_cons_succ, bl, truth, Option.map_some, Bool.not_true, Bool.not_false, if_true, il, am]
      cases hangP b t p.1 <;> rfl
  rw [hs]
  simp only [d_hangs, x_cons, x_nil, x_asg, x_ret, x_exp, x_ite, x_par, x_unp, x_sub, ev_con, ev_glo, ev_loc, ev_tup, ev_lst, ev_dic, ev_bop, ev_cmp, ev_cmp2, ev_and, ev_or, ev_not, ev_ite, ev_idx, ev_call, ev_blt, ev_isi, ev_met, ev_nil, ev_cons, R.bind_ok, R.of_some, okL_some, okO_some, tt3_t, tt3_f, List.getElem?_cons_zero, List.getElem?_cons_succ, List.set_cons_zero, List.set_cons_succ, bl, truth, Option.map_some, Bool.not_true, Bool.not_false, if_true, e1, e2, e3, lc, endD]
theorem k_hangs (h : StdG T) {b : Book} (hb : BookOk b) {l t : List Str} (hl : ∀ x ∈ l, Item b x) (h2 : l.length ≤ 200) (ht : TermOk t) : call T F (n + 8) false "hangs" [.py (eBook b), .py (eStrs l), .py (eStrs t)] S = .ok (.py (eNs (hangN b t l))) S := by
  refine call_ref (xs := [eBook b, eStrs l, eStrs t]) (k := 0) h.hangs rfl (run_hangs h h.toStdP hb hl h2 ht) ?_
  show (pys (((hangN b t l).map fun k : Nat => PyData.int k).map .py)).map PyData.list = _
  rw [pys_py]
  rfl
theorem k_hangsM (h : StdG T) {b : Book} (hb : BookOk b) {l t : List Str} (hl : ∀ x ∈ l, Item b x) (h2 : l.length ≤ 200) (ht : TermOk t) : call T F (n + 8) true "hangs" [.py (eBook b), .py (eStrs l), .py (eStrs t)] S = .ok (.ref S.length) (S ++ [.lst (((hangN b t l).map fun k : Nat => PyData.int k).map .py)]) := by
  have h1 : [D.py (eBook b), .py (eStrs l), .py (eStrs t)].all isPy = true := rfl
  rw [call]
  simp only [h1, if_true, runF, h.hangs]
  rw [if_pos (show [D.py (eBook b), .py (eStrs l), .py (eStrs t)].length = d_hangs.ps from rfl), run_hangs h h.toStdP hb hl h2 ht]
  simp only [R.bind_ok, endP, if_true, List.getElem?_cons_zero, pys_py]
end
end Sf
end
section
set_option maxRecDepth 100000
set_option maxHeartbeats 4000000
namespace Sf
open PySem PySem.Spec L2
open PyProof.Rows hiding St

/-! ### the laws' own look -/
def d__law_seen : Fn := ⟨4, 12,
  (.cons (.par [4, 5, 6] (.cons (.call false "_law_codes" (.cons (.loc 0) .nil)) (.cons (.blt false .dict (.cons (.loc 3) .nil)) (.cons (.lst true .nil) .nil))))
  (.cons (.loop (.one 7) (.seq (.loc 1)) (.cons (.ite (.cmp .isin (.loc 7) (.loc 4)) (.cons (.unp [8, 9] (.idx (.loc 4) (.loc 7)))
  (.cons (.ite (.cmp .isin (.loc 8) (.loc 2)) (.cons (.asg 5 (.blt false .dict (.cons (.bop false .add (.blt false .list (.cons (.met false .items (.loc 5) .nil) .nil)) (.blt false .list (.cons (.loc 9) .nil))) .nil)))
  .nil) .nil)
  .nil)) (.cons (.ite (.cmp .eq (.loc 7) (.con (.str "\n"))) (.cons (.exp (.met false .append (.loc 6) (.cons (.tup (.cons (.loc 7) (.cons (.tup .nil) .nil))) .nil)))
  .nil) (.cons (.asg 10 (.ite (.cmp .eq (.loc 7) (.con (.str " "))) (.idx (.loc 0) (.con (.int 1))) (.idx (.loc 0) (.con (.int 0)))))
  (.cons (.exp (.met false .append (.loc 6) (.cons (.tup (.cons (.loc 7) (.cons (.blt false .tuple (.cons (.lc false (.idx (.loc 5) (.loc 11)) [11] (.one 11) (.seq (.loc 10)) .none) .nil)) .nil))) .nil)))
  .nil)))
  .nil))
  .nil))
  (.cons (.ret (.blt false .tuple (.cons (.loc 6) .nil)))
  .nil)))⟩
def d__law_entry : Fn := ⟨2, 3,
  (.cons (.ret (.blt false .dict (.cons (.lc false (.tup (.cons (.loc 2) (.cons (.loc 1) .nil))) [2] (.one 2) (.seq (.idx (.loc 0) (.con (.int 0)))) .none) .nil)))
  .nil)⟩

structure StdL (T : Tab) : Prop where
  _law_codes : T "_law_codes" = some d__law_codes
  _law_seen : T "_law_seen" = some d__law_seen
  _law_entry : T "_law_entry" = some d__law_entry

abbrev Ent := List (Str × Str)
def eEnt (e : Ent) : PyData := .dict (e.map fun p => (.str p.1, .str p.2))
def eN (e : Ent) : List (Str × D) := e.map fun p => (p.1, D.py (.str p.2))
def eget (e : Ent) (a : Str) : Str := match e.find? (fun p => decide (p.1 = a)) with
  | some p => p.2
  | none => ""
def putN (e : Ent) (g : Str × Str) : Ent := e.map fun p => if p.1 = g.1 then (p.1, g.2) else p
def eLook (p : Str × List Str) : PyData := .tuple [.str p.1, eStrs p.2]
def seenN (b : Book) (t : List Str) : Ent → List Str → List (Str × List Str)
  | _, [] => []
  | e, x :: r => match codeOf b x with
    | some c => seenN b t (if c.kind ∈ t then c.gives.foldl putN e else e) r
    | none => (x, (shownAt b x).map (eget e)) :: seenN b t e r
theorem eN_keys {e : Ent} : (eN e).map (·.1) = e.map (·.1) := by simp [eN, Function.comp_def]
theorem view_ent {S : Store} {e : Ent} : view S (.py (eEnt e)) = .dS (eN e) := by
  simp [view, eEnt, eN, sKeys_map (fun p : Str × Str => p.1) fun p => .str p.2]
theorem eN_get {e : Ent} {a : Str} (h : a ∈ e.map (·.1)) : dget (eN e) a = some (.py (.str (eget e a))) := by
  unfold dget eget eN
  rw [List.find?_map]
  have e1 : ((fun kv : Str × D => decide (kv.1 = a)) ∘ fun p : Str × Str => (p.1, D.py (.str p.2))) = fun p => decide (p.1 = a) := rfl
  rw [e1]
  cases q : e.find? (fun p => decide (p.1 = a)) with
  | none =>
    obtain ⟨p, hp, rfl⟩ := List.mem_map.mp h
    have := List.find?_eq_none.mp q p hp
    simp at this
  | some p => rfl
theorem ent_get {S : Store} {e : Ent} {a : Str} (h : a ∈ e.map (·.1)) : idxD S (.py (eEnt e)) (.py (.str a)) = some (.py (.str (eget e a))) := by
  unfold idxD
  rw [view_ent]
  exact eN_get h
theorem putN_keys {e : Ent} {g : Str × Str} : (putN e g).map (·.1) = e.map (·.1) := by
  unfold putN
  rw [List.map_map]
  refine List.map_congr_left fun p _ => ?_
  simp only [Function.comp]
  split <;> rfl
theorem foldN_keys : ∀ {gs : Ent} {e : Ent}, (gs.foldl putN e).map (·.1) = e.map (·.1)
  | [], _ => rfl
  | g :: gs, e => by rw [List.foldl_cons, foldN_keys, putN_keys]
theorem put_eN {e : Ent} {g : Str × Str} (h : g.1 ∈ e.map (·.1)) : dput (eN e) g.1 (.py (.str g.2)) = eN (putN e g) := by
  rw [dput_old (by rw [eN_keys]; exact h)]
  unfold eN putN
  rw [List.map_map, List.map_map]
  refine List.map_congr_left fun p _ => ?_
  simp only [Function.comp]
  split <;> rfl
theorem merge_eN : ∀ {gs : Ent} {e : Ent}, (∀ g ∈ gs, g.1 ∈ e.map (·.1)) → mergeS (eN e) (eN gs) = eN (gs.foldl putN e)
  | [], _, _ => rfl
  | g :: gs, e, h => by
    show mergeS (dput (eN e) g.1 (.py (.str g.2))) (eN gs) = _
    rw [put_eN (h g List.mem_cons_self), List.foldl_cons]
    exact merge_eN fun z hz => by rw [putN_keys]; exact h z (List.mem_cons_of_mem _ hz)
theorem mergeS_app {k a b : List (Str × D)} : mergeS k (a ++ b) = mergeS (mergeS k a) b := List.foldl_append
theorem mergeS_self {e : List (Str × D)} (nd : (e.map (·.1)).Nodup) : mergeS [] e = e := mergeS_new (kvs := []) (by simpa using nd)
section
variable {T : Tab} {F n : Nat} {mu : Bool} {S : Store}
/-- dict(list(now.items()) + list(gives)) -/
theorem ev_now {G : Gam} {r : Rho} {i j : Nat} {e : Ent} {gs : Ch} (hi : r[i]? = some (some (.py (eEnt e)))) (hj : r[j]? = some (some (.py (eChain gs)))) (nd : (e.map (·.1)).Nodup) (hl : e.length < 1000) (hg : gs.length < 1000) (hk : ∀ g ∈ gs, g.1 ∈ e.map (·.1)) :
    evE G (.blt false .dict (.cons (.bop false .add (.blt false .list (.cons (.met false .items (.loc i) .nil) .nil)) (.blt false .list (.cons (.loc j) .nil))) .nil)) r S = .ok (.py (eEnt (gs.foldl putN e))) S := by
  have rv : recv .items S (.py (eEnt e)) = true := by
    unfold recv
    rw [view_ent]
  have mi : metD false .items (.py (eEnt e)) [] S = .ok (.py (.list (e.map ePair))) S := by
    unfold metD
    rw [view_ent]
    show (match pyKv PyData.str (eN e) with
      | some l => R.ok (D.py (.list (l.map fun p : PyData × PyData => PyData.tuple [p.1, p.2]))) S
      | none => .bad) = _
    rw [eN, pyKv_map (fun p : Str × Str => p.1) fun p => .str p.2]
    simp [Function.comp_def, ePair]
  have l1 : bltD false .list [.py (.list (e.map ePair))] S = .ok (.py (.list (e.map ePair))) S := by
    show mkLst false ((e.map ePair).map D.py) S = _
    exact mkL (by rw [List.length_map]; omega)
  have l2 : bltD false .list [.py (eChain gs)] S = .ok (.py (.list (gs.map ePair))) S := by
    show mkLst false ((gs.map ePair).map D.py) S = _
    exact mkL (by rw [List.length_map]; omega)
  have ct := catL (S := S) (x := e.map ePair) (y := gs.map ePair) (by rw [List.length_map, List.length_map]; omega)
  have dd : bltD false .dict [.py (.list (e.map ePair ++ gs.map ePair))] S = .ok (.py (eEnt (gs.foldl putN e))) S := by
    have ps : pairsS (e.map ePair ++ gs.map ePair) = some (eN e ++ eN gs) := by
      rw [← List.map_append]
      have := pairsS_map (fun p : Str × Str => p.1) (fun p => PyData.str p.2) (e ++ gs)
      unfold eN
      rw [← List.map_append]
      exact this
    show (match pys ((e.map ePair ++ gs.map ePair).map D.py) with
      | some l => match pairsS l with
        | some kvs => mkDS false (mergeS [] kvs) S
        | none => .bad
      | none => .bad) = _
    rw [pys_py]
    simp only [ps]
    rw [mergeS_app, mergeS_self (by rw [eN_keys]; exact nd), merge_eN hk]
    unfold mkDS
    have lk : (eN (gs.foldl putN e)).length < 1000000 := by
      have := congrArg List.length (foldN_keys (gs := gs) (e := e))
      rw [List.length_map, List.length_map] at this
      unfold eN
      rw [List.length_map]
      omega
    rw [if_pos (fits_of lk)]
    unfold eN eEnt
    rw [pyKv_map (fun p : Str × Str => p.1) fun p => .str p.2]
    rfl
  simp only [x_cons, x_nil, x_asg, x_ret, x_exp, x_ite, x_par, x_unp, x_sub, ev_con, ev_glo, ev_loc, ev_tup, ev_lst, ev_dic, ev_bop, ev_cmp, ev_cmp2, ev_and, ev_or, ev_not, ev_ite, ev_idx, ev_call, ev_blt, ev_isi, ev_met, ev_nil, ev_cons, R.bind_ok, R.of_some, okL_some, okO_some, tt3_t, tt3_f, List.getElem?_cons_zero, List.getElem?_cons_succ, List.set_cons_zero, List.set_cons_succ, bl, truth, Option.map_some, Bool.not_true, Bool.not_false, if_true, hi, hj, rv, mi, l1, l2, ct, dd]
def rowSn (b : Book) (el et e0 now : PyData) (x7 x8 x9 x10 : Option D) : Rho := [some (.py (eBook b)), some (.py el), some (.py et), some (.py e0), some (.py (eLaw b)), some (.py now), some (.ref 0), x7, x8, x9, x10, none]
def seenB : CSs := .cons (.ite (.cmp .isin (.loc 7) (.loc 4)) (.cons (.unp [8, 9] (.idx (.loc 4) (.loc 7)))
  (.cons (.ite (.cmp .isin (.loc 8) (.loc 2)) (.cons (.asg 5 (.blt false .dict (.cons (.bop false .add (.blt false .list (.cons (.met false .items (.loc 5) .nil) .nil)) (.blt false .list (.cons (.loc 9) .nil))) .nil))) .nil) .nil) .nil))
  (.cons (.ite (.cmp .eq (.loc 7) (.con (.str "\n"))) (.cons (.exp (.met false .append (.loc 6) (.cons (.tup (.cons (.loc 7) (.cons (.tup .nil) .nil))) .nil))) .nil)
    (.cons (.asg 10 (.ite (.cmp .eq (.loc 7) (.con (.str " "))) (.idx (.loc 0) (.con (.int 1))) (.idx (.loc 0) (.con (.int 0)))))
    (.cons (.exp (.met false .append (.loc 6) (.cons (.tup (.cons (.loc 7) (.cons (.blt false .tuple (.cons (.lc false (.idx (.loc 5) (.loc 11)) [11] (.one 11) (.seq (.loc 10)) .none) .nil)) .nil))) .nil))) .nil))) .nil)) .nil
theorem app0 {fd : List PyData} {d : PyData} {rest : Store} (h : fd.length < 1000000) : metD false .append (.ref 0) [.py d] (.lst (fd.map .py) :: rest) = .ok (.py .none) (.lst ((fd ++ [d]).map .py) :: rest) := by
  show (if fits (fd.map D.py).length then R.ok (D.py .none) ((Ob.lst (fd.map .py) :: rest).set 0 (.lst (fd.map D.py ++ [D.py d]))) else .bad) = _
  rw [if_pos (fits_of (by rw [List.length_map]; omega)), List.map_append]
  rfl
theorem rv0 {fd : List PyData} {rest : Store} : recv .append (.lst (fd.map .py) :: rest) (.ref 0) = true := rfl
theorem sign_code {b : Book} (hb : BookOk b) {x : Str} (h : x ∈ signs5) : codeOf b x = none ∧ x ∉ b.words := by
  have nw : x ∉ b.words := fun z => by
    have := (words_sign x (words_mem hb x z)).1
    rw [(signs_sign x h).1] at this
    cases this
  refine ⟨?_, nw⟩
  cases q : codeOf b x with
  | none => rfl
  | some c =>
    have h1 := List.find?_some q
    have h2 := List.mem_of_find?_eq_some q
    exact absurd (List.mem_map.mpr ⟨c, h2, by simpa using h1⟩) nw
theorem signs_ok : ∀ x ∈ signs5, PyData.strOk x = true := by decide +kernel
theorem lp_seen {G : Gam} {b : Book} {el e0 : PyData} {t : List Str} (hb : BookOk b) {ok : Store → Bool} (hok : ∀ S, ok S = true) : ∀ (l : List Str) (e : Ent) (fd : List PyData) (x7 x8 x9 x10 : Option D), e.map (·.1) = b.asp → (∀ x ∈ l, Item b x) → fd.length + l.length < 1000 →
    ∃ r', loopF ok (fun x r1 S2 => match bindT (.one 7) x r1 with
      | some r2 => exSs G F seenB r2 S2
      | none => .bad) ((l.map .str).map .py) (rowSn b el (eStrs t) e0 (eEnt e) x7 x8 x9 x10) [.lst (fd.map .py)] = .ok (.nx r') [.lst ((fd ++ (seenN b t e l).map eLook).map .py)] ∧ r'[6]? = some (some (.ref 0))
  | [], e, fd, x7, x8, x9, x10, _, _, _ => ⟨rowSn b el (eStrs t) e0 (eEnt e) x7 x8 x9 x10, by simp [seenN, loopF], rfl⟩
  | x :: l, e, fd, x7, x8, x9, x10, he, hl, hn => by
    have hx := hl x List.mem_cons_self
    have hl' : ∀ z ∈ l, Item b z := fun z hz => hl z (List.mem_cons_of_mem _ hz)
    have bt : bindT (.one 7) (.py (.str x)) (rowSn b el (eStrs t) e0 (eEnt e) x7 x8 x9 x10) = some (rowSn b el (eStrs t) e0 (eEnt e) (some (.py (.str x))) x8 x9 x10) := rfl
    have nd : (e.map (·.1)).Nodup := by rw [he]; exact asps_nd _ hb.asp
    have l3 := (asps_few _ hb.asp).1
    have el3 : e.length ≤ 3 := by rw [← he, List.length_map] at l3; exact l3
    rcases hx with hw | hs
    · obtain ⟨c, hc, hcw, cx⟩ := code_of hw
      have cok := hb.codes c hc
      have ii : inD [.lst (fd.map .py)] (.py (.str x)) (.py (eLaw b)) = some true := by rw [law_in, decide_eq_true hw]
      have ig : idxD [.lst (fd.map .py)] (.py (eLaw b)) (.py (.str x)) = some (.py (eKG c)) := law_get cx
      have un : bindT (.many [8, 9]) (.py (eKG c)) (rowSn b el (eStrs t) e0 (eEnt e) (some (.py (.str x))) x8 x9 x10) = some (rowSn b el (eStrs t) e0 (eEnt e) (some (.py (.str x))) (some (.py (.str c.kind))) (some (.py (eChain c.gives))) x10) := rfl
      have gl : c.gives.length ≤ 3 := by
        have := cok.keys.length_le
        rw [List.length_map] at this
        omega
      have kg : ∀ g ∈ c.gives, g.1 ∈ e.map (·.1) := fun g hg => by rw [he]; exact cok.keys.mem (List.mem_map.mpr ⟨g, hg, rfl⟩)
      have nw := ev_now (G := G) (S := [.lst (fd.map .py)]) (r := rowSn b el (eStrs t) e0 (eEnt e) (some (.py (.str x))) (some (.py (.str c.kind))) (some (.py (eChain c.gives))) x10) (i := 5) (j := 9) rfl rfl nd (by omega) (by omega) kg
      simp only [rowSn] at nw un
      by_cases hk : c.kind ∈ t
      · obtain ⟨r', ih, r6⟩ := lp_seen (G := G) (el := el) (e0 := e0) (t := t) hb hok l (c.gives.foldl putN e) fd (some (.py (.str x))) (some (.py (.str c.kind))) (some (.py (eChain c.gives))) x10 (by rw [foldN_keys]; exact he) hl' (by simp at hn ⊢; omega)
        refine ⟨r', ?_, r6⟩
        have it : inD [.lst (fd.map .py)] (.py (.str c.kind)) (.py (eStrs t)) = some true := by rw [in_strs, decide_eq_true hk]
        have run : exSs G F seenB (rowSn b el (eStrs t) e0 (eEnt e) (some (.py (.str x))) x8 x9 x10) [.lst (fd.map .py)] = .ok (.nx (rowSn b el (eStrs t) e0 (eEnt (c.gives.foldl putN e)) (some (.py (.str x))) (some (.py (.str c.kind))) (some (.py (eChain c.gives))) x10)) [.lst (fd.map .py)] := by
          simp only [seenB, rowSn, x_cons, x_nil, x_ite, x_unp, x_asg, ev_cmp, ev_loc, ev_idx, R.bind_ok, R.of_some, okL_some, List.getElem?_cons_zero, List.getElem?_cons_succ, List.set_cons_zero, List.set_cons_succ, cmpD, ii, Option.map_some, bl, truth, tt3_t, ig, un, it, nw]
        simp only [List.map_cons, loopF, bt, run, R.bind_ok, hok, if_true]
        rw [ih]
        simp only [seenN, cx, if_pos hk]
      · obtain ⟨r', ih, r6⟩ := lp_seen (G := G) (el := el) (e0 := e0) (t := t) hb hok l e fd (some (.py (.str x))) (some (.py (.str c.kind))) (some (.py (eChain c.gives))) x10 he hl' (by simp at hn ⊢; omega)
        refine ⟨r', ?_, r6⟩
        have it : inD [.lst (fd.map .py)] (.py (.str c.kind)) (.py (eStrs t)) = some false := by rw [in_strs, decide_eq_false hk]
        have run : exSs G F seenB (rowSn b el (eStrs t) e0 (eEnt e) (some (.py (.str x))) x8 x9 x10) [.lst (fd.map .py)] = .ok (.nx (rowSn b el (eStrs t) e0 (eEnt e) (some (.py (.str x))) (some (.py (.str c.kind))) (some (.py (eChain c.gives))) x10)) [.lst (fd.map .py)] := by
          simp only [seenB, rowSn, x_cons, x_nil, x_ite, x_unp, x_asg, ev_cmp, ev_loc, ev_idx, R.bind_ok, R.of_some, okL_some, List.getElem?_cons_zero, List.getElem?_cons_succ, List.set_cons_zero, List.set_cons_succ, cmpD, ii, Option.map_some, bl, truth, tt3_t, tt3_f, ig, un, it]
        simp only [List.map_cons, loopF, bt, run, R.bind_ok, hok, if_true]
        rw [ih]
        simp only [seenN, cx, if_neg hk]
    · obtain ⟨cx, nw⟩ := sign_code hb hs
      have ii : inD [.lst (fd.map .py)] (.py (.str x)) (.py (eLaw b)) = some false := by rw [law_in, decide_eq_false nw]
      have e1 : eqD [.lst (fd.map .py)] (.py (.str x)) (.py (.str "\n")) = some (decide (x = "\n")) := eq_str (signs_ok x hs) (by decide +kernel)
      have e2 : eqD [.lst (fd.map .py)] (.py (.str x)) (.py (.str " ")) = some (decide (x = " ")) := eq_str (signs_ok x hs) (by decide +kernel)
      have i0 : idxD [.lst (fd.map .py)] (.py (eBook b)) (.py (.int 0)) = some (.py (eStrs b.asp)) := rfl
      have i1 : idxD [.lst (fd.map .py)] (.py (eBook b)) (.py (.int 1)) = some (.py (eStrs b.shown)) := rfl
      have fl : fd.length < 1000000 := by simp at hn; omega
      have ap := app0 (rest := []) (d := eLook (x, (shownAt b x).map (eget e))) fl
      have sn : seenN b t e (x :: l) = (x, (shownAt b x).map (eget e)) :: seenN b t e l := by simp only [seenN, cx]
      have step : ∀ y10, exSs G F seenB (rowSn b el (eStrs t) e0 (eEnt e) (some (.py (.str x))) x8 x9 x10) [.lst (fd.map .py)] = .ok (.nx (rowSn b el (eStrs t) e0 (eEnt e) (some (.py (.str x))) x8 x9 y10)) [.lst ((fd ++ [eLook (x, (shownAt b x).map (eget e))]).map .py)] →
          ∃ r', loopF ok (fun x r1 S2 => match bindT (.one 7) x r1 with
            | some r2 => exSs G F seenB r2 S2
            | none => .bad) (((x :: l).map .str).map .py) (rowSn b el (eStrs t) e0 (eEnt e) x7 x8 x9 x10) [.lst (fd.map .py)] = .ok (.nx r') [.lst ((fd ++ (seenN b t e (x :: l)).map eLook).map .py)] ∧ r'[6]? = some (some (.ref 0)) := by
        intro y10 run
        obtain ⟨r', ih, r6⟩ := lp_seen (G := G) (el := el) (e0 := e0) (t := t) hb hok l e (fd ++ [eLook (x, (shownAt b x).map (eget e))]) (some (.py (.str x))) x8 x9 y10 he hl' (by simp at hn ⊢; omega)
        refine ⟨r', ?_, r6⟩
        simp only [List.map_cons, loopF, bt, run, R.bind_ok, hok, if_true]
        rw [ih, sn]
        simp
      by_cases h1 : x = "\n"
      · refine step x10 ?_
        have sa : shownAt b x = [] := by unfold shownAt; rw [if_pos h1]
        rw [sa] at ap
        have ap : metD false .append (.ref 0) [.py (.tuple [.str x, .tuple []])] [.lst (fd.map .py)] = _ := ap
        rw [sa]
        simp only [seenB, rowSn, x_cons, x_nil, x_asg, x_ret, x_exp, x_ite, x_par, x_unp, x_sub, ev_con, ev_glo, ev_loc, ev_tup, ev_lst, ev_dic, ev_bop, ev_cmp, ev_cmp2, ev_and, ev_or, ev_not, ev_ite, ev_idx, ev_call, ev_blt, ev_isi, ev_met, ev_nil, ev_cons, R.bind_ok, R.of_some, okL_some, okO_some, tt3_t, tt3_f, List.getElem?_cons_zero, List.getElem?_cons_succ, List.set_cons_zero, List.set_cons_succ, bl, truth, Option.map_some, Bool.not_true, Bool.not_false, if_true, cmpD, ii, e1, decide_eq_true h1, mkT0, mkT2, rv0, ap]
      · obtain ⟨src, hsrc, hsa⟩ : ∃ src : List Str, (if x = " " then b.shown else b.asp) = src ∧ shownAt b x = src := ⟨_, rfl, by unfold shownAt; rw [if_neg h1]⟩
        refine step (some (.py (eStrs src))) ?_
        have lc : evE G (.lc false (.idx (.loc 5) (.loc 11)) [11] (.one 11) (.seq (.loc 10)) .none) (rowSn b el (eStrs t) e0 (eEnt e) (some (.py (.str x))) x8 x9 (some (.py (eStrs src)))) [.lst (fd.map .py)] = .ok (.py (.list ((src.map (eget e)).map .str))) [.lst (fd.map .py)] := by
          rw [lcM (xs := src) .str (fun a => .str (eget e a)) (src_tup rfl) (fun a ha => ?_), mkL (by rw [List.length_map]; have := shown_len hb (x := x); rw [hsa] at this; omega), List.map_map]
          · rfl
          · have gt : idxD [.lst (fd.map .py)] (.py (eEnt e)) (.py (.str a)) = some (.py (.str (eget e a))) := ent_get (by rw [he]; exact shown_sub hb a (by rw [hsa]; exact ha))
            simp only [turnC, bindT, wipeD, evC, rowSn, x_cons, x_nil, x_asg, x_ret, x_exp, x_ite, x_par, x_unp, x_sub, ev_con, ev_glo, ev_loc, ev_tup, ev_lst, ev_dic, ev_bop, ev_cmp, ev_cmp2, ev_and, ev_or, ev_not, ev_ite, ev_idx, ev_call, ev_blt, ev_isi, ev_met, ev_nil, ev_cons, R.bind_ok, R.of_some, okL_some, okO_some, tt3_t, tt3_f, List.getElem?_cons_zero, List.getElem?_cons_succ, List.set_cons_zero, List.set_cons_succ, bl, truth, Option.map_some, Bool.not_true, Bool.not_false, if_true, gt]
        have tp := tupOf (S := [.lst (fd.map .py)]) (xs := (src.map (eget e)).map .str) (by rw [List.length_map, List.length_map]; have := shown_len hb (x := x); rw [hsa] at this; omega)
        rw [hsa] at ap ⊢
        have ap : metD false .append (.ref 0) [.py (.tuple [.str x, .tuple ((src.map (eget e)).map .str)])] [.lst (fd.map .py)] = _ := ap
        simp only [rowSn] at lc
        by_cases h2 : x = " "
        · rw [if_pos h2] at hsrc
          subst hsrc
          simp only [seenB, rowSn, x_cons, x_nil, x_asg, x_ret, x_exp, x_ite, x_par, x_unp, x_sub, ev_con, ev_glo, ev_loc, ev_tup, ev_lst, ev_dic, ev_bop, ev_cmp, ev_cmp2, ev_and, ev_or, ev_not, ev_ite, ev_idx, ev_call, ev_blt, ev_isi, ev_met, ev_nil, ev_cons, R.bind_ok, R.of_some, okL_some, okO_some, tt3_t, tt3_f, List.getElem?_cons_zero, List.getElem?_cons_succ, List.set_cons_zero, List.set_cons_succ, bl, truth, Option.map_some, Bool.not_true, Bool.not_false, if_true, cmpD, ii, e1, e2, decide_eq_false h1, decide_eq_true h2, i1, lc, tp, mkT2, rv0, ap]
        · rw [if_neg h2] at hsrc
          subst hsrc
          simp only [seenB, rowSn, x_cons, x_nil, x_asg, x_ret, x_exp, x_ite, x_par, x_unp, x_sub, ev_con, ev_glo, ev_loc, ev_tup, ev_lst, ev_dic, ev_bop, ev_cmp, ev_cmp2, ev_and, ev_or, ev_not, ev_ite, ev_idx, ev_call, ev_blt, ev_isi, ev_met, ev_nil, ev_cons, R.bind_ok, R.of_some, okL_some, okO_some, tt3_t, tt3_f, List.getElem?_cons_zero, List.getElem?_cons_succ, List.set_cons_zero, List.set_cons_succ, bl, truth, Option.map_some, Bool.not_true, Bool.not_false, if_true, cmpD, ii, e1, e2, decide_eq_false h1, decide_eq_false h2, i0, lc, tp, mkT2, rv0, ap]
theorem k_law_seen (h : StdL T) {b : Book} (hb : BookOk b) {l t : List Str} {e : Ent} (he : e.map (·.1) = b.asp) (hl : ∀ x ∈ l, Item b x) (h2 : l.length < 1000) : call T F (n + 2) mu "_law_seen" [.py (eBook b), .py (eStrs l), .py (eStrs t), .py (eEnt e)] S = .ok (.py (.tuple ((seenN b t e l).map eLook))) S := by
  obtain ⟨r', e1, r6⟩ := lp_seen (F := F) (G := call T F (n + 1)) (el := eStrs l) (e0 := eEnt e) (t := t) hb (ok := (⟨(l.map .str).map .py, none⟩ : Src).stands) (fun _ => rfl) l e [] none none none none he hl (by simpa using h2)
  have cd := k_law_codesP (F := F) (n := n) (S := []) h._law_codes hb
  have l3 := (asps_few _ hb.asp).1
  have el3 : e.length ≤ 3 := by rw [← he, List.length_map] at l3; exact l3
  have hbl : d__law_seen.body = .cons (.par [4, 5, 6] (.cons (.call false "_law_codes" (.cons (.loc 0) .nil)) (.cons (.blt false .dict (.cons (.loc 3) .nil)) (.cons (.lst true .nil) .nil)))) (.cons (.loop (.one 7) (.seq (.loc 1)) seenB) (.cons (.ret (.blt false .tuple (.cons (.loc 6) .nil))) .nil)) := rfl
  have hs : startD d__law_seen ([eBook b, eStrs l, eStrs t, eEnt e].map .py) = [some (.py (eBook b)), some (.py (eStrs l)), some (.py (eStrs t)), some (.py (eEnt e)), none, none, none, none, none, none, none, none] := rfl
  have dd : bltD false .dict [.py (eEnt e)] [] = .ok (.py (eEnt e)) [] := by
    unfold bltD
    simp only [view_ent]
    unfold mkDS
    rw [if_pos (fits_of (by unfold eN; rw [List.length_map]; omega))]
    unfold eN eEnt
    rw [pyKv_map (fun p : Str × Str => p.1) fun p => .str p.2]
    rfl
  have ml : mkLst true [] [] = .ok (.ref 0) [.lst []] := rfl
  have sa : setAll [4, 5, 6] [D.py (eLaw b), .py (eEnt e), .ref 0] [some (.py (eBook b)), some (.py (eStrs l)), some (.py (eStrs t)), some (.py (eEnt e)), none, none, none, none, none, none, none, none] = some (rowSn b (eStrs l) (eStrs t) (eEnt e) (eEnt e) none none none none) := rfl
  have s2 : exS (call T F (n + 1)) F (.loop (.one 7) (.seq (.loc 1)) seenB) (rowSn b (eStrs l) (eStrs t) (eEnt e) (eEnt e) none none none none) [.lst []] = .ok (.nx r') [.lst (((seenN b t e l).map eLook).map .py)] := by
    rw [x_loop, src_tup (xs := l.map .str) rfl, R.bind_ok]
    exact e1
  have sl : ∀ {l : List Str} {e : Ent}, (seenN b t e l).length ≤ l.length := by
    intro l
    induction l with
    | nil => intro e; exact Nat.le_refl _
    | cons x l ih =>
      intro e
      unfold seenN
      split
      · exact Nat.le_succ_of_le ih
      · simp only [List.length_cons]
        exact Nat.succ_le_succ ih
  have tp : bltD false .tuple [.ref 0] [.lst (((seenN b t e l).map eLook).map .py)] = .ok (.py (.tuple ((seenN b t e l).map eLook))) [.lst (((seenN b t e l).map eLook).map .py)] := by
    show mkTup (((seenN b t e l).map eLook).map D.py) _ = _
    exact mkT (by rw [List.length_map]; have := sl (l := l) (e := e); omega)
  refine call_py (xs := [eBook b, eStrs l, eStrs t, eEnt e]) (S' := [.lst (((seenN b t e l).map eLook).map .py)]) h._law_seen rfl ?_
  rw [hs, hbl]
  simp only [x_cons, x_nil, x_asg, x_ret, x_exp, x_ite, x_par, x_unp, x_sub, ev_con, ev_glo, ev_loc, ev_tup, ev_lst, ev_dic, ev_bop, ev_cmp, ev_cmp2, ev_and, ev_or, ev_not, ev_ite, ev_idx, ev_call, ev_blt, ev_isi, ev_met, ev_nil, ev_cons, R.bind_ok, R.of_some, okL_some, okO_some, tt3_t, tt3_f, List.getElem?_cons_zero, List.getElem?_cons_succ, List.set_cons_zero, List.set_cons_succ, bl, truth, Option.map_some, Bool.not_true, Bool.not_false, if_true, cd, dd, ml, sa, s2, r6, tp, endD]
theorem k_law_entry (h : StdL T) {b : Book} (hb : BookOk b) {v : Str} : call T F (n + 1) mu "_law_entry" [.py (eBook b), .py (.str v)] S = .ok (.py (eEnt (b.asp.map fun a => (a, v)))) S := by
  have l3 := (asps_few _ hb.asp).1
  have hs : startD d__law_entry ([eBook b, .str v].map .py) = [some (.py (eBook b)), some (.py (.str v)), none] := rfl
  have e0 : evE (call T F n) (.idx (.loc 0) (.con (.int 0))) [some (.py (eBook b)), some (.py (.str v)), none] [] = .ok (.py (.tuple (b.asp.map .str))) [] := ev_at (k := 0) rfl rfl
  have lc : evE (call T F n) (.lc false (.tup (.cons (.loc 2) (.cons (.loc 1) .nil))) [2] (.one 2) (.seq (.idx (.loc 0) (.con (.int 0)))) .none) [some (.py (eBook b)), some (.py (.str v)), none] [] = .ok (.py (.list (b.asp.map fun a => .tuple [.str a, .str v]))) [] := by
    rw [lcM (xs := b.asp) .str (fun a => .tuple [.str a, .str v]) (src_tup e0) (fun a _ => rfl), mkL (by rw [List.length_map]; omega)]
  have dp : bltD false .dict [.py (.list (b.asp.map fun a => .tuple [.str a, .str v]))] [] = .ok (.py (eEnt (b.asp.map fun a => (a, v)))) [] := by
    rw [dict_pairs (k := fun a : Str => a) (v := fun _ => .str v) (by simpa using asps_nd _ hb.asp)]
    unfold mkDS
    rw [if_pos (fits_of (by rw [List.length_map]; omega)), pyKv_map (fun a : Str => a) fun _ => .str v]
    simp [eEnt, Function.comp_def]
  refine call_py (xs := [eBook b, .str v]) (S' := []) h._law_entry rfl ?_
  rw [hs]
  simp only [d__law_entry, x_cons, x_nil, x_asg, x_ret, x_exp, x_ite, x_par, x_unp, x_sub, ev_con, ev_glo, ev_loc, ev_tup, ev_lst, ev_dic, ev_bop, ev_cmp, ev_cmp2, ev_and, ev_or, ev_not, ev_ite, ev_idx, ev_call, ev_blt, ev_isi, ev_met, ev_nil, ev_cons, R.bind_ok, R.of_some, okL_some, okO_some, tt3_t, tt3_f, List.getElem?_cons_zero, List.getElem?_cons_succ, List.set_cons_zero, List.set_cons_succ, bl, truth, Option.map_some, Bool.not_true, Bool.not_false, if_true, lc, dp, endD]
end
end Sf
end
section
set_option maxRecDepth 100000
set_option maxHeartbeats 4000000
namespace Sf
open PySem PySem.Spec L2
open PyProof.Rows hiding St

/-! ### what is seen, by chains -/
theorem worth_top {k v : Str} {c : Ch} {t : List Str} : worth (onTop k v c) t = if k ∈ t then some v else worth c t := by
  unfold worth onTop
  rw [List.find?_cons]
  by_cases hk : k ∈ t
  · simp [hk]
  · simp only [hk, decide_false, if_false]
    congr 1
    induction c with
    | nil => rfl
    | cons p c ih =>
      by_cases hp : p.1 = k
      · have e1 : decide (p.1 ≠ k) = false := by simp [hp]
        have e2 : decide (p.1 ∈ t) = false := by rw [hp]; simp [hk]
        rw [List.filter_cons, e1, List.find?_cons, e2]
        exact ih
      · have e1 : decide (p.1 ≠ k) = true := by simp [hp]
        rw [List.filter_cons, e1, if_pos rfl, List.find?_cons, List.find?_cons]
        cases decide (p.1 ∈ t) with
        | true => rfl
        | false => exact ih
/-- what all aspects have, by their chains -/
def nowOf (tb : Tb) (e : Ent) (t : List Str) : Ent := tb.map fun p => (p.1, (worth p.2 t).getD (eget e p.1))
theorem nowOf_upd {tb : Tb} {e : Ent} {t : List Str} {k : Str} {g : Str × Str} : nowOf (upd1 k tb g) e t = if k ∈ t then putN (nowOf tb e t) g else nowOf tb e t := by
  unfold nowOf upd1 putN
  rw [List.map_map]
  split
  · rename_i hk
    rw [List.map_map]
    refine List.map_congr_left fun p _ => ?_
    simp only [Function.comp]
    split
    · simp only [worth_top, hk, if_true, Option.getD_some]
    · rfl
  · rename_i hk
    refine List.map_congr_left fun p _ => ?_
    simp only [Function.comp]
    split
    · simp only [worth_top, hk, if_false]
    · rfl
theorem nowOf_fold {e : Ent} {t : List Str} {k : Str} : ∀ {gs : Ch} {tb : Tb}, nowOf (gs.foldl (upd1 k) tb) e t = if k ∈ t then gs.foldl putN (nowOf tb e t) else nowOf tb e t
  | [], tb => by simp
  | g :: gs, tb => by
    rw [List.foldl_cons, List.foldl_cons, nowOf_fold, nowOf_upd]
    split <;> rfl
theorem eget_mem : ∀ {e : Ent} {p : Str × Str}, (e.map (·.1)).Nodup → p ∈ e → eget e p.1 = p.2
  | [], _, _, h => nomatch h
  | q :: e, p, nd, h => by
    rw [List.map_cons, List.nodup_cons] at nd
    unfold eget
    rw [List.find?_cons]
    rcases List.mem_cons.mp h with z | z
    · subst z
      simp
    · have ne : q.1 ≠ p.1 := fun z' => nd.1 (by rw [z']; exact List.mem_map.mpr ⟨p, z, rfl⟩)
      have := eget_mem nd.2 z
      unfold eget at this
      simp only [ne, decide_false]
      exact this
theorem nowOf_zero {b : Book} {e : Ent} {t : List Str} (he : e.map (·.1) = b.asp) (nd : b.asp.Nodup) : nowOf (tb0 b) e t = e := by
  unfold nowOf tb0
  rw [← he, List.map_map, List.map_map]
  conv => rhs; rw [← List.map_id e]
  refine List.map_congr_left fun p hp => ?_
  simp only [Function.comp, worth, List.find?_nil, Option.map_none, Option.getD_none, id]
  rw [eget_mem (by rw [he]; exact nd) hp]
theorem nowOf_get {tb : Tb} {e : Ent} {t : List Str} {a : Str} (h : a ∈ tb.map (·.1)) : eget (nowOf tb e t) a = (worth (tget tb a) t).getD (eget e a) := by
  have e2 : (nowOf tb e t).find? (fun p => decide (p.1 = a)) = (tb.find? fun p => decide (p.1 = a)).map fun p => (p.1, (worth p.2 t).getD (eget e p.1)) := by
    unfold nowOf
    rw [List.find?_map]
    rfl
  have e3 : eget (nowOf tb e t) a = match (nowOf tb e t).find? (fun p => decide (p.1 = a)) with
    | some p => p.2
    | none => "" := rfl
  rw [e3, e2]
  unfold tget
  cases q : tb.find? (fun p => decide (p.1 = a)) with
  | none =>
    obtain ⟨p, hp, rfl⟩ := List.mem_map.mp h
    have := List.find?_eq_none.mp q p hp
    simp at this
  | some p =>
    have h1 : p.1 = a := by simpa using List.find?_some q
    simp only [Option.map_some]
    rw [h1]
/-- the look of a sign -/
def lookE (b : Book) (t : List Str) (e : Ent) (p : Str × Tb) : Str × List Str := (p.1, (shownAt b p.1).map fun a => (worth (tget p.2 a) t).getD (eget e a))
theorem seen_sg {b : Book} (hb : BookOk b) {t : List Str} {e : Ent} : ∀ {l : List Str} {tb : Tb}, TbOk b.asp tb → (∀ x ∈ l, Item b x) → seenN b t (nowOf tb e t) l = (sg b tb l).map (lookE b t e)
  | [], _, _, _ => rfl
  | x :: l, tb, ht, hl => by
    have hl' : ∀ z ∈ l, Item b z := fun z hz => hl z (List.mem_cons_of_mem _ hz)
    rcases hl x List.mem_cons_self with hw | hs
    · obtain ⟨c, hc, hcw, cx⟩ := code_of hw
      have sx := (words_sign x (words_mem hb x hw)).1
      have st : stepW b tb x = c.gives.foldl (upd1 c.kind) tb := by unfold stepW; rw [cx]
      simp only [seenN, cx, sg, sx, Bool.false_eq_true, if_false]
      rw [← seen_sg hb (step_ok hb ht) hl', st, nowOf_fold]
    · obtain ⟨cx, _⟩ := sign_code hb hs
      have sx := (signs_sign x hs).1
      simp only [seenN, cx, sg, sx, if_true, List.map_cons]
      rw [seen_sg hb ht hl']
      congr 1
      unfold lookE
      congr 1
      refine List.map_congr_left fun a ha => ?_
      rw [nowOf_get (by rw [ht.keys]; exact shown_sub hb a ha)]
theorem seen_of {b : Book} (hb : BookOk b) {t : List Str} {e : Ent} {l : List Str} (he : e.map (·.1) = b.asp) (hl : ∀ x ∈ l, Item b x) : seenN b t e l = (sg b (tb0 b) l).map (lookE b t e) := by
  rw [← seen_sg hb tb0_ok hl, nowOf_zero he (asps_nd _ hb.asp)]
/-! ### hung -/
def d__law_hung : Fn := ⟨3, 7,
  (.cons (.asg 3 (.call false "_law_seen" (.cons (.loc 0) (.cons (.loc 1) (.cons (.loc 2) (.cons (.call false "_law_entry" (.cons (.loc 0) (.cons (.con (.str "mm")) .nil))) .nil))))))
  (.cons (.asg 4 (.call false "_law_seen" (.cons (.loc 0) (.cons (.loc 1) (.cons (.loc 2) (.cons (.call false "_law_entry" (.cons (.loc 0) (.cons (.con (.str "nn")) .nil))) .nil))))))
  (.cons (.ret (.lc false (.loc 5) [5, 6] (.many [5, 6]) (.enu (.loc 3)) (.some (.cmp .ne (.loc 6) (.idx (.loc 4) (.loc 5))))))
  .nil)))⟩

theorem eqvAll_strs : ∀ {l m : List Str}, PyData.eqvAll (l.map .str) (m.map .str) = decide (l = m)
  | [], [] => rfl
  | [], _ :: _ => rfl
  | _ :: _, [] => rfl
  | x :: l, y :: m => by
    simp only [List.map_cons, PyData.eqvAll, PyData.eqv, eqvAll_strs]
    rw [Bool.eq_iff_iff]
    simp
theorem eqv_look {p q : Str × List Str} : PyData.eqv (eLook p) (eLook q) = decide (p = q) := by
  obtain ⟨x, l⟩ := p
  obtain ⟨y, m⟩ := q
  simp only [eLook, eStrs, PyData.eqv, PyData.eqvAll, eqvAll_strs]
  rw [Bool.eq_iff_iff]
  simp
theorem shp_look {p : Str × List Str} (h1 : PyData.strOk p.1 = true) (h2 : ∀ x ∈ p.2, PyData.strOk x = true) : Shp 2 (eLook p) := shp_tup fun d hd => by
  rcases List.mem_cons.mp hd with rfl | hd
  · exact (shp_str h1).mono (by omega)
  · rw [List.mem_singleton.mp hd]
    exact shp_tup fun d hd => by
      obtain ⟨x, hx, rfl⟩ := List.mem_map.mp hd
      exact shp_str (h2 x hx)
theorem worth_val {c : Ch} (hc : ChOk c) {t : List Str} {v : Str} (h : worth c t = some v) : v ∈ vals3 := by
  unfold worth at h
  cases q : c.find? fun p => decide (p.1 ∈ t) with
  | none => rw [q] at h; cases h
  | some p =>
    rw [q] at h
    cases h
    exact (hc.ks p (List.mem_of_find?_eq_some q)).2
theorem look_ok {b : Book} (hb : BookOk b) {t : List Str} {e : Ent} (hE : ∀ a ∈ b.asp, PyData.strOk (eget e a) = true) {p : Str × Tb} (hp : TbOk b.asp p.2 ∧ p.1 ∈ signs5) : Shp 2 (eLook (lookE b t e p)) := by
  refine shp_look (signs_ok _ hp.2) fun x hx => ?_
  obtain ⟨a, ha, rfl⟩ := List.mem_map.mp hx
  have ha := shown_sub hb a ha
  cases q : worth (tget p.2 a) t with
  | none => exact hE a ha
  | some v => exact texts_ok v (vals_t v (worth_val (hp.1.ch _ (tget_mem (by rw [hp.1.keys]; exact ha))) q))
/-- [number for number, look in enumerate(one) if look != other[number] ..] -/
theorem look_ne {S : Store} {b : Book} (hb : BookOk b) {t : List Str} {e f : Ent} (hE : ∀ a ∈ b.asp, PyData.strOk (eget e a) = true) (hF : ∀ a ∈ b.asp, PyData.strOk (eget f a) = true) {L : List (Str × Tb)} (hL : ∀ p ∈ L, TbOk b.asp p.2 ∧ p.1 ∈ signs5) {p : (Str × Tb) × Nat} (hp : p ∈ L.zipIdx) :
    idxD S (.py (.tuple ((L.map (lookE b t f)).map eLook))) (.py (.int p.2)) = some (.py (eLook (lookE b t f p.1))) ∧ eqD S (.py (eLook (lookE b t e p.1))) (.py (eLook (lookE b t f p.1))) = some (decide (lookE b t e p.1 = lookE b t f p.1)) := by
  obtain ⟨x, i⟩ := p
  have hg := List.mem_zipIdx_iff_getElem?.mp hp
  have hm : x ∈ L := List.mem_of_getElem? hg
  refine ⟨atT ?_, ?_⟩
  · rw [List.getElem?_map, List.getElem?_map]
    have hg : L[i]? = some x := hg
    rw [hg]
    rfl
  · rw [eqD_py (look_ok hb hE (hL x hm)) (by omega) (look_ok hb hF (hL x hm)) (by omega), eqv_look]
theorem look_hang {b : Book} {t : List Str} {e f : Ent} (hne : ∀ a ∈ b.asp, eget e a ≠ eget f a) (hb : BookOk b) {p : Str × Tb} : decide (lookE b t e p ≠ lookE b t f p) = hangP b t p := by
  rw [Bool.eq_iff_iff, decide_eq_true_eq]
  unfold hangP lookE
  rw [List.any_eq_true]
  constructor
  · intro h
    refine Classical.byContradiction fun n => h ?_
    congr 1
    refine List.map_congr_left fun a ha => ?_
    cases q : worth (tget p.2 a) t with
    | none => exact absurd ⟨a, ha, by rw [q]; rfl⟩ n
    | some v => rfl
  · rintro ⟨a, ha, h1⟩ h2
    have h3 := List.map_inj_left.mp (Prod.mk.inj h2).2 a ha
    cases q : worth (tget p.2 a) t with
    | none =>
      rw [q] at h3
      exact hne a (shown_sub hb a ha) h3
    | some v => rw [q] at h1; cases h1
theorem ent_all {b : Book} {v : Str} : ∀ a ∈ b.asp, eget (b.asp.map fun a => (a, v)) a = v := by
  intro a ha
  unfold eget
  rw [List.find?_map]
  cases q : b.asp.find? ((fun p : Str × Str => decide (p.1 = a)) ∘ fun a => (a, v)) with
  | none =>
    have := List.find?_eq_none.mp q a ha
    simp at this
  | some p => rfl
section
variable {T : Tab} {F n : Nat} {mu : Bool} {S : Store}
theorem k_law_hung (h : StdL T) (h2 : T "_law_hung" = some d__law_hung) {b : Book} (hb : BookOk b) {l t : List Str} (hl : ∀ x ∈ l, Item b x) (hn : l.length < 1000) : call T F (n + 3) mu "_law_hung" [.py (eBook b), .py (eStrs l), .py (eStrs t)] S = .ok (.py (eNs (hangN b t l))) S := by
  have hs : startD d__law_hung ([eBook b, eStrs l, eStrs t].map .py) = [some (.py (eBook b)), some (.py (eStrs l)), some (.py (eStrs t)), none, none, none, none] := rfl
  have k1 := k_law_entry (F := F) (n := n + 1) (mu := false) (S := []) h hb (v := "mm")
  have k2 := k_law_entry (F := F) (n := n + 1) (mu := false) (S := []) h hb (v := "nn")
  have ke : ∀ v : Str, (b.asp.map fun a => (a, v)).map (·.1) = b.asp := fun v => by simp [Function.comp_def]
  have s1 := k_law_seen (F := F) (n := n) (mu := false) (S := []) h hb (t := t) (ke "mm") hl hn
  have s2 := k_law_seen (F := F) (n := n) (mu := false) (S := []) h hb (t := t) (ke "nn") hl hn
  rw [seen_of hb (ke _) hl] at s1 s2
  have hL := sg_ok hb (l := l) tb0_ok hl
  have lg := sg_len (b := b) (l := l) (t := tb0 b)
  have o1 : ∀ a ∈ b.asp, PyData.strOk (eget (b.asp.map fun a => (a, ("mm" : Str))) a) = true := fun a ha => by rw [ent_all a ha]; decide +kernel
  have o2 : ∀ a ∈ b.asp, PyData.strOk (eget (b.asp.map fun a => (a, ("nn" : Str))) a) = true := fun a ha => by rw [ent_all a ha]; decide +kernel
  have ne : ∀ a ∈ b.asp, eget (b.asp.map fun a => (a, ("mm" : Str))) a ≠ eget (b.asp.map fun a => (a, ("nn" : Str))) a := fun a ha => by rw [ent_all a ha, ent_all a ha]; decide +kernel
  obtain ⟨L, eL⟩ : ∃ L, L = sg b (tb0 b) l := ⟨_, rfl⟩
  rw [← eL] at s1 s2 hL lg
  obtain ⟨e, ee⟩ : ∃ e, e = b.asp.map fun a => (a, ("mm" : Str)) := ⟨_, rfl⟩
  obtain ⟨f, ef⟩ : ∃ f, f = b.asp.map fun a => (a, ("nn" : Str)) := ⟨_, rfl⟩
  rw [← ee] at s1 o1 ne k1
  rw [← ef] at s2 o2 ne k2
  have lc : evE (call T F (n + 2)) (.lc false (.loc 5) [5, 6] (.many [5, 6]) (.enu (.loc 3)) (.some (.cmp .ne (.loc 6) (.idx (.loc 4) (.loc 5))))) [some (.py (eBook b)), some (.py (eStrs l)), some (.py (eStrs t)), some (.py (.tuple ((L.map (lookE b t e)).map eLook))), some (.py (.tuple ((L.map (lookE b t f)).map eLook))), none, none] [] = .ok (.py (eNs (hangN b t l))) [] := by
    have hi : evI (call T F (n + 2)) (.enu (.loc 3)) [some (.py (eBook b)), some (.py (eStrs l)), some (.py (eStrs t)), some (.py (.tuple ((L.map (lookE b t e)).map eLook))), some (.py (.tuple ((L.map (lookE b t f)).map eLook))), none, none] [] = .ok ⟨((L.zipIdx).map fun p => PyData.tuple [.int p.2, (eLook ∘ lookE b t e) p.1]).map .py, none⟩ [] := by
      rw [← enumD_map, ← List.map_map]
      rfl
    rw [lcF (xs := L.zipIdx) (fun p => PyData.tuple [.int p.2, (eLook ∘ lookE b t e) p.1]) (fun p => .int p.2) (fun p => hangP b t p.1) hi]
    · rw [mkL]
      · simp only [hangN, eNs, ← eL, List.map_map]
        rfl
      · have := List.length_filter_le (fun p => hangP b t p.1) L.zipIdx
        rw [List.length_zipIdx] at this
        rw [List.length_map]
        omega
    · intro p hp
      obtain ⟨i1, e1⟩ := look_ne (S := []) (t := t) hb o1 o2 hL hp
      have bt : bindT (.many [5, 6]) (.py (PyData.tuple [.int p.2, (eLook ∘ lookE b t e) p.1])) (wipeD [some (.py (eBook b)), some (.py (eStrs l)), some (.py (eStrs t)), some (.py (.tuple ((L.map (lookE b t e)).map eLook))), some (.py (.tuple ((L.map (lookE b t f)).map eLook))), none, none] [5, 6]) = some [some (.py (eBook b)), some (.py (eStrs l)), some (.py (eStrs t)), some (.py (.tuple ((L.map (lookE b t e)).map eLook))), some (.py (.tuple ((L.map (lookE b t f)).map eLook))), some (.py (.int p.2)), some (.py (eLook (lookE b t e p.1)))] := rfl
      simp only [turnC]
      rw [bt, ← look_hang (t := t) ne hb]
      simp only [evC, x_cons, x_nil, x_asg, x_ret, x_exp, x_ite, x_par, x_unp, x_sub, ev_con, ev_glo, ev_loc, ev_tup, ev_lst, ev_dic, ev_bop, ev_cmp, ev_cmp2, ev_and, ev_or, ev_not, ev_ite, ev_idx, ev_call, ev_blt, ev_isi, ev_met, ev_nil, ev_cons, R.bind_ok, R.of_some, okL_some, okO_some, tt3_t, tt3_f, List.getElem?_cons_zero, List.getElem?_cons_succ, List.set_cons_zero, List.set_cons_succ, bl, truth, Option.map_some, Bool.not_true, Bool.not_false, if_true, i1, cmpD, e1]
      by_cases q : lookE b t e p.1 = lookE b t f p.1
      · simp [q]
      · simp [q]
  refine call_py (xs := [eBook b, eStrs l, eStrs t]) (S' := []) h2 rfl ?_
  rw [hs]
  simp only [d__law_hung, x_cons, x_nil, x_asg, x_ret, x_exp, x_ite, x_par, x_unp, x_sub, ev_con, ev_glo, ev_loc, ev_tup, ev_lst, ev_dic, ev_bop, ev_cmp, ev_cmp2, ev_and, ev_or, ev_not, ev_ite, ev_idx, ev_call, ev_blt, ev_isi, ev_met, ev_nil, ev_cons, R.bind_ok, R.of_some, okL_some, okO_some, tt3_t, tt3_f, List.getElem?_cons_zero, List.getElem?_cons_succ, List.set_cons_zero, List.set_cons_succ, bl, truth, Option.map_some, Bool.not_true, Bool.not_false, if_true, k1, k2, s1, s2, lc, endD]
end
end Sf
end
section
set_option maxRecDepth 100000
set_option maxHeartbeats 4000000
namespace Sf
open PySem PySem.Spec L2
open PyProof.Rows hiding St

/-! ### all sets, the kinds -/
def d__law_sets : Fn := ⟨1, 4,
  (.cons (.asg 1 (.lst false (.cons (.tup .nil) .nil)))
  (.cons (.loop (.one 2) (.seq (.loc 0)) (.cons (.asg 1 (.bop false .add (.loc 1) (.lc false (.bop false .add (.loc 3) (.tup (.cons (.loc 2) .nil))) [3] (.one 3) (.seq (.loc 1)) .none)))
  .nil))
  (.cons (.ret (.sortLen (.loc 1)))
  .nil)))⟩
def d__law_kinds : Fn := ⟨1, 4,
  (.cons (.ret (.blt false .sorted (.cons (.blt false .dict (.cons (.lc false (.tup (.cons (.loc 2) (.cons (.con (.int 0)) .nil))) [1, 2, 3] (.many [1, 2, 3]) (.seq (.idx (.loc 0) (.con (.int 2)))) .none) .nil)) .nil)))
  .nil)⟩

structure StdK (T : Tab) : Prop where
  _law_sets : T "_law_sets" = some d__law_sets
  _law_kinds : T "_law_kinds" = some d__law_kinds

def setsU (ws : List Str) : List (List Str) := ws.foldl (fun f w => f ++ f.map fun r => r ++ [w]) [[]]
def setsN (ws : List Str) : List (List Str) := sortB (fun p q => Nat.ble p.length q.length) (setsU ws)
theorem setsU_len {ws : List Str} : ∀ {f : List (List Str)}, (ws.foldl (fun f w => f ++ f.map fun r => r ++ [w]) f).length = 2 ^ ws.length * f.length := by
  induction ws with
  | nil => intro f; simp
  | cons w ws ih =>
    intro f
    rw [List.foldl_cons, ih, List.length_append, List.length_map, List.length_cons, Nat.pow_succ]
    rw [← Nat.two_mul, Nat.mul_assoc]
theorem setsU_sub {ws : List Str} : ∀ {f : List (List Str)} {pre : List Str}, (∀ r ∈ f, r.Sublist pre) → ∀ r ∈ ws.foldl (fun f w => f ++ f.map fun r => r ++ [w]) f, r.Sublist (pre ++ ws) := by
  induction ws with
  | nil => intro f pre h r hr; simpa using h r hr
  | cons w ws ih =>
    intro f pre h r hr
    rw [List.foldl_cons] at hr
    have := ih (pre := pre ++ [w]) (fun q hq => ?_) r hr
    · simpa using this
    · rcases List.mem_append.mp hq with z | z
      · exact (h q z).trans (List.sublist_append_left _ _)
      · obtain ⟨q', hq', rfl⟩ := List.mem_map.mp z
        exact List.Sublist.append (h q' hq') (List.Sublist.refl _)
theorem setsN_sub {ws : List Str} : ∀ r ∈ setsN ws, r.Sublist ws := fun r hr => by
  have hr : r ∈ setsU ws := sortB_perm.mem_iff.mp hr
  have := setsU_sub (ws := ws) (f := [[]]) (pre := []) (fun q hq => by rw [List.mem_singleton.mp hq]; exact List.Sublist.refl _) r hr
  simpa using this
theorem risB_pw : ∀ {l : List Str}, risB l = true → l.Pairwise fun x y => strLt x y = true
  | [], _ => .nil
  | [x], _ => List.pairwise_singleton _ _
  | x :: y :: l, h => by
    have h : strLt x y = true ∧ risB (y :: l) = true := by simpa [risB] using h
    have ih := risB_pw h.2
    refine List.pairwise_cons.mpr ⟨fun z hz => ?_, ih⟩
    rcases List.mem_cons.mp hz with e | hz
    · rw [e]; exact h.1
    · have h2 := (List.pairwise_cons.mp ih).1 z hz
      unfold strLt at h2 h ⊢
      exact decide_eq_true (List.lt_trans (of_decide_eq_true h.1) (of_decide_eq_true h2))
theorem risB_of : ∀ {l : List Str}, l.Pairwise (fun x y => strLt x y = true) → risB l = true
  | [], _ => rfl
  | [x], _ => rfl
  | x :: y :: l, h => by
    obtain ⟨h1, h2⟩ := List.pairwise_cons.mp h
    simp only [risB, h1 y List.mem_cons_self, risB_of h2, Bool.and_self]
theorem TermOk.sub {l m : List Str} (h : TermOk m) (s : l.Sublist m) : TermOk l := ⟨Nat.le_trans s.length_le h.few, fun x hx => h.marks x (s.mem hx), risB_of ((risB_pw h.ris).sublist s)⟩
theorem lensT_map {l : List (List Str)} : lensT (l.map eStrs) = some (l.map fun r => (r.length, eStrs r)) := by
  induction l with
  | nil => rfl
  | cons r l ih =>
    have e : lenT (eStrs r) = some r.length := by simp [lenT, eStrs]
    simp only [List.map_cons, lensT, e, ih]
section
variable {T : Tab} {F n : Nat} {mu : Bool} {S : Store}
theorem sortLen_run {G : Gam} {r : Rho} {i : Nat} {l : List (List Str)} (hi : r[i]? = some (some (.py (.list (l.map eStrs))))) (hl : l.length < 1000000) : evE G (.sortLen (.loc i)) r S = .ok (.py (.list ((sortB (fun p q => Nat.ble p.length q.length) l).map eStrs))) S := by
  have e1 : ((sortB (fun (p q : Nat × PyData) => Nat.ble p.1 q.1) (l.map fun r => (r.length, eStrs r))).map fun p => D.py p.2) = ((sortB (fun p q => Nat.ble p.length q.length) l).map eStrs).map D.py := by
    rw [sortB_map, List.map_map, List.map_map]
    rfl
  simp only [evE]
  rw [hi]
  show (match pys ((l.map eStrs).map D.py) with
    | some l => match lensT l with
      | some t => mkLst false ((sortB (fun (p q : Nat × PyData) => Nat.ble p.1 q.1) t).map fun p : Nat × PyData => D.py p.2) S
      | none => .bad
    | none => .bad) = _
  rw [pys_py]
  simp only [lensT_map]
  rw [e1, mkL (by rw [List.length_map, sortB_perm.length_eq]; exact hl)]
def setsB : CSs := .cons (.asg 1 (.bop false .add (.loc 1) (.lc false (.bop false .add (.loc 3) (.tup (.cons (.loc 2) .nil))) [3] (.one 3) (.seq (.loc 1)) .none))) .nil
theorem lp_sets {G : Gam} {e0 : PyData} {ok : Store → Bool} (hok : ∀ S, ok S = true) : ∀ (ws : List Str) (f : List (List Str)) (x2 : Option D), 2 ^ ws.length * f.length < 100000 → (∀ r ∈ f, r.length + ws.length < 1000) →
    ∃ y2, loopF ok (fun x r1 S2 => match bindT (.one 2) x r1 with
      | some r2 => exSs G F setsB r2 S2
      | none => .bad) ((ws.map .str).map .py) [some (.py e0), some (.py (.list (f.map eStrs))), x2, none] S = .ok (.nx [some (.py e0), some (.py (.list ((ws.foldl (fun f w => f ++ f.map fun r => r ++ [w]) f).map eStrs))), y2, none]) S
  | [], f, x2, _, _ => ⟨x2, rfl⟩
  | w :: ws, f, x2, hf, hr => by
    have p1 : 0 < 2 ^ ws.length := Nat.two_pow_pos _
    have hf2 : 2 ^ ws.length * (f.length + f.length) < 100000 := by
      rw [List.length_cons, Nat.pow_succ, Nat.mul_assoc, Nat.two_mul] at hf
      exact hf
    have fl : f.length + f.length < 100000 := Nat.lt_of_le_of_lt (Nat.le_mul_of_pos_left _ p1) hf2
    obtain ⟨y2, ih⟩ := lp_sets (G := G) (e0 := e0) hok ws (f ++ f.map fun r => r ++ [w]) (some (.py (.str w))) (by rw [List.length_append, List.length_map]; exact hf2) (fun r h => by
      rcases List.mem_append.mp h with z | z
      · have := hr r z
        simp only [List.length_cons] at this
        omega
      · obtain ⟨q, hq, rfl⟩ := List.mem_map.mp z
        have := hr q hq
        simp only [List.length_cons] at this
        rw [List.length_append]
        simp only [List.length_cons, List.length_nil]
        omega)
    refine ⟨y2, ?_⟩
    have bt : bindT (.one 2) (.py (.str w)) [some (.py e0), some (.py (.list (f.map eStrs))), x2, none] = some [some (.py e0), some (.py (.list (f.map eStrs))), some (.py (.str w)), none] := rfl
    have lc : evE G (.lc false (.bop false .add (.loc 3) (.tup (.cons (.loc 2) .nil))) [3] (.one 3) (.seq (.loc 1)) .none) [some (.py e0), some (.py (.list (f.map eStrs))), some (.py (.str w)), none] S = .ok (.py (.list ((f.map fun r => r ++ [w]).map eStrs))) S := by
      rw [lcM (xs := f) eStrs (fun r => eStrs (r ++ [w])) (src_list rfl) (fun r h => ?_), mkL (by rw [List.length_map]; omega), List.map_map]
      · rfl
      · have ct := catT (S := S) (x := r.map .str) (y := [.str w]) (by have := hr r h; simp only [List.length_cons] at this; rw [List.length_map]; simp only [List.length_cons, List.length_nil]; omega)
        have ct : bopD false .add (.py (eStrs r)) (.py (.tuple [.str w])) S = .ok (.py (eStrs (r ++ [w]))) S := by
          refine ct.trans ?_
          simp [eStrs]
        simp only [turnC, bindT, wipeD, evC, x_cons, x_nil, x_asg, x_ret, x_exp, x_ite, x_par, x_unp, x_sub, ev_con, ev_glo, ev_loc, ev_tup, ev_lst, ev_dic, ev_bop, ev_cmp, ev_cmp2, ev_and, ev_or, ev_not, ev_ite, ev_idx, ev_call, ev_blt, ev_isi, ev_met, ev_nil, ev_cons, R.bind_ok, R.of_some, okL_some, okO_some, tt3_t, tt3_f, List.getElem?_cons_zero, List.getElem?_cons_succ, List.set_cons_zero, List.set_cons_succ, bl, truth, Option.map_some, Bool.not_true, Bool.not_false, if_true, mkT1, ct]
    have cl := catL (S := S) (x := f.map eStrs) (y := (f.map fun r => r ++ [w]).map eStrs) (by rw [List.length_map, List.length_map, List.length_map]; omega)
    rw [← List.map_append] at cl
    have run : exSs G F setsB [some (.py e0), some (.py (.list (f.map eStrs))), some (.py (.str w)), none] S = .ok (.nx [some (.py e0), some (.py (.list ((f ++ f.map fun r => r ++ [w]).map eStrs))), some (.py (.str w)), none]) S := by
      simp only [setsB, x_cons, x_nil, x_asg, x_ret, x_exp, x_ite, x_par, x_unp, x_sub, ev_con, ev_glo, ev_loc, ev_tup, ev_lst, ev_dic, ev_bop, ev_cmp, ev_cmp2, ev_and, ev_or, ev_not, ev_ite, ev_idx, ev_call, ev_blt, ev_isi, ev_met, ev_nil, ev_cons, R.bind_ok, R.of_some, okL_some, okO_some, tt3_t, tt3_f, List.getElem?_cons_zero, List.getElem?_cons_succ, List.set_cons_zero, List.set_cons_succ, bl, truth, Option.map_some, Bool.not_true, Bool.not_false, if_true, lc, cl]
    simp only [List.map_cons, loopF, bt, run, R.bind_ok, hok, if_true, List.foldl_cons]
    exact ih
theorem k_law_sets (h : StdK T) {ws : List Str} {d : PyData} (hd : d = .list (ws.map .str) ∨ d = .tuple (ws.map .str)) (hw : ws.length ≤ 10) : call T F (n + 1) mu "_law_sets" [.py d] S = .ok (.py (.list ((setsN ws).map eStrs))) S := by
  have p2 : 2 ^ ws.length ≤ 2 ^ 10 := Nat.pow_le_pow_right (by omega) hw
  have hi : evI (call T F n) (.seq (.loc 0)) [some (.py d), some (.py (.list [.tuple []])), none, none] [] = .ok ⟨(ws.map .str).map .py, none⟩ [] := by
    rcases hd with rfl | rfl
    · exact src_list rfl
    · exact src_tup rfl
  obtain ⟨y2, e⟩ := lp_sets (F := F) (S := []) (G := call T F n) (e0 := d) (ok := (⟨(ws.map .str).map .py, none⟩ : Src).stands) (fun _ => rfl) ws [[]] none (by simp only [List.length_cons, List.length_nil]; omega) (fun r hr => by rw [List.mem_singleton.mp hr]; simp only [List.length_nil]; omega)
  have hs : startD d__law_sets ([d].map .py) = [some (.py d), none, none, none] := rfl
  have hb : d__law_sets.body = .cons (.asg 1 (.lst false (.cons (.tup .nil) .nil))) (.cons (.loop (.one 2) (.seq (.loc 0)) setsB) (.cons (.ret (.sortLen (.loc 1))) .nil)) := rfl
  have s2 : exS (call T F n) F (.loop (.one 2) (.seq (.loc 0)) setsB) [some (.py d), some (.py (.list [.tuple []])), none, none] [] = .ok (.nx [some (.py d), some (.py (.list ((setsU ws).map eStrs))), y2, none]) [] := by
    rw [x_loop, hi, R.bind_ok]
    exact e
  have m1 : mkLst false [.py (.tuple [])] [] = .ok (.py (.list [.tuple []])) [] := rfl
  have lu : (setsU ws).length < 1000000 := by
    unfold setsU
    rw [setsU_len]
    simp only [List.length_cons, List.length_nil]
    omega
  have so := sortLen_run (G := call T F n) (S := []) (r := [some (.py d), some (.py (.list ((setsU ws).map eStrs))), y2, none]) (i := 1) (l := setsU ws) rfl lu
  refine call_py (xs := [d]) (S' := []) h._law_sets rfl ?_
  rw [hs, hb]
  simp only [x_cons, x_nil, x_asg, x_ret, x_exp, x_ite, x_par, x_unp, x_sub, ev_con, ev_glo, ev_loc, ev_tup, ev_lst, ev_dic, ev_bop, ev_cmp, ev_cmp2, ev_and, ev_or, ev_not, ev_ite, ev_idx, ev_call, ev_blt, ev_isi, ev_met, ev_nil, ev_cons, R.bind_ok, R.of_some, okL_some, okO_some, tt3_t, tt3_f, List.getElem?_cons_zero, List.getElem?_cons_succ, List.set_cons_zero, List.set_cons_succ, bl, truth, Option.map_some, Bool.not_true, Bool.not_false, if_true, mkT0, m1, s2, so, endD]
  rfl
/-! ### the kinds of a book -/
theorem merge_keys : ∀ {more kvs : List (Str × D)}, (kvs.map (·.1)).Nodup → ((mergeS kvs more).map (·.1)).Nodup ∧ ∀ x ∈ (mergeS kvs more).map (·.1), x ∈ kvs.map (·.1) ∨ x ∈ more.map (·.1)
  | [], kvs, nd => ⟨nd, fun x hx => .inl hx⟩
  | m :: more, kvs, nd => by
    have k := dput_keys (kvs := kvs) (k := m.1) (v := m.2)
    have nd2 : ((dput kvs m.1 m.2).map (·.1)).Nodup := by
      rw [k]
      split
      · exact nd
      · rename_i z
        rw [List.nodup_append]
        exact ⟨nd, by simp, fun x hx y hy e => z (by rw [List.mem_singleton.mp hy] at e; rw [← e]; exact hx)⟩
    obtain ⟨a, b⟩ := merge_keys (more := more) nd2
    refine ⟨a, fun x hx => ?_⟩
    rcases b x hx with z | z
    · rw [k] at z
      split at z
      · exact .inl z
      · rcases List.mem_append.mp z with z | z
        · exact .inl z
        · exact .inr (by rw [List.mem_singleton.mp z]; exact List.mem_cons_self)
    · exact .inr (List.mem_cons_of_mem _ z)
def kindsL (b : Book) : List Str := (mergeS [] (b.codes.map fun c => (c.kind, D.py (.int 0)))).map (·.1)
def kindsN (b : Book) : List Str := sortB strLe (kindsL b)
def subsK : List (List Str) := [[], ["j"], ["k"], ["l"], ["j", "k"], ["j", "l"], ["k", "l"], ["j", "k", "l"]]
theorem in3 {x : Str} (h : x ∈ kinds3) : x = "j" ∨ x = "k" ∨ x = "l" := by simpa [kinds3] using h
def perms16 : List (List Str) := [[], ["j"], ["k"], ["l"], ["j", "k"], ["k", "j"], ["j", "l"], ["l", "j"], ["k", "l"], ["l", "k"], ["j", "k", "l"], ["j", "l", "k"], ["k", "j", "l"], ["k", "l", "j"], ["l", "j", "k"], ["l", "k", "j"]]
theorem perms_mem {l : List Str} (nd : l.Nodup) (h : ∀ x ∈ l, x ∈ kinds3) : l ∈ perms16 := by
  have ln : l.length ≤ 3 := nodup_len nd h
  match l, nd, h, ln with
  | [], _, _, _ => decide +kernel
  | [a], nd, h, _ =>
    rcases in3 (h a (by simp)) with rfl | rfl | rfl <;> decide +kernel
  | [a, b], nd, h, _ =>
    rcases in3 (h a (by simp)) with rfl | rfl | rfl <;> rcases in3 (h b (by simp)) with rfl | rfl | rfl <;> first | (exact absurd nd (by decide +kernel)) | decide +kernel
  | [a, b, c], nd, h, _ =>
    rcases in3 (h a (by simp)) with rfl | rfl | rfl <;> rcases in3 (h b (by simp)) with rfl | rfl | rfl <;> rcases in3 (h c (by simp)) with rfl | rfl | rfl <;> first | (exact absurd nd (by decide +kernel)) | decide +kernel
theorem perms_sort : ∀ l ∈ perms16, sortB strLe l ∈ subsK := by decide +kernel
theorem kinds_sub {b : Book} (hb : BookOk b) : kindsN b ∈ subsK := by
  obtain ⟨nd, mem⟩ := merge_keys (more := b.codes.map fun c => (c.kind, D.py (.int 0))) (kvs := []) .nil
  refine perms_sort _ (perms_mem nd fun x hx => ?_)
  rcases mem x hx with z | z
  · cases z
  · rw [List.map_map] at z
    obtain ⟨c, hc, rfl⟩ := List.mem_map.mp z
    exact (hb.codes c hc).kind
theorem subsK_term : ∀ l ∈ subsK, (l ++ [("zz" : Str)]).length ≤ 12 ∧ (∀ x ∈ l ++ [("zz" : Str)], ofB letters x = true) ∧ risB (l ++ [("zz" : Str)]) = true ∧ l.length ≤ 3 := by decide +kernel
theorem kinds_term {b : Book} (hb : BookOk b) : TermOk (kindsN b ++ [("zz" : Str)]) ∧ (kindsN b).length ≤ 3 := by
  obtain ⟨h1, h2, h3, h4⟩ := subsK_term _ (kinds_sub hb)
  exact ⟨⟨h1, h2, h3⟩, h4⟩
theorem k_law_kinds (h : StdK T) {b : Book} (hb : BookOk b) : call T F (n + 1) mu "_law_kinds" [.py (eBook b)] S = .ok (.py (.list ((kindsN b).map .str))) S := by
  have few := hb.few
  have hs : startD d__law_kinds ([eBook b].map .py) = [some (.py (eBook b)), none, none, none] := rfl
  have e2 : evE (call T F n) (.idx (.loc 0) (.con (.int 2))) [some (.py (eBook b)), none, none, none] [] = .ok (.py (.tuple (b.codes.map eCode))) [] := ev_at (k := 2) rfl rfl
  have lc : evE (call T F n) (.lc false (.tup (.cons (.loc 2) (.cons (.con (.int 0)) .nil))) [1, 2, 3] (.many [1, 2, 3]) (.seq (.idx (.loc 0) (.con (.int 2)))) .none) [some (.py (eBook b)), none, none, none] [] = .ok (.py (.list (b.codes.map fun c => .tuple [.str c.kind, .int 0]))) [] := by
    rw [lcM (xs := b.codes) eCode (fun c => .tuple [.str c.kind, .int 0]) (src_tup e2) (fun c _ => rfl), mkL (by rw [List.length_map]; omega)]
  obtain ⟨ks, hks⟩ : ∃ ks, ks = mergeS [] (b.codes.map fun c => (c.kind, D.py (.int 0))) := ⟨_, rfl⟩
  have all0 : ∀ p ∈ ks, p.2 = D.py (.int 0) := by
    have gen : ∀ (more kvs : List (Str × D)), (∀ p ∈ kvs, p.2 = D.py (.int 0)) → (∀ p ∈ more, p.2 = D.py (.int 0)) → ∀ p ∈ mergeS kvs more, p.2 = D.py (.int 0) := by
      intro more
      induction more with
      | nil => intro kvs h1 _ p hp; exact h1 p hp
      | cons m more ih =>
        intro kvs h1 h2 p hp
        refine ih (dput kvs m.1 m.2) (fun q hq => ?_) (fun q hq => h2 q (List.mem_cons_of_mem _ hq)) p hp
        unfold dput at hq
        split at hq
        · obtain ⟨q', hq', rfl⟩ := List.mem_map.mp hq
          split
          · exact h2 m List.mem_cons_self
          · exact h1 q' hq'
        · rcases List.mem_append.mp hq with z | z
          · exact h1 q z
          · rw [List.mem_singleton.mp z]; exact h2 m List.mem_cons_self
    rw [hks]
    exact gen _ _ (fun _ h => nomatch h) (fun p hp => by
      obtain ⟨c, _, rfl⟩ := List.mem_map.mp hp
      rfl)
  have ek : ks = (kindsL b).map fun x => (x, D.py (.int 0)) := by
    unfold kindsL
    rw [← hks, List.map_map]
    conv => lhs; rw [← List.map_id ks]
    refine List.map_congr_left fun p hp => ?_
    simp only [Function.comp, id]
    rw [← all0 p hp]
  have kl3 : (kindsL b).length ≤ 3 := by
    have := (kinds_term hb).2
    unfold kindsN at this
    rwa [sortB_perm.length_eq] at this
  have dp : bltD false .dict [.py (.list (b.codes.map fun c => .tuple [.str c.kind, .int 0]))] [] = .ok (.py (.dict ((kindsL b).map fun x => (.str x, .int 0)))) [] := by
    simp only [bltD, view, pys_py, pairsS_map (fun c : Code => c.kind) (fun _ => .int 0)]
    rw [← hks, ek]
    unfold mkDS
    rw [if_pos (fits_of (by rw [List.length_map]; omega)), pyKv_map (fun x : Str => x) fun _ => .int 0]
    rfl
  have so : bltD false .sorted [.py (.dict ((kindsL b).map fun x => (.str x, .int 0)))] [] = .ok (.py (.list ((kindsN b).map .str))) [] := by
    have v : view [] (.py (.dict ((kindsL b).map fun x => (.str x, .int 0)))) = .dS ((kindsL b).map fun x => (x, D.py (.int 0))) := by
      simp [view, sKeys_map (fun x : Str => x) fun _ => .int 0]
    simp only [bltD, v]
    rw [if_pos (Nat.blt_eq.mpr (by rw [List.length_map]; omega))]
    have e3 : (((kindsL b).map fun x => (x, D.py (.int 0))).map (·.1)) = kindsL b := by simp [Function.comp_def]
    rw [e3]
    have e4 : ((sortB strLe (kindsL b)).map fun x => D.py (.str x)) = ((kindsN b).map .str).map D.py := by
      rw [List.map_map]
      rfl
    rw [e4, mkL (by rw [List.length_map]; have := (kinds_term hb).2; omega)]
  refine call_py (xs := [eBook b]) (S' := []) h._law_kinds rfl ?_
  rw [hs]
  simp only [d__law_kinds, x_cons, x_nil, x_asg, x_ret, x_exp, x_ite, x_par, x_unp, x_sub, ev_con, ev_glo, ev_loc, ev_tup, ev_lst, ev_dic, ev_bop, ev_cmp, ev_cmp2, ev_and, ev_or, ev_not, ev_ite, ev_idx, ev_call, ev_blt, ev_isi, ev_met, ev_nil, ev_cons, R.bind_ok, R.of_some, okL_some, okO_some, tt3_t, tt3_f, List.getElem?_cons_zero, List.getElem?_cons_succ, List.set_cons_zero, List.set_cons_succ, bl, truth, Option.map_some, Bool.not_true, Bool.not_false, if_true, lc, dp, so, endD]
end
end Sf
end
section
set_option maxRecDepth 100000
set_option maxHeartbeats 4000000
namespace Sf
open PySem PySem.Spec L2
open PyProof.Rows hiding St

open SrtO (Swo Srtd Stb eqv stb_uniq)
/-! ### forms of chains -/
abbrev Fm := List (Str × List Str)
def stepF (f : Fm) (p : Str × Str) : Fm := match f.getLast? with
  | some r => if r.1 = p.2 then f.dropLast ++ [(p.2, sortB strLe (r.2 ++ [p.1]))] else f ++ [(p.2, [p.1])]
  | none => f ++ [(p.2, [p.1])]
def form (c : Ch) : Fm := c.foldl stepF []
/-- a run and what comes behind -/
def fr : Str → List Str → Ch → Fm
  | v, ks, [] => [(v, sortB strLe ks)]
  | v, ks, (k, w) :: c => if w = v then fr v (ks ++ [k]) c else (v, sortB strLe ks) :: fr w [k] c
def fm : Ch → Fm
  | [] => []
  | (k, v) :: c => fr v [k] c
theorem sort_perm {l m : List Str} (p : l.Perm m) : sortB strLe l = sortB strLe m :=
  sortB_uniq strLt_swo (sortB_srtd strLt_swo) (stb_total (fun _ _ => strLt_eqv) (sortB_perm.trans p))
theorem sort_more {ks : List Str} {k : Str} : sortB strLe (sortB strLe ks ++ [k]) = sortB strLe (ks ++ [k]) := sort_perm (List.Perm.append_right _ sortB_perm)
theorem fold_fr : ∀ {c : Ch} {v : Str} {ks : List Str} {pre : Fm}, c.foldl stepF (pre ++ [(v, sortB strLe ks)]) = pre ++ fr v ks c
  | [], _, _, _ => rfl
  | (k, w) :: c, v, ks, pre => by
    have e : (pre ++ [(v, sortB strLe ks)]).getLast? = some (v, sortB strLe ks) := by simp
    rw [List.foldl_cons]
    have st : stepF (pre ++ [(v, sortB strLe ks)]) (k, w) = if v = w then pre ++ [(w, sortB strLe (ks ++ [k]))] else pre ++ [(v, sortB strLe ks)] ++ [(w, [k])] := by
      unfold stepF
      rw [e]
      simp only [List.dropLast_concat, sort_more]
    rw [st]
    unfold fr
    by_cases h : w = v
    · subst h
      rw [if_pos rfl, if_pos rfl]
      exact fold_fr
    · rw [if_neg fun z => h z.symm, if_neg h]
      have := fold_fr (c := c) (v := w) (ks := [k]) (pre := pre ++ [(v, sortB strLe ks)])
      refine this.trans ?_
      simp [List.append_assoc]
theorem form_fm {c : Ch} : form c = fm c := by
  cases c with
  | nil => rfl
  | cons p c =>
    obtain ⟨k, v⟩ := p
    exact fold_fr (c := c) (v := v) (ks := [k]) (pre := [])
def worthF (f : Fm) (t : List Str) : Option Str := (f.find? fun r => r.2.any fun k => decide (k ∈ t)).map (·.1)
theorem any_sort {ks : List Str} {f : Str → Bool} : (sortB strLe ks).any f = ks.any f := by
  rw [Bool.eq_iff_iff, List.any_eq_true, List.any_eq_true]
  constructor
  · rintro ⟨x, hx, h⟩
    exact ⟨x, sortB_perm.mem_iff.mp hx, h⟩
  · rintro ⟨x, hx, h⟩
    exact ⟨x, sortB_perm.mem_iff.mpr hx, h⟩
theorem worth_fr {t : List Str} : ∀ {c : Ch} {v : Str} {ks : List Str}, worthF (fr v ks c) t = if (ks.any fun k => decide (k ∈ t)) = true then some v else worth c t
  | [], v, ks => by
    unfold fr worthF worth
    rw [List.find?_cons, any_sort]
    cases ks.any fun k => decide (k ∈ t) <;> rfl
  | (k, w) :: c, v, ks => by
    unfold fr
    by_cases h : w = v
    · subst h
      rw [if_pos rfl, worth_fr, List.any_append]
      unfold worth
      rw [List.find?_cons]
      cases h1 : ks.any fun k => decide (k ∈ t) with
      | true => simp
      | false =>
        by_cases h2 : k ∈ t
        · simp [h2]
        · simp [h2]
    · rw [if_neg h]
      have ih := worth_fr (t := t) (c := c) (v := w) (ks := [k])
      unfold worthF at ih ⊢
      rw [List.find?_cons]
      simp only [any_sort]
      cases h1 : ks.any fun k => decide (k ∈ t) with
      | true => rfl
      | false =>
        simp only [Bool.false_eq_true, if_false]
        rw [ih]
        unfold worth
        rw [List.find?_cons]
        by_cases h2 : k ∈ t
        · simp [h2]
        · simp [h2]
theorem worth_fm {c : Ch} {t : List Str} : worthF (fm c) t = worth c t := by
  cases c with
  | nil => rfl
  | cons p c =>
    obtain ⟨k, v⟩ := p
    show worthF (fr v [k] c) t = _
    rw [worth_fr]
    unfold worth
    rw [List.find?_cons]
    by_cases h2 : k ∈ t
    · simp [h2]
    · simp [h2]
theorem worth_of_form {c d : Ch} (h : form c = form d) (t : List Str) : worth c t = worth d t := by
  rw [← worth_fm, ← worth_fm, ← form_fm, ← form_fm, h]
/-! the other way -/
theorem fr_split : ∀ {c : Ch} {v : Str} {ks : List Str}, fr v ks c = (v, sortB strLe (ks ++ (c.takeWhile fun p => decide (p.2 = v)).map (·.1))) :: fm (c.dropWhile fun p => decide (p.2 = v))
  | [], v, ks => by simp [fr, fm]
  | (k, w) :: c, v, ks => by
    unfold fr
    by_cases h : w = v
    · subst h
      rw [if_pos rfl, fr_split]
      simp [List.append_assoc]
    · rw [if_neg h]
      have e : decide (w = v) = false := by simp [h]
      rw [List.takeWhile_cons, List.dropWhile_cons]
      simp only [e, Bool.false_eq_true, if_false, List.map_nil, List.append_nil]
      rfl
theorem worth_app {a c : Ch} {t : List Str} : worth (a ++ c) t = match worth a t with
    | some v => some v
    | none => worth c t := by
  unfold worth
  rw [List.find?_append]
  cases a.find? fun p => decide (p.1 ∈ t) <;> rfl
theorem worth_none {c : Ch} {t : List Str} (h : ∀ p ∈ c, p.1 ∉ t) : worth c t = none := by
  unfold worth
  rw [List.find?_eq_none.mpr fun p hp => by simp [h p hp]]
  rfl
theorem worth_run {a : Ch} {v : Str} {t : List Str} (ha : ∀ p ∈ a, p.2 = v) (h : ∃ p ∈ a, p.1 ∈ t) : worth a t = some v := by
  unfold worth
  cases q : a.find? fun p => decide (p.1 ∈ t) with
  | none =>
    obtain ⟨p, hp, hpt⟩ := h
    have := List.find?_eq_none.mp q p hp
    simp [hpt] at this
  | some p =>
    show some p.2 = some v
    rw [ha p (List.mem_of_find?_eq_some q)]
theorem worth_congr {c : Ch} {t u : List Str} (h : ∀ p ∈ c, (p.1 ∈ t ↔ p.1 ∈ u)) : worth c t = worth c u := by
  unfold worth
  congr 1
  induction c with
  | nil => rfl
  | cons p c ih =>
    have hp := h p List.mem_cons_self
    rw [List.find?_cons, List.find?_cons, ih fun q hq => h q (List.mem_cons_of_mem _ hq)]
    by_cases z : p.1 ∈ t
    · simp [z, hp.mp z]
    · have z' : p.1 ∉ u := fun w => z (hp.mpr w)
      simp [z, z']
theorem worth_one {c : Ch} (nd : (c.map (·.1)).Nodup) {p : Str × Str} (hp : p ∈ c) : worth c [p.1] = some p.2 := by
  unfold worth
  cases q : c.find? fun x => decide (x.1 ∈ [p.1]) with
  | none =>
    have := List.find?_eq_none.mp q p hp
    simp at this
  | some r =>
    have h1 : r.1 = p.1 := by simpa using List.find?_some q
    have h2 := List.mem_of_find?_eq_some q
    have : r.2 = p.2 := nodup_snd nd (x := r.2) (y := p.2) (by rw [← h1]; exact h2) hp
    show some r.2 = _
    rw [this]
theorem worth_some {c : Ch} {t : List Str} {v : Str} (h : worth c t = some v) : ∃ p ∈ c, p.1 ∈ t ∧ p.2 = v := by
  unfold worth at h
  cases q : c.find? fun x => decide (x.1 ∈ t) with
  | none => rw [q] at h; cases h
  | some r =>
    rw [q] at h
    cases h
    exact ⟨r, List.mem_of_find?_eq_some q, by simpa using List.find?_some q, rfl⟩
/-- a run of c is one of d -/
theorem run_sub {a c b d : Ch} {v : Str} (nc : ((a ++ c).map (·.1)).Nodup) (nd : ((b ++ d).map (·.1)).Nodup) (ha : ∀ p ∈ a, p.2 = v) (hd : ∀ p, d.head? = some p → p.2 ≠ v) (h : ∀ t, worth (a ++ c) t = worth (b ++ d) t) : ∀ p ∈ a, p.1 ∈ b.map (·.1) := by
  intro p hp
  have w1 := worth_one nc (List.mem_append_left c hp)
  rw [ha p hp, h] at w1
  obtain ⟨q, hq, q1, q2⟩ := worth_some w1
  have q1 : q.1 = p.1 := by simpa using q1
  rcases List.mem_append.mp hq with z | z
  · rw [← q1]
    exact List.mem_map.mpr ⟨q, z, rfl⟩
  · exfalso
    rw [List.map_append, List.nodup_append] at nd
    cases d with
    | nil => cases z
    | cons y d =>
      have hy := hd y rfl
      have ny : y.1 ≠ q.1 := fun e => by
        have e2 := nodup_snd nd.2.1 (a := y.1) (x := y.2) (y := q.2) List.mem_cons_self (by rw [e]; exact z)
        exact hy (e2.trans q2)
      have wd : worth (b ++ y :: d) [p.1, y.1] = some y.2 := by
        rw [worth_app, worth_none (fun r hr => ?_)]
        · unfold worth
          rw [List.find?_cons]
          simp
        · intro hm
          have hrb : r.1 ∈ b.map (·.1) := List.mem_map.mpr ⟨r, hr, rfl⟩
          rcases List.mem_cons.mp hm with e | hm
          · exact nd.2.2 r.1 hrb q.1 (List.mem_map.mpr ⟨q, z, rfl⟩) (by rw [e, q1])
          · exact nd.2.2 r.1 hrb y.1 (List.mem_map.mpr ⟨y, List.mem_cons_self, rfl⟩) (by simpa using hm)
      have wc : worth (a ++ c) [p.1, y.1] = some v := by
        rw [worth_app, worth_run ha ⟨p, hp, by simp⟩]
      rw [h, wd] at wc
      exact hy (Option.some.inj wc)
theorem take_all {c : Ch} {v : Str} : ∀ p ∈ c.takeWhile (fun p => decide (p.2 = v)), p.2 = v := fun p hp => by
  induction c with
  | nil => cases hp
  | cons q c ih =>
    rw [List.takeWhile_cons] at hp
    split at hp
    · rename_i hq
      rcases List.mem_cons.mp hp with z | z
      · rw [z]; simpa using hq
      · exact ih z
    · cases hp
theorem drop_head {c : Ch} {v : Str} : ∀ p, (c.dropWhile fun p => decide (p.2 = v)).head? = some p → p.2 ≠ v := fun p hp => by
  have := List.head?_dropWhile_not (fun p : Str × Str => decide (p.2 = v)) c
  rw [hp] at this
  simpa using this
theorem fm_inj : ∀ (n : Nat) {c d : Ch}, c.length ≤ n → (c.map (·.1)).Nodup → (d.map (·.1)).Nodup → (∀ t, worth c t = worth d t) → fm c = fm d
  | n, [], [], _, _, _, _ => rfl
  | n, [], q :: d, _, _, nd, h => by
    have := worth_one nd (p := q) List.mem_cons_self
    rw [← h] at this
    cases this
  | n, p :: c, [], _, nc, _, h => by
    have := worth_one nc (p := p) List.mem_cons_self
    rw [h] at this
    cases this
  | 0, p :: c, q :: d, hl, _, _, _ => by simp at hl
  | n + 1, (k, v) :: c, (k0, v0) :: d, hl, nc, nd, h => by
    have ev : v0 = v := by
      have w1 : worth ((k, v) :: c) [k, k0] = some v := by unfold worth; rw [List.find?_cons]; simp
      have w2 : worth ((k0, v0) :: d) [k, k0] = some v0 := by unfold worth; rw [List.find?_cons]; simp
      rw [h, w2] at w1
      exact Option.some.inj w1
    subst ev
    show fr v0 [k] c = fr v0 [k0] d
    rw [fr_split, fr_split]
    obtain ⟨a, ea⟩ : ∃ a, a = (k, v0) :: c.takeWhile (fun p => decide (p.2 = v0)) := ⟨_, rfl⟩
    obtain ⟨b, eb⟩ : ∃ b, b = (k0, v0) :: d.takeWhile (fun p => decide (p.2 = v0)) := ⟨_, rfl⟩
    obtain ⟨c', ec⟩ : ∃ c', c' = c.dropWhile fun p => decide (p.2 = v0) := ⟨_, rfl⟩
    obtain ⟨d', ed⟩ : ∃ d', d' = d.dropWhile fun p => decide (p.2 = v0) := ⟨_, rfl⟩
    have e1 : (k, v0) :: c = a ++ c' := by rw [ea, ec, List.cons_append, List.takeWhile_append_dropWhile]
    have e2 : (k0, v0) :: d = b ++ d' := by rw [eb, ed, List.cons_append, List.takeWhile_append_dropWhile]
    have ha : ∀ p ∈ a, p.2 = v0 := fun p hp => by
      rw [ea] at hp
      rcases List.mem_cons.mp hp with z | z
      · rw [z]
      · exact take_all p z
    have hb : ∀ p ∈ b, p.2 = v0 := fun p hp => by
      rw [eb] at hp
      rcases List.mem_cons.mp hp with z | z
      · rw [z]
      · exact take_all p z
    have hc' : ∀ p, c'.head? = some p → p.2 ≠ v0 := by rw [ec]; exact drop_head
    have hd' : ∀ p, d'.head? = some p → p.2 ≠ v0 := by rw [ed]; exact drop_head
    rw [e1] at nc
    rw [e2] at nd
    rw [e1, e2] at h
    have s1 := run_sub nc nd ha hd' h
    have s2 := run_sub nd nc hb hc' fun t => (h t).symm
    have nc2 := nc
    have nd2 := nd
    rw [List.map_append, List.nodup_append] at nc2 nd2
    have pm : (a.map (·.1)).Perm (b.map (·.1)) := by
      refine (List.perm_ext_iff_of_nodup nc2.1 nd2.1).mpr fun x => ⟨fun hx => ?_, fun hx => ?_⟩
      · obtain ⟨p, hp, rfl⟩ := List.mem_map.mp hx
        exact s1 p hp
      · obtain ⟨p, hp, rfl⟩ := List.mem_map.mp hx
        exact s2 p hp
    have es : sortB strLe (k :: (c.takeWhile fun p => decide (p.2 = v0)).map (·.1)) = sortB strLe (k0 :: (d.takeWhile fun p => decide (p.2 = v0)).map (·.1)) := by
      rw [ea, eb] at pm
      exact sort_perm pm
    have le : c'.length ≤ n := by
      rw [ec]
      have := (List.dropWhile_sublist (fun p : Str × Str => decide (p.2 = v0)) (l := c)).length_le
      simp only [List.length_cons] at hl
      omega
    have ag : ∀ t, worth c' t = worth d' t := fun t => by
      obtain ⟨u, hu⟩ : ∃ u, u = t.filter fun x => decide (x ∉ a.map (·.1)) := ⟨_, rfl⟩
      have n1 : worth a u = none := worth_none fun p hp hm => by
        rw [hu, List.mem_filter] at hm
        have := of_decide_eq_true hm.2
        exact this (List.mem_map.mpr ⟨p, hp, rfl⟩)
      have n2 : worth b u = none := worth_none fun p hp hm => by
        rw [hu, List.mem_filter] at hm
        have := of_decide_eq_true hm.2
        exact this (pm.mem_iff.mpr (List.mem_map.mpr ⟨p, hp, rfl⟩))
      have x1 : worth c' t = worth c' u := worth_congr fun p hp => by
        rw [hu, List.mem_filter]
        refine ⟨fun z => ⟨z, decide_eq_true fun w => ?_⟩, fun z => z.1⟩
        exact nc2.2.2 p.1 w p.1 (List.mem_map.mpr ⟨p, hp, rfl⟩) rfl
      have x2 : worth d' t = worth d' u := worth_congr fun p hp => by
        rw [hu, List.mem_filter]
        refine ⟨fun z => ⟨z, decide_eq_true fun w => ?_⟩, fun z => z.1⟩
        exact nd2.2.2 p.1 (pm.mem_iff.mp w) p.1 (List.mem_map.mpr ⟨p, hp, rfl⟩) rfl
      have hh := h u
      rw [worth_app, worth_app, n1, n2] at hh
      rw [x1, x2]
      exact hh
    show (v0, sortB strLe (k :: (c.takeWhile fun p => decide (p.2 = v0)).map (·.1))) :: fm (c.dropWhile fun p => decide (p.2 = v0)) = (v0, sortB strLe (k0 :: (d.takeWhile fun p => decide (p.2 = v0)).map (·.1))) :: fm (d.dropWhile fun p => decide (p.2 = v0))
    rw [es, ← ec, ← ed, fm_inj n le nc2.2.1 nd2.2.1 ag]
/-- all sets of kinds are asked -/
theorem setsU_all : ∀ {ws : List Str} {r : List Str}, r.Sublist ws → ∀ {f : List (List Str)} {pre : List Str}, pre ∈ f → (pre ++ r) ∈ ws.foldl (fun f w => f ++ f.map fun r => r ++ [w]) f := by
  intro ws
  induction ws with
  | nil =>
    intro r h f pre hp
    have : r = [] := List.eq_nil_of_sublist_nil h
    subst this
    simpa using hp
  | cons w ws ih =>
    intro r h f pre hp
    rw [List.foldl_cons]
    rcases sub_cons h with h | ⟨r', rfl, h'⟩
    · exact ih h (List.mem_append_left _ hp)
    · have := ih h' (f := f ++ f.map fun r => r ++ [w]) (pre := pre ++ [w]) (List.mem_append_right _ (List.mem_map.mpr ⟨pre, hp, rfl⟩))
      simpa using this
theorem setsN_all {ws r : List Str} (h : r.Sublist ws) : r ∈ setsN ws := by
  have := setsU_all h (f := [[]]) (pre := []) (by simp)
  rw [List.nil_append] at this
  exact sortB_perm.mem_iff.mpr this
theorem form_iff {c d : Ch} {ws : List Str} (nc : (c.map (·.1)).Nodup) (nd : (d.map (·.1)).Nodup) (hc : ∀ p ∈ c, p.1 ∈ ws) (hd : ∀ p ∈ d, p.1 ∈ ws) : form c = form d ↔ ∀ t ∈ setsN ws, worth c t = worth d t := by
  constructor
  · intro h t _
    exact worth_of_form h t
  · intro h
    rw [form_fm, form_fm]
    refine fm_inj c.length (Nat.le_refl _) nc nd fun t => ?_
    have hs := h _ (setsN_all (List.filter_sublist (p := fun x => decide (x ∈ t)) (l := ws)))
    rw [worth_congr (c := c) (t := t) (u := ws.filter fun x => decide (x ∈ t)) fun p hp => ⟨fun z => List.mem_filter.mpr ⟨hc p hp, decide_eq_true z⟩, fun z => of_decide_eq_true (List.mem_filter.mp z).2⟩,
      worth_congr (c := d) (t := t) (u := ws.filter fun x => decide (x ∈ t)) fun p hp => ⟨fun z => List.mem_filter.mpr ⟨hd p hp, decide_eq_true z⟩, fun z => of_decide_eq_true (List.mem_filter.mp z).2⟩]
    exact hs
end Sf
end
section
set_option maxRecDepth 100000
set_option maxHeartbeats 4000000
namespace Sf
open PySem PySem.Spec L2
open PyProof.Rows hiding St

/-! ### repr of data -/
section
variable {T : Tab} {F n : Nat} {mu : Bool} {S : Store}
structure Rpr (d : PyData) : Prop where
  sh : SeqAt.shaped d = true
  show_ : d.showable = true
  ints_ : d.intsShort 13 = true
  wt : d.weight ≤ 1000000
theorem repr_run {d : D} {x : PyData} (hf : frzD S d = some x) (h : Rpr x) : bltD false .repr [d] S = .ok (.py (.str x.shown)) S := by
  simp only [bltD, hf, h.sh, h.show_, h.ints_, Nat.ble_eq.mpr h.wt, Bool.and_self, if_true]
theorem nums_rpr {l : List Nat} (h : ∀ k ∈ l, k < 1000) (hl : l.length < 1000) : Rpr (eNs l) := by
  have e : eNs l = .list ((l.map fun k : Nat => (k : Int)).map .int) := by simp [eNs, Function.comp_def]
  refine ⟨(shp_lst (n := 0) fun d hd => ?_).shaped (by omega), ?_, ?_, ?_⟩
  · obtain ⟨k, _, rfl⟩ := List.mem_map.mp hd
    exact shp_int
  · unfold eNs
    simp only [PyData.showable]
    clear e hl
    induction l with
    | nil => rfl
    | cons k l ih =>
      have hk := h k List.mem_cons_self
      simp only [List.map_cons, PyData.showableAll, PyData.showable, ih fun x hx => h x (List.mem_cons_of_mem _ hx), Bool.and_true]
      refine decide_eq_true ?_
      simp only [Int.natAbs_natCast]
      by_cases h0 : k = 0
      · subst h0; decide
      · exact Nat.lt_trans ((Nat.log2_lt h0).mpr (show k < 2 ^ 10 by omega)) (by omega)
  · rw [e]
    simp only [PyData.intsShort]
    refine PyData.intsShortAll_ints _ fun i hi => ?_
    obtain ⟨k, hk, rfl⟩ := List.mem_map.mp hi
    have := h k hk
    simp only [Int.natAbs_natCast]
    omega
  · have w : ∀ l : List Nat, (∀ k ∈ l, k < 1000) → PyData.weightAll (l.map fun k : Nat => .int k) ≤ 12 * l.length := by
      intro l
      induction l with
      | nil => intro _; exact Nat.le_refl _
      | cons k l ih =>
        intro h
        have hk := h k List.mem_cons_self
        have := ih fun x hx => h x (List.mem_cons_of_mem _ hx)
        simp only [List.map_cons, PyData.weightAll, PyData.weight, List.length_cons]
        have lk : (if ((k : Int) == 0) = true then 0 else (k : Int).natAbs.log2 + 1) ≤ 11 := by
          split
          · omega
          · rename_i h0
            have h0 : k ≠ 0 := fun z => h0 (by subst z; rfl)
            simp only [Int.natAbs_natCast]
            have := (Nat.log2_lt h0).mpr (show k < 2 ^ 10 by omega)
            omega
        omega
    unfold eNs
    simp only [PyData.weight]
    have := w l h
    omega
theorem eq_nums {l : List Nat} : eqD S (.py (eNs l)) (.py (eNs l)) = some true := eqD_same (shp_lst (n := 0) fun d hd => by
  obtain ⟨k, _, rfl⟩ := List.mem_map.mp hd
  exact shp_int) (by omega)
theorem in_nats {k : Nat} {l : List Nat} : inD S (.py (.int k)) (.py (eNs l)) = some (decide (k ∈ l)) := by
  have fl : (l.map fun k : Nat => PyData.int k).all flatP = true := by simp [flatP]
  have an : ((l.map fun k : Nat => PyData.int k).any fun e => PyData.eqv e (.int k)) = decide (k ∈ l) := by
    rw [Bool.eq_iff_iff, List.any_eq_true, decide_eq_true_eq]
    constructor
    · rintro ⟨e, he, q⟩
      obtain ⟨j, hj, rfl⟩ := List.mem_map.mp he
      have q : (j : Int) = (k : Int) := by simpa [PyData.eqv] using q
      have : j = k := by omega
      rw [← this]
      exact hj
    · intro h
      exact ⟨.int k, List.mem_map.mpr ⟨k, h, rfl⟩, by simp [PyData.eqv]⟩
  have v : view S (.py (eNs l)) = .lst ((l.map fun k : Nat => PyData.int k).map D.py) := rfl
  unfold inD
  simp only [v, pys_py, fl, an, flatP, Bool.and_self, if_true]
theorem hang_small {b : Book} {t l : List Str} (h2 : l.length < 1000) : (∀ k ∈ hangN b t l, k < 1000) ∧ (hangN b t l).length < 1000 := by
  have lg := sg_len (b := b) (l := l) (t := tb0 b)
  constructor
  · intro k hk
    obtain ⟨p, hp, rfl⟩ := List.mem_map.mp hk
    have := List.mem_zipIdx_iff_getElem?.mp (List.mem_filter.mp hp).1
    have := (List.getElem?_eq_some_iff.mp this).1
    omega
  · unfold hangN
    have := List.length_filter_le (fun p => hangP b t p.1) (sg b (tb0 b) l).zipIdx
    rw [List.length_zipIdx] at this
    rw [List.length_map]
    omega
end
/-! ### a law's loop -/
theorem rangeD_nat (k : Nat) : rangeD 0 (k : Int) = (List.range k).map fun j : Nat => D.py (.int j) := by
  unfold rangeD
  have e : ((k : Int) - 0).toNat = k := by omega
  rw [e]
  refine List.map_congr_left fun j _ => ?_
  rw [Int.zero_add]
section
variable {T : Tab} {F n : Nat}
theorem beg_ok (h : StdD T) {ns : List Int} (hl : ns.length ≤ 63) : ∃ q0 : Sta, q0.Ok ∧ q0.at_ = 0 ∧ call T F (n + 1) true "_law_begin" [.scr ns] [] = .ok (.ref 1) (stO q0 ++ []) := by
  refine ⟨⟨cellsOf ns, (cellsOf ns).map fun c => if c ≥ 1000000000000000000 then c else 0, 0⟩, ⟨?_, by simp, by simp⟩, rfl, ?_⟩
  · show cellsOf ns ≠ []
    unfold cellsOf
    split
    · simp
    · assumption
  · have e : startD d__law_begin [.scr ns] = [some (.scr ns), none, none] := rfl
    rw [call]
    simp only [show [D.scr ns].all isPy = false from rfl, Bool.false_eq_true, if_false, runF, h.begin, e, begin_run hl]
    rfl
/-- range(a + min(len(script), c)) -/
theorem turns_of {G : Gam} {r : Rho} {S : Store} {ns : List Int} {a c : Nat} (h0 : r[0]? = some (some (.scr ns))) (ha : a ≤ 100) (hc : c ≤ 100) (sw : Bool) :
    evI G (.rng1 (.bop false .add (.con (.int a)) (.blt false .min (if sw then .cons (.con (.int c)) (.cons (.blt false .len (.cons (.loc 0) .nil)) .nil) else .cons (.blt false .len (.cons (.loc 0) .nil)) (.cons (.con (.int c)) .nil))))) r S = .ok ⟨(List.range (a + min c ns.length)).map fun j : Nat => .py (.int j), none⟩ S := by
  have hlen : lenD S (.scr ns) = some ns.length := by simp [lenD, view]
  have b1 : bltD false .len [.scr ns] S = .ok (.py (.int ns.length)) S := by simp only [bltD, hlen]
  have e2 : (a : Int) + ((min c ns.length : Nat) : Int) = ((a + min c ns.length : Nat) : Int) := by omega
  have b3 : bopD false .add (.py (.int a)) (.py (.int ((min c ns.length : Nat) : Int))) S = .ok (.py (.int ((a + min c ns.length : Nat) : Int))) S := by rw [← e2]; rfl
  have hr := rng_small (j := ((a + min c ns.length : Nat) : Int)) (by omega) (by omega)
  rw [rangeD_nat] at hr
  have e5 : evE G (.bop false .add (.con (.int a)) (.blt false .min (if sw then .cons (.con (.int c)) (.cons (.blt false .len (.cons (.loc 0) .nil)) .nil) else .cons (.blt false .len (.cons (.loc 0) .nil)) (.cons (.con (.int c)) .nil)))) r S = .ok (.py (.int ((a + min c ns.length : Nat) : Int))) S := by
    cases sw with
    | true =>
      have e1 : (if (ns.length : Int) < (c : Int) then (ns.length : Int) else (c : Int)) = ((min c ns.length : Nat) : Int) := by split <;> omega
      have b2 : bltD false .min [.py (.int c), .py (.int ns.length)] S = .ok (.py (.int ((min c ns.length : Nat) : Int))) S := by rw [← e1]; rfl
      simp only [ev_bop, ev_con, ev_blt, ev_cons, ev_loc, h0, okL_some, R.bind_ok, ev_nil, b1, b2, b3, if_true]
    | false =>
      have e1 : (if (c : Int) < (ns.length : Int) then (c : Int) else (ns.length : Int)) = ((min c ns.length : Nat) : Int) := by split <;> omega
      have b2 : bltD false .min [.py (.int ns.length), .py (.int c)] S = .ok (.py (.int ((min c ns.length : Nat) : Int))) S := by rw [← e1]; rfl
      simp only [ev_bop, ev_con, ev_blt, ev_cons, ev_loc, h0, okL_some, R.bind_ok, ev_nil, b1, b2, b3, Bool.false_eq_true, if_false]
  rw [evI, e5, R.bind_ok, hr]
  rfl
/-- a law that begins, draws in a loop, and then tells True -/
theorem law_loop {fn : Fn} (h : StdD T) (hT : T "law" = some fn) {ns : List Int} (hl : ns.length ≤ 63) {m c k N : Nat} {it : CI} {body : CSs} (hps : fn.ps = 1) (hN : fn.n = N + 2)
    (hb : fn.body = .cons (.asg 1 (.call true "_law_begin" (.cons (.loc 0) .nil))) (.cons (.loop (.one k) it body) (.cons (.ret (.con (.bool true))) .nil)))
    (hi : ∀ S, evI (call T F (n + 1)) it (some (.scr ns) :: some (.ref 1) :: List.replicate N none) S = .ok ⟨(List.range m).map fun j : Nat => .py (.int j), none⟩ S) (hm : c * m < 1000000)
    (I : Rho → Prop) (h0 : I (some (.scr ns) :: some (.ref 1) :: List.replicate N none)) (hI : ∀ r x, I r → I (r.set k (some x)))
    (turn : ∀ r, I r → Dr c (exSs (call T F (n + 1)) F body r) [] (fun fl r' => ∃ r2, fl = .nx r2 ∧ I r2 ∧ r' = [])) : ∃ S, call T F (n + 2) false "law" [.scr ns] [] = .ok (bl true) S := by
  obtain ⟨q0, ok0, at0, hbg⟩ := beg_ok (F := F) (n := n) h hl
  have lp := dr_loopF (ok := (⟨(List.range m).map fun j : Nat => .py (.int j), none⟩ : Src).stands) (f := fun x r1 S2 => match bindT (.one k) x r1 with
      | some r2 => exSs (call T F (n + 1)) F body r2 S2
      | none => .bad) (c := c) (xs := (List.range m).map fun j : Nat => D.py (.int j)) (r := some (.scr ns) :: some (.ref 1) :: List.replicate N none) (rest := [])
      (fun _ r' rest' => I r' ∧ rest' = []) (fun k r rest q _ => rfl) (fun j x hx r rest ⟨hr, hre⟩ => by
        subst hre
        refine (turn (r.set k (some x)) (hI r x hr)).mono (Nat.le_refl _) ?_
        rintro fl r' ⟨r2, rfl, i2, rfl⟩
        exact ⟨_, rfl, i2, rfl⟩) ⟨h0, rfl⟩
  have hln : ((List.range m).map fun j : Nat => D.py (.int j)).length = m := by simp
  obtain ⟨fl, q2, r2, ⟨r', rfl, _, rfl⟩, d2, e2⟩ := lp q0 ok0 (by rw [hln, at0]; omega)
  have s2 : exS (call T F (n + 1)) F (.loop (.one k) it body) (some (.scr ns) :: some (.ref 1) :: List.replicate N none) (stO q0 ++ []) = .ok (.nx r') (stO q2 ++ []) := by
    rw [x_loop, hi, R.bind_ok]
    exact e2
  have hs : startD fn [.scr ns] = some (.scr ns) :: none :: List.replicate N none := by
    unfold startD
    rw [hN, hps]
    rfl
  refine ⟨[], ?_⟩
  rw [call]
  simp only [show [D.scr ns].all isPy = false from rfl, Bool.false_eq_true, if_false, runF, hT, hs, hb]
  rw [if_pos (show [D.scr ns].length = fn.ps from hps.symm)]
  simp only [x_cons, x_asg, ev_call, ev_cons, ev_loc, List.getElem?_cons_zero, okL_some, R.bind_ok, ev_nil, hbg, List.set_cons_succ, List.set_cons_zero, s2, x_ret, ev_con, endD]
  rfl
end
/-! ### comprehensions that draw, nothing left out -/
theorem some_all {B C : Type} {enc : C → PyData} {Q : B → C → Prop} : ∀ {xs : List B} {os : List (Option D)}, Paired (fun x o => ∃ y, o = some (D.py (enc y)) ∧ Q x y) xs os → ∃ ys : List C, os.filterMap id = (ys.map enc).map D.py ∧ Paired Q xs ys
  | _, _, .nil => ⟨[], rfl, .nil⟩
  | x :: xs, _, .cons h t => by
    obtain ⟨ys, e, p⟩ := some_all t
    obtain ⟨y, rfl, hy⟩ := h
    exact ⟨y :: ys, by simpa using e, .cons hy p⟩
section
variable {G : Gam} {F : Nat} {r : Rho} {rest : Store}
theorem dr_lcA {B C : Type} {c : Nat} {elt : CE} {own : List Nat} {t : Tg} {it : CI} {xs : List B} (e : B → D) (enc : C → PyData) (Q : B → C → Prop) (hi : ∀ q, evI G it r (stO q ++ rest) = .ok ⟨xs.map e, none⟩ (stO q ++ rest)) (hl : xs.length < 1000000)
    (h : ∀ x ∈ xs, ∃ r1, bindT t (e x) (wipeD r own) = some r1 ∧ Dr c (evE G elt r1) rest (fun d r' => (∃ y, d = .py (enc y) ∧ Q x y) ∧ r' = rest)) :
    Dr (c * xs.length) (evE G (.lc false elt own t it .none) r) rest (fun d r' => (∃ ys : List C, d = .py (.list (ys.map enc)) ∧ Paired Q xs ys) ∧ r' = rest) := by
  have lp := dr_loopC (ok := (⟨xs.map e, none⟩ : Src).stands) (f := turnC G elt own t .none r) (rest := rest) (c := c) e (fun x o => ∃ y, o = some (D.py (enc y)) ∧ Q x y) (fun q => rfl) (xs := xs) (fun x hx => by
    obtain ⟨r1, hb, d1⟩ := h x hx
    intro q ok hat
    obtain ⟨d, q1, r2, ⟨⟨y, rfl, hy⟩, rfl⟩, dd, e1⟩ := d1 q ok hat
    refine ⟨_, q1, r2, ⟨⟨y, rfl, hy⟩, rfl⟩, dd, ?_⟩
    unfold turnC
    rw [hb]
    simp only [evC, R.bind_ok, if_true, e1])
  intro q ok hat
  obtain ⟨zs, q1, r1, ⟨⟨os, p, rfl⟩, rfl⟩, d1, e1⟩ := lp q ok hat
  obtain ⟨ys, e2, p2⟩ := some_all p
  refine ⟨_, q1, r1, ⟨⟨ys, rfl, p2⟩, rfl⟩, d1, ?_⟩
  have hz : (ys.map enc).length < 1000000 := by
    have := Paired.length p2
    rw [List.length_map]
    omega
  rw [evE_lc, hi, R.bind_ok]
  show (loopC _ _ (xs.map e) _).bind _ = _
  rw [e1, R.bind_ok, e2, mkL hz]
end
theorem paired_fst {A B : Type} {P : B → Prop} : ∀ {xs : List A} {ys : List (A × B)}, Paired (fun x y => y.1 = x ∧ P y.2) xs ys → ys.map (·.1) = xs ∧ ∀ y ∈ ys, P y.2
  | _, _, .nil => ⟨rfl, fun _ h => (nomatch h)⟩
  | _, _, .cons h t => by
    obtain ⟨a, b⟩ := paired_fst t
    refine ⟨by rw [List.map_cons, h.1, a], fun y hy => ?_⟩
    rcases List.mem_cons.mp hy with z | z
    · rw [z]; exact h.2
    · exact b y z
/-- dict of pairs of texts with unlike keys -/
theorem dict_ent {S : Store} {e : Ent} (nd : (e.map (·.1)).Nodup) (hl : e.length < 1000) : bltD false .dict [.py (.list (e.map ePair))] S = .ok (.py (eEnt e)) S := by
  have := dict_pairs (mu := false) (S := S) (k := fun p : Str × Str => p.1) (v := fun p => .str p.2) (xs := e) nd
  refine this.trans ?_
  unfold mkDS
  rw [if_pos (fits_of (by rw [List.length_map]; omega)), pyKv_map (fun p : Str × Str => p.1) fun p => .str p.2]
  rfl
end Sf
end
section
set_option maxRecDepth 100000
set_option maxHeartbeats 4000000
namespace Sf
open PySem PySem.Spec L2
open PyProof.Rows hiding St

/-! ### form_in and what rests on it -/
def d_form_in : Fn := ⟨1, 4,
  (.cons (.asg 1 (.lst true .nil))
  (.cons (.loop (.many [2, 3]) (.seq (.loc 0)) (.cons (.ite (.and (.cmp .ne (.loc 1) (.lst false .nil)) (.cmp .eq (.idx (.idx (.loc 1) (.neg (.con (.int 1)))) (.con (.int 0))) (.loc 3))) (.cons (.sub (.loc 1) (.neg (.con (.int 1))) (.tup (.cons (.loc 3) (.cons (.blt false .tuple (.cons (.blt false .sorted (.cons (.bop false .add (.idx (.idx (.loc 1) (.neg (.con (.int 1)))) (.con (.int 1))) (.tup (.cons (.loc 2) .nil))) .nil)) .nil)) .nil))))
  .nil) (.cons (.exp (.met false .append (.loc 1) (.cons (.tup (.cons (.loc 3) (.cons (.tup (.cons (.loc 2) .nil)) .nil))) .nil)))
  .nil))
  .nil))
  (.cons (.ret (.blt false .tuple (.cons (.loc 1) .nil)))
  .nil)))⟩
def d_forms_by_signs : Fn := ⟨2, 4,
  (.cons (.ret (.lc false (.lc false (.call false "form_in" (.cons (.loc 3) .nil)) [3] (.one 3) (.seq (.loc 2)) .none) [2] (.one 2) (.seq (.call false "chains_by_signs" (.cons (.loc 0) (.cons (.loc 1) .nil)))) .none))
  .nil)⟩
def d_signs_of : Fn := ⟨2, 3,
  (.cons (.ret (.blt false .tuple (.cons (.lc false (.loc 2) [2] (.one 2) (.seq (.call false "need_stream" (.cons (.loc 0) (.cons (.loc 1) .nil)))) (.some (.call false "is_sign" (.cons (.loc 2) .nil)))) .nil)))
  .nil)⟩
def d_need_both : Fn := ⟨3, 3,
  (.cons (.exp (.call false "need_stream" (.cons (.loc 0) (.cons (.loc 1) .nil))))
  (.cons (.exp (.call false "need_stream" (.cons (.loc 0) (.cons (.loc 2) .nil))))
  (.cons (.ite (.cmp .ne (.call false "signs_of" (.cons (.loc 0) (.cons (.loc 1) .nil))) (.call false "signs_of" (.cons (.loc 0) (.cons (.loc 2) .nil)))) (.cons .rais
  .nil) .nil)
  .nil)))⟩
def d_alike : Fn := ⟨3, 3,
  (.cons (.exp (.call false "need_both" (.cons (.loc 0) (.cons (.loc 1) (.cons (.loc 2) .nil)))))
  (.cons (.ret (.cmp .eq (.call false "forms_by_signs" (.cons (.loc 0) (.cons (.loc 1) .nil))) (.call false "forms_by_signs" (.cons (.loc 0) (.cons (.loc 2) .nil)))))
  .nil))⟩

structure StdF (T : Tab) : Prop extends StdG T where
  form_in : T "form_in" = some d_form_in
  forms_by_signs : T "forms_by_signs" = some d_forms_by_signs
  signs_of : T "signs_of" = some d_signs_of
  need_both : T "need_both" = some d_need_both
  alike : T "alike" = some d_alike

def eRun (r : Str × List Str) : PyData := .tuple [.str r.1, eStrs r.2]
def eForm (f : Fm) : PyData := .tuple (f.map eRun)
def eFs (fs : List Fm) : PyData := .list (fs.map eForm)
def eFF (l : List (List Fm)) : PyData := .list (l.map eFs)
def formsN (b : Book) (l : List Str) : List (List Fm) := (sc b (tb0 b) l).map fun cs => cs.map form
/-! equality of data that are written from unlike things -/
theorem eqvAll_map {A : Type} [DecidableEq A] {e : A → PyData} (h : ∀ a b, PyData.eqv (e a) (e b) = decide (a = b)) : ∀ {l m : List A}, PyData.eqvAll (l.map e) (m.map e) = decide (l = m)
  | [], [] => rfl
  | [], _ :: _ => rfl
  | _ :: _, [] => rfl
  | x :: l, y :: m => by
    simp only [List.map_cons, PyData.eqvAll, h, eqvAll_map h]
    rw [Bool.eq_iff_iff]
    simp
theorem eqv_strs {l m : List Str} : PyData.eqv (eStrs l) (eStrs m) = decide (l = m) := by
  simp only [eStrs, PyData.eqv]
  exact eqvAll_strs
theorem eqv_run (r q : Str × List Str) : PyData.eqv (eRun r) (eRun q) = decide (r = q) := by
  obtain ⟨x, l⟩ := r
  obtain ⟨y, m⟩ := q
  simp only [eRun, PyData.eqv, PyData.eqvAll, eqv_strs]
  rw [Bool.eq_iff_iff]
  simp
theorem eqv_form (f g : Fm) : PyData.eqv (eForm f) (eForm g) = decide (f = g) := by
  simp only [eForm, PyData.eqv]
  exact eqvAll_map eqv_run
theorem eqv_fs (f g : List Fm) : PyData.eqv (eFs f) (eFs g) = decide (f = g) := by
  simp only [eFs, PyData.eqv]
  exact eqvAll_map eqv_form
theorem eqv_ff (f g : List (List Fm)) : PyData.eqv (eFF f) (eFF g) = decide (f = g) := by
  simp only [eFF, PyData.eqv]
  exact eqvAll_map eqv_fs
/-- texts of a form -/
def FmOk (f : Fm) : Prop := ∀ r ∈ f, PyData.strOk r.1 = true ∧ ∀ x ∈ r.2, PyData.strOk x = true
theorem shp_strsO {l : List Str} (h : ∀ x ∈ l, PyData.strOk x = true) : Shp 1 (eStrs l) := shp_tup fun d hd => by
  obtain ⟨x, hx, rfl⟩ := List.mem_map.mp hd
  exact shp_str (h x hx)
theorem shp_run {r : Str × List Str} (h1 : PyData.strOk r.1 = true) (h2 : ∀ x ∈ r.2, PyData.strOk x = true) : Shp 2 (eRun r) := shp_tup fun d hd => by
  rcases List.mem_cons.mp hd with rfl | hd
  · exact (shp_str h1).mono (by omega)
  · rw [List.mem_singleton.mp hd]
    exact shp_strsO h2
theorem shp_form {f : Fm} (h : FmOk f) : Shp 3 (eForm f) := shp_tup fun d hd => by
  obtain ⟨r, hr, rfl⟩ := List.mem_map.mp hd
  exact shp_run (h r hr).1 (h r hr).2
theorem shp_ff {l : List (List Fm)} (h : ∀ fs ∈ l, ∀ f ∈ fs, FmOk f) : Shp 5 (eFF l) := shp_lst fun d hd => by
  obtain ⟨fs, hfs, rfl⟩ := List.mem_map.mp hd
  exact shp_lst fun d hd => by
    obtain ⟨f, hf, rfl⟩ := List.mem_map.mp hd
    exact shp_form (h fs hfs f hf)
def ChT (c : Ch) : Prop := ∀ p ∈ c, PyData.strOk p.1 = true ∧ PyData.strOk p.2 = true
theorem ChOk.txt {c : Ch} (h : ChOk c) : ChT c := fun p hp => ⟨texts_ok _ (kinds_t _ (h.ks p hp).1), texts_ok _ (vals_t _ (h.ks p hp).2)⟩
theorem stepF_ok {f : Fm} {p : Str × Str} (hf : FmOk f) (h1 : PyData.strOk p.1 = true) (h2 : PyData.strOk p.2 = true) : FmOk (stepF f p) := by
  have one : ∀ r ∈ [(p.2, [p.1])], PyData.strOk r.1 = true ∧ ∀ x ∈ r.2, PyData.strOk x = true := fun r hr => by
    rw [List.mem_singleton.mp hr]
    exact ⟨h2, fun x hx => by rw [List.mem_singleton.mp hx]; exact h1⟩
  unfold stepF
  split
  · rename_i r hr
    split
    · intro q hq
      rcases List.mem_append.mp hq with z | z
      · exact hf q (List.dropLast_subset _ z)
      · rw [List.mem_singleton.mp z]
        refine ⟨h2, fun x hx => ?_⟩
        rcases List.mem_append.mp (sortB_perm.mem_iff.mp hx) with w | w
        · exact (hf r (List.mem_of_getLast? hr)).2 x w
        · rw [List.mem_singleton.mp w]; exact h1
    · intro q hq
      rcases List.mem_append.mp hq with z | z
      · exact hf q z
      · exact one q z
  · intro q hq
    rcases List.mem_append.mp hq with z | z
    · exact hf q z
    · exact one q z
theorem form_ok : ∀ {c : Ch} {f : Fm}, FmOk f → ChT c → FmOk (c.foldl stepF f)
  | [], _, hf, _ => hf
  | p :: c, f, hf, hc => by
    rw [List.foldl_cons]
    exact form_ok (stepF_ok hf (hc p List.mem_cons_self).1 (hc p List.mem_cons_self).2) fun q hq => hc q (List.mem_cons_of_mem _ hq)
theorem forms_ok {b : Book} (hb : BookOk b) {l : List Str} (hl : ∀ x ∈ l, Item b x) : ∀ fs ∈ formsN b l, ∀ f ∈ fs, FmOk f := by
  intro fs hfs f hf
  obtain ⟨cs, hcs, rfl⟩ := List.mem_map.mp hfs
  obtain ⟨c, hc, rfl⟩ := List.mem_map.mp hf
  rw [sc_sg] at hcs
  obtain ⟨p, hp, rfl⟩ := List.mem_map.mp hcs
  obtain ⟨a, ha, rfl⟩ := List.mem_map.mp hc
  have ok := (sg_ok hb tb0_ok hl p hp).1
  exact form_ok (fun r hr => nomatch hr) (ok.ch _ (tget_mem (by rw [ok.keys]; exact shown_sub hb a ha))).txt
section
variable {T : Tab} {F n : Nat} {mu : Bool} {S : Store}
def formB : CSs := .cons (.ite (.and (.cmp .ne (.loc 1) (.lst false .nil)) (.cmp .eq (.idx (.idx (.loc 1) (.neg (.con (.int 1)))) (.con (.int 0))) (.loc 3))) (.cons (.sub (.loc 1) (.neg (.con (.int 1))) (.tup (.cons (.loc 3) (.cons (.blt false .tuple (.cons (.blt false .sorted (.cons (.bop false .add (.idx (.idx (.loc 1) (.neg (.con (.int 1)))) (.con (.int 1))) (.tup (.cons (.loc 2) .nil))) .nil)) .nil)) .nil)))) .nil)
  (.cons (.exp (.met false .append (.loc 1) (.cons (.tup (.cons (.loc 3) (.cons (.tup (.cons (.loc 2) .nil)) .nil))) .nil))) .nil)) .nil
theorem sort_strs {l : List Str} (h : l.length < 1000) : bltD false .sorted [.py (eStrs l)] S = .ok (.py (.list ((sortB strLe l).map .str))) S := by
  have so : ∀ l : List Str, strsOf (l.map .str) = some l := fun l => by
    induction l with
    | nil => rfl
    | cons x l ih => simp only [List.map_cons, strsOf, ih]
  show (match pys ((l.map PyData.str).map D.py) with
    | some l => match sortP l with
      | some r => mkLst false (r.map .py) S
      | none => .bad
    | none => .bad) = _
  rw [pys_py]
  simp only [sortP, so]
  rw [mkL (by rw [List.length_map, sortB_perm.length_eq]; omega)]
theorem run_form {G : Gam} {e0 : PyData} {f : Fm} {p : Str × Str} (hf : FmOk f) (hl : f.length < 1000) (hk : ∀ r ∈ f, r.2.length < 900) (h1 : PyData.strOk p.1 = true) (h2 : PyData.strOk p.2 = true) :
    exSs G F formB [some (.py e0), some (.ref 0), some (.py (.str p.1)), some (.py (.str p.2))] [.lst ((f.map eRun).map .py)] = .ok (.nx [some (.py e0), some (.ref 0), some (.py (.str p.1)), some (.py (.str p.2))]) [.lst (((stepF f p).map eRun).map .py)] := by
  have m0 : ∀ S, mkLst false [] S = .ok (.py (.list [])) S := fun _ => rfl
  have ng : ∀ S, evE G (.neg (.con (.int 1))) [some (.py e0), some (.ref 0), some (.py (.str p.1)), some (.py (.str p.2))] S = .ok (.py (.int (-1))) S := fun S => rfl
  have fz : frzD [.lst ((f.map eRun).map .py)] (.ref 0) = some (.list (f.map eRun)) := by
    show (pys ((f.map eRun).map D.py)).map PyData.list = _
    rw [pys_py]
    rfl
  have sh : SeqAt.shaped (.list (f.map eRun)) = true := (shp_lst (n := 2) fun d hd => by
    obtain ⟨r, hr, rfl⟩ := List.mem_map.mp hd
    exact shp_run (hf r hr).1 (hf r hr).2).shaped (by omega)
  have ne : eqD [.lst ((f.map eRun).map .py)] (.ref 0) (.py (.list [])) = some f.isEmpty := by
    show eqG _ _ _ = _
    unfold eqG
    rw [fz]
    show (if (SeqAt.shaped (.list (f.map eRun)) && SeqAt.shaped (.list [])) = true then some (PyData.eqv (.list (f.map eRun)) (.list [])) else none) = _
    rw [sh, if_pos (show (true && SeqAt.shaped (.list [])) = true by decide +kernel)]
    cases f <;> rfl
  have ap := app0 (rest := []) (fd := f.map eRun) (d := eRun (p.2, [p.1])) (by rw [List.length_map]; omega)
  have ap : metD false .append (.ref 0) [.py (.tuple [.str p.2, .tuple [.str p.1]])] [.lst ((f.map eRun).map .py)] = .ok (.py .none) [.lst (((f ++ [(p.2, [p.1])]).map eRun).map .py)] := by
    rw [List.map_append]
    exact ap
  rcases List.eq_nil_or_concat f with rfl | ⟨f', r, rfl⟩
  · simp only [formB, x_cons, x_nil, x_asg, x_ret, x_exp, x_ite, x_par, x_unp, x_sub, ev_con, ev_glo, ev_loc, ev_tup, ev_lst, ev_dic, ev_bop, ev_cmp, ev_cmp2, ev_and, ev_or, ev_not, ev_ite, ev_idx, ev_call, ev_blt, ev_isi, ev_met, ev_nil, ev_cons, R.bind_ok, R.of_some, okL_some, okO_some, tt3_t, tt3_f, List.getElem?_cons_zero, List.getElem?_cons_succ, List.set_cons_zero, List.set_cons_succ, bl, truth, Option.map_some, Bool.not_true, Bool.not_false, if_true, m0, cmpD, ne, List.isEmpty_nil, mkT1, mkT2, rv0, ap]
    rfl
  · rw [List.concat_eq_append] at *
    have ie : (f' ++ [r]).isEmpty = false := by simp
    have hr := hf r (by simp)
    have hkr := hk r (by simp)
    have la : ∀ S, idxD (.lst (((f' ++ [r]).map eRun).map .py) :: S) (.ref 0) (.py (.int (-1))) = some (.py (eRun r)) := fun S => by
      show atI (((f' ++ [r]).map eRun).map D.py) (-1) = _
      rw [List.map_append, List.map_append]
      exact atI_last _ _
    have i0 : ∀ S, idxD S (.py (eRun r)) (.py (.int 0)) = some (.py (.str r.1)) := fun S => rfl
    have i1 : ∀ S, idxD S (.py (eRun r)) (.py (.int 1)) = some (.py (eStrs r.2)) := fun S => rfl
    have es : ∀ S, eqD S (.py (.str r.1)) (.py (.str p.2)) = some (decide (r.1 = p.2)) := fun S => rfl
    have gl : (f' ++ [r]).getLast? = some r := by simp
    by_cases hv : r.1 = p.2
    · have ct := fun S => catT (S := S) (x := r.2.map .str) (y := [.str p.1]) (by rw [List.length_map]; simp only [List.length_cons, List.length_nil]; omega)
      have ct : ∀ S, bopD false .add (.py (eStrs r.2)) (.py (.tuple [.str p.1])) S = .ok (.py (eStrs (r.2 ++ [p.1]))) S := fun S => by
        refine (ct S).trans ?_
        simp [eStrs]
      have so := fun S => sort_strs (S := S) (l := r.2 ++ [p.1]) (by rw [List.length_append]; simp only [List.length_cons, List.length_nil]; omega)
      have tp := fun S => tupOf (S := S) (xs := (sortB strLe (r.2 ++ [p.1])).map .str) (by rw [List.length_map, sortB_perm.length_eq, List.length_append]; simp only [List.length_cons, List.length_nil]; omega)
      have pt : putD (.ref 0) (.py (.int (-1))) (.py (.tuple [.str p.2, .tuple ((sortB strLe (r.2 ++ [p.1])).map .str)])) [.lst (((f' ++ [r]).map eRun).map .py)] = some [.lst (((f' ++ [(p.2, sortB strLe (r.2 ++ [p.1]))]).map eRun).map .py)] := by
        have ix : ixN (((f' ++ [r]).map eRun).map D.py).length (-1) = some f'.length := by
          rw [List.length_map, List.length_map, List.length_append]
          unfold ixN
          simp only [List.length_cons, List.length_nil]
          rw [if_neg (by omega), if_pos (by omega)]
          congr 1
          omega
        show (match ixN (((f' ++ [r]).map eRun).map D.py).length (-1) with
          | some j => some ([Ob.lst (((f' ++ [r]).map eRun).map .py)].set 0 (.lst ((((f' ++ [r]).map eRun).map D.py).set j (.py (eRun (p.2, sortB strLe (r.2 ++ [p.1])))))))
          | none => none) = _
        rw [ix]
        simp
      have st : stepF (f' ++ [r]) p = f' ++ [(p.2, sortB strLe (r.2 ++ [p.1]))] := by
        unfold stepF
        rw [gl]
        simp only [hv, if_true, List.dropLast_concat]
      rw [st]
      simp only [formB, x_cons, x_nil, x_asg, x_ret, x_exp, x_ite, x_par, x_unp, x_sub, ev_con, ev_glo, ev_loc, ev_tup, ev_lst, ev_dic, ev_bop, ev_cmp, ev_cmp2, ev_and, ev_or, ev_not, ev_ite, ev_idx, ev_call, ev_blt, ev_isi, ev_met, ev_nil, ev_cons, R.bind_ok, R.of_some, okL_some, okO_some, tt3_t, tt3_f, List.getElem?_cons_zero, List.getElem?_cons_succ, List.set_cons_zero, List.set_cons_succ, bl, truth, Option.map_some, Bool.not_true, Bool.not_false, if_true, m0, cmpD, ne, ie, ng, la, i0, i1, es, decide_eq_true hv, mkT1, mkT2, ct, so, tp, pt]
    · have st : stepF (f' ++ [r]) p = f' ++ [r] ++ [(p.2, [p.1])] := by
        unfold stepF
        rw [gl]
        simp only [hv, if_false]
      rw [st]
      simp only [formB, x_cons, x_nil, x_asg, x_ret, x_exp, x_ite, x_par, x_unp, x_sub, ev_con, ev_glo, ev_loc, ev_tup, ev_lst, ev_dic, ev_bop, ev_cmp, ev_cmp2, ev_and, ev_or, ev_not, ev_ite, ev_idx, ev_call, ev_blt, ev_isi, ev_met, ev_nil, ev_cons, R.bind_ok, R.of_some, okL_some, okO_some, tt3_t, tt3_f, List.getElem?_cons_zero, List.getElem?_cons_succ, List.set_cons_zero, List.set_cons_succ, bl, truth, Option.map_some, Bool.not_true, Bool.not_false, if_true, m0, cmpD, ne, ie, ng, la, i0, i1, es, decide_eq_false hv, mkT1, mkT2, rv0, ap]
theorem stepF_len {f : Fm} {p : Str × Str} {m : Nat} (h : ∀ r ∈ f, r.2.length < m) (hm : 1 < m + 1) : (stepF f p).length ≤ f.length + 1 ∧ ∀ r ∈ stepF f p, r.2.length < m + 1 := by
  unfold stepF
  split
  · rename_i r hr
    have hr := h r (List.mem_of_getLast? hr)
    split
    · refine ⟨by rw [List.length_append, List.length_dropLast]; simp only [List.length_cons, List.length_nil]; omega, fun q hq => ?_⟩
      rcases List.mem_append.mp hq with z | z
      · exact Nat.lt_succ_of_lt (h q (List.dropLast_subset _ z))
      · rw [List.mem_singleton.mp z, sortB_perm.length_eq, List.length_append]
        simp only [List.length_cons, List.length_nil]
        omega
    · refine ⟨by simp, fun q hq => ?_⟩
      rcases List.mem_append.mp hq with z | z
      · exact Nat.lt_succ_of_lt (h q z)
      · rw [List.mem_singleton.mp z]
        simp only [List.length_cons, List.length_nil]
        omega
  · refine ⟨by simp, fun q hq => ?_⟩
    rcases List.mem_append.mp hq with z | z
    · exact Nat.lt_succ_of_lt (h q z)
    · rw [List.mem_singleton.mp z]
      simp only [List.length_cons, List.length_nil]
      omega
theorem lp_form {G : Gam} {e0 : PyData} {ok : Store → Bool} (hok : ∀ S, ok S = true) : ∀ (c : Ch) (f : Fm) (m : Nat) (x2 x3 : Option D), FmOk f → ChT c → f.length + c.length < 1000 → (∀ r ∈ f, r.2.length < m) → 0 < m → m + c.length < 900 →
    ∃ y2 y3, loopF ok (fun x r1 S2 => match bindT (.many [2, 3]) x r1 with
      | some r2 => exSs G F formB r2 S2
      | none => .bad) ((c.map ePair).map .py) [some (.py e0), some (.ref 0), x2, x3] [.lst ((f.map eRun).map .py)] = .ok (.nx [some (.py e0), some (.ref 0), y2, y3]) [.lst (((c.foldl stepF f).map eRun).map .py)]
  | [], f, m, x2, x3, _, _, _, _, _, _ => ⟨x2, x3, rfl⟩
  | p :: c, f, m, x2, x3, hf, hc, hl, hm, m0, hmc => by
    have hp := hc p List.mem_cons_self
    obtain ⟨l1, l2⟩ := stepF_len (p := p) hm (by omega)
    simp only [List.length_cons] at hl hmc
    obtain ⟨y2, y3, ih⟩ := lp_form (G := G) (e0 := e0) hok c (stepF f p) (m + 1) (some (.py (.str p.1))) (some (.py (.str p.2))) (stepF_ok hf hp.1 hp.2) (fun q hq => hc q (List.mem_cons_of_mem _ hq)) (by omega) l2 (by omega) (by omega)
    refine ⟨y2, y3, ?_⟩
    have bt : bindT (.many [2, 3]) (.py (ePair p)) [some (.py e0), some (.ref 0), x2, x3] = some [some (.py e0), some (.ref 0), some (.py (.str p.1)), some (.py (.str p.2))] := rfl
    have run := run_form (F := F) (G := G) (e0 := e0) hf (by omega) (fun r hr => by have := hm r hr; omega) hp.1 hp.2
    simp only [List.map_cons, loopF, bt, run, R.bind_ok, hok, if_true, List.foldl_cons]
    exact ih
theorem k_form_in (h : StdF T) {c : Ch} (hc : ChT c) (hl : c.length < 800) : call T F (n + 1) mu "form_in" [.py (eChain c)] S = .ok (.py (eForm (form c))) S := by
  obtain ⟨y2, y3, e⟩ := lp_form (F := F) (G := call T F n) (e0 := eChain c) (ok := (⟨(c.map ePair).map .py, none⟩ : Src).stands) (fun _ => rfl) c [] 1 none none (fun r hr => nomatch hr) hc (by simp only [List.length_nil]; omega) (fun r hr => nomatch hr) (by omega) (by omega)
  have hs : startD d_form_in ([eChain c].map .py) = [some (.py (eChain c)), none, none, none] := rfl
  have hb : d_form_in.body = .cons (.asg 1 (.lst true .nil)) (.cons (.loop (.many [2, 3]) (.seq (.loc 0)) formB) (.cons (.ret (.blt false .tuple (.cons (.loc 1) .nil))) .nil)) := rfl
  have m1 : mkLst true [] [] = .ok (.ref 0) [.lst []] := rfl
  have s2 : exS (call T F n) F (.loop (.many [2, 3]) (.seq (.loc 0)) formB) [some (.py (eChain c)), some (.ref 0), none, none] [.lst []] = .ok (.nx [some (.py (eChain c)), some (.ref 0), y2, y3]) [.lst (((form c).map eRun).map .py)] := by
    rw [x_loop, src_tup (xs := c.map ePair) rfl, R.bind_ok]
    exact e
  have fl : ∀ {c : Ch} {f : Fm}, (c.foldl stepF f).length ≤ f.length + c.length := by
    intro c
    induction c with
    | nil => intro f; exact Nat.le_refl _
    | cons p c ih =>
      intro f
      have h1 : (stepF f p).length ≤ f.length + 1 := by
        unfold stepF
        split
        · split
          · rw [List.length_append, List.length_dropLast]; simp only [List.length_cons, List.length_nil]; omega
          · simp
        · simp
      have := ih (f := stepF f p)
      rw [List.foldl_cons, List.length_cons]
      omega
  have tp : bltD false .tuple [.ref 0] [.lst (((form c).map eRun).map .py)] = .ok (.py (eForm (form c))) [.lst (((form c).map eRun).map .py)] := by
    show mkTup (((form c).map eRun).map D.py) _ = _
    refine mkT ?_
    have := fl (c := c) (f := [])
    rw [List.length_map]
    unfold form
    simp only [List.length_nil] at this
    omega
  refine call_py (xs := [eChain c]) (S' := [.lst (((form c).map eRun).map .py)]) h.form_in rfl ?_
  rw [hs, hb]
  simp only [x_cons, x_nil, x_asg, x_ret, x_exp, x_ite, x_par, x_unp, x_sub, ev_con, ev_glo, ev_loc, ev_tup, ev_lst, ev_dic, ev_bop, ev_cmp, ev_cmp2, ev_and, ev_or, ev_not, ev_ite, ev_idx, ev_call, ev_blt, ev_isi, ev_met, ev_nil, ev_cons, R.bind_ok, R.of_some, okL_some, okO_some, tt3_t, tt3_f, List.getElem?_cons_zero, List.getElem?_cons_succ, List.set_cons_zero, List.set_cons_succ, bl, truth, Option.map_some, Bool.not_true, Bool.not_false, if_true, m1, s2, tp, endD]
theorem k_forms (h : StdF T) {b : Book} (hb : BookOk b) {l : List Str} (hl : ∀ x ∈ l, Item b x) (h2 : l.length < 1000) : call T F (n + 3) mu "forms_by_signs" [.py (eBook b), .py (eStrs l)] S = .ok (.py (eFF (formsN b l))) S := by
  have hs : startD d_forms_by_signs ([eBook b, eStrs l].map .py) = [some (.py (eBook b)), some (.py (eStrs l)), none, none] := rfl
  have kc := k_cbs (F := F) (n := n) (S := []) h.toStdS hb hl h2
  have lg : (sc b (tb0 b) l).length ≤ l.length := by rw [sc_sg, List.length_map]; exact sg_len
  have hi : evI (call T F (n + 2)) (.seq (.call false "chains_by_signs" (.cons (.loc 0) (.cons (.loc 1) .nil)))) [some (.py (eBook b)), some (.py (eStrs l)), none, none] [] = .ok ⟨((sc b (tb0 b) l).map eCs).map .py, none⟩ [] := by
    refine src_list ?_
    simp only [x_cons, x_nil, x_asg, x_ret, x_exp, x_ite, x_par, x_unp, x_sub, ev_con, ev_glo, ev_loc, ev_tup, ev_lst, ev_dic, ev_bop, ev_cmp, ev_cmp2, ev_and, ev_or, ev_not, ev_ite, ev_idx, ev_call, ev_blt, ev_isi, ev_met, ev_nil, ev_cons, R.bind_ok, R.of_some, okL_some, okO_some, tt3_t, tt3_f, List.getElem?_cons_zero, List.getElem?_cons_succ, List.set_cons_zero, List.set_cons_succ, bl, truth, Option.map_some, Bool.not_true, Bool.not_false, if_true, kc]
  have lc : evE (call T F (n + 2)) (.lc false (.lc false (.call false "form_in" (.cons (.loc 3) .nil)) [3] (.one 3) (.seq (.loc 2)) .none) [2] (.one 2) (.seq (.call false "chains_by_signs" (.cons (.loc 0) (.cons (.loc 1) .nil)))) .none) [some (.py (eBook b)), some (.py (eStrs l)), none, none] [] = .ok (.py (eFF (formsN b l))) [] := by
    rw [lcM (xs := sc b (tb0 b) l) eCs (fun cs => eFs (cs.map form)) hi (fun cs hcs => ?_), mkL (by rw [List.length_map]; omega)]
    · unfold eFF formsN
      rw [List.map_map]
      rfl
    · have csl : cs.length ≤ 3 ∧ ∀ c ∈ cs, ChOk c := by
        rw [sc_sg] at hcs
        obtain ⟨p, hp, rfl⟩ := List.mem_map.mp hcs
        have ok := (sg_ok hb tb0_ok hl p hp).1
        refine ⟨by rw [List.length_map]; exact shown_len hb, fun c hc => ?_⟩
        obtain ⟨a, ha, rfl⟩ := List.mem_map.mp hc
        exact ok.ch _ (tget_mem (by rw [ok.keys]; exact shown_sub hb a ha))
      have il : evE (call T F (n + 2)) (.lc false (.call false "form_in" (.cons (.loc 3) .nil)) [3] (.one 3) (.seq (.loc 2)) .none) [some (.py (eBook b)), some (.py (eStrs l)), some (.py (eCs cs)), none] [] = .ok (.py (eFs (cs.map form))) [] := by
        rw [lcM (xs := cs) eChain (fun c => eForm (form c)) (src_list rfl) (fun c hc => ?_), mkL (by rw [List.length_map]; omega)]
        · unfold eFs
          rw [List.map_map]
          rfl
        · have ck := csl.2 c hc
          have cl := ck.len
          have kf := k_form_in (F := F) (n := n + 1) (mu := false) (S := []) h ck.txt (by omega)
          simp only [turnC, bindT, wipeD, evC, x_cons, x_nil, x_asg, x_ret, x_exp, x_ite, x_par, x_unp, x_sub, ev_con, ev_glo, ev_loc, ev_tup, ev_lst, ev_dic, ev_bop, ev_cmp, ev_cmp2, ev_and, ev_or, ev_not, ev_ite, ev_idx, ev_call, ev_blt, ev_isi, ev_met, ev_nil, ev_cons, R.bind_ok, R.of_some, okL_some, okO_some, tt3_t, tt3_f, List.getElem?_cons_zero, List.getElem?_cons_succ, List.set_cons_zero, List.set_cons_succ, bl, truth, Option.map_some, Bool.not_true, Bool.not_false, if_true, kf]
      simp only [turnC, bindT, wipeD, evC, x_cons, x_nil, x_asg, x_ret, x_exp, x_ite, x_par, x_unp, x_sub, ev_con, ev_glo, ev_loc, ev_tup, ev_lst, ev_dic, ev_bop, ev_cmp, ev_cmp2, ev_and, ev_or, ev_not, ev_ite, ev_idx, ev_call, ev_blt, ev_isi, ev_met, ev_nil, ev_cons, R.bind_ok, R.of_some, okL_some, okO_some, tt3_t, tt3_f, List.getElem?_cons_zero, List.getElem?_cons_succ, List.set_cons_zero, List.set_cons_succ, bl, truth, Option.map_some, Bool.not_true, Bool.not_false, if_true, il]
  refine call_py (xs := [eBook b, eStrs l]) (S' := []) h.forms_by_signs rfl ?_
  rw [hs]
  simp only [d_forms_by_signs, x_cons, x_nil, x_asg, x_ret, x_exp, x_ite, x_par, x_unp, x_sub, ev_con, ev_glo, ev_loc, ev_tup, ev_lst, ev_dic, ev_bop, ev_cmp, ev_cmp2, ev_and, ev_or, ev_not, ev_ite, ev_idx, ev_call, ev_blt, ev_isi, ev_met, ev_nil, ev_cons, R.bind_ok, R.of_some, okL_some, okO_some, tt3_t, tt3_f, List.getElem?_cons_zero, List.getElem?_cons_succ, List.set_cons_zero, List.set_cons_succ, bl, truth, Option.map_some, Bool.not_true, Bool.not_false, if_true, lc, endD]
theorem eq_forms {b : Book} (hb : BookOk b) {l m : List Str} (hl : ∀ x ∈ l, Item b x) (hm : ∀ x ∈ m, Item b x) : eqD S (.py (eFF (formsN b l))) (.py (eFF (formsN b m))) = some (decide (formsN b l = formsN b m)) := by
  rw [eqD_py (shp_ff (forms_ok hb hl)) (by omega) (shp_ff (forms_ok hb hm)) (by omega), eqv_ff]
def signsN (l : List Str) : List Str := l.filter signB
theorem k_signs_of (h : StdF T) {b : Book} (hb : BookOk b) {l : List Str} (hl : ∀ x ∈ l, Item b x) (h2 : l.length ≤ 200) : call T F (n + 8) mu "signs_of" [.py (eBook b), .py (eStrs l)] S = .ok (.py (eStrs (signsN l))) S := by
  have hs : startD d_signs_of ([eBook b, eStrs l].map .py) = [some (.py (eBook b)), some (.py (eStrs l)), none] := rfl
  have e1 := k_need_streamP (F := F) (n := n) (mu := false) (S := []) h.toStdP h.need_stream hb hl h2
  have hi : evI (call T F (n + 7)) (.seq (.call false "need_stream" (.cons (.loc 0) (.cons (.loc 1) .nil)))) [some (.py (eBook b)), some (.py (eStrs l)), none] [] = .ok ⟨(l.map .str).map .py, none⟩ [] := by
    refine src_tup ?_
    simp only [x_cons, x_nil, x_asg, x_ret, x_exp, x_ite, x_par, x_unp, x_sub, ev_con, ev_glo, ev_loc, ev_tup, ev_lst, ev_dic, ev_bop, ev_cmp, ev_cmp2, ev_and, ev_or, ev_not, ev_ite, ev_idx, ev_call, ev_blt, ev_isi, ev_met, ev_nil, ev_cons, R.bind_ok, R.of_some, okL_some, okO_some, tt3_t, tt3_f, List.getElem?_cons_zero, List.getElem?_cons_succ, List.set_cons_zero, List.set_cons_succ, bl, truth, Option.map_some, Bool.not_true, Bool.not_false, if_true, e1]
    rfl
  have fl := List.length_filter_le signB l
  have lc : evE (call T F (n + 7)) (.lc false (.loc 2) [2] (.one 2) (.seq (.call false "need_stream" (.cons (.loc 0) (.cons (.loc 1) .nil)))) (.some (.call false "is_sign" (.cons (.loc 2) .nil)))) [some (.py (eBook b)), some (.py (eStrs l)), none] [] = .ok (.py (.list ((signsN l).map .str))) [] := by
    rw [lcF (xs := l) .str .str signB hi (fun x hx => ?_), mkL (by rw [List.length_map]; omega)]
    · rfl
    · have ks := k_is_sign (F := F) (n := n + 6) (mu := false) (S := []) h.toStdP (item_ok hb (hl x hx)).2
      simp only [bl] at ks
      simp only [turnC, bindT, wipeD, evC, x_cons, x_nil, x_asg, x_ret, x_exp, x_ite, x_par, x_unp, x_sub, ev_con, ev_glo, ev_loc, ev_tup, ev_lst, ev_dic, ev_bop, ev_cmp, ev_cmp2, ev_and, ev_or, ev_not, ev_ite, ev_idx, ev_call, ev_blt, ev_isi, ev_met, ev_nil, ev_cons, R.bind_ok, R.of_some, okL_some, okO_some, tt3_t, tt3_f, List.getElem?_cons_zero, List.getElem?_cons_succ, List.set_cons_zero, List.set_cons_succ, bl, truth, Option.map_some, Bool.not_true, Bool.not_false, if_true, ks]
      cases signB x <;> rfl
  have tp := tupOf (S := []) (xs := (signsN l).map .str) (by rw [List.length_map]; unfold signsN; omega)
  refine call_py (xs := [eBook b, eStrs l]) (S' := []) h.signs_of rfl ?_
  rw [hs]
  simp only [d_signs_of, x_cons, x_nil, x_asg, x_ret, x_exp, x_ite, x_par, x_unp, x_sub, ev_con, ev_glo, ev_loc, ev_tup, ev_lst, ev_dic, ev_bop, ev_cmp, ev_cmp2, ev_and, ev_or, ev_not, ev_ite, ev_idx, ev_call, ev_blt, ev_isi, ev_met, ev_nil, ev_cons, R.bind_ok, R.of_some, okL_some, okO_some, tt3_t, tt3_f, List.getElem?_cons_zero, List.getElem?_cons_succ, List.set_cons_zero, List.set_cons_succ, bl, truth, Option.map_some, Bool.not_true, Bool.not_false, if_true, lc, tp, endD]
  rfl
theorem k_need_both (h : StdF T) {b : Book} (hb : BookOk b) {l m : List Str} (hl : ∀ x ∈ l, Item b x) (hm : ∀ x ∈ m, Item b x) (h2 : l.length ≤ 200) (h3 : m.length ≤ 200) (hs : signsN l = signsN m) : call T F (n + 9) mu "need_both" [.py (eBook b), .py (eStrs l), .py (eStrs m)] S = .ok (.py .none) S := by
  have st : startD d_need_both ([eBook b, eStrs l, eStrs m].map .py) = [some (.py (eBook b)), some (.py (eStrs l)), some (.py (eStrs m))] := rfl
  have e1 := k_need_streamP (F := F) (n := n + 1) (mu := false) (S := []) h.toStdP h.need_stream hb hl h2
  have e2 := k_need_streamP (F := F) (n := n + 1) (mu := false) (S := []) h.toStdP h.need_stream hb hm h3
  have s1 := k_signs_of (F := F) (n := n) (mu := false) (S := []) h hb hl h2
  have s2 := k_signs_of (F := F) (n := n) (mu := false) (S := []) h hb hm h3
  have eq : eqD [] (.py (eStrs (signsN l))) (.py (eStrs (signsN m))) = some true := by
    rw [hs]
    exact eqD_same (shp_strsO fun x hx => (item_ok hb (hm x (List.mem_filter.mp hx).1)).1) (by omega)
  refine call_py (xs := [eBook b, eStrs l, eStrs m]) (S' := []) h.need_both rfl ?_
  rw [st]
  simp only [d_need_both, x_cons, x_nil, x_asg, x_ret, x_exp, x_ite, x_par, x_unp, x_sub, ev_con, ev_glo, ev_loc, ev_tup, ev_lst, ev_dic, ev_bop, ev_cmp, ev_cmp2, ev_and, ev_or, ev_not, ev_ite, ev_idx, ev_call, ev_blt, ev_isi, ev_met, ev_nil, ev_cons, R.bind_ok, R.of_some, okL_some, okO_some, tt3_t, tt3_f, List.getElem?_cons_zero, List.getElem?_cons_succ, List.set_cons_zero, List.set_cons_succ, bl, truth, Option.map_some, Bool.not_true, Bool.not_false, if_true, e1, e2, s1, s2, cmpD, eq, endD]
theorem k_alike (h : StdF T) {b : Book} (hb : BookOk b) {l m : List Str} (hl : ∀ x ∈ l, Item b x) (hm : ∀ x ∈ m, Item b x) (h2 : l.length ≤ 200) (h3 : m.length ≤ 200) (hs : signsN l = signsN m) : call T F (n + 10) mu "alike" [.py (eBook b), .py (eStrs l), .py (eStrs m)] S = .ok (bl (decide (formsN b l = formsN b m))) S := by
  have st : startD d_alike ([eBook b, eStrs l, eStrs m].map .py) = [some (.py (eBook b)), some (.py (eStrs l)), some (.py (eStrs m))] := rfl
  have e1 := k_need_both (F := F) (n := n) (mu := false) (S := []) h hb hl hm h2 h3 hs
  have f1 := k_forms (F := F) (n := n + 6) (mu := false) (S := []) h hb hl (by omega)
  have f2 := k_forms (F := F) (n := n + 6) (mu := false) (S := []) h hb hm (by omega)
  refine call_py (xs := [eBook b, eStrs l, eStrs m]) (S' := []) h.alike rfl ?_
  rw [st]
  simp only [d_alike, x_cons, x_nil, x_asg, x_ret, x_exp, x_ite, x_par, x_unp, x_sub, ev_con, ev_glo, ev_loc, ev_tup, ev_lst, ev_dic, ev_bop, ev_cmp, ev_cmp2, ev_and, ev_or, ev_not, ev_ite, ev_idx, ev_call, ev_blt, ev_isi, ev_met, ev_nil, ev_cons, R.bind_ok, R.of_some, okL_some, okO_some, tt3_t, tt3_f, List.getElem?_cons_zero, List.getElem?_cons_succ, List.set_cons_zero, List.set_cons_succ, bl, truth, Option.map_some, Bool.not_true, Bool.not_false, if_true, e1, f1, f2, cmpD, eq_forms hb hl hm, endD]
end
end Sf
end
section
set_option maxRecDepth 100000
set_option maxHeartbeats 4000000
namespace Sf
open PySem PySem.Spec L2
open PyProof.Rows hiding St

/-! ### kinds of chains are kinds of the book -/
theorem merge_has : ∀ {more kvs : List (Str × D)} {x : Str}, (x ∈ kvs.map (·.1) ∨ x ∈ more.map (·.1)) → x ∈ (mergeS kvs more).map (·.1)
  | [], kvs, x, h => by
    rcases h with h | h
    · exact h
    · cases h
  | m :: more, kvs, x, h => by
    show x ∈ (mergeS (dput kvs m.1 m.2) more).map (·.1)
    refine merge_has ?_
    have k := dput_keys (kvs := kvs) (k := m.1) (v := m.2)
    rw [k]
    rcases h with h | h
    · left
      split
      · exact h
      · exact List.mem_append_left _ h
    · rw [List.map_cons] at h
      rcases List.mem_cons.mp h with e | h
      · left
        split
        · rw [e]; assumption
        · exact List.mem_append_right _ (by rw [e]; simp)
      · exact .inr h
theorem kind_in {b : Book} {c : Code} (h : c ∈ b.codes) : c.kind ∈ kindsN b := by
  refine sortB_perm.mem_iff.mpr (merge_has (.inr ?_))
  rw [List.map_map]
  exact List.mem_map.mpr ⟨c, h, rfl⟩
def TbK (b : Book) (t : Tb) : Prop := ∀ p ∈ t, ∀ q ∈ p.2, q.1 ∈ kindsN b
theorem tb0_k {b : Book} : TbK b (tb0 b) := fun p hp q hq => by
  obtain ⟨a, _, rfl⟩ := List.mem_map.mp hp
  cases hq
theorem top_k {b : Book} {k v : Str} {c : Ch} (hk : k ∈ kindsN b) (h : ∀ q ∈ c, q.1 ∈ kindsN b) : ∀ q ∈ onTop k v c, q.1 ∈ kindsN b := fun q hq => by
  unfold onTop at hq
  rcases List.mem_cons.mp hq with e | z
  · rw [e]; exact hk
  · exact h q (List.mem_filter.mp z).1
theorem upd_k {b : Book} {k : Str} (hk : k ∈ kindsN b) : ∀ {gs : Ch} {t : Tb}, TbK b t → TbK b (gs.foldl (upd1 k) t)
  | [], _, h => h
  | g :: gs, t, h => by
    rw [List.foldl_cons]
    refine upd_k hk fun p hp => ?_
    obtain ⟨p', hp', rfl⟩ := List.mem_map.mp hp
    split
    · exact top_k hk (h p' hp')
    · exact h p' hp'
theorem step_k {b : Book} {t : Tb} {w : Str} (h : TbK b t) : TbK b (stepW b t w) := by
  unfold stepW
  cases q : codeOf b w with
  | none => exact h
  | some c => exact upd_k (kind_in (List.mem_of_find?_eq_some q)) h
theorem sg_k {b : Book} : ∀ {l : List Str} {t : Tb}, TbK b t → ∀ p ∈ sg b t l, TbK b p.2
  | [], _, _, _, h => nomatch h
  | x :: l, t, ht, p, h => by
    unfold sg at h
    split at h
    · rcases List.mem_cons.mp h with z | z
      · rw [z]; exact ht
      · exact sg_k ht p z
    · exact sg_k (step_k ht) p h
/-! ### the same signs -/
theorem sg_signs {b : Book} : ∀ {l : List Str} {t : Tb}, (sg b t l).map (·.1) = signsN l
  | [], _ => rfl
  | x :: l, t => by
    unfold sg signsN
    rw [List.filter_cons]
    cases signB x with
    | true =>
      simp only [if_true, List.map_cons, sg_signs]
      rfl
    | false =>
      simp only [Bool.false_eq_true, if_false]
      exact sg_signs
theorem pair_of {A B : Type} : ∀ {l m : List (A × B)}, l.map (·.1) = m.map (·.1) → Paired (fun p q => p.1 = q.1) l m
  | [], [], _ => .nil
  | [], _ :: _, h => by cases h
  | _ :: _, [], h => by cases h
  | p :: l, q :: m, h => by
    rw [List.map_cons, List.map_cons] at h
    obtain ⟨h1, h2⟩ := List.cons.inj h
    exact .cons h1 (pair_of h2)
theorem map_iff {A C : Type} {R : A → A → Prop} {f : A → C} : ∀ {l m : List A}, Paired R l m → (l.map f = m.map f ↔ Paired (fun p q => f p = f q) l m)
  | _, _, .nil => ⟨fun _ => .nil, fun _ => rfl⟩
  | _, _, .cons h t => by
    have ih := map_iff (f := f) t
    constructor
    · intro e
      rw [List.map_cons, List.map_cons] at e
      obtain ⟨h1, h2⟩ := List.cons.inj e
      exact .cons h1 (ih.mp h2)
    · intro e
      cases e with
      | cons e1 e2 => rw [List.map_cons, List.map_cons, e1, ih.mpr e2]
theorem paired_and {A B : Type} {P Q : A → B → Prop} : ∀ {l : List A} {m : List B}, Paired P l m → Paired Q l m → Paired (fun a b => P a b ∧ Q a b) l m
  | _, _, .nil, .nil => .nil
  | _, _, .cons a t, .cons b u => .cons ⟨a, b⟩ (paired_and t u)
theorem paired_mem {A B : Type} {P : A → B → Prop} : ∀ {l : List A} {m : List B}, Paired P l m → Paired (fun a b => (a ∈ l ∧ b ∈ m) ∧ P a b) l m
  | _, _, .nil => .nil
  | a :: l, b :: m, .cons h t => .cons ⟨⟨List.mem_cons_self, List.mem_cons_self⟩, h⟩ (Paired.mapP (paired_mem t) fun x y z => ⟨⟨List.mem_cons_of_mem _ z.1.1, List.mem_cons_of_mem _ z.1.2⟩, z.2⟩)
theorem paired_every {A B C : Type} {P : C → A → B → Prop} {K : C → Prop} : ∀ {l : List A} {m : List B}, l.length = m.length → (∀ c, K c → Paired (P c) l m) → Paired (fun a b => ∀ c, K c → P c a b) l m
  | [], [], _, _ => .nil
  | [], _ :: _, h, _ => by simp at h
  | _ :: _, [], h, _ => by simp at h
  | a :: l, b :: m, h, k => .cons (fun c hc => by
      cases k c hc with
      | cons z _ => exact z) (paired_every (by simpa using h) fun c hc => by
      cases k c hc with
      | cons _ z => exact z)
def formsP (b : Book) (p : Str × Tb) : List Fm := (shownAt b p.1).map fun a => form (tget p.2 a)
theorem formsN_sg {b : Book} {l : List Str} : formsN b l = (sg b (tb0 b) l).map (formsP b) := by
  unfold formsN
  rw [sc_sg, List.map_map]
  refine List.map_congr_left fun p _ => ?_
  simp only [Function.comp, formsP, List.map_map]
  rfl
/-- entries one of which no code gives -/
structure EntsOk (b : Book) (es : List Ent) : Prop where
  own : ∃ e ∈ es, ∀ a ∈ b.asp, eget e a ∉ vals3
/-- THE LAW: the forms are the same exactly if all looks are -/
theorem alike_iff {b : Book} (hb : BookOk b) {l m : List Str} (hl : ∀ x ∈ l, Item b x) (hm : ∀ x ∈ m, Item b x) (hs : signsN l = signsN m) {es : List Ent} (he : EntsOk b es) :
    formsN b l = formsN b m ↔ ∀ t ∈ setsN (kindsN b), ∀ e ∈ es, (sg b (tb0 b) l).map (lookE b t e) = (sg b (tb0 b) m).map (lookE b t e) := by
  have pr : Paired (fun p q : Str × Tb => p.1 = q.1) (sg b (tb0 b) l) (sg b (tb0 b) m) := pair_of (by rw [sg_signs, sg_signs, hs])
  have ln := Paired.length pr
  have ol := sg_ok hb (l := l) tb0_ok hl
  have om := sg_ok hb (l := m) tb0_ok hm
  have kl := sg_k (l := l) (tb0_k (b := b))
  have km := sg_k (l := m) (tb0_k (b := b))
  have wk : ∀ (p q : Str × Tb), p ∈ sg b (tb0 b) l → q ∈ sg b (tb0 b) m → ∀ a ∈ b.asp, (form (tget p.2 a) = form (tget q.2 a) ↔ ∀ t ∈ setsN (kindsN b), worth (tget p.2 a) t = worth (tget q.2 a) t) := by
    intro p q hp hq a ha
    have m1 := tget_mem (t := p.2) (a := a) (by rw [(ol p hp).1.keys]; exact ha)
    have m2 := tget_mem (t := q.2) (a := a) (by rw [(om q hq).1.keys]; exact ha)
    exact form_iff ((ol p hp).1.ch _ m1).nd ((om q hq).1.ch _ m2).nd (kl p hp _ m1) (km q hq _ m2)
  rw [formsN_sg, formsN_sg, map_iff pr]
  constructor
  · intro h t ht e _
    rw [map_iff pr]
    refine Paired.mapP (paired_and (paired_mem pr) h) fun p q z => ?_
    obtain ⟨⟨⟨hp, hq⟩, e1⟩, e2⟩ := z
    unfold formsP at e2
    unfold lookE
    rw [← e1] at e2 ⊢
    congr 1
    have e2 := List.map_inj_left.mp e2
    refine List.map_congr_left fun a ha => ?_
    rw [(wk p q hp hq a (shown_sub hb a ha)).mp (e2 a ha) t ht]
  · intro h
    obtain ⟨e, heM, hev⟩ := he.own
    have h2 := paired_every (P := fun t p q => lookE b t e p = lookE b t e q) (K := fun t => t ∈ setsN (kindsN b)) ln fun t ht => (map_iff pr).mp (h t ht e heM)
    refine Paired.mapP (paired_and (paired_mem pr) h2) fun p q z => ?_
    obtain ⟨⟨⟨hp, hq⟩, e1⟩, e2⟩ := z
    unfold formsP
    rw [← e1]
    refine List.map_congr_left fun a ha => ?_
    have haa := shown_sub hb a ha
    refine (wk p q hp hq a haa).mpr fun t ht => ?_
    have e3 := e2 t ht
    unfold lookE at e3
    rw [← e1] at e3
    have e4 := List.map_inj_left.mp (Prod.mk.inj e3).2 a ha
    have m1 := tget_mem (t := p.2) (a := a) (by rw [(ol p hp).1.keys]; exact haa)
    have m2 := tget_mem (t := q.2) (a := a) (by rw [(om q hq).1.keys]; exact haa)
    cases w1 : worth (tget p.2 a) t with
    | none =>
      cases w2 : worth (tget q.2 a) t with
      | none => rfl
      | some v =>
        rw [w1, w2] at e4
        have := worth_val ((om q hq).1.ch _ m2) w2
        rw [show v = eget e a from e4.symm] at this
        exact absurd this (hev a haa)
    | some v =>
      cases w2 : worth (tget q.2 a) t with
      | none =>
        rw [w1, w2] at e4
        have := worth_val ((ol p hp).1.ch _ m1) w1
        rw [show v = eget e a from e4] at this
        exact absurd this (hev a haa)
      | some u =>
        rw [w1, w2] at e4
        exact congrArg some e4
/-! ### leaving out -/
def delN (l : List Str) (k : Nat) : List Str := l.take k ++ l.drop (k + 1)
theorem del_mem {l : List Str} {k : Nat} : ∀ x ∈ delN l k, x ∈ l := fun x hx => by
  rcases List.mem_append.mp hx with z | z
  · exact List.mem_of_mem_take z
  · exact List.mem_of_mem_drop z
theorem del_len {l : List Str} {k : Nat} (h : k < l.length) : (delN l k).length + 1 = l.length := by
  unfold delN
  rw [List.length_append, List.length_take, List.length_drop]
  omega
theorem split_at {l : List Str} {k : Nat} (h : k < l.length) : l = l.take k ++ l.getD k "" :: l.drop (k + 1) := by
  conv => lhs; rw [← List.take_append_drop k l]
  congr 1
  rw [List.drop_eq_getElem_cons h]
  congr 1
  simp [h]
theorem del_signs {l : List Str} {k : Nat} (h : k < l.length) (hs : signB (l.getD k "") = false) : signsN (delN l k) = signsN l := by
  conv => rhs; rw [split_at h]
  unfold signsN delN
  rw [List.filter_append, List.filter_append, List.filter_cons, hs]
  rfl
def needlB (b : Book) (l : List Str) (k : Nat) : Bool := !signB (l.getD k "") && decide (formsN b (delN l k) = formsN b l)
def needN (b : Book) (l : List Str) : List Nat := (List.range l.length).filter (needlB b l)
theorem needN_mem {b : Book} {l : List Str} {k : Nat} : k ∈ needN b l ↔ k < l.length ∧ needlB b l k = true := by
  unfold needN
  rw [List.mem_filter, List.mem_range]
theorem needN_pw {b : Book} {l : List Str} : (needN b l).Pairwise (· < ·) := List.Pairwise.filter _ List.pairwise_lt_range
/-- the first needless one goes, and so on -/
def leanR (b : Book) : Nat → List Str → List Str
  | 0, l => l
  | m + 1, l => match needN b l with
    | [] => l
    | k :: _ => leanR b m (delN l k)
theorem leanR_more {b : Book} : ∀ {m : Nat} {l : List Str}, l.length ≤ m → leanR b (m + 1) l = leanR b m l
  | 0, l, h => by
    have : l = [] := List.length_eq_zero_iff.mp (by omega)
    subst this
    rfl
  | m + 1, l, h => by
    unfold leanR
    cases q : needN b l with
    | nil => rfl
    | cons k r =>
      have hk := (needN_mem.mp (show k ∈ needN b l by rw [q]; exact List.mem_cons_self)).1
      have := del_len hk
      exact leanR_more (by omega)
theorem leanR_enough {b : Book} : ∀ {d m : Nat} {l : List Str}, l.length ≤ m → leanR b (m + d) l = leanR b m l
  | 0, _, _, _ => rfl
  | d + 1, m, l, h => by rw [← Nat.add_assoc, leanR_more (by omega), leanR_enough h]
def leanN (b : Book) (l : List Str) : List Str := leanR b l.length l
theorem leanN_none {b : Book} {l : List Str} (h : needN b l = []) : leanN b l = l := by
  unfold leanN
  cases q : l.length with
  | zero => rfl
  | succ m => unfold leanR; rw [h]
theorem leanN_some {b : Book} {l : List Str} {k : Nat} {r : List Nat} (h : needN b l = k :: r) : leanN b l = leanN b (delN l k) := by
  have hk := (needN_mem.mp (show k ∈ needN b l by rw [h]; exact List.mem_cons_self)).1
  have hd := del_len hk
  unfold leanN
  rw [← hd]
  conv => lhs; unfold leanR
  rw [h]
theorem leanN_all {b : Book} {P : List Str → Prop} : ∀ (m : Nat) {l : List Str}, l.length ≤ m → P l → (∀ l k, P l → k ∈ needN b l → P (delN l k)) → P (leanN b l) ∧ needN b (leanN b l) = []
  | 0, l, h, hp, _ => by
    have : l = [] := List.length_eq_zero_iff.mp (by omega)
    subst this
    exact ⟨hp, rfl⟩
  | m + 1, l, h, hp, hs => by
    cases q : needN b l with
    | nil =>
      rw [leanN_none q]
      exact ⟨hp, q⟩
    | cons k r =>
      have hk : k ∈ needN b l := by rw [q]; exact List.mem_cons_self
      have hd := del_len (needN_mem.mp hk).1
      rw [leanN_some q]
      exact leanN_all m (by omega) (hs l k hp hk) hs
end Sf
end
section
set_option maxRecDepth 100000
set_option maxHeartbeats 4000000
namespace Sf
open PySem PySem.Spec L2
open PyProof.Rows hiding St

/-! ### slices, loops that gather -/
section
variable {G : Gam} {F : Nat} {r : Rho} {S : Store}
theorem cut_take {A : Type} {xs : List A} {k : Nat} (h : k ≤ xs.length) : cutD xs none (some (k : Int)) = xs.take k := by
  unfold cutD
  rw [HT.sIx_none, HT.sIx_nat, List.drop_zero, Nat.sub_zero, Nat.min_eq_left h]
theorem cut_drop {A : Type} {xs : List A} {k : Nat} (h : k ≤ xs.length) : cutD xs (some (k : Int)) none = xs.drop k := by
  unfold cutD
  rw [HT.sIx_none, HT.sIx_nat, Nat.min_eq_left h, List.take_of_length_le (by rw [List.length_drop]; omega)]
theorem ev_slT {a e : CE} {xs : List PyData} {k : Nat} (ha : evE G a r S = .ok (.py (.tuple xs)) S) (he : evE G e r S = .ok (.py (.int k)) S) (h : k ≤ xs.length) : evE G (.sli a .none (.some e)) r S = .ok (.py (.tuple (xs.take k))) S := by
  simp only [evE, ha, R.bind_ok, evO, intO, he, sliD, cut_take h, R.of_some]
theorem ev_slD {a e : CE} {xs : List PyData} {k : Nat} (ha : evE G a r S = .ok (.py (.tuple xs)) S) (he : evE G e r S = .ok (.py (.int k)) S) (h : k ≤ xs.length) : evE G (.sli a (.some e) .none) r S = .ok (.py (.tuple (xs.drop k))) S := by
  simp only [evE, ha, R.bind_ok, evO, intO, he, sliD, cut_drop h, R.of_some]
/-- s[:k] + s[k + 1:] -/
theorem ev_del {a e : CE} {l : List Str} {k : Nat} (ha : evE G a r S = .ok (.py (eStrs l)) S) (he : evE G e r S = .ok (.py (.int k)) S) (h : k < l.length) (hl : l.length < 1000) :
    evE G (.bop false .add (.sli a .none (.some e)) (.sli a (.some (.bop false .add e (.con (.int 1)))) .none)) r S = .ok (.py (eStrs (delN l k))) S := by
  have e1 : evE G (.bop false .add e (.con (.int 1))) r S = .ok (.py (.int ((k + 1 : Nat) : Int))) S := by
    rw [ev_bop, he, R.bind_ok, ev_con, R.bind_ok]
    rfl
  have s1 := ev_slT (xs := l.map .str) ha he (by rw [List.length_map]; omega)
  have s2 := ev_slD (xs := l.map .str) ha e1 (by rw [List.length_map]; omega)
  rw [← List.map_take] at s1
  rw [← List.map_drop] at s2
  have ct := catT (S := S) (x := (l.take k).map .str) (y := (l.drop (k + 1)).map .str) (by rw [List.length_map, List.length_map, List.length_take, List.length_drop]; omega)
  rw [← List.map_append] at ct
  rw [ev_bop, s1, R.bind_ok, s2, R.bind_ok, ct]
  rfl
/-- a loop each turn of which lays some things behind a list -/
theorem lp_flat {A : Type} {ok : Store → Bool} (hok : ∀ S, ok S = true) {f : D → Rho → Store → R Fl} {N : Nat} (e : A → D) (g : A → List PyData) (row : Rho → Prop) : ∀ {xs : List A} {r : Rho} {fd : List PyData}, row r → fd.length + (xs.flatMap g).length < N →
    (∀ x ∈ xs, ∀ r fd, row r → fd.length + (g x).length < N → ∃ r', row r' ∧ f (e x) r [.lst (fd.map .py)] = .ok (.nx r') [.lst ((fd ++ g x).map .py)]) → ∃ r', row r' ∧ loopF ok f (xs.map e) r [.lst (fd.map .py)] = .ok (.nx r') [.lst ((fd ++ xs.flatMap g).map .py)]
  | [], r, fd, hr, _, _ => ⟨r, hr, by simp [loopF]⟩
  | x :: xs, r, fd, hr, hn, h => by
    rw [List.flatMap_cons, List.length_append] at hn
    obtain ⟨r1, hr1, e1⟩ := h x List.mem_cons_self r fd hr (by omega)
    obtain ⟨r2, hr2, e2⟩ := lp_flat (N := N) hok e g row (xs := xs) (r := r1) (fd := fd ++ g x) hr1 (by rw [List.length_append]; omega) fun y hy => h y (List.mem_cons_of_mem _ hy)
    refine ⟨r2, hr2, ?_⟩
    simp only [List.map_cons, loopF, e1, R.bind_ok, hok, if_true, e2, List.flatMap_cons, List.append_assoc]
theorem flat_if {A B : Type} {p : A → Bool} {g : A → B} : ∀ {xs : List A}, (xs.flatMap fun x => if p x then [g x] else []) = (xs.filter p).map g
  | [] => rfl
  | x :: xs => by
    rw [List.flatMap_cons, flat_if]
    cases q : p x <;> simp [q]
theorem enum_range {l : List Str} : enumD 0 (l.map .str) = ((List.range l.length).map fun k : Nat => PyData.tuple [.int k, .str (l.getD k "")]).map .py := by
  rw [enumD_map]
  congr 1
  have e : l.zipIdx = (List.range l.length).map fun k : Nat => (l.getD k "", k) := by
    apply List.ext_getElem?
    intro i
    rw [List.getElem?_zipIdx, List.getElem?_map]
    by_cases hi : i < l.length
    · rw [List.getElem?_range hi, List.getElem?_eq_getElem hi]
      simp [hi]
    · rw [List.getElem?_eq_none (by omega), List.getElem?_eq_none (by simp; omega)]
      rfl
  rw [e, List.map_map]
  rfl
end
/-! ### needless, lean -/
def d_needless_in : Fn := ⟨2, 6,
  (.cons (.par [2, 3] (.cons (.call false "forms_by_signs" (.cons (.loc 0) (.cons (.loc 1) .nil))) (.cons (.lst true .nil) .nil)))
  (.cons (.loop (.many [4, 5]) (.enu (.loc 1)) (.cons (.ite (.and (.not (.call false "is_sign" (.cons (.loc 5) .nil))) (.cmp .eq (.call false "forms_by_signs" (.cons (.loc 0) (.cons (.bop false .add (.sli (.loc 1) .none (.some (.loc 4))) (.sli (.loc 1) (.some (.bop false .add (.loc 4) (.con (.int 1)))) .none)) .nil))) (.loc 2))) (.cons (.exp (.met false .append (.loc 3) (.cons (.loc 4) .nil)))
  .nil) .nil)
  .nil))
  (.cons (.ret (.loc 3))
  .nil)))⟩
def d_needless : Fn := ⟨2, 2,
  (.cons (.ret (.call true "needless_in" (.cons (.loc 0) (.cons (.call false "need_stream" (.cons (.loc 0) (.cons (.loc 1) .nil))) .nil))))
  .nil)⟩
def d_lean : Fn := ⟨2, 6,
  (.cons (.par [2, 3, 4] (.cons (.call false "need_stream" (.cons (.loc 0) (.cons (.loc 1) .nil))) (.cons (.call false "forms_by_signs" (.cons (.loc 0) (.cons (.loc 1) .nil))) (.cons (.con (.int 0)) .nil))))
  (.cons (.whl (.cmp .lt (.loc 4) (.blt false .len (.cons (.loc 2) .nil))) (.cons (.asg 5 (.bop false .add (.sli (.loc 2) .none (.some (.loc 4))) (.sli (.loc 2) (.some (.bop false .add (.loc 4) (.con (.int 1)))) .none)))
  (.cons (.ite (.and (.not (.call false "is_sign" (.cons (.idx (.loc 2) (.loc 4)) .nil))) (.cmp .eq (.call false "forms_by_signs" (.cons (.loc 0) (.cons (.loc 5) .nil))) (.loc 3))) (.cons (.par [2, 4] (.cons (.loc 5) (.cons (.con (.int 0)) .nil)))
  .nil) (.cons (.aug 4 .add (.con (.int 1)))
  .nil))
  .nil)))
  (.cons (.ret (.loc 2))
  .nil)))⟩

structure StdN (T : Tab) : Prop extends StdF T where
  needless_in : T "needless_in" = some d_needless_in
  needless : T "needless" = some d_needless
  lean : T "lean" = some d_lean

section
variable {T : Tab} {F n : Nat} {mu : Bool} {S : Store}
def needlC : CSs := .cons (.ite (.and (.not (.call false "is_sign" (.cons (.loc 5) .nil))) (.cmp .eq (.call false "forms_by_signs" (.cons (.loc 0) (.cons (.bop false .add (.sli (.loc 1) .none (.some (.loc 4))) (.sli (.loc 1) (.some (.bop false .add (.loc 4) (.con (.int 1)))) .none)) .nil))) (.loc 2))) (.cons (.exp (.met false .append (.loc 3) (.cons (.loc 4) .nil))) .nil) .nil) .nil
theorem item_at {b : Book} {l : List Str} (hl : ∀ x ∈ l, Item b x) {k : Nat} (h : k < l.length) : Item b (l.getD k "") := by
  have : l.getD k "" = l[k] := by simp [h]
  rw [this]
  exact hl _ (List.getElem_mem h)
theorem run_needl (h : StdN T) {b : Book} (hb : BookOk b) {l : List Str} (hl : ∀ x ∈ l, Item b x) (h2 : l.length < 1000) {x4 x5 : Option D} {k : Nat} (hk : k < l.length) {fd : List PyData} (hf : fd.length < 1000) :
    exSs (call T F (n + 3)) F needlC [some (.py (eBook b)), some (.py (eStrs l)), some (.py (eFF (formsN b l))), some (.ref 0), some (.py (.int k)), some (.py (.str (l.getD k "")))] [.lst (fd.map .py)] = .ok (.nx [some (.py (eBook b)), some (.py (eStrs l)), some (.py (eFF (formsN b l))), some (.ref 0), some (.py (.int k)), some (.py (.str (l.getD k "")))]) [.lst ((fd ++ if needlB b l k then [PyData.int k] else []).map .py)] := by
  have it := item_at hl hk
  have ks := k_is_sign (F := F) (n := n + 2) (mu := false) (S := [.lst (fd.map .py)]) h.toStdP (item_ok hb it).2
  simp only [bl] at ks
  cases q : signB (l.getD k "") with
  | true =>
    rw [q] at ks
    have e : needlB b l k = false := by unfold needlB; rw [q]; rfl
    rw [e]
    simp only [needlC, x_cons, x_nil, x_asg, x_ret, x_exp, x_ite, x_par, x_unp, x_sub, ev_con, ev_glo, ev_loc, ev_tup, ev_lst, ev_dic, ev_bop, ev_cmp, ev_cmp2, ev_and, ev_or, ev_not, ev_ite, ev_idx, ev_call, ev_blt, ev_isi, ev_met, ev_nil, ev_cons, R.bind_ok, R.of_some, okL_some, okO_some, tt3_t, tt3_f, List.getElem?_cons_zero, List.getElem?_cons_succ, List.set_cons_zero, List.set_cons_succ, bl, truth, Option.map_some, Bool.not_true, Bool.not_false, if_true, ks, Bool.false_eq_true, if_false, List.append_nil]
  | false =>
    rw [q] at ks
    have dl := ev_del (G := call T F (n + 3)) (S := [.lst (fd.map .py)]) (a := .loc 1) (e := .loc 4) (r := [some (.py (eBook b)), some (.py (eStrs l)), some (.py (eFF (formsN b l))), some (.ref 0), some (.py (.int k)), some (.py (.str (l.getD k "")))]) rfl rfl hk h2
    have hd : ∀ x ∈ delN l k, Item b x := fun x hx => hl x (del_mem x hx)
    have ld := del_len hk
    have kf := k_forms (F := F) (n := n) (mu := false) (S := [.lst (fd.map .py)]) h.toStdF hb hd (by omega)
    have eq := eq_forms (S := [.lst (fd.map .py)]) hb hd hl
    have ap := app0 (rest := []) (fd := fd) (d := .int k) (by omega)
    have cond : evE (call T F (n + 3)) (.cmp .eq (.call false "forms_by_signs" (.cons (.loc 0) (.cons (.bop false .add (.sli (.loc 1) .none (.some (.loc 4))) (.sli (.loc 1) (.some (.bop false .add (.loc 4) (.con (.int 1)))) .none)) .nil))) (.loc 2)) [some (.py (eBook b)), some (.py (eStrs l)), some (.py (eFF (formsN b l))), some (.ref 0), some (.py (.int k)), some (.py (.str (l.getD k "")))] [.lst (fd.map .py)] = .ok (bl (decide (formsN b (delN l k) = formsN b l))) [.lst (fd.map .py)] := by
      rw [ev_cmp, ev_call, ev_cons, ev_loc]
      simp only [List.getElem?_cons_zero, okL_some, R.bind_ok]
      rw [ev_cons, dl]
      simp only [R.bind_ok, ev_nil, kf, ev_loc, List.getElem?_cons_zero, List.getElem?_cons_succ, okL_some, cmpD, eq, Option.map_some, R.of_some]
    have nb : needlB b l k = decide (formsN b (delN l k) = formsN b l) := by unfold needlB; rw [q]; rfl
    rw [nb]
    simp only [bl] at cond
    cases qq : decide (formsN b (delN l k) = formsN b l) with
    | true =>
      rw [qq] at cond
      rw [needlC, x_cons, x_ite, ev_and, ev_not]
      simp only [ev_call, ev_cons, ev_loc, ev_nil, List.getElem?_cons_zero, List.getElem?_cons_succ, okL_some, R.bind_ok, ks, bl, truth, Option.map_some, R.of_some, Bool.not_false, tt3_t, cond, x_cons, x_exp, ev_met, rv0, if_true, ap, x_nil]
    | false =>
      rw [qq] at cond
      rw [needlC, x_cons, x_ite, ev_and, ev_not]
      simp only [ev_call, ev_cons, ev_loc, ev_nil, List.getElem?_cons_zero, List.getElem?_cons_succ, okL_some, R.bind_ok, ks, bl, truth, Option.map_some, R.of_some, Bool.not_false, tt3_t, tt3_f, cond, x_nil, Bool.false_eq_true, if_false, List.append_nil]
theorem run_needless_in (h : StdN T) {b : Book} (hb : BookOk b) {l : List Str} (hl : ∀ x ∈ l, Item b x) (h2 : l.length < 900) : (exSs (call T F (n + 3)) F d_needless_in.body (startD d_needless_in [.py (eBook b), .py (eStrs l)]) []).bind endD = .ok (.ref 0) [.lst (((needN b l).map fun k : Nat => PyData.int k).map .py)] := by
  have hs : startD d_needless_in [.py (eBook b), .py (eStrs l)] = [some (.py (eBook b)), some (.py (eStrs l)), none, none, none, none] := rfl
  have hbd : d_needless_in.body = .cons (.par [2, 3] (.cons (.call false "forms_by_signs" (.cons (.loc 0) (.cons (.loc 1) .nil))) (.cons (.lst true .nil) .nil))) (.cons (.loop (.many [4, 5]) (.enu (.loc 1)) needlC) (.cons (.ret (.loc 3)) .nil)) := rfl
  have kf := k_forms (F := F) (n := n) (mu := false) (S := []) h.toStdF hb hl (by omega)
  have fi : (List.range l.length).flatMap (fun k => if needlB b l k then [PyData.int (k : Nat)] else []) = (needN b l).map fun k : Nat => PyData.int k := flat_if (p := needlB b l) (g := fun k : Nat => PyData.int k)
  have nl : (needN b l).length ≤ l.length := by
    have := List.length_filter_le (needlB b l) (List.range l.length)
    rw [List.length_range] at this
    exact this
  obtain ⟨r', ⟨y4, y5, rfl⟩, e⟩ := lp_flat (N := 1000) (ok := (⟨enumD 0 (l.map .str), none⟩ : Src).stands) (fun _ => rfl) (f := fun x r1 S2 => match bindT (.many [4, 5]) x r1 with
      | some r2 => exSs (call T F (n + 3)) F needlC r2 S2
      | none => .bad) (fun k : Nat => D.py (.tuple [.int k, .str (l.getD k "")])) (fun k => if needlB b l k then [PyData.int (k : Nat)] else []) (fun r => ∃ x4 x5, r = [some (.py (eBook b)), some (.py (eStrs l)), some (.py (eFF (formsN b l))), some (.ref 0), x4, x5]) (xs := List.range l.length) (fd := []) ⟨none, none, rfl⟩ (by rw [fi, List.length_map, List.length_nil]; omega) (fun k hk r fd ⟨x4, x5, hr⟩ hf => by
        subst hr
        refine ⟨_, ⟨some (.py (.int k)), some (.py (.str (l.getD k ""))), rfl⟩, ?_⟩
        exact run_needl (F := F) (n := n) (x4 := x4) (x5 := x5) (fd := fd) h hb hl (by omega) (List.mem_range.mp hk) (by omega))
  rw [fi] at e
  have s2 : exS (call T F (n + 3)) F (.loop (.many [4, 5]) (.enu (.loc 1)) needlC) [some (.py (eBook b)), some (.py (eStrs l)), some (.py (eFF (formsN b l))), some (.ref 0), none, none] [.lst []] = .ok (.nx [some (.py (eBook b)), some (.py (eStrs l)), some (.py (eFF (formsN b l))), some (.ref 0), y4, y5]) [.lst (((needN b l).map fun k : Nat => PyData.int k).map .py)] := by
    have hi : evI (call T F (n + 3)) (.enu (.loc 1)) [some (.py (eBook b)), some (.py (eStrs l)), some (.py (eFF (formsN b l))), some (.ref 0), none, none] [.lst []] = .ok ⟨enumD 0 (l.map .str), none⟩ [.lst []] := rfl
    rw [x_loop, hi, R.bind_ok]
    show loopF _ _ (enumD 0 (l.map .str)) _ _ = _
    rw [enum_range] at e ⊢
    rw [List.map_map]
    exact e
  have ml : mkLst true [] [] = .ok (.ref 0) [.lst []] := rfl
  have sa : setAll [2, 3] [D.py (eFF (formsN b l)), .ref 0] [some (.py (eBook b)), some (.py (eStrs l)), none, none, none, none] = some [some (.py (eBook b)), some (.py (eStrs l)), some (.py (eFF (formsN b l))), some (.ref 0), none, none] := rfl
  rw [hs, hbd]
  simp only [x_cons, x_nil, x_asg, x_ret, x_exp, x_ite, x_par, x_unp, x_sub, ev_con, ev_glo, ev_loc, ev_tup, ev_lst, ev_dic, ev_bop, ev_cmp, ev_cmp2, ev_and, ev_or, ev_not, ev_ite, ev_idx, ev_call, ev_blt, ev_isi, ev_met, ev_nil, ev_cons, R.bind_ok, R.of_some, okL_some, okO_some, tt3_t, tt3_f, List.getElem?_cons_zero, List.getElem?_cons_succ, List.set_cons_zero, List.set_cons_succ, bl, truth, Option.map_some, Bool.not_true, Bool.not_false, if_true, kf, ml, sa, s2, endD]
theorem k_needless_inM (h : StdN T) {b : Book} (hb : BookOk b) {l : List Str} (hl : ∀ x ∈ l, Item b x) (h2 : l.length < 900) : call T F (n + 4) true "needless_in" [.py (eBook b), .py (eStrs l)] S = .ok (.ref S.length) (S ++ [.lst (((needN b l).map fun k : Nat => PyData.int k).map .py)]) := by
  have h1 : [D.py (eBook b), .py (eStrs l)].all isPy = true := rfl
  rw [call]
  simp only [h1, if_true, runF, h.needless_in]
  rw [if_pos (show [D.py (eBook b), .py (eStrs l)].length = d_needless_in.ps from rfl), run_needless_in h hb hl h2]
  simp only [R.bind_ok, endP, if_true, List.getElem?_cons_zero, pys_py]
theorem run_needless (h : StdN T) {b : Book} (hb : BookOk b) {l : List Str} (hl : ∀ x ∈ l, Item b x) (h2 : l.length ≤ 200) : (exSs (call T F (n + 7)) F d_needless.body (startD d_needless [.py (eBook b), .py (eStrs l)]) []).bind endD = .ok (.ref 0) [.lst (((needN b l).map fun k : Nat => PyData.int k).map .py)] := by
  have hs : startD d_needless [.py (eBook b), .py (eStrs l)] = [some (.py (eBook b)), some (.py (eStrs l))] := rfl
  have e1 := k_need_streamP (F := F) (n := n) (mu := false) (S := []) h.toStdP h.need_stream hb hl h2
  have e2 := k_needless_inM (F := F) (n := n + 3) (S := []) h hb hl (by omega)
  have e2 : call T F (n + 7) true "needless_in" [.py (eBook b), .py (eStrs l)] [] = .ok (.ref 0) [.lst (((needN b l).map fun k : Nat => PyData.int k).map .py)] := e2
  rw [hs]
  simp only [d_needless, x_cons, x_nil, x_asg, x_ret, x_exp, x_ite, x_par, x_unp, x_sub, ev_con, ev_glo, ev_loc, ev_tup, ev_lst, ev_dic, ev_bop, ev_cmp, ev_cmp2, ev_and, ev_or, ev_not, ev_ite, ev_idx, ev_call, ev_blt, ev_isi, ev_met, ev_nil, ev_cons, R.bind_ok, R.of_some, okL_some, okO_some, tt3_t, tt3_f, List.getElem?_cons_zero, List.getElem?_cons_succ, List.set_cons_zero, List.set_cons_succ, bl, truth, Option.map_some, Bool.not_true, Bool.not_false, if_true, e1, e2, endD]
theorem k_needless (h : StdN T) {b : Book} (hb : BookOk b) {l : List Str} (hl : ∀ x ∈ l, Item b x) (h2 : l.length ≤ 200) : call T F (n + 8) false "needless" [.py (eBook b), .py (eStrs l)] S = .ok (.py (eNs (needN b l))) S := by
  refine call_ref (xs := [eBook b, eStrs l]) (k := 0) h.needless rfl (run_needless h hb hl h2) ?_
  show (pys (((needN b l).map fun k : Nat => PyData.int k).map .py)).map PyData.list = _
  rw [pys_py]
  rfl
theorem k_needlessM (h : StdN T) {b : Book} (hb : BookOk b) {l : List Str} (hl : ∀ x ∈ l, Item b x) (h2 : l.length ≤ 200) : call T F (n + 8) true "needless" [.py (eBook b), .py (eStrs l)] S = .ok (.ref S.length) (S ++ [.lst (((needN b l).map fun k : Nat => PyData.int k).map .py)]) := by
  have h1 : [D.py (eBook b), .py (eStrs l)].all isPy = true := rfl
  rw [call]
  simp only [h1, if_true, runF, h.needless]
  rw [if_pos (show [D.py (eBook b), .py (eStrs l)].length = d_needless.ps from rfl), run_needless h hb hl h2]
  simp only [R.bind_ok, endP, if_true, List.getElem?_cons_zero, pys_py]
/-! lean -/
def leanC : CE := .cmp .lt (.loc 4) (.blt false .len (.cons (.loc 2) .nil))
def leanB : CSs := .cons (.asg 5 (.bop false .add (.sli (.loc 2) .none (.some (.loc 4))) (.sli (.loc 2) (.some (.bop false .add (.loc 4) (.con (.int 1)))) .none)))
  (.cons (.ite (.and (.not (.call false "is_sign" (.cons (.idx (.loc 2) (.loc 4)) .nil))) (.cmp .eq (.call false "forms_by_signs" (.cons (.loc 0) (.cons (.loc 5) .nil))) (.loc 3))) (.cons (.par [2, 4] (.cons (.loc 5) (.cons (.con (.int 0)) .nil))) .nil) (.cons (.aug 4 .add (.con (.int 1))) .nil)) .nil)
def rowLn (b : Book) (l0 l : List Str) (fs : List (List Fm)) (k : Nat) (x5 : Option D) : Rho := [some (.py (eBook b)), some (.py (eStrs l0)), some (.py (eStrs l)), some (.py (eFF fs)), some (.py (.int k)), x5]
theorem run_leanB (h : StdN T) {b : Book} (hb : BookOk b) {l0 l : List Str} (hl : ∀ x ∈ l, Item b x) (h2 : l.length < 900) {fs : List (List Fm)} (hfs : formsN b l = fs) {k : Nat} (hk : k < l.length) {x5 : Option D} :
    ∃ y5, exSs (call T F (n + 3)) F leanB (rowLn b l0 l fs k x5) [] = .ok (.nx (if needlB b l k then rowLn b l0 (delN l k) fs 0 y5 else rowLn b l0 l fs (k + 1) y5)) [] := by
  refine ⟨some (.py (eStrs (delN l k))), ?_⟩
  have it := item_at hl hk
  have ks := k_is_sign (F := F) (n := n + 2) (mu := false) (S := []) h.toStdP (item_ok hb it).2
  simp only [bl] at ks
  have dl := ev_del (G := call T F (n + 3)) (S := []) (a := .loc 2) (e := .loc 4) (r := rowLn b l0 l fs k x5) rfl rfl hk (by omega)
  have hd : ∀ x ∈ delN l k, Item b x := fun x hx => hl x (del_mem x hx)
  have ld := del_len hk
  have kf := k_forms (F := F) (n := n) (mu := false) (S := []) h.toStdF hb hd (by omega)
  have eq := eq_forms (S := []) hb hd hl
  rw [hfs] at eq
  have ix : idxD [] (.py (eStrs l)) (.py (.int k)) = some (.py (.str (l.getD k ""))) := by
    refine atT ?_
    rw [List.getElem?_map, List.getElem?_eq_getElem hk]
    simp [hk]
  have ag : ∀ r : Rho, r = rowLn b l0 l fs k (some (.py (eStrs (delN l k)))) → exS (call T F (n + 3)) F (.aug 4 .add (.con (.int 1))) r [] = .ok (.nx (rowLn b l0 l fs (k + 1) (some (.py (eStrs (delN l k)))))) [] := fun r e => by
    subst e
    rfl
  have ag := ag _ rfl
  simp only [rowLn] at dl ag ⊢
  have sa : setAll [2, 4] [D.py (eStrs (delN l k)), .py (.int 0)] [some (.py (eBook b)), some (.py (eStrs l0)), some (.py (eStrs l)), some (.py (eFF fs)), some (.py (.int k)), some (.py (eStrs (delN l k)))] = some [some (.py (eBook b)), some (.py (eStrs l0)), some (.py (eStrs (delN l k))), some (.py (eFF fs)), some (.py (.int (0 : Nat))), some (.py (eStrs (delN l k)))] := rfl
  rw [leanB, x_cons, x_asg, dl]
  cases q : signB (l.getD k "") with
  | true =>
    rw [q] at ks
    have e : needlB b l k = false := by unfold needlB; rw [q]; rfl
    rw [e]
    simp only [x_cons, x_nil, x_asg, x_ret, x_exp, x_ite, x_par, x_unp, x_sub, ev_con, ev_glo, ev_loc, ev_tup, ev_lst, ev_dic, ev_bop, ev_cmp, ev_cmp2, ev_and, ev_or, ev_not, ev_ite, ev_idx, ev_call, ev_blt, ev_isi, ev_met, ev_nil, ev_cons, R.bind_ok, R.of_some, okL_some, okO_some, tt3_t, tt3_f, List.getElem?_cons_zero, List.getElem?_cons_succ, List.set_cons_zero, List.set_cons_succ, bl, truth, Option.map_some, Bool.not_true, Bool.not_false, if_true, ix, ks, ag, Bool.false_eq_true, if_false]
  | false =>
    rw [q] at ks
    have nb : needlB b l k = decide (formsN b (delN l k) = fs) := by unfold needlB; rw [q, hfs]; rfl
    rw [nb]
    cases qq : decide (formsN b (delN l k) = fs) with
    | true =>
      rw [qq] at eq
      simp only [x_cons, x_nil, x_asg, x_ret, x_exp, x_ite, x_par, x_unp, x_sub, ev_con, ev_glo, ev_loc, ev_tup, ev_lst, ev_dic, ev_bop, ev_cmp, ev_cmp2, ev_and, ev_or, ev_not, ev_ite, ev_idx, ev_call, ev_blt, ev_isi, ev_met, ev_nil, ev_cons, R.bind_ok, R.of_some, okL_some, okO_some, tt3_t, tt3_f, List.getElem?_cons_zero, List.getElem?_cons_succ, List.set_cons_zero, List.set_cons_succ, bl, truth, Option.map_some, Bool.not_true, Bool.not_false, if_true, ix, ks, kf, cmpD, eq, sa]
    | false =>
      rw [qq] at eq
      simp only [x_cons, x_nil, x_asg, x_ret, x_exp, x_ite, x_par, x_unp, x_sub, ev_con, ev_glo, ev_loc, ev_tup, ev_lst, ev_dic, ev_bop, ev_cmp, ev_cmp2, ev_and, ev_or, ev_not, ev_ite, ev_idx, ev_call, ev_blt, ev_isi, ev_met, ev_nil, ev_cons, R.bind_ok, R.of_some, okL_some, okO_some, tt3_t, tt3_f, List.getElem?_cons_zero, List.getElem?_cons_succ, List.set_cons_zero, List.set_cons_succ, bl, truth, Option.map_some, Bool.not_true, Bool.not_false, if_true, ix, ks, kf, cmpD, eq, ag, Bool.false_eq_true, if_false]
def wLn (l : List Str) (k : Nat) : Nat := l.length * (l.length + 1) + (l.length - k)
theorem lp_lean (h : StdN T) {b : Book} (hb : BookOk b) {l0 : List Str} {fs : List (List Fm)} : ∀ (m : Nat) (l : List Str) (k : Nat) (x5 : Option D), (∀ x ∈ l, Item b x) → l.length < 900 → formsN b l = fs → (∀ j ∈ needN b l, k ≤ j) → k ≤ l.length → wLn l k < m →
    ∃ k' y5, loopW (fun r1 S1 => (evE (call T F (n + 3)) leanC r1 S1).bind fun d S2 => R.of (truth S2 d) S2) (fun r1 S1 => exSs (call T F (n + 3)) F leanB r1 S1) m (rowLn b l0 l fs k x5) [] = .ok (.nx (rowLn b l0 (leanN b l) fs k' y5)) []
  | 0, l, k, x5, _, _, _, _, _, hw => by omega
  | m + 1, l, k, x5, hl, h2, hfs, hmin, hk, hw => by
    have cc : (evE (call T F (n + 3)) leanC (rowLn b l0 l fs k x5) []).bind (fun d S2 => R.of (truth S2 d) S2) = .ok (decide (k < l.length)) [] := by
      have dd : decide ((k : Int) < (l.length : Int)) = decide (k < l.length) := by
        rw [Bool.eq_iff_iff, decide_eq_true_eq, decide_eq_true_eq]
        omega
      simp only [leanC, rowLn, ev_cmp, ev_loc, ev_blt, ev_cons, ev_nil, List.getElem?_cons_zero, List.getElem?_cons_succ, okL_some, R.bind_ok, len_strs, cmpD, dd, Option.map_some, R.of_some, bl, truth]
    by_cases hlt : k < l.length
    · obtain ⟨y5, rb⟩ := run_leanB (F := F) (n := n) (l0 := l0) (x5 := x5) h hb hl h2 hfs hlt
      cases q : needlB b l k with
      | true =>
        have hin : k ∈ needN b l := needN_mem.mpr ⟨hlt, q⟩
        obtain ⟨k1, r1, hn⟩ : ∃ k1 r1, needN b l = k1 :: r1 := by
          cases z : needN b l with
          | nil => rw [z] at hin; cases hin
          | cons a r => exact ⟨a, r, rfl⟩
        have hk1 : k1 = k := by
          have h1 := hmin k1 (by rw [hn]; exact List.mem_cons_self)
          have pw := needN_pw (b := b) (l := l)
          rw [hn] at hin pw
          rcases List.mem_cons.mp hin with z | z
          · exact z.symm
          · have := (List.pairwise_cons.mp pw).1 k z
            omega
        subst hk1
        rw [q] at rb
        have ld := del_len hlt
        have fd : formsN b (delN l k1) = fs := by
          unfold needlB at q
          have := of_decide_eq_true (Bool.and_eq_true_iff.mp q).2
          rw [this, hfs]
        have w2 : wLn (delN l k1) 0 < m := by
          unfold wLn at hw ⊢
          obtain ⟨L, hL⟩ : ∃ L, L = (delN l k1).length := ⟨_, rfl⟩
          rw [← hL] at ld ⊢
          rw [← ld] at hw
          have e1 : (L + 1) * (L + 1 + 1) = L * (L + 1) + 2 * (L + 1) := by rw [Nat.mul_add, Nat.mul_comm (L + 1) (L + 1), Nat.add_mul, Nat.mul_one, Nat.one_mul]; omega
          rw [e1] at hw
          omega
        obtain ⟨k', y, e⟩ := lp_lean h hb (l0 := l0) (fs := fs) m (delN l k1) 0 y5 (fun x hx => hl x (del_mem x hx)) (by omega) fd (fun _ _ => Nat.zero_le _) (Nat.zero_le _) w2
        refine ⟨k', y, ?_⟩
        rw [leanN_some hn]
        simp only [loopW, cc, decide_eq_true hlt, R.bind_ok, if_true, rb]
        exact e
      | false =>
        rw [q] at rb
        have w2 : wLn l (k + 1) < m := by unfold wLn at hw ⊢; omega
        obtain ⟨k', y, e⟩ := lp_lean h hb (l0 := l0) (fs := fs) m l (k + 1) y5 hl h2 hfs (fun j hj => by
          have h1 := hmin j hj
          have : j ≠ k := fun z => by
            subst z
            rw [(needN_mem.mp hj).2] at q
            cases q
          omega) (by omega) w2
        refine ⟨k', y, ?_⟩
        simp only [loopW, cc, decide_eq_true hlt, R.bind_ok, if_true, rb, Bool.false_eq_true, if_false]
        exact e
    · have nn : needN b l = [] := by
        cases z : needN b l with
        | nil => rfl
        | cons a r =>
          have ha : a ∈ needN b l := by rw [z]; exact List.mem_cons_self
          have h1 := hmin a ha
          have h3 := (needN_mem.mp ha).1
          omega
      refine ⟨k, x5, ?_⟩
      rw [leanN_none nn]
      simp only [loopW, cc, decide_eq_false hlt, R.bind_ok, Bool.false_eq_true, if_false]
theorem k_lean (h : StdN T) {b : Book} (hb : BookOk b) {l : List Str} (hl : ∀ x ∈ l, Item b x) (h2 : l.length ≤ 200) (hF : l.length * (l.length + 1) + l.length < F) : call T F (n + 8) mu "lean" [.py (eBook b), .py (eStrs l)] S = .ok (.py (eStrs (leanN b l))) S := by
  have hs : startD d_lean ([eBook b, eStrs l].map .py) = [some (.py (eBook b)), some (.py (eStrs l)), none, none, none, none] := rfl
  have hbd : d_lean.body = .cons (.par [2, 3, 4] (.cons (.call false "need_stream" (.cons (.loc 0) (.cons (.loc 1) .nil))) (.cons (.call false "forms_by_signs" (.cons (.loc 0) (.cons (.loc 1) .nil))) (.cons (.con (.int 0)) .nil)))) (.cons (.whl leanC leanB) (.cons (.ret (.loc 2)) .nil)) := rfl
  have e1 := k_need_streamP (F := F) (n := n) (mu := false) (S := []) h.toStdP h.need_stream hb hl h2
  have e2 := k_forms (F := F) (n := n + 4) (mu := false) (S := []) h.toStdF hb hl (by omega)
  obtain ⟨k', y5, e⟩ := lp_lean (F := F) (n := n + 4) h hb (l0 := l) (fs := formsN b l) F l 0 none hl (by omega) rfl (fun _ _ => Nat.zero_le _) (Nat.zero_le _) (by unfold wLn; omega)
  have sa : setAll [2, 3, 4] [D.py (eStrs l), .py (eFF (formsN b l)), .py (.int 0)] [some (.py (eBook b)), some (.py (eStrs l)), none, none, none, none] = some (rowLn b l l (formsN b l) 0 none) := rfl
  have s2 : exS (call T F (n + 7)) F (.whl leanC leanB) (rowLn b l l (formsN b l) 0 none) [] = .ok (.nx (rowLn b l (leanN b l) (formsN b l) k' y5)) [] := by
    simp only [exS]
    exact e
  refine call_py (xs := [eBook b, eStrs l]) (S' := []) h.lean rfl ?_
  rw [hs, hbd]
  simp only [x_cons, x_nil, x_asg, x_ret, x_exp, x_ite, x_par, x_unp, x_sub, ev_con, ev_glo, ev_loc, ev_tup, ev_lst, ev_dic, ev_bop, ev_cmp, ev_cmp2, ev_and, ev_or, ev_not, ev_ite, ev_idx, ev_call, ev_blt, ev_isi, ev_met, ev_nil, ev_cons, R.bind_ok, R.of_some, okL_some, okO_some, tt3_t, tt3_f, List.getElem?_cons_zero, List.getElem?_cons_succ, List.set_cons_zero, List.set_cons_succ, bl, truth, Option.map_some, Bool.not_true, Bool.not_false, if_true, e1, e2, sa, s2]
  rfl
end
end Sf
end
section
set_option maxRecDepth 100000
set_option maxHeartbeats 4000000
namespace Sf
open PySem PySem.Spec L2
open PyProof.Rows hiding St

/-! ### streams seen apart -/
def d__law_entries : Fn := ⟨1, 4,
  (.cons (.asg 1 (.lst false (.cons (.call false "_law_entry" (.cons (.loc 0) (.cons (.con (.str "own")) .nil))) (.cons (.call false "_law_entry" (.cons (.loc 0) (.cons (.con (.str "plain")) .nil))) (.cons (.call false "_law_entry" (.cons (.loc 0) (.cons (.con (.str "u")) .nil))) .nil)))))
  (.cons (.ret (.bop false .add (.loc 1) (.lst false (.cons (.blt false .dict (.cons (.lc false (.tup (.cons (.loc 3) (.cons (.idx (.lst false (.cons (.con (.str "other")) (.cons (.con (.str "v")) .nil))) (.bop false .mod (.loc 2) (.con (.int 2)))) .nil))) [2, 3] (.many [2, 3]) (.enu (.idx (.loc 0) (.con (.int 0)))) .none) .nil)) .nil))))
  .nil))⟩
def d__law_apart : Fn := ⟨3, 6,
  (.cons (.asg 3 (.lst true .nil))
  (.cons (.loop (.one 4) (.seq (.call false "_law_sets" (.cons (.call false "_law_kinds" (.cons (.loc 0) .nil)) .nil))) (.cons (.loop (.one 5) (.seq (.call false "_law_entries" (.cons (.loc 0) .nil))) (.cons (.ite (.cmp .ne (.call false "_law_seen" (.cons (.loc 0) (.cons (.loc 1) (.cons (.loc 4) (.cons (.loc 5) .nil))))) (.call false "_law_seen" (.cons (.loc 0) (.cons (.loc 2) (.cons (.loc 4) (.cons (.loc 5) .nil)))))) (.cons (.exp (.met false .append (.loc 3) (.cons (.blt false .len (.cons (.loc 4) .nil)) .nil)))
  .nil) .nil)
  .nil))
  .nil))
  (.cons (.ret (.loc 3))
  .nil)))⟩

structure StdA (T : Tab) : Prop extends StdL T, StdK T where
  _law_entries : T "_law_entries" = some d__law_entries
  _law_apart : T "_law_apart" = some d__law_apart

def mixE (b : Book) : Ent := b.asp.zipIdx.map fun p => (p.1, if p.2 % 2 = 0 then "other" else "v")
def entsN (b : Book) : List Ent := [b.asp.map fun a => (a, ("own" : Str)), b.asp.map fun a => (a, ("plain" : Str)), b.asp.map fun a => (a, ("u" : Str)), mixE b]
theorem mix_keys {b : Book} : (mixE b).map (·.1) = b.asp := by
  unfold mixE
  rw [List.map_map]
  exact List.zipIdx_map_fst 0 b.asp
theorem ents_keys {b : Book} : ∀ e ∈ entsN b, e.map (·.1) = b.asp := by
  intro e he
  simp only [entsN, List.mem_cons, List.not_mem_nil, or_false] at he
  rcases he with rfl | rfl | rfl | rfl
  · simp [Function.comp_def]
  · simp [Function.comp_def]
  · simp [Function.comp_def]
  · exact mix_keys
theorem ents_ok {b : Book} (hb : BookOk b) : ∀ e ∈ entsN b, ∀ a ∈ b.asp, PyData.strOk (eget e a) = true := by
  intro e he
  simp only [entsN, List.mem_cons, List.not_mem_nil, or_false] at he
  rcases he with rfl | rfl | rfl | rfl
  · intro a ha; rw [ent_all a ha]; decide +kernel
  · intro a ha; rw [ent_all a ha]; decide +kernel
  · intro a ha; rw [ent_all a ha]; decide +kernel
  · intro a ha
    rw [← mix_keys (b := b)] at ha
    obtain ⟨p, hp, rfl⟩ := List.mem_map.mp ha
    rw [eget_mem (by rw [mix_keys]; exact asps_nd _ hb.asp) hp]
    obtain ⟨q, _, rfl⟩ := List.mem_map.mp hp
    show PyData.strOk (if q.2 % 2 = 0 then "other" else "v") = true
    split <;> decide +kernel
theorem ents_own {b : Book} : EntsOk b (entsN b) := ⟨_, List.mem_cons_self, fun a ha => by rw [ent_all a ha]; decide +kernel⟩
def apartB (b : Book) (l m t : List Str) (e : Ent) : Bool := decide ((sg b (tb0 b) l).map (lookE b t e) ≠ (sg b (tb0 b) m).map (lookE b t e))
def apartN (b : Book) (l m : List Str) : List Nat := (setsN (kindsN b)).flatMap fun t => (entsN b).flatMap fun e => if apartB b l m t e then [t.length] else []
theorem apart_nil {b : Book} (hb : BookOk b) {l m : List Str} (hl : ∀ x ∈ l, Item b x) (hm : ∀ x ∈ m, Item b x) (hs : signsN l = signsN m) : apartN b l m = [] ↔ formsN b l = formsN b m := by
  rw [alike_iff hb hl hm hs ents_own]
  unfold apartN
  rw [List.flatMap_eq_nil_iff]
  constructor
  · intro h t ht e he
    have h1 := List.flatMap_eq_nil_iff.mp (h t ht) e he
    unfold apartB at h1
    refine Classical.byContradiction fun n => ?_
    rw [decide_eq_true n, if_pos rfl] at h1
    cases h1
  · intro h t ht
    rw [List.flatMap_eq_nil_iff]
    intro e he
    unfold apartB
    rw [decide_eq_false (by simp only [ne_eq, Classical.not_not]; exact h t ht e he)]
    rfl
theorem flat_len {A B : Type} {g : A → List B} {c : Nat} : ∀ {xs : List A}, (∀ x ∈ xs, (g x).length ≤ c) → (xs.flatMap g).length ≤ c * xs.length
  | [], _ => Nat.zero_le _
  | x :: xs, h => by
    rw [List.flatMap_cons, List.length_append, List.length_cons, Nat.mul_succ]
    have := h x List.mem_cons_self
    have := flat_len fun y hy => h y (List.mem_cons_of_mem _ hy)
    omega
theorem flat_map {A B C : Type} {g : A → List B} {f : B → C} : ∀ {xs : List A}, (xs.flatMap g).map f = xs.flatMap fun x => (g x).map f
  | [] => rfl
  | x :: xs => by rw [List.flatMap_cons, List.flatMap_cons, List.map_append, flat_map]
theorem shp_looks {l : List (Str × List Str)} (h : ∀ p ∈ l, Shp 2 (eLook p)) : Shp 3 (.tuple (l.map eLook)) := shp_tup fun d hd => by
  obtain ⟨p, hp, rfl⟩ := List.mem_map.mp hd
  exact h p hp
theorem eq_looks {S : Store} {l m : List (Str × List Str)} (hl : ∀ p ∈ l, Shp 2 (eLook p)) (hm : ∀ p ∈ m, Shp 2 (eLook p)) : eqD S (.py (.tuple (l.map eLook))) (.py (.tuple (m.map eLook))) = some (decide (l = m)) := by
  rw [eqD_py (shp_looks hl) (by omega) (shp_looks hm) (by omega)]
  simp only [PyData.eqv]
  rw [eqvAll_map fun a b => eqv_look]
section
variable {T : Tab} {F n : Nat} {mu : Bool} {S : Store}
theorem k_law_entries (h : StdA T) {b : Book} (hb : BookOk b) : call T F (n + 2) mu "_law_entries" [.py (eBook b)] S = .ok (.py (.list ((entsN b).map eEnt))) S := by
  have l3 := (asps_few _ hb.asp).1
  have hs : startD d__law_entries ([eBook b].map .py) = [some (.py (eBook b)), none, none, none] := rfl
  have k1 := k_law_entry (F := F) (n := n) (mu := false) (S := []) h.toStdL hb (v := "own")
  have k2 := k_law_entry (F := F) (n := n) (mu := false) (S := []) h.toStdL hb (v := "plain")
  have k3 := k_law_entry (F := F) (n := n) (mu := false) (S := []) h.toStdL hb (v := "u")
  have m3 : ∀ a b c : PyData, mkLst false [.py a, .py b, .py c] [] = .ok (.py (.list [a, b, c])) [] := fun a b c => rfl
  have m1 : ∀ a : PyData, mkLst false [.py a] [] = .ok (.py (.list [a])) [] := fun a => rfl
  have lc : ∀ y1, evE (call T F (n + 1)) (.lc false (.tup (.cons (.loc 3) (.cons (.idx (.lst false (.cons (.con (.str "other")) (.cons (.con (.str "v")) .nil))) (.bop false .mod (.loc 2) (.con (.int 2)))) .nil))) [2, 3] (.many [2, 3]) (.enu (.idx (.loc 0) (.con (.int 0)))) .none) [some (.py (eBook b)), y1, none, none] [] = .ok (.py (.list ((mixE b).map ePair))) [] := by
    intro y1
    have hi : evI (call T F (n + 1)) (.enu (.idx (.loc 0) (.con (.int 0)))) [some (.py (eBook b)), y1, none, none] [] = .ok ⟨((b.asp.zipIdx).map fun p => PyData.tuple [.int p.2, .str p.1]).map .py, none⟩ [] := by
      rw [← enumD_map]
      rfl
    rw [lcM (xs := b.asp.zipIdx) (fun p => PyData.tuple [.int p.2, .str p.1]) (fun p => ePair (p.1, if p.2 % 2 = 0 then "other" else "v")) hi (fun p hp => ?_), mkL (by rw [List.length_map, List.length_zipIdx]; omega)]
    · unfold mixE
      rw [List.map_map]
      rfl
    · have mm : ((p.2 : Nat) : Int) % 2 = ((p.2 % 2 : Nat) : Int) := by omega
      have bm : bopD false .mod (.py (.int p.2)) (.py (.int 2)) [] = .ok (.py (.int ((p.2 % 2 : Nat) : Int))) [] := by
        rw [← mm]
        rfl
      have m2 : mkLst false [.py (.str "other"), .py (.str "v")] [] = .ok (.py (.list [.str "other", .str "v"])) [] := rfl
      have ix : idxD [] (.py (.list [.str "other", .str "v"])) (.py (.int ((p.2 % 2 : Nat) : Int))) = some (.py (.str (if p.2 % 2 = 0 then "other" else "v"))) := by
        rcases Nat.mod_two_eq_zero_or_one p.2 with z | z
        · rw [z]; rfl
        · rw [z]; rfl
      have bt : bindT (.many [2, 3]) (.py (PyData.tuple [.int p.2, .str p.1])) (wipeD [some (.py (eBook b)), y1, none, none] [2, 3]) = some [some (.py (eBook b)), y1, some (.py (.int p.2)), some (.py (.str p.1))] := rfl
      simp only [turnC]
      rw [bt]
      simp only [evC, x_cons, x_nil, x_asg, x_ret, x_exp, x_ite, x_par, x_unp, x_sub, ev_con, ev_glo, ev_loc, ev_tup, ev_lst, ev_dic, ev_bop, ev_cmp, ev_cmp2, ev_and, ev_or, ev_not, ev_ite, ev_idx, ev_call, ev_blt, ev_isi, ev_met, ev_nil, ev_cons, R.bind_ok, R.of_some, okL_some, okO_some, tt3_t, tt3_f, List.getElem?_cons_zero, List.getElem?_cons_succ, List.set_cons_zero, List.set_cons_succ, bl, truth, Option.map_some, Bool.not_true, Bool.not_false, if_true, m2, bm, ix, mkT2]
      rfl
  have de := dict_ent (S := []) (e := mixE b) (by rw [mix_keys]; exact asps_nd _ hb.asp) (by unfold mixE; rw [List.length_map, List.length_zipIdx]; omega)
  have ct := catL (S := []) (x := [eEnt (b.asp.map fun a => (a, ("own" : Str))), eEnt (b.asp.map fun a => (a, ("plain" : Str))), eEnt (b.asp.map fun a => (a, ("u" : Str)))]) (y := [eEnt (mixE b)]) (by simp)
  refine call_py (xs := [eBook b]) (S' := []) h._law_entries rfl ?_
  rw [hs]
  simp only [d__law_entries, x_cons, x_nil, x_asg, x_ret, x_exp, x_ite, x_par, x_unp, x_sub, ev_con, ev_glo, ev_loc, ev_tup, ev_lst, ev_dic, ev_bop, ev_cmp, ev_cmp2, ev_and, ev_or, ev_not, ev_ite, ev_idx, ev_call, ev_blt, ev_isi, ev_met, ev_nil, ev_cons, R.bind_ok, R.of_some, okL_some, okO_some, tt3_t, tt3_f, List.getElem?_cons_zero, List.getElem?_cons_succ, List.set_cons_zero, List.set_cons_succ, bl, truth, Option.map_some, Bool.not_true, Bool.not_false, if_true, k1, k2, k3, m3, lc, de, m1, ct, endD]
  rfl
def apI : CSs := .cons (.ite (.cmp .ne (.call false "_law_seen" (.cons (.loc 0) (.cons (.loc 1) (.cons (.loc 4) (.cons (.loc 5) .nil))))) (.call false "_law_seen" (.cons (.loc 0) (.cons (.loc 2) (.cons (.loc 4) (.cons (.loc 5) .nil)))))) (.cons (.exp (.met false .append (.loc 3) (.cons (.blt false .len (.cons (.loc 4) .nil)) .nil))) .nil) .nil) .nil
def apO : CSs := .cons (.loop (.one 5) (.seq (.call false "_law_entries" (.cons (.loc 0) .nil))) apI) .nil
def rowAp (b : Book) (l m : List Str) (x4 x5 : Option D) : Rho := [some (.py (eBook b)), some (.py (eStrs l)), some (.py (eStrs m)), some (.ref 0), x4, x5]
theorem run_apI (h : StdA T) {b : Book} (hb : BookOk b) {l m t : List Str} {e : Ent} (hl : ∀ x ∈ l, Item b x) (hm : ∀ x ∈ m, Item b x) (h2 : l.length < 1000) (h3 : m.length < 1000) (he : e ∈ entsN b) {fd : List PyData} (hf : fd.length < 1000) :
    exSs (call T F (n + 2)) F apI (rowAp b l m (some (.py (eStrs t))) (some (.py (eEnt e)))) [.lst (fd.map .py)] = .ok (.nx (rowAp b l m (some (.py (eStrs t))) (some (.py (eEnt e))))) [.lst ((fd ++ (if apartB b l m t e then [t.length] else []).map fun k : Nat => PyData.int k).map .py)] := by
  have ke := ents_keys e he
  have s1 := k_law_seen (F := F) (n := n) (mu := false) (S := [.lst (fd.map .py)]) h.toStdL hb (t := t) ke hl h2
  have s2 := k_law_seen (F := F) (n := n) (mu := false) (S := [.lst (fd.map .py)]) h.toStdL hb (t := t) ke hm h3
  rw [seen_of hb ke hl] at s1
  rw [seen_of hb ke hm] at s2
  have eq := eq_looks (S := [.lst (fd.map .py)]) (l := (sg b (tb0 b) l).map (lookE b t e)) (m := (sg b (tb0 b) m).map (lookE b t e)) (fun p hp => by
    obtain ⟨q, hq, rfl⟩ := List.mem_map.mp hp
    exact look_ok hb (ents_ok hb e he) (sg_ok hb tb0_ok hl q hq)) (fun p hp => by
    obtain ⟨q, hq, rfl⟩ := List.mem_map.mp hp
    exact look_ok hb (ents_ok hb e he) (sg_ok hb tb0_ok hm q hq))
  have ap := app0 (rest := []) (fd := fd) (d := .int t.length) (by omega)
  unfold apartB
  by_cases q : (sg b (tb0 b) l).map (lookE b t e) = (sg b (tb0 b) m).map (lookE b t e)
  · rw [decide_eq_true q] at eq
    rw [decide_eq_false (by simp [q])]
    simp only [apI, rowAp, x_cons, x_nil, x_asg, x_ret, x_exp, x_ite, x_par, x_unp, x_sub, ev_con, ev_glo, ev_loc, ev_tup, ev_lst, ev_dic, ev_bop, ev_cmp, ev_cmp2, ev_and, ev_or, ev_not, ev_ite, ev_idx, ev_call, ev_blt, ev_isi, ev_met, ev_nil, ev_cons, R.bind_ok, R.of_some, okL_some, okO_some, tt3_t, tt3_f, List.getElem?_cons_zero, List.getElem?_cons_succ, List.set_cons_zero, List.set_cons_succ, bl, truth, Option.map_some, Bool.not_true, Bool.not_false, if_true, s1, s2, cmpD, eq, Bool.false_eq_true, if_false, List.map_nil, List.append_nil]
  · rw [decide_eq_false q] at eq
    rw [decide_eq_true q]
    simp only [apI, rowAp, x_cons, x_nil, x_asg, x_ret, x_exp, x_ite, x_par, x_unp, x_sub, ev_con, ev_glo, ev_loc, ev_tup, ev_lst, ev_dic, ev_bop, ev_cmp, ev_cmp2, ev_and, ev_or, ev_not, ev_ite, ev_idx, ev_call, ev_blt, ev_isi, ev_met, ev_nil, ev_cons, R.bind_ok, R.of_some, okL_some, okO_some, tt3_t, tt3_f, List.getElem?_cons_zero, List.getElem?_cons_succ, List.set_cons_zero, List.set_cons_succ, bl, truth, Option.map_some, Bool.not_true, Bool.not_false, if_true, s1, s2, cmpD, eq, len_strs, rv0, ap, List.map_cons, List.map_nil]
theorem k_law_apart (h : StdA T) {b : Book} (hb : BookOk b) {l m : List Str} (hl : ∀ x ∈ l, Item b x) (hm : ∀ x ∈ m, Item b x) (h2 : l.length < 1000) (h3 : m.length < 1000) : call T F (n + 3) false "_law_apart" [.py (eBook b), .py (eStrs l), .py (eStrs m)] S = .ok (.py (eNs (apartN b l m))) S := by
  have k3 := (kinds_term hb).2
  have hs : startD d__law_apart ([eBook b, eStrs l, eStrs m].map .py) = [some (.py (eBook b)), some (.py (eStrs l)), some (.py (eStrs m)), none, none, none] := rfl
  have hbd : d__law_apart.body = .cons (.asg 3 (.lst true .nil)) (.cons (.loop (.one 4) (.seq (.call false "_law_sets" (.cons (.call false "_law_kinds" (.cons (.loc 0) .nil)) .nil))) apO) (.cons (.ret (.loc 3)) .nil)) := rfl
  have kk := k_law_kinds (F := F) (n := n + 1) (mu := false) (S := [.lst []]) h.toStdK hb
  have ks := k_law_sets (F := F) (n := n + 1) (mu := false) (S := [.lst []]) h.toStdK (ws := kindsN b) (.inl rfl) (by omega)
  have hi : evI (call T F (n + 2)) (.seq (.call false "_law_sets" (.cons (.call false "_law_kinds" (.cons (.loc 0) .nil)) .nil))) (rowAp b l m none none) [.lst []] = .ok ⟨((setsN (kindsN b)).map eStrs).map .py, none⟩ [.lst []] := by
    refine src_list ?_
    simp only [rowAp, x_cons, x_nil, x_asg, x_ret, x_exp, x_ite, x_par, x_unp, x_sub, ev_con, ev_glo, ev_loc, ev_tup, ev_lst, ev_dic, ev_bop, ev_cmp, ev_cmp2, ev_and, ev_or, ev_not, ev_ite, ev_idx, ev_call, ev_blt, ev_isi, ev_met, ev_nil, ev_cons, R.bind_ok, R.of_some, okL_some, okO_some, tt3_t, tt3_f, List.getElem?_cons_zero, List.getElem?_cons_succ, List.set_cons_zero, List.set_cons_succ, bl, truth, Option.map_some, Bool.not_true, Bool.not_false, if_true, kk, ks]
  have ln : (setsN (kindsN b)).length ≤ 8 := by
    unfold setsN
    rw [sortB_perm.length_eq]
    unfold setsU
    rw [setsU_len]
    have : 2 ^ (kindsN b).length ≤ 2 ^ 3 := Nat.pow_le_pow_right (by omega) k3
    simp only [List.length_cons, List.length_nil]
    omega
  have g4 : ∀ t, ((entsN b).flatMap fun e => (if apartB b l m t e then [t.length] else []).map fun k : Nat => PyData.int k).length ≤ 4 := fun t => by
    have := flat_len (c := 1) (xs := entsN b) (g := fun e => (if apartB b l m t e then [t.length] else []).map fun k : Nat => PyData.int k) fun e _ => by
      rw [List.length_map]
      split <;> simp
    have e4 : (entsN b).length = 4 := rfl
    rw [e4] at this
    omega
  have tot := flat_len (c := 4) (xs := setsN (kindsN b)) (g := fun t => (entsN b).flatMap fun e => (if apartB b l m t e then [t.length] else []).map fun k : Nat => PyData.int k) fun t _ => g4 t
  obtain ⟨r', ⟨y4, y5, rfl⟩, e⟩ := lp_flat (N := 1000) (ok := (⟨((setsN (kindsN b)).map eStrs).map .py, none⟩ : Src).stands) (fun _ => rfl) (f := fun x r1 S2 => match bindT (.one 4) x r1 with
      | some r2 => exSs (call T F (n + 2)) F apO r2 S2
      | none => .bad) (fun t => D.py (eStrs t)) (fun t => (entsN b).flatMap fun e => (if apartB b l m t e then [t.length] else []).map fun k : Nat => PyData.int k) (fun r => ∃ x4 x5, r = rowAp b l m x4 x5) (xs := setsN (kindsN b)) (fd := []) ⟨none, none, rfl⟩ (by rw [List.length_nil]; omega) (fun t ht r fd ⟨x4, x5, hr⟩ hf => by
        subst hr
        obtain ⟨r2, ⟨z5, rfl⟩, e2⟩ := lp_flat (N := 1000) (ok := (⟨((entsN b).map eEnt).map .py, none⟩ : Src).stands) (fun _ => rfl) (f := fun x r1 S2 => match bindT (.one 5) x r1 with
          | some r2 => exSs (call T F (n + 2)) F apI r2 S2
          | none => .bad) (fun e => D.py (eEnt e)) (fun e => (if apartB b l m t e then [t.length] else []).map fun k : Nat => PyData.int k) (fun r => ∃ x5, r = rowAp b l m (some (.py (eStrs t))) x5) (xs := entsN b) (r := rowAp b l m (some (.py (eStrs t))) x5) (fd := fd) ⟨x5, rfl⟩ hf (fun e he r fd ⟨x5, hr⟩ hf => by
            subst hr
            refine ⟨_, ⟨some (.py (eEnt e)), rfl⟩, ?_⟩
            exact run_apI (F := F) (n := n) (fd := fd) h hb hl hm h2 h3 he (by omega))
        refine ⟨_, ⟨some (.py (eStrs t)), z5, rfl⟩, ?_⟩
        have ke := k_law_entries (F := F) (n := n) (mu := false) (S := [.lst (fd.map .py)]) h hb
        have hi2 : evI (call T F (n + 2)) (.seq (.call false "_law_entries" (.cons (.loc 0) .nil))) (rowAp b l m (some (.py (eStrs t))) x5) [.lst (fd.map .py)] = .ok ⟨((entsN b).map eEnt).map .py, none⟩ [.lst (fd.map .py)] := by
          refine src_list ?_
          simp only [rowAp, x_cons, x_nil, x_asg, x_ret, x_exp, x_ite, x_par, x_unp, x_sub, ev_con, ev_glo, ev_loc, ev_tup, ev_lst, ev_dic, ev_bop, ev_cmp, ev_cmp2, ev_and, ev_or, ev_not, ev_ite, ev_idx, ev_call, ev_blt, ev_isi, ev_met, ev_nil, ev_cons, R.bind_ok, R.of_some, okL_some, okO_some, tt3_t, tt3_f, List.getElem?_cons_zero, List.getElem?_cons_succ, List.set_cons_zero, List.set_cons_succ, bl, truth, Option.map_some, Bool.not_true, Bool.not_false, if_true, ke]
        have bt : bindT (.one 4) (.py (eStrs t)) (rowAp b l m x4 x5) = some (rowAp b l m (some (.py (eStrs t))) x5) := rfl
        rw [bt]
        show exSs (call T F (n + 2)) F apO (rowAp b l m (some (.py (eStrs t))) x5) [.lst (fd.map .py)] = _
        have s3 : exS (call T F (n + 2)) F (.loop (.one 5) (.seq (.call false "_law_entries" (.cons (.loc 0) .nil))) apI) (rowAp b l m (some (.py (eStrs t))) x5) [.lst (fd.map .py)] = .ok (.nx (rowAp b l m (some (.py (eStrs t))) z5)) [.lst ((fd ++ (entsN b).flatMap fun e => (if apartB b l m t e then [t.length] else []).map fun k : Nat => PyData.int k).map .py)] := by
          rw [x_loop, hi2, R.bind_ok]
          show loopF _ _ (((entsN b).map eEnt).map .py) _ _ = _
          rw [List.map_map]
          exact e2
        simp only [apO, x_cons, s3, R.bind_ok, x_nil])
  have s2 : exS (call T F (n + 2)) F (.loop (.one 4) (.seq (.call false "_law_sets" (.cons (.call false "_law_kinds" (.cons (.loc 0) .nil)) .nil))) apO) (rowAp b l m none none) [.lst []] = .ok (.nx (rowAp b l m y4 y5)) [.lst (((apartN b l m).map fun k : Nat => PyData.int k).map .py)] := by
    rw [x_loop, hi, R.bind_ok]
    show loopF _ _ (((setsN (kindsN b)).map eStrs).map .py) _ _ = _
    rw [List.map_map]
    refine e.trans ?_
    unfold apartN
    rw [flat_map]
    simp only [flat_map, List.nil_append]
  have ml : mkLst true [] [] = .ok (.ref 0) [.lst []] := rfl
  refine call_ref (xs := [eBook b, eStrs l, eStrs m]) (k := 0) (S' := [.lst (((apartN b l m).map fun k : Nat => PyData.int k).map .py)]) h._law_apart rfl ?_ ?_
  · rw [hs, hbd]
    simp only [rowAp] at s2
    simp only [x_cons, x_nil, x_asg, x_ret, x_exp, x_ite, x_par, x_unp, x_sub, ev_con, ev_glo, ev_loc, ev_tup, ev_lst, ev_dic, ev_bop, ev_cmp, ev_cmp2, ev_and, ev_or, ev_not, ev_ite, ev_idx, ev_call, ev_blt, ev_isi, ev_met, ev_nil, ev_cons, R.bind_ok, R.of_some, okL_some, okO_some, tt3_t, tt3_f, List.getElem?_cons_zero, List.getElem?_cons_succ, List.set_cons_zero, List.set_cons_succ, bl, truth, Option.map_some, Bool.not_true, Bool.not_false, if_true, ml, s2, endD]
  · show (pys (((apartN b l m).map fun k : Nat => PyData.int k).map .py)).map PyData.list = _
    rw [pys_py]
    rfl
theorem eq_nil {l : List Nat} : eqD S (.py (eNs l)) (.py (.list [])) = some l.isEmpty := by
  have s1 : Shp 1 (eNs l) := shp_lst fun d hd => by
    obtain ⟨k, _, rfl⟩ := List.mem_map.mp hd
    exact shp_int
  rw [eqD_py s1 (by omega) (shp_lst (n := 0) (xs := []) fun d hd => nomatch hd) (by omega)]
  cases l <;> rfl
end
end Sf
end
section
namespace Sf
open PySem
/-- the shared defs -/
def T0 : Tab := fun f =>
  if f = "_law_mixed" then some d__law_mixed else
  if f = "_law_draw" then some d__law_draw else
  if f = "_law_begin" then some d__law_begin else
  if f = "_law_value" then some d__law_value else
  if f = "_law_of" then some d__law_of else
  if f = "_law_book" then some d__law_book else
  if f = "_law_row" then some d__law_row else
  if f = "_law_stream" then some d__law_stream else
  if f = "is_of" then some d_is_of else
  if f = "is_mark" then some d_is_mark else
  if f = "is_word" then some d_is_word else
  if f = "are_rising" then some d_are_rising else
  if f = "are_marks" then some d_are_marks else
  if f = "are_gives" then some d_are_gives else
  if f = "is_code" then some d_is_code else
  if f = "need_codes" then some d_need_codes else
  if f = "need_book" then some d_need_book else
  if f = "codes_in" then some d_codes_in else
  if f = "is_sign" then some d_is_sign else
  if f = "chains_in" then some d_chains_in else
  if f = "_law_codes" then some d__law_codes else
  if f = "_law_front" then some d__law_front else
  if f = "need_stream" then some d_need_stream else
  if f = "is_whole" then some d_is_whole else
  if f = "chain_at" then some d_chain_at else
  if f = "are_words" then some d_are_words else
  if f = "need_row" then some d_need_row else
  if f = "size_in" then some d_size_in else
  if f = "size_of" then some d_size_of else
  if f = "front" then some d_front else
  if f = "worth_in" then some d_worth_in else
  if f = "over" then some d_over else
  if f = "shown_at" then some d_shown_at else
  if f = "is_terminal" then some d_is_terminal else
  if f = "need_terminal" then some d_need_terminal else
  if f = "chains_by_signs" then some d_chains_by_signs else
  if f = "hangs" then some d_hangs else
  if f = "_law_seen" then some d__law_seen else
  if f = "_law_entry" then some d__law_entry else
  if f = "_law_hung" then some d__law_hung else
  if f = "_law_sets" then some d__law_sets else
  if f = "_law_kinds" then some d__law_kinds else
  if f = "form_in" then some d_form_in else
  if f = "forms_by_signs" then some d_forms_by_signs else
  if f = "signs_of" then some d_signs_of else
  if f = "need_both" then some d_need_both else
  if f = "alike" then some d_alike else
  if f = "needless_in" then some d_needless_in else
  if f = "needless" then some d_needless else
  if f = "lean" then some d_lean else
  if f = "_law_entries" then some d__law_entries else
  if f = "_law_apart" then some d__law_apart else none
end Sf
end
section
namespace Lk11
open PySem PySem.Spec L2 Sf
open PyProof.Rows hiding St
set_option maxRecDepth 100000
set_option maxHeartbeats 4000000
def topS (i : Nat) : PySem.Stmt := PySem.Challenge.pw_stylefall_k11_whole_needless_and_lean.main.body.getD i (.Pass ⟨0, 0, 0, 0⟩)
abbrev s_law : PySem.Stmt := topS 59
def n_law : List Str := ["script", "state", "turn", "book", "stream", "due"]
theorem sc_law : FnScope n_law ["script"] (defScope s_law) := ⟨rfl, rfl, rfl, by decide +kernel, rfl, by decide +kernel, by decide +kernel⟩
def c_law : CSs :=
  (.cons (.asg 1 (.call true "_law_begin" (.cons (.loc 0) .nil)))
  (.cons (.loop (.one 2) (.rng1 (.con (.int 2))) (.cons (.asg 3 (.call false "_law_book" (.cons (.loc 1) (.cons (.con (.int 6)) .nil))))
  (.cons (.asg 4 (.call false "_law_stream" (.cons (.loc 1) (.cons (.loc 3) (.cons (.con (.int 12)) .nil)))))
  (.cons (.asg 5 (.call false "_law_stream_right" (.cons (.loc 3) (.cons (.loc 4) .nil))))
  (.cons (.ite (.or (.cmp .is (.loc 5) (.con (.bool false))) (.or (.cmp .ne (.call false "lean" (.cons (.loc 3) (.cons (.loc 4) .nil))) (.loc 5)) (.cmp .ne (.call false "needless" (.cons (.loc 3) (.cons (.loc 5) .nil))) (.lst false .nil)))) (.cons (.ret (.con (.bool false)))
  .nil) .nil)
  (.cons (.ite (.or (.cmp .isnt (.call false "alike" (.cons (.loc 3) (.cons (.loc 4) (.cons (.loc 5) .nil)))) (.con (.bool true))) (.cmp .ne (.call false "lean" (.cons (.loc 3) (.cons (.loc 5) .nil))) (.loc 5))) (.cons (.ret (.con (.bool false)))
  .nil) .nil)
  .nil))))))
  (.cons (.ret (.con (.bool true)))
  .nil)))
abbrev s__law_begin : PySem.Stmt := topS 44
def n__law_begin : List Str := ["script", "cells", "cell"]
theorem sc__law_begin : FnScope n__law_begin ["script"] (defScope s__law_begin) := ⟨rfl, rfl, rfl, by decide +kernel, rfl, by decide +kernel, by decide +kernel⟩
def c__law_begin : CSs :=
  (.cons (.asg 1 (.ite (.cmp .ne (.loc 0) (.lst false .nil)) (.blt false .list (.cons (.loc 0) .nil)) (.lst false (.cons (.con (.int 0)) .nil))))
  (.cons (.ret (.dic true (.cons (.con (.str "cells")) (.cons (.loc 1) (.cons (.con (.str "lefts")) (.cons (.lc true (.ite (.cmp .ge (.loc 2) (.bop false .pow (.con (.int 10)) (.con (.int 18)))) (.loc 2) (.con (.int 0))) [2] (.one 2) (.seq (.loc 1)) .none) (.cons (.con (.str "at")) (.cons (.con (.int 0)) (.cons (.con (.str "room")) (.cons (.con (.int 0)) .nil))))))))))
  .nil))
abbrev s__law_book : PySem.Stmt := topS 51
def n__law_book : List Str := ["state", "most", "aspects", "blank", "codes", "k", "gives", "word", "aspect"]
theorem sc__law_book : FnScope n__law_book ["state", "most"] (defScope s__law_book) := ⟨rfl, rfl, rfl, by decide +kernel, rfl, by decide +kernel, by decide +kernel⟩
def c__law_book : CSs :=
  (.cons (.asg 2 (.idx (.lst false (.cons (.tup (.cons (.con (.str "a")) .nil)) (.cons (.tup (.cons (.con (.str "a")) (.cons (.con (.str "b")) .nil))) (.cons (.tup (.cons (.con (.str "a")) (.cons (.con (.str "b")) (.cons (.con (.str "c")) .nil)))) (.cons (.tup (.cons (.con (.str "a")) (.cons (.con (.str "b")) .nil))) .nil))))) (.call false "_law_draw" (.cons (.loc 0) (.cons (.con (.int 4)) .nil)))))
  (.cons (.asg 3 (.blt false .tuple (.cons (.lc false (.loc 8) [8] (.one 8) (.seq (.loc 2)) (.some (.cmp .eq (.call false "_law_draw" (.cons (.loc 0) (.cons (.con (.int 2)) .nil))) (.con (.int 0))))) .nil)))
  (.cons (.asg 4 (.lst true .nil))
  (.cons (.loop (.one 5) (.rng1 (.bop false .add (.con (.int 1)) (.call false "_law_draw" (.cons (.loc 0) (.cons (.loc 1) .nil))))) (.cons (.asg 6 (.blt false .tuple (.cons (.lc false (.tup (.cons (.loc 8) (.cons (.call false "_law_value" (.cons (.loc 0) .nil)) .nil))) [8] (.one 8) (.seq (.loc 2)) (.some (.cmp .eq (.call false "_law_draw" (.cons (.loc 0) (.cons (.con (.int 2)) .nil))) (.con (.int 0))))) .nil)))
  (.cons (.ite (.cmp .eq (.loc 6) (.tup .nil)) (.cons (.asg 6 (.tup (.cons (.tup (.cons (.idx (.loc 2) (.con (.int 0))) (.cons (.call false "_law_value" (.cons (.loc 0) .nil)) .nil))) .nil)))
  .nil) .nil)
  (.cons (.asg 7 (.idx (.lst false (.cons (.con (.str "1")) (.cons (.con (.str "2")) (.cons (.con (.str "22")) (.cons (.con (.str "3;4")) (.cons (.con (.str "0")) (.cons (.con (.str "38;5;1")) (.cons (.con (.str "9")) (.cons (.con (.str "44")) .nil))))))))) (.loc 5)))
  (.cons (.exp (.met false .append (.loc 4) (.cons (.tup (.cons (.loc 7) (.cons (.idx (.lst false (.cons (.con (.str "j")) (.cons (.con (.str "k")) (.cons (.con (.str "k")) (.cons (.con (.str "l")) .nil))))) (.call false "_law_draw" (.cons (.loc 0) (.cons (.con (.int 4)) .nil)))) (.cons (.loc 6) .nil)))) .nil)))
  .nil)))))
  (.cons (.ret (.tup (.cons (.loc 2) (.cons (.loc 3) (.cons (.blt false .tuple (.cons (.loc 4) .nil)) .nil)))))
  .nil)))))
abbrev s__law_stream : PySem.Stmt := topS 53
def n__law_stream : List Str := ["state", "book", "most", "words", "found", "k", "code"]
theorem sc__law_stream : FnScope n__law_stream ["state", "book", "most"] (defScope s__law_stream) := ⟨rfl, rfl, rfl, by decide +kernel, rfl, by decide +kernel, by decide +kernel⟩
def c__law_stream : CSs :=
  (.cons (.par [3, 4] (.cons (.lc false (.idx (.loc 6) (.con (.int 0))) [6] (.one 6) (.seq (.idx (.loc 1) (.con (.int 2)))) .none) (.cons (.lst true .nil) .nil)))
  (.cons (.loop (.one 5) (.rng1 (.call false "_law_draw" (.cons (.loc 0) (.cons (.bop false .add (.loc 2) (.con (.int 1))) .nil)))) (.cons (.ite (.cmp .gt (.call false "_law_draw" (.cons (.loc 0) (.cons (.con (.int 3)) .nil))) (.con (.int 0))) (.cons (.exp (.met false .append (.loc 4) (.cons (.idx (.loc 3) (.call false "_law_draw" (.cons (.loc 0) (.cons (.blt false .len (.cons (.loc 3) .nil)) .nil)))) .nil)))
  .nil) (.cons (.exp (.met false .append (.loc 4) (.cons (.idx (.lst false (.cons (.con (.str "x")) (.cons (.con (.str "y")) (.cons (.con (.str "x")) (.cons (.con (.str " ")) (.cons (.con (.str "z")) (.cons (.con (.str "\n")) .nil))))))) (.call false "_law_draw" (.cons (.loc 0) (.cons (.con (.int 6)) .nil)))) .nil)))
  .nil))
  .nil))
  (.cons (.ret (.blt false .tuple (.cons (.loc 4) .nil)))
  .nil)))
abbrev s__law_stream_right : PySem.Stmt := topS 58
def n__law_stream_right : List Str := ["book", "stream", "due", "found"]
theorem sc__law_stream_right : FnScope n__law_stream_right ["book", "stream"] (defScope s__law_stream_right) := ⟨rfl, rfl, rfl, by decide +kernel, rfl, by decide +kernel, by decide +kernel⟩
def c__law_stream_right : CSs :=
  (.cons (.asg 2 (.call false "_law_needless" (.cons (.loc 0) (.cons (.loc 1) .nil))))
  (.cons (.asg 3 (.call true "needless" (.cons (.loc 0) (.cons (.loc 1) .nil))))
  (.cons (.ite (.cmp .ne (.loc 3) (.loc 2)) (.cons (.ret (.con (.bool false)))
  .nil) .nil)
  (.cons (.exp (.met false .append (.loc 3) (.cons (.con (.int 999)) .nil)))
  (.cons (.ite (.cmp .ne (.call false "needless" (.cons (.loc 0) (.cons (.loc 1) .nil))) (.loc 2)) (.cons (.ret (.con (.bool false)))
  .nil) .nil)
  (.cons (.whl (.cmp .ne (.loc 2) (.lst false .nil)) (.cons (.asg 1 (.bop false .add (.sli (.loc 1) .none (.some (.idx (.loc 2) (.con (.int 0))))) (.sli (.loc 1) (.some (.bop false .add (.idx (.loc 2) (.con (.int 0))) (.con (.int 1)))) .none)))
  (.cons (.asg 2 (.call false "_law_needless" (.cons (.loc 0) (.cons (.loc 1) .nil))))
  .nil)))
  (.cons (.ret (.loc 1))
  .nil)))))))
abbrev s_lean : PySem.Stmt := topS 41
def n_lean : List Str := ["book", "stream", "found", "forms", "number", "less"]
theorem sc_lean : FnScope n_lean ["book", "stream"] (defScope s_lean) := ⟨rfl, rfl, rfl, by decide +kernel, rfl, by decide +kernel, by decide +kernel⟩
def c_lean : CSs :=
  (.cons (.par [2, 3, 4] (.cons (.call false "need_stream" (.cons (.loc 0) (.cons (.loc 1) .nil))) (.cons (.call false "forms_by_signs" (.cons (.loc 0) (.cons (.loc 1) .nil))) (.cons (.con (.int 0)) .nil))))
  (.cons (.whl (.cmp .lt (.loc 4) (.blt false .len (.cons (.loc 2) .nil))) (.cons (.asg 5 (.bop false .add (.sli (.loc 2) .none (.some (.loc 4))) (.sli (.loc 2) (.some (.bop false .add (.loc 4) (.con (.int 1)))) .none)))
  (.cons (.ite (.and (.not (.call false "is_sign" (.cons (.idx (.loc 2) (.loc 4)) .nil))) (.cmp .eq (.call false "forms_by_signs" (.cons (.loc 0) (.cons (.loc 5) .nil))) (.loc 3))) (.cons (.par [2, 4] (.cons (.loc 5) (.cons (.con (.int 0)) .nil)))
  .nil) (.cons (.aug 4 .add (.con (.int 1)))
  .nil))
  .nil)))
  (.cons (.ret (.loc 2))
  .nil)))
abbrev s_needless : PySem.Stmt := topS 40
def n_needless : List Str := ["book", "stream"]
theorem sc_needless : FnScope n_needless ["book", "stream"] (defScope s_needless) := ⟨rfl, rfl, rfl, by decide +kernel, rfl, by decide +kernel, by decide +kernel⟩
def c_needless : CSs :=
  (.cons (.ret (.call true "needless_in" (.cons (.loc 0) (.cons (.call false "need_stream" (.cons (.loc 0) (.cons (.loc 1) .nil))) .nil))))
  .nil)
abbrev s_alike : PySem.Stmt := topS 38
def n_alike : List Str := ["book", "one", "other"]
theorem sc_alike : FnScope n_alike ["book", "one", "other"] (defScope s_alike) := ⟨rfl, rfl, rfl, by decide +kernel, rfl, by decide +kernel, by decide +kernel⟩
def c_alike : CSs :=
  (.cons (.exp (.call false "need_both" (.cons (.loc 0) (.cons (.loc 1) (.cons (.loc 2) .nil)))))
  (.cons (.ret (.cmp .eq (.call false "forms_by_signs" (.cons (.loc 0) (.cons (.loc 1) .nil))) (.call false "forms_by_signs" (.cons (.loc 0) (.cons (.loc 2) .nil)))))
  .nil))
abbrev s__law_draw : PySem.Stmt := topS 45
def n__law_draw : List Str := ["state", "many", "at", "place", "left", "number"]
theorem sc__law_draw : FnScope n__law_draw ["state", "many"] (defScope s__law_draw) := ⟨rfl, rfl, rfl, by decide +kernel, rfl, by decide +kernel, by decide +kernel⟩
def c__law_draw : CSs :=
  (.cons (.asg 2 (.idx (.loc 0) (.con (.str "at"))))
  (.cons (.sub (.loc 0) (.con (.str "at")) (.bop false .add (.loc 2) (.con (.int 1))))
  (.cons (.asg 3 (.bop false .mod (.blt false .int (.cons (.loc 2) .nil)) (.blt false .len (.cons (.idx (.loc 0) (.con (.str "cells"))) .nil))))
  (.cons (.asg 4 (.idx (.idx (.loc 0) (.con (.str "lefts"))) (.loc 3)))
  (.cons (.ite (.cmp .gt (.loc 4) (.con (.int 0))) (.cons (.sub (.idx (.loc 0) (.con (.str "lefts"))) (.loc 3) (.bop false .fdiv (.loc 4) (.loc 1)))
  (.cons (.ret (.bop false .mod (.blt false .int (.cons (.loc 4) .nil)) (.loc 1)))
  .nil)) .nil)
  (.cons (.asg 5 (.call false "_law_mixed" (.cons (.call false "_law_mixed" (.cons (.idx (.idx (.loc 0) (.con (.str "cells"))) (.loc 3)) (.cons (.loc 2) .nil))) (.cons (.bop false .add (.con (.int 40)) (.loc 2)) .nil))))
  (.cons (.ret (.bop false .mod (.bop false .fdiv (.blt false .int (.cons (.bop false .add (.bop false .mul (.loc 5) (.con (.int 2147483647))) (.call false "_law_mixed" (.cons (.loc 5) (.cons (.bop false .add (.con (.int 7)) (.loc 2)) .nil)))) .nil)) (.con (.int 64))) (.loc 1)))
  .nil)))))))
abbrev s__law_value : PySem.Stmt := topS 52
def n__law_value : List Str := ["state"]
theorem sc__law_value : FnScope n__law_value ["state"] (defScope s__law_value) := ⟨rfl, rfl, rfl, by decide +kernel, rfl, by decide +kernel, by decide +kernel⟩
def c__law_value : CSs :=
  (.cons (.ret (.idx (.lst false (.cons (.con (.str "plain")) (.cons (.con (.str "u")) (.cons (.con (.str "v")) (.cons (.con (.str "u")) .nil))))) (.call false "_law_draw" (.cons (.loc 0) (.cons (.con (.int 4)) .nil)))))
  .nil)
abbrev s__law_needless : PySem.Stmt := topS 57
def n__law_needless : List Str := ["book", "stream", "words", "found", "number", "item", "less", "code"]
theorem sc__law_needless : FnScope n__law_needless ["book", "stream"] (defScope s__law_needless) := ⟨rfl, rfl, rfl, by decide +kernel, rfl, by decide +kernel, by decide +kernel⟩
def c__law_needless : CSs :=
  (.cons (.par [2, 3] (.cons (.lc false (.idx (.loc 7) (.con (.int 0))) [7] (.one 7) (.seq (.idx (.loc 0) (.con (.int 2)))) .none) (.cons (.lst true .nil) .nil)))
  (.cons (.loop (.many [4, 5]) (.enu (.loc 1)) (.cons (.asg 6 (.bop false .add (.sli (.loc 1) .none (.some (.loc 4))) (.sli (.loc 1) (.some (.bop false .add (.loc 4) (.con (.int 1)))) .none)))
  (.cons (.ite (.and (.cmp .isin (.loc 5) (.loc 2)) (.cmp .eq (.call false "_law_apart" (.cons (.loc 0) (.cons (.loc 1) (.cons (.loc 6) .nil)))) (.lst false .nil))) (.cons (.exp (.met false .append (.loc 3) (.cons (.loc 4) .nil)))
  .nil) .nil)
  .nil)))
  (.cons (.ret (.loc 3))
  .nil)))
abbrev s_need_stream : PySem.Stmt := topS 27
def n_need_stream : List Str := ["book", "thing", "words", "number", "item"]
theorem sc_need_stream : FnScope n_need_stream ["book", "thing"] (defScope s_need_stream) := ⟨rfl, rfl, rfl, by decide +kernel, rfl, by decide +kernel, by decide +kernel⟩
def c_need_stream : CSs :=
  (.cons (.asg 2 (.call false "codes_in" (.cons (.call false "need_book" (.cons (.loc 0) .nil)) .nil)))
  (.cons (.ite (.or (.not (.isi (.loc 1) .tuple)) (.cmp .gt (.blt false .len (.cons (.loc 1) .nil)) (.glo "" (.int 200)))) (.cons .rais
  .nil) .nil)
  (.cons (.loop (.many [3, 4]) (.enu (.loc 1)) (.cons (.ite (.and (.not (.call false "is_sign" (.cons (.loc 4) .nil))) (.or (.not (.isi (.loc 4) .str)) (.cmp .notin (.loc 4) (.loc 2)))) (.cons .rais
  .nil) .nil)
  .nil))
  (.cons (.ret (.loc 1))
  .nil))))
abbrev s_forms_by_signs : PySem.Stmt := topS 36
def n_forms_by_signs : List Str := ["book", "items", "chains", "chain"]
theorem sc_forms_by_signs : FnScope n_forms_by_signs ["book", "items"] (defScope s_forms_by_signs) := ⟨rfl, rfl, rfl, by decide +kernel, rfl, by decide +kernel, by decide +kernel⟩
def c_forms_by_signs : CSs :=
  (.cons (.ret (.lc false (.lc false (.call false "form_in" (.cons (.loc 3) .nil)) [3] (.one 3) (.seq (.loc 2)) .none) [2] (.one 2) (.seq (.call false "chains_by_signs" (.cons (.loc 0) (.cons (.loc 1) .nil)))) .none))
  .nil)
abbrev s_is_sign : PySem.Stmt := topS 26
def n_is_sign : List Str := ["thing"]
theorem sc_is_sign : FnScope n_is_sign ["thing"] (defScope s_is_sign) := ⟨rfl, rfl, rfl, by decide +kernel, rfl, by decide +kernel, by decide +kernel⟩
def c_is_sign : CSs :=
  (.cons (.ret (.and (.isi (.loc 0) .str) (.and (.cmp .eq (.blt false .len (.cons (.loc 0) .nil)) (.con (.int 1))) (.cmp .isin (.loc 0) (.bop false .add (.bop false .add (.glo "" (.str "abcdefghijklmnopqrstuvwxyz")) (.glo "" (.str " "))) (.glo "" (.str "\n")))))))
  .nil)
abbrev s_needless_in : PySem.Stmt := topS 39
def n_needless_in : List Str := ["book", "stream", "forms", "found", "number", "item"]
theorem sc_needless_in : FnScope n_needless_in ["book", "stream"] (defScope s_needless_in) := ⟨rfl, rfl, rfl, by decide +kernel, rfl, by decide +kernel, by decide +kernel⟩
def c_needless_in : CSs :=
  (.cons (.par [2, 3] (.cons (.call false "forms_by_signs" (.cons (.loc 0) (.cons (.loc 1) .nil))) (.cons (.lst true .nil) .nil)))
  (.cons (.loop (.many [4, 5]) (.enu (.loc 1)) (.cons (.ite (.and (.not (.call false "is_sign" (.cons (.loc 5) .nil))) (.cmp .eq (.call false "forms_by_signs" (.cons (.loc 0) (.cons (.bop false .add (.sli (.loc 1) .none (.some (.loc 4))) (.sli (.loc 1) (.some (.bop false .add (.loc 4) (.con (.int 1)))) .none)) .nil))) (.loc 2))) (.cons (.exp (.met false .append (.loc 3) (.cons (.loc 4) .nil)))
  .nil) .nil)
  .nil))
  (.cons (.ret (.loc 3))
  .nil)))
abbrev s_need_both : PySem.Stmt := topS 37
def n_need_both : List Str := ["book", "one", "other"]
theorem sc_need_both : FnScope n_need_both ["book", "one", "other"] (defScope s_need_both) := ⟨rfl, rfl, rfl, by decide +kernel, rfl, by decide +kernel, by decide +kernel⟩
def c_need_both : CSs :=
  (.cons (.exp (.call false "need_stream" (.cons (.loc 0) (.cons (.loc 1) .nil))))
  (.cons (.exp (.call false "need_stream" (.cons (.loc 0) (.cons (.loc 2) .nil))))
  (.cons (.ite (.cmp .ne (.call false "signs_of" (.cons (.loc 0) (.cons (.loc 1) .nil))) (.call false "signs_of" (.cons (.loc 0) (.cons (.loc 2) .nil)))) (.cons .rais
  .nil) .nil)
  .nil)))
abbrev s__law_mixed : PySem.Stmt := topS 43
def n__law_mixed : List Str := ["cell", "k"]
theorem sc__law_mixed : FnScope n__law_mixed ["cell", "k"] (defScope s__law_mixed) := ⟨rfl, rfl, rfl, by decide +kernel, rfl, by decide +kernel, by decide +kernel⟩
def c__law_mixed : CSs :=
  (.cons (.asg 0 (.bop false .mod (.blt false .int (.cons (.loc 0) .nil)) (.con (.int 2147483647))))
  (.cons (.ret (.bop false .mod (.bop false .mul (.bop false .mod (.bop false .add (.bop false .add (.bop false .mul (.loc 0) (.bop false .add (.con (.int 48271)) (.bop false .mul (.bop false .mul (.con (.int 2)) (.loc 1)) (.loc 1)))) (.bop false .mul (.con (.int 69621)) (.loc 1))) (.con (.int 11))) (.con (.int 2147483647))) (.con (.int 69621))) (.con (.int 2147483629))))
  .nil))
abbrev s__law_apart : PySem.Stmt := topS 56
def n__law_apart : List Str := ["book", "one", "other", "found", "terminal", "entry"]
theorem sc__law_apart : FnScope n__law_apart ["book", "one", "other"] (defScope s__law_apart) := ⟨rfl, rfl, rfl, by decide +kernel, rfl, by decide +kernel, by decide +kernel⟩
def c__law_apart : CSs :=
  (.cons (.asg 3 (.lst true .nil))
  (.cons (.loop (.one 4) (.seq (.call false "_law_sets" (.cons (.call false "_law_kinds" (.cons (.loc 0) .nil)) .nil))) (.cons (.loop (.one 5) (.seq (.call false "_law_entries" (.cons (.loc 0) .nil))) (.cons (.ite (.cmp .ne (.call false "_law_seen" (.cons (.loc 0) (.cons (.loc 1) (.cons (.loc 4) (.cons (.loc 5) .nil))))) (.call false "_law_seen" (.cons (.loc 0) (.cons (.loc 2) (.cons (.loc 4) (.cons (.loc 5) .nil)))))) (.cons (.exp (.met false .append (.loc 3) (.cons (.blt false .len (.cons (.loc 4) .nil)) .nil)))
  .nil) .nil)
  .nil))
  .nil))
  (.cons (.ret (.loc 3))
  .nil)))
abbrev s_codes_in : PySem.Stmt := topS 25
def n_codes_in : List Str := ["book", "code"]
theorem sc_codes_in : FnScope n_codes_in ["book"] (defScope s_codes_in) := ⟨rfl, rfl, rfl, by decide +kernel, rfl, by decide +kernel, by decide +kernel⟩
def c_codes_in : CSs :=
  (.cons (.ret (.dc false (.idx (.loc 1) (.con (.int 0))) (.loc 1) [1] (.one 1) (.seq (.idx (.loc 0) (.con (.int 2)))) .none))
  .nil)
abbrev s_need_book : PySem.Stmt := topS 24
def n_need_book : List Str := ["thing", "aspects", "shown", "codes", "aspect"]
theorem sc_need_book : FnScope n_need_book ["thing"] (defScope s_need_book) := ⟨rfl, rfl, rfl, by decide +kernel, rfl, by decide +kernel, by decide +kernel⟩
def c_need_book : CSs :=
  (.cons (.ite (.or (.not (.isi (.loc 0) .tuple)) (.cmp .ne (.blt false .len (.cons (.loc 0) .nil)) (.con (.int 3)))) (.cons .rais
  .nil) .nil)
  (.cons (.unp [1, 2, 3] (.loc 0))
  (.cons (.ite (.or (.not (.call false "are_marks" (.cons (.loc 1) .nil))) (.not (.cmp2 .le .le (.con (.int 1)) (.blt false .len (.cons (.loc 1) .nil)) (.glo "" (.int 6))))) (.cons .rais
  .nil) .nil)
  (.cons (.ite (.or (.not (.call false "are_marks" (.cons (.loc 2) .nil))) (.not (.blt false .all (.cons (.lc false (.cmp .isin (.loc 4) (.loc 1)) [4] (.one 4) (.seq (.loc 2)) .none) .nil)))) (.cons .rais
  .nil) .nil)
  (.cons (.ite (.or (.not (.isi (.loc 3) .tuple)) (.cmp .gt (.blt false .len (.cons (.loc 3) .nil)) (.glo "" (.int 16)))) (.cons .rais
  .nil) .nil)
  (.cons (.exp (.call false "need_codes" (.cons (.loc 1) (.cons (.loc 3) .nil))))
  (.cons (.ret (.loc 0))
  .nil)))))))
abbrev s_form_in : PySem.Stmt := topS 33
def n_form_in : List Str := ["chain", "found", "kind", "value"]
theorem sc_form_in : FnScope n_form_in ["chain"] (defScope s_form_in) := ⟨rfl, rfl, rfl, by decide +kernel, rfl, by decide +kernel, by decide +kernel⟩
def c_form_in : CSs :=
  (.cons (.asg 1 (.lst true .nil))
  (.cons (.loop (.many [2, 3]) (.seq (.loc 0)) (.cons (.ite (.and (.cmp .ne (.loc 1) (.lst false .nil)) (.cmp .eq (.idx (.idx (.loc 1) (.neg (.con (.int 1)))) (.con (.int 0))) (.loc 3))) (.cons (.sub (.loc 1) (.neg (.con (.int 1))) (.tup (.cons (.loc 3) (.cons (.blt false .tuple (.cons (.blt false .sorted (.cons (.bop false .add (.idx (.idx (.loc 1) (.neg (.con (.int 1)))) (.con (.int 1))) (.tup (.cons (.loc 2) .nil))) .nil)) .nil)) .nil))))
  .nil) (.cons (.exp (.met false .append (.loc 1) (.cons (.tup (.cons (.loc 3) (.cons (.tup (.cons (.loc 2) .nil)) .nil))) .nil)))
  .nil))
  .nil))
  (.cons (.ret (.blt false .tuple (.cons (.loc 1) .nil)))
  .nil)))
abbrev s_chains_by_signs : PySem.Stmt := topS 35
def n_chains_by_signs : List Str := ["book", "items", "words", "now", "found", "item", "aspect", "value"]
theorem sc_chains_by_signs : FnScope n_chains_by_signs ["book", "items"] (defScope s_chains_by_signs) := ⟨rfl, rfl, rfl, by decide +kernel, rfl, by decide +kernel, by decide +kernel⟩
def c_chains_by_signs : CSs :=
  (.cons (.par [2, 3, 4] (.cons (.call false "codes_in" (.cons (.loc 0) .nil)) (.cons (.dc true (.loc 6) (.tup .nil) [6] (.one 6) (.seq (.idx (.loc 0) (.con (.int 0)))) .none) (.cons (.lst true .nil) .nil))))
  (.cons (.loop (.one 5) (.seq (.loc 1)) (.cons (.ite (.call false "is_sign" (.cons (.loc 5) .nil)) (.cons (.exp (.met false .append (.loc 4) (.cons (.lc false (.idx (.loc 3) (.loc 6)) [6] (.one 6) (.seq (.call false "shown_at" (.cons (.loc 0) (.cons (.loc 5) .nil)))) .none) .nil)))
  .nil) (.cons (.loop (.many [6, 7]) (.seq (.idx (.idx (.loc 2) (.loc 5)) (.con (.int 2)))) (.cons (.sub (.loc 3) (.loc 6) (.call false "over" (.cons (.tup (.cons (.tup (.cons (.idx (.idx (.loc 2) (.loc 5)) (.con (.int 1))) (.cons (.loc 7) .nil))) .nil)) (.cons (.idx (.loc 3) (.loc 6)) .nil))))
  .nil))
  .nil))
  .nil))
  (.cons (.ret (.loc 4))
  .nil)))
abbrev s_signs_of : PySem.Stmt := topS 28
def n_signs_of : List Str := ["book", "stream", "item"]
theorem sc_signs_of : FnScope n_signs_of ["book", "stream"] (defScope s_signs_of) := ⟨rfl, rfl, rfl, by decide +kernel, rfl, by decide +kernel, by decide +kernel⟩
def c_signs_of : CSs :=
  (.cons (.ret (.blt false .tuple (.cons (.lc false (.loc 2) [2] (.one 2) (.seq (.call false "need_stream" (.cons (.loc 0) (.cons (.loc 1) .nil)))) (.some (.call false "is_sign" (.cons (.loc 2) .nil)))) .nil)))
  .nil)
abbrev s__law_sets : PySem.Stmt := topS 48
def n__law_sets : List Str := ["words", "found", "word", "row"]
theorem sc__law_sets : FnScope n__law_sets ["words"] (defScope s__law_sets) := ⟨rfl, rfl, rfl, by decide +kernel, rfl, by decide +kernel, by decide +kernel⟩
def c__law_sets : CSs :=
  (.cons (.asg 1 (.lst false (.cons (.tup .nil) .nil)))
  (.cons (.loop (.one 2) (.seq (.loc 0)) (.cons (.asg 1 (.bop false .add (.loc 1) (.lc false (.bop false .add (.loc 3) (.tup (.cons (.loc 2) .nil))) [3] (.one 3) (.seq (.loc 1)) .none)))
  .nil))
  (.cons (.ret (.sortLen (.loc 1)))
  .nil)))
abbrev s__law_kinds : PySem.Stmt := topS 49
def n__law_kinds : List Str := ["book", "word", "kind", "gives"]
theorem sc__law_kinds : FnScope n__law_kinds ["book"] (defScope s__law_kinds) := ⟨rfl, rfl, rfl, by decide +kernel, rfl, by decide +kernel, by decide +kernel⟩
def c__law_kinds : CSs :=
  (.cons (.ret (.blt false .sorted (.cons (.blt false .dict (.cons (.lc false (.tup (.cons (.loc 2) (.cons (.con (.int 0)) .nil))) [1, 2, 3] (.many [1, 2, 3]) (.seq (.idx (.loc 0) (.con (.int 2)))) .none) .nil)) .nil)))
  .nil)
abbrev s__law_entries : PySem.Stmt := topS 55
def n__law_entries : List Str := ["book", "found", "k", "aspect"]
theorem sc__law_entries : FnScope n__law_entries ["book"] (defScope s__law_entries) := ⟨rfl, rfl, rfl, by decide +kernel, rfl, by decide +kernel, by decide +kernel⟩
def c__law_entries : CSs :=
  (.cons (.asg 1 (.lst false (.cons (.call false "_law_entry" (.cons (.loc 0) (.cons (.con (.str "own")) .nil))) (.cons (.call false "_law_entry" (.cons (.loc 0) (.cons (.con (.str "plain")) .nil))) (.cons (.call false "_law_entry" (.cons (.loc 0) (.cons (.con (.str "u")) .nil))) .nil)))))
  (.cons (.ret (.bop false .add (.loc 1) (.lst false (.cons (.blt false .dict (.cons (.lc false (.tup (.cons (.loc 3) (.cons (.idx (.lst false (.cons (.con (.str "other")) (.cons (.con (.str "v")) .nil))) (.bop false .mod (.loc 2) (.con (.int 2)))) .nil))) [2, 3] (.many [2, 3]) (.enu (.idx (.loc 0) (.con (.int 0)))) .none) .nil)) .nil))))
  .nil))
abbrev s__law_seen : PySem.Stmt := topS 47
def n__law_seen : List Str := ["book", "items", "terminal", "entry", "codes", "now", "found", "item", "kind", "gives", "some", "aspect"]
theorem sc__law_seen : FnScope n__law_seen ["book", "items", "terminal", "entry"] (defScope s__law_seen) := ⟨rfl, rfl, rfl, by decide +kernel, rfl, by decide +kernel, by decide +kernel⟩
def c__law_seen : CSs :=
  (.cons (.par [4, 5, 6] (.cons (.call false "_law_codes" (.cons (.loc 0) .nil)) (.cons (.blt false .dict (.cons (.loc 3) .nil)) (.cons (.lst true .nil) .nil))))
  (.cons (.loop (.one 7) (.seq (.loc 1)) (.cons (.ite (.cmp .isin (.loc 7) (.loc 4)) (.cons (.unp [8, 9] (.idx (.loc 4) (.loc 7)))
  (.cons (.ite (.cmp .isin (.loc 8) (.loc 2)) (.cons (.asg 5 (.blt false .dict (.cons (.bop false .add (.blt false .list (.cons (.met false .items (.loc 5) .nil) .nil)) (.blt false .list (.cons (.loc 9) .nil))) .nil)))
  .nil) .nil)
  .nil)) (.cons (.ite (.cmp .eq (.loc 7) (.con (.str "\n"))) (.cons (.exp (.met false .append (.loc 6) (.cons (.tup (.cons (.loc 7) (.cons (.tup .nil) .nil))) .nil)))
  .nil) (.cons (.asg 10 (.ite (.cmp .eq (.loc 7) (.con (.str " "))) (.idx (.loc 0) (.con (.int 1))) (.idx (.loc 0) (.con (.int 0)))))
  (.cons (.exp (.met false .append (.loc 6) (.cons (.tup (.cons (.loc 7) (.cons (.blt false .tuple (.cons (.lc false (.idx (.loc 5) (.loc 11)) [11] (.one 11) (.seq (.loc 10)) .none) .nil)) .nil))) .nil)))
  .nil)))
  .nil))
  .nil))
  (.cons (.ret (.blt false .tuple (.cons (.loc 6) .nil)))
  .nil)))
abbrev s_need_codes : PySem.Stmt := topS 23
def n_need_codes : List Str := ["aspects", "codes", "words", "kinds", "number", "code", "pair"]
theorem sc_need_codes : FnScope n_need_codes ["aspects", "codes"] (defScope s_need_codes) := ⟨rfl, rfl, rfl, by decide +kernel, rfl, by decide +kernel, by decide +kernel⟩
def c_need_codes : CSs :=
  (.cons (.par [2, 3] (.cons (.dic true .nil) (.cons (.dic true .nil) .nil)))
  (.cons (.loop (.many [4, 5]) (.enu (.loc 1)) (.cons (.ite (.or (.not (.call false "is_code" (.cons (.loc 5) .nil))) (.or (.cmp .isin (.idx (.loc 5) (.con (.int 0))) (.loc 2)) (.not (.blt false .all (.cons (.lc false (.cmp .isin (.idx (.loc 6) (.con (.int 0))) (.loc 0)) [6] (.one 6) (.seq (.idx (.loc 5) (.con (.int 2)))) .none) .nil))))) (.cons .rais
  .nil) .nil)
  (.cons (.sub (.loc 2) (.idx (.loc 5) (.con (.int 0))) (.con (.bool true)))
  (.cons (.sub (.loc 3) (.idx (.loc 5) (.con (.int 1))) (.con (.bool true)))
  (.cons (.ite (.cmp .gt (.blt false .len (.cons (.loc 3) .nil)) (.glo "" (.int 6))) (.cons .rais
  .nil) .nil)
  .nil)))))
  .nil))
abbrev s_are_marks : PySem.Stmt := topS 20
def n_are_marks : List Str := ["thing", "one"]
theorem sc_are_marks : FnScope n_are_marks ["thing"] (defScope s_are_marks) := ⟨rfl, rfl, rfl, by decide +kernel, rfl, by decide +kernel, by decide +kernel⟩
def c_are_marks : CSs :=
  (.cons (.ret (.and (.isi (.loc 0) .tuple) (.and (.blt false .all (.cons (.lc false (.call false "is_mark" (.cons (.loc 1) .nil)) [1] (.one 1) (.seq (.loc 0)) .none) .nil)) (.call false "are_rising" (.cons (.loc 0) .nil)))))
  .nil)
abbrev s_over : PySem.Stmt := topS 32
def n_over : List Str := ["front", "chain", "kinds", "kind", "value", "pair"]
theorem sc_over : FnScope n_over ["front", "chain"] (defScope s_over) := ⟨rfl, rfl, rfl, by decide +kernel, rfl, by decide +kernel, by decide +kernel⟩
def c_over : CSs :=
  (.cons (.asg 2 (.lc false (.loc 3) [3, 4] (.many [3, 4]) (.seq (.loc 0)) .none))
  (.cons (.ret (.bop false .add (.loc 0) (.blt false .tuple (.cons (.lc false (.loc 5) [5] (.one 5) (.seq (.loc 1)) (.some (.cmp .notin (.idx (.loc 5) (.con (.int 0))) (.loc 2)))) .nil))))
  .nil))
abbrev s_shown_at : PySem.Stmt := topS 30
def n_shown_at : List Str := ["book", "sign"]
theorem sc_shown_at : FnScope n_shown_at ["book", "sign"] (defScope s_shown_at) := ⟨rfl, rfl, rfl, by decide +kernel, rfl, by decide +kernel, by decide +kernel⟩
def c_shown_at : CSs :=
  (.cons (.ite (.cmp .eq (.loc 1) (.glo "" (.str "\n"))) (.cons (.ret (.tup .nil))
  .nil) .nil)
  (.cons (.ret (.ite (.cmp .eq (.loc 1) (.glo "" (.str " "))) (.idx (.loc 0) (.con (.int 1))) (.idx (.loc 0) (.con (.int 0)))))
  .nil))
abbrev s__law_entry : PySem.Stmt := topS 50
def n__law_entry : List Str := ["book", "value", "aspect"]
theorem sc__law_entry : FnScope n__law_entry ["book", "value"] (defScope s__law_entry) := ⟨rfl, rfl, rfl, by decide +kernel, rfl, by decide +kernel, by decide +kernel⟩
def c__law_entry : CSs :=
  (.cons (.ret (.blt false .dict (.cons (.lc false (.tup (.cons (.loc 2) (.cons (.loc 1) .nil))) [2] (.one 2) (.seq (.idx (.loc 0) (.con (.int 0)))) .none) .nil)))
  .nil)
abbrev s__law_codes : PySem.Stmt := topS 46
def n__law_codes : List Str := ["book", "word", "kind", "gives"]
theorem sc__law_codes : FnScope n__law_codes ["book"] (defScope s__law_codes) := ⟨rfl, rfl, rfl, by decide +kernel, rfl, by decide +kernel, by decide +kernel⟩
def c__law_codes : CSs :=
  (.cons (.ret (.blt false .dict (.cons (.lc false (.tup (.cons (.loc 1) (.cons (.tup (.cons (.loc 2) (.cons (.loc 3) .nil))) .nil))) [1, 2, 3] (.many [1, 2, 3]) (.seq (.idx (.loc 0) (.con (.int 2)))) .none) .nil)))
  .nil)
abbrev s_is_code : PySem.Stmt := topS 22
def n_is_code : List Str := ["thing"]
theorem sc_is_code : FnScope n_is_code ["thing"] (defScope s_is_code) := ⟨rfl, rfl, rfl, by decide +kernel, rfl, by decide +kernel, by decide +kernel⟩
def c_is_code : CSs :=
  (.cons (.ite (.or (.not (.isi (.loc 0) .tuple)) (.cmp .ne (.blt false .len (.cons (.loc 0) .nil)) (.con (.int 3)))) (.cons (.ret (.con (.bool false)))
  .nil) .nil)
  (.cons (.ret (.and (.call false "is_word" (.cons (.idx (.loc 0) (.con (.int 0))) .nil)) (.and (.call false "is_mark" (.cons (.idx (.loc 0) (.con (.int 1))) .nil)) (.call false "are_gives" (.cons (.idx (.loc 0) (.con (.int 2))) .nil)))))
  .nil))
abbrev s_are_rising : PySem.Stmt := topS 19
def n_are_rising : List Str := ["things", "at"]
theorem sc_are_rising : FnScope n_are_rising ["things"] (defScope s_are_rising) := ⟨rfl, rfl, rfl, by decide +kernel, rfl, by decide +kernel, by decide +kernel⟩
def c_are_rising : CSs :=
  (.cons (.ret (.blt false .all (.cons (.lc false (.cmp .lt (.idx (.loc 0) (.loc 1)) (.idx (.loc 0) (.bop false .add (.loc 1) (.con (.int 1))))) [1] (.one 1) (.rng1 (.bop false .sub (.blt false .len (.cons (.loc 0) .nil)) (.con (.int 1)))) .none) .nil)))
  .nil)
abbrev s_is_mark : PySem.Stmt := topS 17
def n_is_mark : List Str := ["thing"]
theorem sc_is_mark : FnScope n_is_mark ["thing"] (defScope s_is_mark) := ⟨rfl, rfl, rfl, by decide +kernel, rfl, by decide +kernel, by decide +kernel⟩
def c_is_mark : CSs :=
  (.cons (.ret (.call false "is_of" (.cons (.loc 0) (.cons (.glo "" (.str "abcdefghijklmnopqrstuvwxyz")) .nil))))
  .nil)
abbrev s_is_word : PySem.Stmt := topS 18
def n_is_word : List Str := ["thing"]
theorem sc_is_word : FnScope n_is_word ["thing"] (defScope s_is_word) := ⟨rfl, rfl, rfl, by decide +kernel, rfl, by decide +kernel, by decide +kernel⟩
def c_is_word : CSs :=
  (.cons (.ret (.and (.call false "is_of" (.cons (.loc 0) (.cons (.bop false .add (.glo "" (.str "0123456789")) (.glo "" (.str ";"))) .nil))) (.and (.cmp .ne (.idx (.loc 0) (.con (.int 0))) (.glo "" (.str ";"))) (.cmp .ne (.idx (.loc 0) (.neg (.con (.int 1)))) (.glo "" (.str ";"))))))
  .nil)
abbrev s_are_gives : PySem.Stmt := topS 21
def n_are_gives : List Str := ["thing", "pair"]
theorem sc_are_gives : FnScope n_are_gives ["thing"] (defScope s_are_gives) := ⟨rfl, rfl, rfl, by decide +kernel, rfl, by decide +kernel, by decide +kernel⟩
def c_are_gives : CSs :=
  (.cons (.ite (.or (.not (.isi (.loc 0) .tuple)) (.cmp .eq (.blt false .len (.cons (.loc 0) .nil)) (.con (.int 0)))) (.cons (.ret (.con (.bool false)))
  .nil) .nil)
  (.cons (.loop (.one 1) (.seq (.loc 0)) (.cons (.ite (.or (.not (.isi (.loc 1) .tuple)) (.or (.cmp .ne (.blt false .len (.cons (.loc 1) .nil)) (.con (.int 2))) (.or (.not (.call false "is_mark" (.cons (.idx (.loc 1) (.con (.int 0))) .nil))) (.not (.call false "is_mark" (.cons (.idx (.loc 1) (.con (.int 1))) .nil)))))) (.cons (.ret (.con (.bool false)))
  .nil) .nil)
  .nil))
  (.cons (.ret (.call false "are_rising" (.cons (.lc false (.idx (.loc 1) (.con (.int 0))) [1] (.one 1) (.seq (.loc 0)) .none) .nil)))
  .nil)))
abbrev s_is_of : PySem.Stmt := topS 16
def n_is_of : List Str := ["thing", "signs", "sign"]
theorem sc_is_of : FnScope n_is_of ["thing", "signs"] (defScope s_is_of) := ⟨rfl, rfl, rfl, by decide +kernel, rfl, by decide +kernel, by decide +kernel⟩
def c_is_of : CSs :=
  (.cons (.ite (.or (.not (.isi (.loc 0) .str)) (.not (.cmp2 .le .le (.con (.int 1)) (.blt false .len (.cons (.loc 0) .nil)) (.glo "" (.int 8))))) (.cons (.ret (.con (.bool false)))
  .nil) .nil)
  (.cons (.ret (.blt false .all (.cons (.lc false (.cmp .isin (.loc 2) (.loc 1)) [2] (.one 2) (.seq (.loc 0)) .none) .nil)))
  .nil))
def T : Tab := fun f =>
  if f = "is_of" then some ⟨2, 3, c_is_of⟩ else
  if f = "are_gives" then some ⟨1, 2, c_are_gives⟩ else
  if f = "is_word" then some ⟨1, 1, c_is_word⟩ else
  if f = "is_mark" then some ⟨1, 1, c_is_mark⟩ else
  if f = "are_rising" then some ⟨1, 2, c_are_rising⟩ else
  if f = "is_code" then some ⟨1, 1, c_is_code⟩ else
  if f = "_law_codes" then some ⟨1, 4, c__law_codes⟩ else
  if f = "_law_entry" then some ⟨2, 3, c__law_entry⟩ else
  if f = "shown_at" then some ⟨2, 2, c_shown_at⟩ else
  if f = "over" then some ⟨2, 6, c_over⟩ else
  if f = "are_marks" then some ⟨1, 2, c_are_marks⟩ else
  if f = "need_codes" then some ⟨2, 7, c_need_codes⟩ else
  if f = "_law_seen" then some ⟨4, 12, c__law_seen⟩ else
  if f = "_law_entries" then some ⟨1, 4, c__law_entries⟩ else
  if f = "_law_kinds" then some ⟨1, 4, c__law_kinds⟩ else
  if f = "_law_sets" then some ⟨1, 4, c__law_sets⟩ else
  if f = "signs_of" then some ⟨2, 3, c_signs_of⟩ else
  if f = "chains_by_signs" then some ⟨2, 8, c_chains_by_signs⟩ else
  if f = "form_in" then some ⟨1, 4, c_form_in⟩ else
  if f = "need_book" then some ⟨1, 5, c_need_book⟩ else
  if f = "codes_in" then some ⟨1, 2, c_codes_in⟩ else
  if f = "_law_apart" then some ⟨3, 6, c__law_apart⟩ else
  if f = "_law_mixed" then some ⟨2, 2, c__law_mixed⟩ else
  if f = "need_both" then some ⟨3, 3, c_need_both⟩ else
  if f = "needless_in" then some ⟨2, 6, c_needless_in⟩ else
  if f = "is_sign" then some ⟨1, 1, c_is_sign⟩ else
  if f = "forms_by_signs" then some ⟨2, 4, c_forms_by_signs⟩ else
  if f = "need_stream" then some ⟨2, 5, c_need_stream⟩ else
  if f = "_law_needless" then some ⟨2, 8, c__law_needless⟩ else
  if f = "_law_value" then some ⟨1, 1, c__law_value⟩ else
  if f = "_law_draw" then some ⟨2, 6, c__law_draw⟩ else
  if f = "alike" then some ⟨3, 3, c_alike⟩ else
  if f = "needless" then some ⟨2, 2, c_needless⟩ else
  if f = "lean" then some ⟨2, 6, c_lean⟩ else
  if f = "_law_stream_right" then some ⟨2, 4, c__law_stream_right⟩ else
  if f = "_law_stream" then some ⟨3, 7, c__law_stream⟩ else
  if f = "_law_book" then some ⟨2, 9, c__law_book⟩ else
  if f = "_law_begin" then some ⟨1, 3, c__law_begin⟩ else
  if f = "law" then some ⟨1, 6, c_law⟩ else Sf.T0 f
structure Ms (mg : Str → Option Value) : Prop where
  z_all : mg "all" = none
  z_dict : mg "dict" = none
  z_enumerate : mg "enumerate" = none
  z_int : mg "int" = none
  z_isinstance : mg "isinstance" = none
  z_len : mg "len" = none
  z_list : mg "list" = none
  z_range : mg "range" = none
  z_sorted : mg "sorted" = none
  z_str : mg "str" = none
  z_tuple : mg "tuple" = none
  c_BLANK : StrG mg "BLANK" " "
  c_FIGURES : StrG mg "FIGURES" "0123456789"
  c_LETTERS : StrG mg "LETTERS" "abcdefghijklmnopqrstuvwxyz"
  c_LINE_END : StrG mg "LINE_END" "\n"
  c_MOST_ASPECTS : IntG mg "MOST_ASPECTS" 6
  c_MOST_CODES : IntG mg "MOST_CODES" 16
  c_MOST_ITEMS : IntG mg "MOST_ITEMS" 200
  c_MOST_KINDS : IntG mg "MOST_KINDS" 6
  c_MOST_SIGNS : IntG mg "MOST_SIGNS" 8
  c_PART : StrG mg "PART" ";"
structure Cs (P : Program) (w : World) (K : PySem.W.Frag) (mg : Str → Option Value) (base : Heap) (k : Nat) (G : Gam) : Prop where
  f_law : CallOk P w K mg base k G "law" ["script"]
  f__law_begin : CallOk P w K mg base k G "_law_begin" ["script"]
  f__law_book : CallOk P w K mg base k G "_law_book" ["state", "most"]
  f__law_stream : CallOk P w K mg base k G "_law_stream" ["state", "book", "most"]
  f__law_stream_right : CallOk P w K mg base k G "_law_stream_right" ["book", "stream"]
  f_lean : CallOk P w K mg base k G "lean" ["book", "stream"]
  f_needless : CallOk P w K mg base k G "needless" ["book", "stream"]
  f_alike : CallOk P w K mg base k G "alike" ["book", "one", "other"]
  f__law_draw : CallOk P w K mg base k G "_law_draw" ["state", "many"]
  f__law_value : CallOk P w K mg base k G "_law_value" ["state"]
  f__law_needless : CallOk P w K mg base k G "_law_needless" ["book", "stream"]
  f_need_stream : CallOk P w K mg base k G "need_stream" ["book", "thing"]
  f_forms_by_signs : CallOk P w K mg base k G "forms_by_signs" ["book", "items"]
  f_is_sign : CallOk P w K mg base k G "is_sign" ["thing"]
  f_needless_in : CallOk P w K mg base k G "needless_in" ["book", "stream"]
  f_need_both : CallOk P w K mg base k G "need_both" ["book", "one", "other"]
  f__law_mixed : CallOk P w K mg base k G "_law_mixed" ["cell", "k"]
  f__law_apart : CallOk P w K mg base k G "_law_apart" ["book", "one", "other"]
  f_codes_in : CallOk P w K mg base k G "codes_in" ["book"]
  f_need_book : CallOk P w K mg base k G "need_book" ["thing"]
  f_form_in : CallOk P w K mg base k G "form_in" ["chain"]
  f_chains_by_signs : CallOk P w K mg base k G "chains_by_signs" ["book", "items"]
  f_signs_of : CallOk P w K mg base k G "signs_of" ["book", "stream"]
  f__law_sets : CallOk P w K mg base k G "_law_sets" ["words"]
  f__law_kinds : CallOk P w K mg base k G "_law_kinds" ["book"]
  f__law_entries : CallOk P w K mg base k G "_law_entries" ["book"]
  f__law_seen : CallOk P w K mg base k G "_law_seen" ["book", "items", "terminal", "entry"]
  f_need_codes : CallOk P w K mg base k G "need_codes" ["aspects", "codes"]
  f_are_marks : CallOk P w K mg base k G "are_marks" ["thing"]
  f_over : CallOk P w K mg base k G "over" ["front", "chain"]
  f_shown_at : CallOk P w K mg base k G "shown_at" ["book", "sign"]
  f__law_entry : CallOk P w K mg base k G "_law_entry" ["book", "value"]
  f__law_codes : CallOk P w K mg base k G "_law_codes" ["book"]
  f_is_code : CallOk P w K mg base k G "is_code" ["thing"]
  f_are_rising : CallOk P w K mg base k G "are_rising" ["things"]
  f_is_mark : CallOk P w K mg base k G "is_mark" ["thing"]
  f_is_word : CallOk P w K mg base k G "is_word" ["thing"]
  f_are_gives : CallOk P w K mg base k G "are_gives" ["thing"]
  f_is_of : CallOk P w K mg base k G "is_of" ["thing", "signs"]
section
variable {P : Program} {w : World} {K : PySem.W.Frag} {mg : Str → Option Value} {base : Heap} {k : Nat} {G : Gam} {F : Nat} {f : Addr} {cdv : Value} {A : Around} {outer : List Env} {s : Shared} {H : Hp} {E : XK}
theorem b_law (C : Cs P w K mg base k G) (M : Ms mg) (hr : Room k (A.deeper (envOfC "law" (defScope s_law) s.heap.objs.size f cdv))) (hg : A.guards = some []) :
    PSs (inX P w K mg base n_law "law" s_law f cdv A outer s H E) (defBody s_law) (rdSs K G F c_law) := by
  have hu := hr.units
  have hu2 := room_u66 hr
  have hN := sc_law.nd
  exact (ss_cons (xa hN (qcall C.f__law_begin hr hg (qa qv sa_nil)))
  (ss_cons (xfor (ir1 M.z_range qi) (g1 hN) (ss_cons (xa hN (qcall C.f__law_book hr hg (qa qv (qa qi sa_nil))))
  (ss_cons (xa hN (qcall C.f__law_stream hr hg (qa qv (qa qv (qa qi sa_nil)))))
  (ss_cons (xa hN (qcall C.f__law_stream_right hr hg (qa qv (qa qv sa_nil))))
  (ss_cons (sx_ite ((sw_or (tcmp (o := .is) hu qv qb) (sw_or (tcmp (o := .ne) hu (qcall C.f_lean hr hg (qa qv (qa qv sa_nil))) qv) (sw_or1 (tcmp (o := .ne) hu (qcall C.f_needless hr hg (qa qv (qa qv sa_nil))) (se_lst sa_nil)))))).pt (ss_cons (sx_ret qb)
  ss_nil) ss_nil)
  (ss_cons (sx_ite ((sw_or (tcmp (o := .isnt) hu (qcall C.f_alike hr hg (qa qv (qa qv (qa qv sa_nil)))) qb) (sw_or1 (tcmp (o := .ne) hu (qcall C.f_lean hr hg (qa qv (qa qv sa_nil))) qv)))).pt (ss_cons (sx_ret qb)
  ss_nil) ss_nil)
  ss_nil))))))
  (ss_cons (sx_ret qb)
  ss_nil)))
theorem b__law_begin (C : Cs P w K mg base k G) (M : Ms mg) (hr : Room k (A.deeper (envOfC "_law_begin" (defScope s__law_begin) s.heap.objs.size f cdv))) (hg : A.guards = some []) :
    PSs (inX P w K mg base n__law_begin "_law_begin" s__law_begin f cdv A outer s H E) (defBody s__law_begin) (rdSs K G F c__law_begin) := by
  have hu := hr.units
  have hu2 := room_u66 hr
  have hN := sc__law_begin.nd
  exact (ss_cons (xa hN (se_ite (tcmp (o := .ne) hu qv (se_lst sa_nil)) (qblt (b := .list) M.z_list (qa qv sa_nil)) (se_lst (qa qi sa_nil))))
  (ss_cons (sx_ret (qdic (pps_cons qs qv (pps_cons qs (qlc [("cell", 2)] hN (si_seq qv) (fun _ _ _ _ _ => (g1 hN)) (fun _ _ _ _ _ => sc_none) (fun _ _ _ _ _ => (se_ite (tcmp (o := .ge) hu qv (se_bop (o := .pow) qi qi)) qv qi))) (pps_cons qs qi (pps_cons qs qi pps_nil))))))
  ss_nil))
theorem b__law_book (C : Cs P w K mg base k G) (M : Ms mg) (hr : Room k (A.deeper (envOfC "_law_book" (defScope s__law_book) s.heap.objs.size f cdv))) (hg : A.guards = some []) :
    PSs (inX P w K mg base n__law_book "_law_book" s__law_book f cdv A outer s H E) (defBody s__law_book) (rdSs K G F c__law_book) := by
  have hu := hr.units
  have hu2 := room_u66 hr
  have hN := sc__law_book.nd
  exact (ss_cons (xa hN (qidx hu (se_lst (qa (se_tup (qa qs sa_nil)) (qa (se_tup (qa qs (qa qs sa_nil))) (qa (se_tup (qa qs (qa qs (qa qs sa_nil)))) (qa (se_tup (qa qs (qa qs sa_nil))) sa_nil))))) (qcall C.f__law_draw hr hg (qa qv (qa qi sa_nil)))))
  (ss_cons (xa hN (qblt (b := .tuple) M.z_tuple (qa (qlc [("aspect", 8)] hN (si_seq qv) (fun _ _ _ _ _ => (g1 hN)) (fun _ _ _ _ _ => (sc_some (tcmp (o := .eq) hu (qcall C.f__law_draw hr hg (qa qv (qa qi sa_nil))) qi))) (fun _ _ _ _ _ => qv)) sa_nil)))
  (ss_cons (xa hN (se_lst sa_nil))
  (ss_cons (xfor (ir1 M.z_range (se_bop (o := .add) qi (qcall C.f__law_draw hr hg (qa qv (qa qv sa_nil))))) (g1 hN) (ss_cons (xa hN (qblt (b := .tuple) M.z_tuple (qa (qlc [("aspect", 8)] hN (si_seq qv) (fun _ _ _ _ _ => (g1 hN)) (fun _ _ _ _ _ => (sc_some (tcmp (o := .eq) hu (qcall C.f__law_draw hr hg (qa qv (qa qi sa_nil))) qi))) (fun _ _ _ _ _ => (se_tup (qa qv (qa (qcall C.f__law_value hr hg (qa qv sa_nil)) sa_nil))))) sa_nil)))
  (ss_cons (sx_ite (tcmp (o := .eq) hu qv (se_tup sa_nil)) (ss_cons (xa hN (se_tup (qa (se_tup (qa (qidx hu qv qi) (qa (qcall C.f__law_value hr hg (qa qv sa_nil)) sa_nil))) sa_nil)))
  ss_nil) ss_nil)
  (ss_cons (xa hN (qidx hu (se_lst (qa qs (qa qs (qa qs (qa qs (qa qs (qa qs (qa qs (qa qs sa_nil))))))))) qv))
  (ss_cons (xe (qapp qv (se_tup (qa qv (qa (qidx hu (se_lst (qa qs (qa qs (qa qs (qa qs sa_nil))))) (qcall C.f__law_draw hr hg (qa qv (qa qi sa_nil)))) (qa qv sa_nil))))))
  ss_nil)))))
  (ss_cons (sx_ret (se_tup (qa qv (qa qv (qa (qblt (b := .tuple) M.z_tuple (qa qv sa_nil)) sa_nil)))))
  ss_nil)))))
theorem b__law_stream (C : Cs P w K mg base k G) (M : Ms mg) (hr : Room k (A.deeper (envOfC "_law_stream" (defScope s__law_stream) s.heap.objs.size f cdv))) (hg : A.guards = some []) :
    PSs (inX P w K mg base n__law_stream "_law_stream" s__law_stream f cdv A outer s H E) (defBody s__law_stream) (rdSs K G F c__law_stream) := by
  have hu := hr.units
  have hu2 := room_u66 hr
  have hN := sc__law_stream.nd
  exact (ss_cons (by first | exact xp2 hN (qa (qlc [("code", 6)] hN (si_seq (qidx hu qv qi)) (fun _ _ _ _ _ => (g1 hN)) (fun _ _ _ _ _ => sc_none) (fun _ _ _ _ _ => (qidx hu qv qi))) (qa (se_lst sa_nil) sa_nil)) | exact xpT (gT1 (gs1 hN (gs1 hN gs0))) (qa (qlc [("code", 6)] hN (si_seq (qidx hu qv qi)) (fun _ _ _ _ _ => (g1 hN)) (fun _ _ _ _ _ => sc_none) (fun _ _ _ _ _ => (qidx hu qv qi))) (qa (se_lst sa_nil) sa_nil)))
  (ss_cons (xfor (ir1 M.z_range (qcall C.f__law_draw hr hg (qa qv (qa (se_bop (o := .add) qv qi) sa_nil)))) (g1 hN) (ss_cons (sx_ite (tcmp (o := .gt) hu (qcall C.f__law_draw hr hg (qa qv (qa qi sa_nil))) qi) (ss_cons (xe (qapp qv (qidx hu qv (qcall C.f__law_draw hr hg (qa qv (qa (qblt (b := .len) M.z_len (qa qv sa_nil)) sa_nil))))))
  ss_nil) (ss_cons (xe (qapp qv (qidx hu (se_lst (qa qs (qa qs (qa qs (qa qs (qa qs (qa qs sa_nil))))))) (qcall C.f__law_draw hr hg (qa qv (qa qi sa_nil))))))
  ss_nil))
  ss_nil))
  (ss_cons (sx_ret (qblt (b := .tuple) M.z_tuple (qa qv sa_nil)))
  ss_nil)))
theorem b__law_stream_right (C : Cs P w K mg base k G) (M : Ms mg) (hr : Room k (A.deeper (envOfC "_law_stream_right" (defScope s__law_stream_right) s.heap.objs.size f cdv))) (hg : A.guards = some []) :
    PSs (inX P w K mg base n__law_stream_right "_law_stream_right" s__law_stream_right f cdv A outer s H E) (defBody s__law_stream_right) (rdSs K G F c__law_stream_right) := by
  have hu := hr.units
  have hu2 := room_u66 hr
  have hN := sc__law_stream_right.nd
  exact (ss_cons (xa hN (qcall C.f__law_needless hr hg (qa qv (qa qv sa_nil))))
  (ss_cons (xa hN (qcall C.f_needless hr hg (qa qv (qa qv sa_nil))))
  (ss_cons (sx_ite (tcmp (o := .ne) hu qv qv) (ss_cons (sx_ret qb)
  ss_nil) ss_nil)
  (ss_cons (xe (qapp qv qi))
  (ss_cons (sx_ite (tcmp (o := .ne) hu (qcall C.f_needless hr hg (qa qv (qa qv sa_nil))) qv) (ss_cons (sx_ret qb)
  ss_nil) ss_nil)
  (ss_cons (xwh (tcmp (o := .ne) hu qv (se_lst sa_nil)) (ss_cons (xa hN (se_bop (o := .add) (se_sli qv so_none (so_some (qidx hu qv qi))) (se_sli qv (so_some (se_bop (o := .add) (qidx hu qv qi) qi)) so_none)))
  (ss_cons (xa hN (qcall C.f__law_needless hr hg (qa qv (qa qv sa_nil))))
  ss_nil)))
  (ss_cons (sx_ret qv)
  ss_nil)))))))
theorem b_lean (C : Cs P w K mg base k G) (M : Ms mg) (hr : Room k (A.deeper (envOfC "lean" (defScope s_lean) s.heap.objs.size f cdv))) (hg : A.guards = some []) :
    PSs (inX P w K mg base n_lean "lean" s_lean f cdv A outer s H E) (defBody s_lean) (rdSs K G F c_lean) := by
  have hu := hr.units
  have hu2 := room_u66 hr
  have hN := sc_lean.nd
  exact (ss_cons (by first | exact xp3 hN (qa (qcall C.f_need_stream hr hg (qa qv (qa qv sa_nil))) (qa (qcall C.f_forms_by_signs hr hg (qa qv (qa qv sa_nil))) (qa qi sa_nil))) | exact xpT (gT1 (gs1 hN (gs1 hN (gs1 hN gs0)))) (qa (qcall C.f_need_stream hr hg (qa qv (qa qv sa_nil))) (qa (qcall C.f_forms_by_signs hr hg (qa qv (qa qv sa_nil))) (qa qi sa_nil))))
  (ss_cons (xwh (tcmp (o := .lt) hu qv (qblt (b := .len) M.z_len (qa qv sa_nil))) (ss_cons (xa hN (se_bop (o := .add) (se_sli qv so_none (so_some qv)) (se_sli qv (so_some (se_bop (o := .add) qv qi)) so_none)))
  (ss_cons (sx_ite ((sw_and (st_not (tv (qcall C.f_is_sign hr hg (qa (qidx hu qv qv) sa_nil)))) (sw_and1 (tcmp (o := .eq) hu (qcall C.f_forms_by_signs hr hg (qa qv (qa qv sa_nil))) qv)))).pt (ss_cons (by first | exact xp2 hN (qa qv (qa qi sa_nil)) | exact xpT (gT1 (gs1 hN (gs1 hN gs0))) (qa qv (qa qi sa_nil)))
  ss_nil) (ss_cons (xg hN qi)
  ss_nil))
  ss_nil)))
  (ss_cons (sx_ret qv)
  ss_nil)))
theorem b_needless (C : Cs P w K mg base k G) (M : Ms mg) (hr : Room k (A.deeper (envOfC "needless" (defScope s_needless) s.heap.objs.size f cdv))) (hg : A.guards = some []) :
    PSs (inX P w K mg base n_needless "needless" s_needless f cdv A outer s H E) (defBody s_needless) (rdSs K G F c_needless) := by
  have hu := hr.units
  have hu2 := room_u66 hr
  have hN := sc_needless.nd
  exact (ss_cons (sx_ret (qcall C.f_needless_in hr hg (qa qv (qa (qcall C.f_need_stream hr hg (qa qv (qa qv sa_nil))) sa_nil))))
  ss_nil)
theorem b_alike (C : Cs P w K mg base k G) (M : Ms mg) (hr : Room k (A.deeper (envOfC "alike" (defScope s_alike) s.heap.objs.size f cdv))) (hg : A.guards = some []) :
    PSs (inX P w K mg base n_alike "alike" s_alike f cdv A outer s H E) (defBody s_alike) (rdSs K G F c_alike) := by
  have hu := hr.units
  have hu2 := room_u66 hr
  have hN := sc_alike.nd
  exact (ss_cons (xe (qcall C.f_need_both hr hg (qa qv (qa qv (qa qv sa_nil)))))
  (ss_cons (sx_ret (qcmp (o := .eq) hu (qcall C.f_forms_by_signs hr hg (qa qv (qa qv sa_nil))) (qcall C.f_forms_by_signs hr hg (qa qv (qa qv sa_nil)))))
  ss_nil))
theorem b__law_draw (C : Cs P w K mg base k G) (M : Ms mg) (hr : Room k (A.deeper (envOfC "_law_draw" (defScope s__law_draw) s.heap.objs.size f cdv))) (hg : A.guards = some []) :
    PSs (inX P w K mg base n__law_draw "_law_draw" s__law_draw f cdv A outer s H E) (defBody s__law_draw) (rdSs K G F c__law_draw) := by
  have hu := hr.units
  have hu2 := room_u66 hr
  have hN := sc__law_draw.nd
  exact (ss_cons (xa hN (qidx hu qv qs))
  (ss_cons (xsub hu qv qs (se_bop (o := .add) qv qi))
  (ss_cons (xa hN (se_bop (o := .mod) (qblt (b := .int) M.z_int (qa qv sa_nil)) (qblt (b := .len) M.z_len (qa (qidx hu qv qs) sa_nil))))
  (ss_cons (xa hN (qidx hu (qidx hu qv qs) qv))
  (ss_cons (sx_ite (tcmp (o := .gt) hu qv qi) (ss_cons (xsub hu (qidx hu qv qs) qv (se_bop (o := .fdiv) qv qv))
  (ss_cons (sx_ret (se_bop (o := .mod) (qblt (b := .int) M.z_int (qa qv sa_nil)) qv))
  ss_nil)) ss_nil)
  (ss_cons (xa hN (qcall C.f__law_mixed hr hg (qa (qcall C.f__law_mixed hr hg (qa (qidx hu (qidx hu qv qs) qv) (qa qv sa_nil))) (qa (se_bop (o := .add) qi qv) sa_nil))))
  (ss_cons (sx_ret (se_bop (o := .mod) (se_bop (o := .fdiv) (qblt (b := .int) M.z_int (qa (se_bop (o := .add) (se_bop (o := .mul) qv qi) (qcall C.f__law_mixed hr hg (qa qv (qa (se_bop (o := .add) qi qv) sa_nil)))) sa_nil)) qi) qv))
  ss_nil)))))))
theorem b__law_value (C : Cs P w K mg base k G) (M : Ms mg) (hr : Room k (A.deeper (envOfC "_law_value" (defScope s__law_value) s.heap.objs.size f cdv))) (hg : A.guards = some []) :
    PSs (inX P w K mg base n__law_value "_law_value" s__law_value f cdv A outer s H E) (defBody s__law_value) (rdSs K G F c__law_value) := by
  have hu := hr.units
  have hu2 := room_u66 hr
  have hN := sc__law_value.nd
  exact (ss_cons (sx_ret (qidx hu (se_lst (qa qs (qa qs (qa qs (qa qs sa_nil))))) (qcall C.f__law_draw hr hg (qa qv (qa qi sa_nil)))))
  ss_nil)
theorem b__law_needless (C : Cs P w K mg base k G) (M : Ms mg) (hr : Room k (A.deeper (envOfC "_law_needless" (defScope s__law_needless) s.heap.objs.size f cdv))) (hg : A.guards = some []) :
    PSs (inX P w K mg base n__law_needless "_law_needless" s__law_needless f cdv A outer s H E) (defBody s__law_needless) (rdSs K G F c__law_needless) := by
  have hu := hr.units
  have hu2 := room_u66 hr
  have hN := sc__law_needless.nd
  exact (ss_cons (by first | exact xp2 hN (qa (qlc [("code", 7)] hN (si_seq (qidx hu qv qi)) (fun _ _ _ _ _ => (g1 hN)) (fun _ _ _ _ _ => sc_none) (fun _ _ _ _ _ => (qidx hu qv qi))) (qa (se_lst sa_nil) sa_nil)) | exact xpT (gT1 (gs1 hN (gs1 hN gs0))) (qa (qlc [("code", 7)] hN (si_seq (qidx hu qv qi)) (fun _ _ _ _ _ => (g1 hN)) (fun _ _ _ _ _ => sc_none) (fun _ _ _ _ _ => (qidx hu qv qi))) (qa (se_lst sa_nil) sa_nil)))
  (ss_cons (xfor (ien M.z_enumerate qv) (gm (gs1 hN (gs1 hN gs0))) (ss_cons (xa hN (se_bop (o := .add) (se_sli qv so_none (so_some qv)) (se_sli qv (so_some (se_bop (o := .add) qv qi)) so_none)))
  (ss_cons (sx_ite ((sw_and (tcmp (o := .isin) hu qv qv) (sw_and1 (tcmp (o := .eq) hu (qcall C.f__law_apart hr hg (qa qv (qa qv (qa qv sa_nil)))) (se_lst sa_nil))))).pt (ss_cons (xe (qapp qv qv))
  ss_nil) ss_nil)
  ss_nil)))
  (ss_cons (sx_ret qv)
  ss_nil)))
theorem b_need_stream (C : Cs P w K mg base k G) (M : Ms mg) (hr : Room k (A.deeper (envOfC "need_stream" (defScope s_need_stream) s.heap.objs.size f cdv))) (hg : A.guards = some []) :
    PSs (inX P w K mg base n_need_stream "need_stream" s_need_stream f cdv A outer s H E) (defBody s_need_stream) (rdSs K G F c_need_stream) := by
  have hu := hr.units
  have hu2 := room_u66 hr
  have hN := sc_need_stream.nd
  exact (ss_cons (xa hN (qcall C.f_codes_in hr hg (qa (qcall C.f_need_book hr hg (qa qv sa_nil)) sa_nil)))
  (ss_cons (sx_ite ((sw_or (st_not (tv (qisi (T := .tuple) M.z_isinstance M.z_tuple qv))) (sw_or1 (tcmp (o := .gt) hu (qblt (b := .len) M.z_len (qa qv sa_nil)) (qgI M.c_MOST_ITEMS))))).pt (ss_cons sx_rais
  ss_nil) ss_nil)
  (ss_cons (xfor (ien M.z_enumerate qv) (gm (gs1 hN (gs1 hN gs0))) (ss_cons (sx_ite ((sw_and (st_not (tv (qcall C.f_is_sign hr hg (qa qv sa_nil)))) (sw_and1 ((sw_or (st_not (tv (qisi (T := .str) M.z_isinstance M.z_str qv))) (sw_or1 (tcmp (o := .notin) hu qv qv)))).pt))).pt (ss_cons sx_rais
  ss_nil) ss_nil)
  ss_nil))
  (ss_cons (sx_ret qv)
  ss_nil))))
theorem b_forms_by_signs (C : Cs P w K mg base k G) (M : Ms mg) (hr : Room k (A.deeper (envOfC "forms_by_signs" (defScope s_forms_by_signs) s.heap.objs.size f cdv))) (hg : A.guards = some []) :
    PSs (inX P w K mg base n_forms_by_signs "forms_by_signs" s_forms_by_signs f cdv A outer s H E) (defBody s_forms_by_signs) (rdSs K G F c_forms_by_signs) := by
  have hu := hr.units
  have hu2 := room_u66 hr
  have hN := sc_forms_by_signs.nd
  exact (ss_cons (sx_ret (qlc [("chains", 2)] hN (si_seq (qcall C.f_chains_by_signs hr hg (qa qv (qa qv sa_nil)))) (fun _ _ _ _ _ => (g1 hN)) (fun _ _ _ _ _ => sc_none) (fun _ _ _ _ _ => (qlc [("chain", 3)] hN (si_seq qv) (fun _ _ _ _ _ => (g1 hN)) (fun _ _ _ _ _ => sc_none) (fun _ _ _ _ _ => (qcall C.f_form_in hr hg (qa qv sa_nil)))))))
  ss_nil)
theorem b_is_sign (C : Cs P w K mg base k G) (M : Ms mg) (hr : Room k (A.deeper (envOfC "is_sign" (defScope s_is_sign) s.heap.objs.size f cdv))) (hg : A.guards = some []) :
    PSs (inX P w K mg base n_is_sign "is_sign" s_is_sign f cdv A outer s H E) (defBody s_is_sign) (rdSs K G F c_is_sign) := by
  have hu := hr.units
  have hu2 := room_u66 hr
  have hN := sc_is_sign.nd
  exact (ss_cons (sx_ret (se_and (qisi (T := .str) M.z_isinstance M.z_str qv) (se_and (qcmp (o := .eq) hu (qblt (b := .len) M.z_len (qa qv sa_nil)) qi) (pe_one (qcmp (o := .isin) hu qv (se_bop (o := .add) (se_bop (o := .add) (qgS M.c_LETTERS) (qgS M.c_BLANK)) (qgS M.c_LINE_END)))))))
  ss_nil)
theorem b_needless_in (C : Cs P w K mg base k G) (M : Ms mg) (hr : Room k (A.deeper (envOfC "needless_in" (defScope s_needless_in) s.heap.objs.size f cdv))) (hg : A.guards = some []) :
    PSs (inX P w K mg base n_needless_in "needless_in" s_needless_in f cdv A outer s H E) (defBody s_needless_in) (rdSs K G F c_needless_in) := by
  have hu := hr.units
  have hu2 := room_u66 hr
  have hN := sc_needless_in.nd
  exact (ss_cons (by first | exact xp2 hN (qa (qcall C.f_forms_by_signs hr hg (qa qv (qa qv sa_nil))) (qa (se_lst sa_nil) sa_nil)) | exact xpT (gT1 (gs1 hN (gs1 hN gs0))) (qa (qcall C.f_forms_by_signs hr hg (qa qv (qa qv sa_nil))) (qa (se_lst sa_nil) sa_nil)))
  (ss_cons (xfor (ien M.z_enumerate qv) (gm (gs1 hN (gs1 hN gs0))) (ss_cons (sx_ite ((sw_and (st_not (tv (qcall C.f_is_sign hr hg (qa qv sa_nil)))) (sw_and1 (tcmp (o := .eq) hu (qcall C.f_forms_by_signs hr hg (qa qv (qa (se_bop (o := .add) (se_sli qv so_none (so_some qv)) (se_sli qv (so_some (se_bop (o := .add) qv qi)) so_none)) sa_nil))) qv)))).pt (ss_cons (xe (qapp qv qv))
  ss_nil) ss_nil)
  ss_nil))
  (ss_cons (sx_ret qv)
  ss_nil)))
theorem b_need_both (C : Cs P w K mg base k G) (M : Ms mg) (hr : Room k (A.deeper (envOfC "need_both" (defScope s_need_both) s.heap.objs.size f cdv))) (hg : A.guards = some []) :
    PSs (inX P w K mg base n_need_both "need_both" s_need_both f cdv A outer s H E) (defBody s_need_both) (rdSs K G F c_need_both) := by
  have hu := hr.units
  have hu2 := room_u66 hr
  have hN := sc_need_both.nd
  exact (ss_cons (xe (qcall C.f_need_stream hr hg (qa qv (qa qv sa_nil))))
  (ss_cons (xe (qcall C.f_need_stream hr hg (qa qv (qa qv sa_nil))))
  (ss_cons (sx_ite (tcmp (o := .ne) hu (qcall C.f_signs_of hr hg (qa qv (qa qv sa_nil))) (qcall C.f_signs_of hr hg (qa qv (qa qv sa_nil)))) (ss_cons sx_rais
  ss_nil) ss_nil)
  ss_nil)))
theorem b__law_mixed (C : Cs P w K mg base k G) (M : Ms mg) (hr : Room k (A.deeper (envOfC "_law_mixed" (defScope s__law_mixed) s.heap.objs.size f cdv))) (hg : A.guards = some []) :
    PSs (inX P w K mg base n__law_mixed "_law_mixed" s__law_mixed f cdv A outer s H E) (defBody s__law_mixed) (rdSs K G F c__law_mixed) := by
  have hu := hr.units
  have hu2 := room_u66 hr
  have hN := sc__law_mixed.nd
  exact (ss_cons (xa hN (se_bop (o := .mod) (qblt (b := .int) M.z_int (qa qv sa_nil)) qi))
  (ss_cons (sx_ret (se_bop (o := .mod) (se_bop (o := .mul) (se_bop (o := .mod) (se_bop (o := .add) (se_bop (o := .add) (se_bop (o := .mul) qv (se_bop (o := .add) qi (se_bop (o := .mul) (se_bop (o := .mul) qi qv) qv))) (se_bop (o := .mul) qi qv)) qi) qi) qi) qi))
  ss_nil))
theorem b__law_apart (C : Cs P w K mg base k G) (M : Ms mg) (hr : Room k (A.deeper (envOfC "_law_apart" (defScope s__law_apart) s.heap.objs.size f cdv))) (hg : A.guards = some []) :
    PSs (inX P w K mg base n__law_apart "_law_apart" s__law_apart f cdv A outer s H E) (defBody s__law_apart) (rdSs K G F c__law_apart) := by
  have hu := hr.units
  have hu2 := room_u66 hr
  have hN := sc__law_apart.nd
  exact (ss_cons (xa hN (se_lst sa_nil))
  (ss_cons (xfor (si_seq (qcall C.f__law_sets hr hg (qa (qcall C.f__law_kinds hr hg (qa qv sa_nil)) sa_nil))) (g1 hN) (ss_cons (xfor (si_seq (qcall C.f__law_entries hr hg (qa qv sa_nil))) (g1 hN) (ss_cons (sx_ite (tcmp (o := .ne) hu (qcall C.f__law_seen hr hg (qa qv (qa qv (qa qv (qa qv sa_nil))))) (qcall C.f__law_seen hr hg (qa qv (qa qv (qa qv (qa qv sa_nil)))))) (ss_cons (xe (qapp qv (qblt (b := .len) M.z_len (qa qv sa_nil))))
  ss_nil) ss_nil)
  ss_nil))
  ss_nil))
  (ss_cons (sx_ret qv)
  ss_nil)))
theorem b_codes_in (C : Cs P w K mg base k G) (M : Ms mg) (hr : Room k (A.deeper (envOfC "codes_in" (defScope s_codes_in) s.heap.objs.size f cdv))) (hg : A.guards = some []) :
    PSs (inX P w K mg base n_codes_in "codes_in" s_codes_in f cdv A outer s H E) (defBody s_codes_in) (rdSs K G F c_codes_in) := by
  have hu := hr.units
  have hu2 := room_u66 hr
  have hN := sc_codes_in.nd
  exact (ss_cons (sx_ret (qdc [("code", 1)] hN (si_seq (qidx hu qv qi)) (fun _ _ _ _ _ => (g1 hN)) (fun _ _ _ _ _ => sc_none) (fun _ _ _ _ _ => (qidx hu qv qi)) (fun _ _ _ _ _ => qv)))
  ss_nil)
theorem b_need_book (C : Cs P w K mg base k G) (M : Ms mg) (hr : Room k (A.deeper (envOfC "need_book" (defScope s_need_book) s.heap.objs.size f cdv))) (hg : A.guards = some []) :
    PSs (inX P w K mg base n_need_book "need_book" s_need_book f cdv A outer s H E) (defBody s_need_book) (rdSs K G F c_need_book) := by
  have hu := hr.units
  have hu2 := room_u66 hr
  have hN := sc_need_book.nd
  exact (ss_cons (sx_ite ((sw_or (st_not (tv (qisi (T := .tuple) M.z_isinstance M.z_tuple qv))) (sw_or1 (tcmp (o := .ne) hu (qblt (b := .len) M.z_len (qa qv sa_nil)) qi)))).pt (ss_cons sx_rais
  ss_nil) ss_nil)
  (ss_cons (xu (gm (gs1 hN (gs1 hN (gs1 hN gs0)))) qv)
  (ss_cons (sx_ite ((sw_or (st_not (tv (qcall C.f_are_marks hr hg (qa qv sa_nil)))) (sw_or1 (st_not (tcmp2 (o := .le) (p := .le) hu qi (qblt (b := .len) M.z_len (qa qv sa_nil)) (qgI M.c_MOST_ASPECTS)))))).pt (ss_cons sx_rais
  ss_nil) ss_nil)
  (ss_cons (sx_ite ((sw_or (st_not (tv (qcall C.f_are_marks hr hg (qa qv sa_nil)))) (sw_or1 (st_not (tv (qblt (b := .all) M.z_all (qa (qlc [("aspect", 4)] hN (si_seq qv) (fun _ _ _ _ _ => (g1 hN)) (fun _ _ _ _ _ => sc_none) (fun _ _ _ _ _ => (qcmp (o := .isin) hu qv qv))) sa_nil))))))).pt (ss_cons sx_rais
  ss_nil) ss_nil)
  (ss_cons (sx_ite ((sw_or (st_not (tv (qisi (T := .tuple) M.z_isinstance M.z_tuple qv))) (sw_or1 (tcmp (o := .gt) hu (qblt (b := .len) M.z_len (qa qv sa_nil)) (qgI M.c_MOST_CODES))))).pt (ss_cons sx_rais
  ss_nil) ss_nil)
  (ss_cons (xe (qcall C.f_need_codes hr hg (qa qv (qa qv sa_nil))))
  (ss_cons (sx_ret qv)
  ss_nil)))))))
theorem b_form_in (C : Cs P w K mg base k G) (M : Ms mg) (hr : Room k (A.deeper (envOfC "form_in" (defScope s_form_in) s.heap.objs.size f cdv))) (hg : A.guards = some []) :
    PSs (inX P w K mg base n_form_in "form_in" s_form_in f cdv A outer s H E) (defBody s_form_in) (rdSs K G F c_form_in) := by
  have hu := hr.units
  have hu2 := room_u66 hr
  have hN := sc_form_in.nd
  exact (ss_cons (xa hN (se_lst sa_nil))
  (ss_cons (xfor (si_seq qv) (gm (gs1 hN (gs1 hN gs0))) (ss_cons (sx_ite ((sw_and (tcmp (o := .ne) hu qv (se_lst sa_nil)) (sw_and1 (tcmp (o := .eq) hu (qidx hu (qidx hu qv (se_neg qi)) qi) qv)))).pt (ss_cons (xsub hu qv (se_neg qi) (se_tup (qa qv (qa (qblt (b := .tuple) M.z_tuple (qa (qsorted M.z_sorted (qa (se_bop (o := .add) (qidx hu (qidx hu qv (se_neg qi)) qi) (se_tup (qa qv sa_nil))) sa_nil)) sa_nil)) sa_nil))))
  ss_nil) (ss_cons (xe (qapp qv (se_tup (qa qv (qa (se_tup (qa qv sa_nil)) sa_nil)))))
  ss_nil))
  ss_nil))
  (ss_cons (sx_ret (qblt (b := .tuple) M.z_tuple (qa qv sa_nil)))
  ss_nil)))
theorem b_chains_by_signs (C : Cs P w K mg base k G) (M : Ms mg) (hr : Room k (A.deeper (envOfC "chains_by_signs" (defScope s_chains_by_signs) s.heap.objs.size f cdv))) (hg : A.guards = some []) :
    PSs (inX P w K mg base n_chains_by_signs "chains_by_signs" s_chains_by_signs f cdv A outer s H E) (defBody s_chains_by_signs) (rdSs K G F c_chains_by_signs) := by
  have hu := hr.units
  have hu2 := room_u66 hr
  have hN := sc_chains_by_signs.nd
  exact (ss_cons (by first | exact xp3 hN (qa (qcall C.f_codes_in hr hg (qa qv sa_nil)) (qa (qdc [("aspect", 6)] hN (si_seq (qidx hu qv qi)) (fun _ _ _ _ _ => (g1 hN)) (fun _ _ _ _ _ => sc_none) (fun _ _ _ _ _ => qv) (fun _ _ _ _ _ => (se_tup sa_nil))) (qa (se_lst sa_nil) sa_nil))) | exact xpT (gT1 (gs1 hN (gs1 hN (gs1 hN gs0)))) (qa (qcall C.f_codes_in hr hg (qa qv sa_nil)) (qa (qdc [("aspect", 6)] hN (si_seq (qidx hu qv qi)) (fun _ _ _ _ _ => (g1 hN)) (fun _ _ _ _ _ => sc_none) (fun _ _ _ _ _ => qv) (fun _ _ _ _ _ => (se_tup sa_nil))) (qa (se_lst sa_nil) sa_nil))))
  (ss_cons (xfor (si_seq qv) (g1 hN) (ss_cons (sx_ite (tv (qcall C.f_is_sign hr hg (qa qv sa_nil))) (ss_cons (xe (qapp qv (qlc [("aspect", 6)] hN (si_seq (qcall C.f_shown_at hr hg (qa qv (qa qv sa_nil)))) (fun _ _ _ _ _ => (g1 hN)) (fun _ _ _ _ _ => sc_none) (fun _ _ _ _ _ => (qidx hu qv qv)))))
  ss_nil) (ss_cons (xfor (si_seq (qidx hu (qidx hu qv qv) qi)) (gm (gs1 hN (gs1 hN gs0))) (ss_cons (xsub hu qv qv (qcall C.f_over hr hg (qa (se_tup (qa (se_tup (qa (qidx hu (qidx hu qv qv) qi) (qa qv sa_nil))) sa_nil)) (qa (qidx hu qv qv) sa_nil))))
  ss_nil))
  ss_nil))
  ss_nil))
  (ss_cons (sx_ret qv)
  ss_nil)))
theorem b_signs_of (C : Cs P w K mg base k G) (M : Ms mg) (hr : Room k (A.deeper (envOfC "signs_of" (defScope s_signs_of) s.heap.objs.size f cdv))) (hg : A.guards = some []) :
    PSs (inX P w K mg base n_signs_of "signs_of" s_signs_of f cdv A outer s H E) (defBody s_signs_of) (rdSs K G F c_signs_of) := by
  have hu := hr.units
  have hu2 := room_u66 hr
  have hN := sc_signs_of.nd
  exact (ss_cons (sx_ret (qblt (b := .tuple) M.z_tuple (qa (qlc [("item", 2)] hN (si_seq (qcall C.f_need_stream hr hg (qa qv (qa qv sa_nil)))) (fun _ _ _ _ _ => (g1 hN)) (fun _ _ _ _ _ => (sc_some (tv (qcall C.f_is_sign hr hg (qa qv sa_nil))))) (fun _ _ _ _ _ => qv)) sa_nil)))
  ss_nil)
theorem b__law_sets (C : Cs P w K mg base k G) (M : Ms mg) (hr : Room k (A.deeper (envOfC "_law_sets" (defScope s__law_sets) s.heap.objs.size f cdv))) (hg : A.guards = some []) :
    PSs (inX P w K mg base n__law_sets "_law_sets" s__law_sets f cdv A outer s H E) (defBody s__law_sets) (rdSs K G F c__law_sets) := by
  have hu := hr.units
  have hu2 := room_u66 hr
  have hN := sc__law_sets.nd
  exact (ss_cons (xa hN (se_lst (qa (se_tup sa_nil) sa_nil)))
  (ss_cons (xfor (si_seq qv) (g1 hN) (ss_cons (xa hN (se_bop (o := .add) qv (qlc [("row", 3)] hN (si_seq qv) (fun _ _ _ _ _ => (g1 hN)) (fun _ _ _ _ _ => sc_none) (fun _ _ _ _ _ => (se_bop (o := .add) qv (se_tup (qa qv sa_nil)))))))
  ss_nil))
  (ss_cons (sx_ret (qsortLen M.z_sorted M.z_len qv))
  ss_nil)))
theorem b__law_kinds (C : Cs P w K mg base k G) (M : Ms mg) (hr : Room k (A.deeper (envOfC "_law_kinds" (defScope s__law_kinds) s.heap.objs.size f cdv))) (hg : A.guards = some []) :
    PSs (inX P w K mg base n__law_kinds "_law_kinds" s__law_kinds f cdv A outer s H E) (defBody s__law_kinds) (rdSs K G F c__law_kinds) := by
  have hu := hr.units
  have hu2 := room_u66 hr
  have hN := sc__law_kinds.nd
  exact (ss_cons (sx_ret (qsorted M.z_sorted (qa (qblt (b := .dict) M.z_dict (qa (qlc [("word", 1), ("kind", 2), ("gives", 3)] hN (si_seq (qidx hu qv qi)) (fun _ _ _ _ _ => (gm (gs1 hN (gs1 hN (gs1 hN gs0))))) (fun _ _ _ _ _ => sc_none) (fun _ _ _ _ _ => (se_tup (qa qv (qa qi sa_nil))))) sa_nil)) sa_nil)))
  ss_nil)
theorem b__law_entries (C : Cs P w K mg base k G) (M : Ms mg) (hr : Room k (A.deeper (envOfC "_law_entries" (defScope s__law_entries) s.heap.objs.size f cdv))) (hg : A.guards = some []) :
    PSs (inX P w K mg base n__law_entries "_law_entries" s__law_entries f cdv A outer s H E) (defBody s__law_entries) (rdSs K G F c__law_entries) := by
  have hu := hr.units
  have hu2 := room_u66 hr
  have hN := sc__law_entries.nd
  exact (ss_cons (xa hN (se_lst (qa (qcall C.f__law_entry hr hg (qa qv (qa qs sa_nil))) (qa (qcall C.f__law_entry hr hg (qa qv (qa qs sa_nil))) (qa (qcall C.f__law_entry hr hg (qa qv (qa qs sa_nil))) sa_nil)))))
  (ss_cons (sx_ret (se_bop (o := .add) qv (se_lst (qa (qblt (b := .dict) M.z_dict (qa (qlc [("k", 2), ("aspect", 3)] hN (ien M.z_enumerate (qidx hu qv qi)) (fun _ _ _ _ _ => (gm (gs1 hN (gs1 hN gs0)))) (fun _ _ _ _ _ => sc_none) (fun _ _ _ _ _ => (se_tup (qa qv (qa (qidx hu (se_lst (qa qs (qa qs sa_nil))) (se_bop (o := .mod) qv qi)) sa_nil))))) sa_nil)) sa_nil))))
  ss_nil))
theorem b__law_seen (C : Cs P w K mg base k G) (M : Ms mg) (hr : Room k (A.deeper (envOfC "_law_seen" (defScope s__law_seen) s.heap.objs.size f cdv))) (hg : A.guards = some []) :
    PSs (inX P w K mg base n__law_seen "_law_seen" s__law_seen f cdv A outer s H E) (defBody s__law_seen) (rdSs K G F c__law_seen) := by
  have hu := hr.units
  have hu2 := room_u66 hr
  have hN := sc__law_seen.nd
  exact (ss_cons (by first | exact xp3 hN (qa (qcall C.f__law_codes hr hg (qa qv sa_nil)) (qa (qblt (b := .dict) M.z_dict (qa qv sa_nil)) (qa (se_lst sa_nil) sa_nil))) | exact xpT (gT1 (gs1 hN (gs1 hN (gs1 hN gs0)))) (qa (qcall C.f__law_codes hr hg (qa qv sa_nil)) (qa (qblt (b := .dict) M.z_dict (qa qv sa_nil)) (qa (se_lst sa_nil) sa_nil))))
  (ss_cons (xfor (si_seq qv) (g1 hN) (ss_cons (sx_ite (tcmp (o := .isin) hu qv qv) (ss_cons (xu (gm (gs1 hN (gs1 hN gs0))) (qidx hu qv qv))
  (ss_cons (sx_ite (tcmp (o := .isin) hu qv qv) (ss_cons (xa hN (qblt (b := .dict) M.z_dict (qa (se_bop (o := .add) (qlit M.z_list qv) (qblt (b := .list) M.z_list (qa qv sa_nil))) sa_nil)))
  ss_nil) ss_nil)
  ss_nil)) (ss_cons (sx_ite (tcmp (o := .eq) hu qv qs) (ss_cons (xe (qapp qv (se_tup (qa qv (qa (se_tup sa_nil) sa_nil)))))
  ss_nil) (ss_cons (xa hN (se_ite (tcmp (o := .eq) hu qv qs) (qidx hu qv qi) (qidx hu qv qi)))
  (ss_cons (xe (qapp qv (se_tup (qa qv (qa (qblt (b := .tuple) M.z_tuple (qa (qlc [("aspect", 11)] hN (si_seq qv) (fun _ _ _ _ _ => (g1 hN)) (fun _ _ _ _ _ => sc_none) (fun _ _ _ _ _ => (qidx hu qv qv))) sa_nil)) sa_nil)))))
  ss_nil)))
  ss_nil))
  ss_nil))
  (ss_cons (sx_ret (qblt (b := .tuple) M.z_tuple (qa qv sa_nil)))
  ss_nil)))
theorem b_need_codes (C : Cs P w K mg base k G) (M : Ms mg) (hr : Room k (A.deeper (envOfC "need_codes" (defScope s_need_codes) s.heap.objs.size f cdv))) (hg : A.guards = some []) :
    PSs (inX P w K mg base n_need_codes "need_codes" s_need_codes f cdv A outer s H E) (defBody s_need_codes) (rdSs K G F c_need_codes) := by
  have hu := hr.units
  have hu2 := room_u66 hr
  have hN := sc_need_codes.nd
  exact (ss_cons (by first | exact xp2 hN (qa se_dic0 (qa se_dic0 sa_nil)) | exact xpT (gT1 (gs1 hN (gs1 hN gs0))) (qa se_dic0 (qa se_dic0 sa_nil)))
  (ss_cons (xfor (ien M.z_enumerate qv) (gm (gs1 hN (gs1 hN gs0))) (ss_cons (sx_ite ((sw_or (st_not (tv (qcall C.f_is_code hr hg (qa qv sa_nil)))) (sw_or (tcmp (o := .isin) hu (qidx hu qv qi) qv) (sw_or1 (st_not (tv (qblt (b := .all) M.z_all (qa (qlc [("pair", 6)] hN (si_seq (qidx hu qv qi)) (fun _ _ _ _ _ => (g1 hN)) (fun _ _ _ _ _ => sc_none) (fun _ _ _ _ _ => (qcmp (o := .isin) hu (qidx hu qv qi) qv))) sa_nil)))))))).pt (ss_cons sx_rais
  ss_nil) ss_nil)
  (ss_cons (xsub hu qv (qidx hu qv qi) qb)
  (ss_cons (xsub hu qv (qidx hu qv qi) qb)
  (ss_cons (sx_ite (tcmp (o := .gt) hu (qblt (b := .len) M.z_len (qa qv sa_nil)) (qgI M.c_MOST_KINDS)) (ss_cons sx_rais
  ss_nil) ss_nil)
  ss_nil)))))
  ss_nil))
theorem b_are_marks (C : Cs P w K mg base k G) (M : Ms mg) (hr : Room k (A.deeper (envOfC "are_marks" (defScope s_are_marks) s.heap.objs.size f cdv))) (hg : A.guards = some []) :
    PSs (inX P w K mg base n_are_marks "are_marks" s_are_marks f cdv A outer s H E) (defBody s_are_marks) (rdSs K G F c_are_marks) := by
  have hu := hr.units
  have hu2 := room_u66 hr
  have hN := sc_are_marks.nd
  exact (ss_cons (sx_ret (se_and (qisi (T := .tuple) M.z_isinstance M.z_tuple qv) (se_and (qblt (b := .all) M.z_all (qa (qlc [("one", 1)] hN (si_seq qv) (fun _ _ _ _ _ => (g1 hN)) (fun _ _ _ _ _ => sc_none) (fun _ _ _ _ _ => (qcall C.f_is_mark hr hg (qa qv sa_nil)))) sa_nil)) (pe_one (qcall C.f_are_rising hr hg (qa qv sa_nil))))))
  ss_nil)
theorem b_over (C : Cs P w K mg base k G) (M : Ms mg) (hr : Room k (A.deeper (envOfC "over" (defScope s_over) s.heap.objs.size f cdv))) (hg : A.guards = some []) :
    PSs (inX P w K mg base n_over "over" s_over f cdv A outer s H E) (defBody s_over) (rdSs K G F c_over) := by
  have hu := hr.units
  have hu2 := room_u66 hr
  have hN := sc_over.nd
  exact (ss_cons (by first | exact xlc [("kind", 3), ("value", 4)] hN (si_seq qv) (fun _ _ _ _ _ => (gm (gs1 hN (gs1 hN gs0)))) (fun _ _ _ _ _ => sc_none) (fun _ _ _ _ _ => qv) | exact xa hN (qlc [("kind", 3), ("value", 4)] hN (si_seq qv) (fun _ _ _ _ _ => (gm (gs1 hN (gs1 hN gs0)))) (fun _ _ _ _ _ => sc_none) (fun _ _ _ _ _ => qv)))
  (ss_cons (sx_ret (se_bop (o := .add) qv (qblt (b := .tuple) M.z_tuple (qa (qlc [("pair", 5)] hN (si_seq qv) (fun _ _ _ _ _ => (g1 hN)) (fun _ _ _ _ _ => (sc_some (tcmp (o := .notin) hu (qidx hu qv qi) qv))) (fun _ _ _ _ _ => qv)) sa_nil))))
  ss_nil))
theorem b_shown_at (C : Cs P w K mg base k G) (M : Ms mg) (hr : Room k (A.deeper (envOfC "shown_at" (defScope s_shown_at) s.heap.objs.size f cdv))) (hg : A.guards = some []) :
    PSs (inX P w K mg base n_shown_at "shown_at" s_shown_at f cdv A outer s H E) (defBody s_shown_at) (rdSs K G F c_shown_at) := by
  have hu := hr.units
  have hu2 := room_u66 hr
  have hN := sc_shown_at.nd
  exact (ss_cons (sx_ite (tcmp (o := .eq) hu qv (qgS M.c_LINE_END)) (ss_cons (sx_ret (se_tup sa_nil))
  ss_nil) ss_nil)
  (ss_cons (sx_ret (se_ite (tcmp (o := .eq) hu qv (qgS M.c_BLANK)) (qidx hu qv qi) (qidx hu qv qi)))
  ss_nil))
theorem b__law_entry (C : Cs P w K mg base k G) (M : Ms mg) (hr : Room k (A.deeper (envOfC "_law_entry" (defScope s__law_entry) s.heap.objs.size f cdv))) (hg : A.guards = some []) :
    PSs (inX P w K mg base n__law_entry "_law_entry" s__law_entry f cdv A outer s H E) (defBody s__law_entry) (rdSs K G F c__law_entry) := by
  have hu := hr.units
  have hu2 := room_u66 hr
  have hN := sc__law_entry.nd
  exact (ss_cons (sx_ret (qblt (b := .dict) M.z_dict (qa (qlc [("aspect", 2)] hN (si_seq (qidx hu qv qi)) (fun _ _ _ _ _ => (g1 hN)) (fun _ _ _ _ _ => sc_none) (fun _ _ _ _ _ => (se_tup (qa qv (qa qv sa_nil))))) sa_nil)))
  ss_nil)
theorem b__law_codes (C : Cs P w K mg base k G) (M : Ms mg) (hr : Room k (A.deeper (envOfC "_law_codes" (defScope s__law_codes) s.heap.objs.size f cdv))) (hg : A.guards = some []) :
    PSs (inX P w K mg base n__law_codes "_law_codes" s__law_codes f cdv A outer s H E) (defBody s__law_codes) (rdSs K G F c__law_codes) := by
  have hu := hr.units
  have hu2 := room_u66 hr
  have hN := sc__law_codes.nd
  exact (ss_cons (sx_ret (qblt (b := .dict) M.z_dict (qa (qlc [("word", 1), ("kind", 2), ("gives", 3)] hN (si_seq (qidx hu qv qi)) (fun _ _ _ _ _ => (gm (gs1 hN (gs1 hN (gs1 hN gs0))))) (fun _ _ _ _ _ => sc_none) (fun _ _ _ _ _ => (se_tup (qa qv (qa (se_tup (qa qv (qa qv sa_nil))) sa_nil))))) sa_nil)))
  ss_nil)
theorem b_is_code (C : Cs P w K mg base k G) (M : Ms mg) (hr : Room k (A.deeper (envOfC "is_code" (defScope s_is_code) s.heap.objs.size f cdv))) (hg : A.guards = some []) :
    PSs (inX P w K mg base n_is_code "is_code" s_is_code f cdv A outer s H E) (defBody s_is_code) (rdSs K G F c_is_code) := by
  have hu := hr.units
  have hu2 := room_u66 hr
  have hN := sc_is_code.nd
  exact (ss_cons (sx_ite ((sw_or (st_not (tv (qisi (T := .tuple) M.z_isinstance M.z_tuple qv))) (sw_or1 (tcmp (o := .ne) hu (qblt (b := .len) M.z_len (qa qv sa_nil)) qi)))).pt (ss_cons (sx_ret qb)
  ss_nil) ss_nil)
  (ss_cons (sx_ret (se_and (qcall C.f_is_word hr hg (qa (qidx hu qv qi) sa_nil)) (se_and (qcall C.f_is_mark hr hg (qa (qidx hu qv qi) sa_nil)) (pe_one (qcall C.f_are_gives hr hg (qa (qidx hu qv qi) sa_nil))))))
  ss_nil))
theorem b_are_rising (C : Cs P w K mg base k G) (M : Ms mg) (hr : Room k (A.deeper (envOfC "are_rising" (defScope s_are_rising) s.heap.objs.size f cdv))) (hg : A.guards = some []) :
    PSs (inX P w K mg base n_are_rising "are_rising" s_are_rising f cdv A outer s H E) (defBody s_are_rising) (rdSs K G F c_are_rising) := by
  have hu := hr.units
  have hu2 := room_u66 hr
  have hN := sc_are_rising.nd
  exact (ss_cons (sx_ret (qblt (b := .all) M.z_all (qa (qlc [("at", 1)] hN (ir1 M.z_range (se_bop (o := .sub) (qblt (b := .len) M.z_len (qa qv sa_nil)) qi)) (fun _ _ _ _ _ => (g1 hN)) (fun _ _ _ _ _ => sc_none) (fun _ _ _ _ _ => (qcmp (o := .lt) hu (qidx hu qv qv) (qidx hu qv (se_bop (o := .add) qv qi))))) sa_nil)))
  ss_nil)
theorem b_is_mark (C : Cs P w K mg base k G) (M : Ms mg) (hr : Room k (A.deeper (envOfC "is_mark" (defScope s_is_mark) s.heap.objs.size f cdv))) (hg : A.guards = some []) :
    PSs (inX P w K mg base n_is_mark "is_mark" s_is_mark f cdv A outer s H E) (defBody s_is_mark) (rdSs K G F c_is_mark) := by
  have hu := hr.units
  have hu2 := room_u66 hr
  have hN := sc_is_mark.nd
  exact (ss_cons (sx_ret (qcall C.f_is_of hr hg (qa qv (qa (qgS M.c_LETTERS) sa_nil))))
  ss_nil)
theorem b_is_word (C : Cs P w K mg base k G) (M : Ms mg) (hr : Room k (A.deeper (envOfC "is_word" (defScope s_is_word) s.heap.objs.size f cdv))) (hg : A.guards = some []) :
    PSs (inX P w K mg base n_is_word "is_word" s_is_word f cdv A outer s H E) (defBody s_is_word) (rdSs K G F c_is_word) := by
  have hu := hr.units
  have hu2 := room_u66 hr
  have hN := sc_is_word.nd
  exact (ss_cons (sx_ret (se_and (qcall C.f_is_of hr hg (qa qv (qa (se_bop (o := .add) (qgS M.c_FIGURES) (qgS M.c_PART)) sa_nil))) (se_and (qcmp (o := .ne) hu (qidx hu qv qi) (qgS M.c_PART)) (pe_one (qcmp (o := .ne) hu (qidx hu qv (se_neg qi)) (qgS M.c_PART))))))
  ss_nil)
theorem b_are_gives (C : Cs P w K mg base k G) (M : Ms mg) (hr : Room k (A.deeper (envOfC "are_gives" (defScope s_are_gives) s.heap.objs.size f cdv))) (hg : A.guards = some []) :
    PSs (inX P w K mg base n_are_gives "are_gives" s_are_gives f cdv A outer s H E) (defBody s_are_gives) (rdSs K G F c_are_gives) := by
  have hu := hr.units
  have hu2 := room_u66 hr
  have hN := sc_are_gives.nd
  exact (ss_cons (sx_ite ((sw_or (st_not (tv (qisi (T := .tuple) M.z_isinstance M.z_tuple qv))) (sw_or1 (tcmp (o := .eq) hu (qblt (b := .len) M.z_len (qa qv sa_nil)) qi)))).pt (ss_cons (sx_ret qb)
  ss_nil) ss_nil)
  (ss_cons (xfor (si_seq qv) (g1 hN) (ss_cons (sx_ite ((sw_or (st_not (tv (qisi (T := .tuple) M.z_isinstance M.z_tuple qv))) (sw_or (tcmp (o := .ne) hu (qblt (b := .len) M.z_len (qa qv sa_nil)) qi) (sw_or (st_not (tv (qcall C.f_is_mark hr hg (qa (qidx hu qv qi) sa_nil)))) (sw_or1 (st_not (tv (qcall C.f_is_mark hr hg (qa (qidx hu qv qi) sa_nil))))))))).pt (ss_cons (sx_ret qb)
  ss_nil) ss_nil)
  ss_nil))
  (ss_cons (sx_ret (qcall C.f_are_rising hr hg (qa (qlc [("pair", 1)] hN (si_seq qv) (fun _ _ _ _ _ => (g1 hN)) (fun _ _ _ _ _ => sc_none) (fun _ _ _ _ _ => (qidx hu qv qi))) sa_nil)))
  ss_nil)))
theorem b_is_of (C : Cs P w K mg base k G) (M : Ms mg) (hr : Room k (A.deeper (envOfC "is_of" (defScope s_is_of) s.heap.objs.size f cdv))) (hg : A.guards = some []) :
    PSs (inX P w K mg base n_is_of "is_of" s_is_of f cdv A outer s H E) (defBody s_is_of) (rdSs K G F c_is_of) := by
  have hu := hr.units
  have hu2 := room_u66 hr
  have hN := sc_is_of.nd
  exact (ss_cons (sx_ite ((sw_or (st_not (tv (qisi (T := .str) M.z_isinstance M.z_str qv))) (sw_or1 (st_not (tcmp2 (o := .le) (p := .le) hu qi (qblt (b := .len) M.z_len (qa qv sa_nil)) (qgI M.c_MOST_SIGNS)))))).pt (ss_cons (sx_ret qb)
  ss_nil) ss_nil)
  (ss_cons (sx_ret (qblt (b := .all) M.z_all (qa (qlc [("sign", 2)] hN (si_seq qv) (fun _ _ _ _ _ => (g1 hN)) (fun _ _ _ _ _ => sc_none) (fun _ _ _ _ _ => (qcmp (o := .isin) hu qv qv))) sa_nil)))
  ss_nil))
structure Us (K : PySem.W.Frag) (mg : Str → Option Value) : Prop where
  d_law : DefAt K mg "law" s_law ["script"]
  d__law_begin : DefAt K mg "_law_begin" s__law_begin ["script"]
  d__law_book : DefAt K mg "_law_book" s__law_book ["state", "most"]
  d__law_stream : DefAt K mg "_law_stream" s__law_stream ["state", "book", "most"]
  d__law_stream_right : DefAt K mg "_law_stream_right" s__law_stream_right ["book", "stream"]
  d_lean : DefAt K mg "lean" s_lean ["book", "stream"]
  d_needless : DefAt K mg "needless" s_needless ["book", "stream"]
  d_alike : DefAt K mg "alike" s_alike ["book", "one", "other"]
  d__law_draw : DefAt K mg "_law_draw" s__law_draw ["state", "many"]
  d__law_value : DefAt K mg "_law_value" s__law_value ["state"]
  d__law_needless : DefAt K mg "_law_needless" s__law_needless ["book", "stream"]
  d_need_stream : DefAt K mg "need_stream" s_need_stream ["book", "thing"]
  d_forms_by_signs : DefAt K mg "forms_by_signs" s_forms_by_signs ["book", "items"]
  d_is_sign : DefAt K mg "is_sign" s_is_sign ["thing"]
  d_needless_in : DefAt K mg "needless_in" s_needless_in ["book", "stream"]
  d_need_both : DefAt K mg "need_both" s_need_both ["book", "one", "other"]
  d__law_mixed : DefAt K mg "_law_mixed" s__law_mixed ["cell", "k"]
  d__law_apart : DefAt K mg "_law_apart" s__law_apart ["book", "one", "other"]
  d_codes_in : DefAt K mg "codes_in" s_codes_in ["book"]
  d_need_book : DefAt K mg "need_book" s_need_book ["thing"]
  d_form_in : DefAt K mg "form_in" s_form_in ["chain"]
  d_chains_by_signs : DefAt K mg "chains_by_signs" s_chains_by_signs ["book", "items"]
  d_signs_of : DefAt K mg "signs_of" s_signs_of ["book", "stream"]
  d__law_sets : DefAt K mg "_law_sets" s__law_sets ["words"]
  d__law_kinds : DefAt K mg "_law_kinds" s__law_kinds ["book"]
  d__law_entries : DefAt K mg "_law_entries" s__law_entries ["book"]
  d__law_seen : DefAt K mg "_law_seen" s__law_seen ["book", "items", "terminal", "entry"]
  d_need_codes : DefAt K mg "need_codes" s_need_codes ["aspects", "codes"]
  d_are_marks : DefAt K mg "are_marks" s_are_marks ["thing"]
  d_over : DefAt K mg "over" s_over ["front", "chain"]
  d_shown_at : DefAt K mg "shown_at" s_shown_at ["book", "sign"]
  d__law_entry : DefAt K mg "_law_entry" s__law_entry ["book", "value"]
  d__law_codes : DefAt K mg "_law_codes" s__law_codes ["book"]
  d_is_code : DefAt K mg "is_code" s_is_code ["thing"]
  d_are_rising : DefAt K mg "are_rising" s_are_rising ["things"]
  d_is_mark : DefAt K mg "is_mark" s_is_mark ["thing"]
  d_is_word : DefAt K mg "is_word" s_is_word ["thing"]
  d_are_gives : DefAt K mg "are_gives" s_are_gives ["thing"]
  d_is_of : DefAt K mg "is_of" s_is_of ["thing", "signs"]
theorem tab (U : Us K mg) (M : Ms mg) : ∀ n, Cs P w K mg base n (call T 300 n)
  | 0 => ⟨U.d_law.none, U.d__law_begin.none, U.d__law_book.none, U.d__law_stream.none, U.d__law_stream_right.none, U.d_lean.none, U.d_needless.none, U.d_alike.none, U.d__law_draw.none, U.d__law_value.none, U.d__law_needless.none, U.d_need_stream.none, U.d_forms_by_signs.none, U.d_is_sign.none, U.d_needless_in.none, U.d_need_both.none, U.d__law_mixed.none, U.d__law_apart.none, U.d_codes_in.none, U.d_need_book.none, U.d_form_in.none, U.d_chains_by_signs.none, U.d_signs_of.none, U.d__law_sets.none, U.d__law_kinds.none, U.d__law_entries.none, U.d__law_seen.none, U.d_need_codes.none, U.d_are_marks.none, U.d_over.none, U.d_shown_at.none, U.d__law_entry.none, U.d__law_codes.none, U.d_is_code.none, U.d_are_rising.none, U.d_is_mark.none, U.d_is_word.none, U.d_are_gives.none, U.d_is_of.none⟩
  | n + 1 =>
    have C := tab U M n
    ⟨U.d_law.ok rfl sc_law fun _ _ _ _ _ _ _ hr hg => b_law C M hr hg,
    U.d__law_begin.ok rfl sc__law_begin fun _ _ _ _ _ _ _ hr hg => b__law_begin C M hr hg,
    U.d__law_book.ok rfl sc__law_book fun _ _ _ _ _ _ _ hr hg => b__law_book C M hr hg,
    U.d__law_stream.ok rfl sc__law_stream fun _ _ _ _ _ _ _ hr hg => b__law_stream C M hr hg,
    U.d__law_stream_right.ok rfl sc__law_stream_right fun _ _ _ _ _ _ _ hr hg => b__law_stream_right C M hr hg,
    U.d_lean.ok rfl sc_lean fun _ _ _ _ _ _ _ hr hg => b_lean C M hr hg,
    U.d_needless.ok rfl sc_needless fun _ _ _ _ _ _ _ hr hg => b_needless C M hr hg,
    U.d_alike.ok rfl sc_alike fun _ _ _ _ _ _ _ hr hg => b_alike C M hr hg,
    U.d__law_draw.ok rfl sc__law_draw fun _ _ _ _ _ _ _ hr hg => b__law_draw C M hr hg,
    U.d__law_value.ok rfl sc__law_value fun _ _ _ _ _ _ _ hr hg => b__law_value C M hr hg,
    U.d__law_needless.ok rfl sc__law_needless fun _ _ _ _ _ _ _ hr hg => b__law_needless C M hr hg,
    U.d_need_stream.ok rfl sc_need_stream fun _ _ _ _ _ _ _ hr hg => b_need_stream C M hr hg,
    U.d_forms_by_signs.ok rfl sc_forms_by_signs fun _ _ _ _ _ _ _ hr hg => b_forms_by_signs C M hr hg,
    U.d_is_sign.ok rfl sc_is_sign fun _ _ _ _ _ _ _ hr hg => b_is_sign C M hr hg,
    U.d_needless_in.ok rfl sc_needless_in fun _ _ _ _ _ _ _ hr hg => b_needless_in C M hr hg,
    U.d_need_both.ok rfl sc_need_both fun _ _ _ _ _ _ _ hr hg => b_need_both C M hr hg,
    U.d__law_mixed.ok rfl sc__law_mixed fun _ _ _ _ _ _ _ hr hg => b__law_mixed C M hr hg,
    U.d__law_apart.ok rfl sc__law_apart fun _ _ _ _ _ _ _ hr hg => b__law_apart C M hr hg,
    U.d_codes_in.ok rfl sc_codes_in fun _ _ _ _ _ _ _ hr hg => b_codes_in C M hr hg,
    U.d_need_book.ok rfl sc_need_book fun _ _ _ _ _ _ _ hr hg => b_need_book C M hr hg,
    U.d_form_in.ok rfl sc_form_in fun _ _ _ _ _ _ _ hr hg => b_form_in C M hr hg,
    U.d_chains_by_signs.ok rfl sc_chains_by_signs fun _ _ _ _ _ _ _ hr hg => b_chains_by_signs C M hr hg,
    U.d_signs_of.ok rfl sc_signs_of fun _ _ _ _ _ _ _ hr hg => b_signs_of C M hr hg,
    U.d__law_sets.ok rfl sc__law_sets fun _ _ _ _ _ _ _ hr hg => b__law_sets C M hr hg,
    U.d__law_kinds.ok rfl sc__law_kinds fun _ _ _ _ _ _ _ hr hg => b__law_kinds C M hr hg,
    U.d__law_entries.ok rfl sc__law_entries fun _ _ _ _ _ _ _ hr hg => b__law_entries C M hr hg,
    U.d__law_seen.ok rfl sc__law_seen fun _ _ _ _ _ _ _ hr hg => b__law_seen C M hr hg,
    U.d_need_codes.ok rfl sc_need_codes fun _ _ _ _ _ _ _ hr hg => b_need_codes C M hr hg,
    U.d_are_marks.ok rfl sc_are_marks fun _ _ _ _ _ _ _ hr hg => b_are_marks C M hr hg,
    U.d_over.ok rfl sc_over fun _ _ _ _ _ _ _ hr hg => b_over C M hr hg,
    U.d_shown_at.ok rfl sc_shown_at fun _ _ _ _ _ _ _ hr hg => b_shown_at C M hr hg,
    U.d__law_entry.ok rfl sc__law_entry fun _ _ _ _ _ _ _ hr hg => b__law_entry C M hr hg,
    U.d__law_codes.ok rfl sc__law_codes fun _ _ _ _ _ _ _ hr hg => b__law_codes C M hr hg,
    U.d_is_code.ok rfl sc_is_code fun _ _ _ _ _ _ _ hr hg => b_is_code C M hr hg,
    U.d_are_rising.ok rfl sc_are_rising fun _ _ _ _ _ _ _ hr hg => b_are_rising C M hr hg,
    U.d_is_mark.ok rfl sc_is_mark fun _ _ _ _ _ _ _ hr hg => b_is_mark C M hr hg,
    U.d_is_word.ok rfl sc_is_word fun _ _ _ _ _ _ _ hr hg => b_is_word C M hr hg,
    U.d_are_gives.ok rfl sc_are_gives fun _ _ _ _ _ _ _ hr hg => b_are_gives C M hr hg,
    U.d_is_of.ok rfl sc_is_of fun _ _ _ _ _ _ _ hr hg => b_is_of C M hr hg⟩
end
end Lk11
end
section
set_option maxRecDepth 100000
set_option maxHeartbeats 4000000
namespace Sf
open PySem PySem.Spec L2
open PyProof.Rows hiding St

namespace K11
def d__law_needless : Fn := ⟨2, 8,
  (.cons (.par [2, 3] (.cons (.lc false (.idx (.loc 7) (.con (.int 0))) [7] (.one 7) (.seq (.idx (.loc 0) (.con (.int 2)))) .none) (.cons (.lst true .nil) .nil)))
  (.cons (.loop (.many [4, 5]) (.enu (.loc 1)) (.cons (.asg 6 (.bop false .add (.sli (.loc 1) .none (.some (.loc 4))) (.sli (.loc 1) (.some (.bop false .add (.loc 4) (.con (.int 1)))) .none)))
  (.cons (.ite (.and (.cmp .isin (.loc 5) (.loc 2)) (.cmp .eq (.call false "_law_apart" (.cons (.loc 0) (.cons (.loc 1) (.cons (.loc 6) .nil)))) (.lst false .nil))) (.cons (.exp (.met false .append (.loc 3) (.cons (.loc 4) .nil)))
  .nil) .nil)
  .nil)))
  (.cons (.ret (.loc 3))
  .nil)))⟩
def d__law_stream_right : Fn := ⟨2, 4,
  (.cons (.asg 2 (.call false "_law_needless" (.cons (.loc 0) (.cons (.loc 1) .nil))))
  (.cons (.asg 3 (.call true "needless" (.cons (.loc 0) (.cons (.loc 1) .nil))))
  (.cons (.ite (.cmp .ne (.loc 3) (.loc 2)) (.cons (.ret (.con (.bool false)))
  .nil) .nil)
  (.cons (.exp (.met false .append (.loc 3) (.cons (.con (.int 999)) .nil)))
  (.cons (.ite (.cmp .ne (.call false "needless" (.cons (.loc 0) (.cons (.loc 1) .nil))) (.loc 2)) (.cons (.ret (.con (.bool false)))
  .nil) .nil)
  (.cons (.whl (.cmp .ne (.loc 2) (.lst false .nil)) (.cons (.asg 1 (.bop false .add (.sli (.loc 1) .none (.some (.idx (.loc 2) (.con (.int 0))))) (.sli (.loc 1) (.some (.bop false .add (.idx (.loc 2) (.con (.int 0))) (.con (.int 1)))) .none)))
  (.cons (.asg 2 (.call false "_law_needless" (.cons (.loc 0) (.cons (.loc 1) .nil))))
  .nil)))
  (.cons (.ret (.loc 1))
  .nil)))))))⟩
def d_law : Fn := ⟨1, 6,
  (.cons (.asg 1 (.call true "_law_begin" (.cons (.loc 0) .nil)))
  (.cons (.loop (.one 2) (.rng1 (.con (.int 2))) (.cons (.asg 3 (.call false "_law_book" (.cons (.loc 1) (.cons (.con (.int 6)) .nil))))
  (.cons (.asg 4 (.call false "_law_stream" (.cons (.loc 1) (.cons (.loc 3) (.cons (.con (.int 12)) .nil)))))
  (.cons (.asg 5 (.call false "_law_stream_right" (.cons (.loc 3) (.cons (.loc 4) .nil))))
  (.cons (.ite (.or (.cmp .is (.loc 5) (.con (.bool false))) (.or (.cmp .ne (.call false "lean" (.cons (.loc 3) (.cons (.loc 4) .nil))) (.loc 5)) (.cmp .ne (.call false "needless" (.cons (.loc 3) (.cons (.loc 5) .nil))) (.lst false .nil)))) (.cons (.ret (.con (.bool false)))
  .nil) .nil)
  (.cons (.ite (.or (.cmp .isnt (.call false "alike" (.cons (.loc 3) (.cons (.loc 4) (.cons (.loc 5) .nil)))) (.con (.bool true))) (.cmp .ne (.call false "lean" (.cons (.loc 3) (.cons (.loc 5) .nil))) (.loc 5))) (.cons (.ret (.con (.bool false)))
  .nil) .nil)
  .nil))))))
  (.cons (.ret (.con (.bool true)))
  .nil)))⟩

structure Std (T : Tab) : Prop extends StdH T, StdN T, StdA T where
  _law_needless : T "_law_needless" = some d__law_needless
  _law_stream_right : T "_law_stream_right" = some d__law_stream_right
  law : T "law" = some d_law

section
variable {T : Tab} {F n : Nat} {mu : Bool} {S : Store}
def lnB : CSs := .cons (.asg 6 (.bop false .add (.sli (.loc 1) .none (.some (.loc 4))) (.sli (.loc 1) (.some (.bop false .add (.loc 4) (.con (.int 1)))) .none)))
  (.cons (.ite (.and (.cmp .isin (.loc 5) (.loc 2)) (.cmp .eq (.call false "_law_apart" (.cons (.loc 0) (.cons (.loc 1) (.cons (.loc 6) .nil)))) (.lst false .nil))) (.cons (.exp (.met false .append (.loc 3) (.cons (.loc 4) .nil))) .nil) .nil) .nil)
def rowN (b : Book) (l : List Str) (x4 x5 x6 : Option D) : Rho := [some (.py (eBook b)), some (.py (eStrs l)), some (.py (.list (b.words.map .str))), some (.ref 0), x4, x5, x6, none]
theorem word_sign {b : Book} (hb : BookOk b) {x : Str} (h : Item b x) : decide (x ∈ b.words) = !signB x := by
  rcases h with z | z
  · rw [decide_eq_true z, (words_sign x (words_mem hb x z)).1]
    rfl
  · rw [decide_eq_false (sign_code hb z).2, (signs_sign x z).1]
    rfl
theorem run_ln (h : Std T) {b : Book} (hb : BookOk b) {l : List Str} (hl : ∀ x ∈ l, Item b x) (h2 : l.length < 900) {k : Nat} (hk : k < l.length) {x6 : Option D} {fd : List PyData} (hf : fd.length < 1000) :
    exSs (call T F (n + 3)) F lnB (rowN b l (some (.py (.int k))) (some (.py (.str (l.getD k "")))) x6) [.lst (fd.map .py)] = .ok (.nx (rowN b l (some (.py (.int k))) (some (.py (.str (l.getD k "")))) (some (.py (eStrs (delN l k)))))) [.lst ((fd ++ if needlB b l k then [PyData.int k] else []).map .py)] := by
  have it := item_at hl hk
  have dl := ev_del (G := call T F (n + 3)) (S := [.lst (fd.map .py)]) (a := .loc 1) (e := .loc 4) (r := rowN b l (some (.py (.int k))) (some (.py (.str (l.getD k "")))) x6) rfl rfl hk (by omega)
  have hd : ∀ x ∈ delN l k, Item b x := fun x hx => hl x (del_mem x hx)
  have ld := del_len hk
  have ka := k_law_apart (F := F) (n := n) (S := [.lst (fd.map .py)]) h.toStdA hb hl hd (by omega) (by omega)
  have ii : inD [.lst (fd.map .py)] (.py (.str (l.getD k ""))) (.py (.list (b.words.map .str))) = some (!signB (l.getD k "")) := by rw [in_lst, word_sign hb it]
  have en := eq_nil (S := [.lst (fd.map .py)]) (l := apartN b l (delN l k))
  have m0 : ∀ S, mkLst false [] S = .ok (.py (.list [])) S := fun _ => rfl
  have ap := app0 (rest := []) (fd := fd) (d := .int k) (by omega)
  simp only [rowN] at dl
  rw [lnB, rowN, x_cons, x_asg, dl]
  cases q : signB (l.getD k "") with
  | true =>
    rw [q] at ii
    have e : needlB b l k = false := by unfold needlB; rw [q]; rfl
    rw [e]
    simp only [x_cons, x_nil, x_asg, x_ret, x_exp, x_ite, x_par, x_unp, x_sub, ev_con, ev_glo, ev_loc, ev_tup, ev_lst, ev_dic, ev_bop, ev_cmp, ev_cmp2, ev_and, ev_or, ev_not, ev_ite, ev_idx, ev_call, ev_blt, ev_isi, ev_met, ev_nil, ev_cons, R.bind_ok, R.of_some, okL_some, okO_some, tt3_t, tt3_f, List.getElem?_cons_zero, List.getElem?_cons_succ, List.set_cons_zero, List.set_cons_succ, bl, truth, Option.map_some, Bool.not_true, Bool.not_false, if_true, cmpD, ii, Bool.false_eq_true, if_false, List.append_nil]
    rfl
  | false =>
    rw [q] at ii
    have ss : signsN l = signsN (delN l k) := (del_signs hk q).symm
    have nb : needlB b l k = (apartN b l (delN l k)).isEmpty := by
      unfold needlB
      rw [q, Bool.not_false, Bool.true_and, Bool.eq_iff_iff, decide_eq_true_eq, List.isEmpty_iff, apart_nil hb hl hd ss]
      exact eq_comm
    rw [nb]
    cases qq : (apartN b l (delN l k)).isEmpty with
    | true =>
      rw [qq] at en
      simp only [x_cons, x_nil, x_asg, x_ret, x_exp, x_ite, x_par, x_unp, x_sub, ev_con, ev_glo, ev_loc, ev_tup, ev_lst, ev_dic, ev_bop, ev_cmp, ev_cmp2, ev_and, ev_or, ev_not, ev_ite, ev_idx, ev_call, ev_blt, ev_isi, ev_met, ev_nil, ev_cons, R.bind_ok, R.of_some, okL_some, okO_some, tt3_t, tt3_f, List.getElem?_cons_zero, List.getElem?_cons_succ, List.set_cons_zero, List.set_cons_succ, bl, truth, Option.map_some, Bool.not_true, Bool.not_false, if_true, cmpD, ii, ka, m0, en, rv0, ap]
      rfl
    | false =>
      rw [qq] at en
      simp only [x_cons, x_nil, x_asg, x_ret, x_exp, x_ite, x_par, x_unp, x_sub, ev_con, ev_glo, ev_loc, ev_tup, ev_lst, ev_dic, ev_bop, ev_cmp, ev_cmp2, ev_and, ev_or, ev_not, ev_ite, ev_idx, ev_call, ev_blt, ev_isi, ev_met, ev_nil, ev_cons, R.bind_ok, R.of_some, okL_some, okO_some, tt3_t, tt3_f, List.getElem?_cons_zero, List.getElem?_cons_succ, List.set_cons_zero, List.set_cons_succ, bl, truth, Option.map_some, Bool.not_true, Bool.not_false, if_true, cmpD, ii, ka, m0, en, Bool.false_eq_true, if_false, List.append_nil]
      rfl
theorem k_law_needless (h : Std T) {b : Book} (hb : BookOk b) {l : List Str} (hl : ∀ x ∈ l, Item b x) (h2 : l.length < 900) : call T F (n + 4) false "_law_needless" [.py (eBook b), .py (eStrs l)] S = .ok (.py (eNs (needN b l))) S := by
  have few := hb.few
  have hs : startD d__law_needless ([eBook b, eStrs l].map .py) = [some (.py (eBook b)), some (.py (eStrs l)), none, none, none, none, none, none] := rfl
  have hbd : d__law_needless.body = .cons (.par [2, 3] (.cons (.lc false (.idx (.loc 7) (.con (.int 0))) [7] (.one 7) (.seq (.idx (.loc 0) (.con (.int 2)))) .none) (.cons (.lst true .nil) .nil))) (.cons (.loop (.many [4, 5]) (.enu (.loc 1)) lnB) (.cons (.ret (.loc 3)) .nil)) := rfl
  have wd := ev_words (G := call T F (n + 3)) (S := []) (r := [some (.py (eBook b)), some (.py (eStrs l)), none, none, none, none, none, none]) (i := 7) (j := 0) (b := b) rfl (by simp) (by omega)
  have fi : (List.range l.length).flatMap (fun k => if needlB b l k then [PyData.int (k : Nat)] else []) = (needN b l).map fun k : Nat => PyData.int k := flat_if (p := needlB b l) (g := fun k : Nat => PyData.int k)
  have nl : (needN b l).length ≤ l.length := by
    have := List.length_filter_le (needlB b l) (List.range l.length)
    rw [List.length_range] at this
    exact this
  obtain ⟨r', ⟨y4, y5, y6, rfl⟩, e⟩ := lp_flat (N := 1000) (ok := (⟨enumD 0 (l.map .str), none⟩ : Src).stands) (fun _ => rfl) (f := fun x r1 S2 => match bindT (.many [4, 5]) x r1 with
      | some r2 => exSs (call T F (n + 3)) F lnB r2 S2
      | none => .bad) (fun k : Nat => D.py (.tuple [.int k, .str (l.getD k "")])) (fun k => if needlB b l k then [PyData.int (k : Nat)] else []) (fun r => ∃ x4 x5 x6, r = rowN b l x4 x5 x6) (xs := List.range l.length) (fd := []) ⟨none, none, none, rfl⟩ (by rw [fi, List.length_map, List.length_nil]; omega) (fun k hk r fd ⟨x4, x5, x6, hr⟩ hf => by
        subst hr
        refine ⟨_, ⟨some (.py (.int k)), some (.py (.str (l.getD k ""))), some (.py (eStrs (delN l k))), rfl⟩, ?_⟩
        exact run_ln (F := F) (n := n) (x6 := x6) (fd := fd) h hb hl h2 (List.mem_range.mp hk) (by omega))
  rw [fi] at e
  have s2 : exS (call T F (n + 3)) F (.loop (.many [4, 5]) (.enu (.loc 1)) lnB) (rowN b l none none none) [.lst []] = .ok (.nx (rowN b l y4 y5 y6)) [.lst (((needN b l).map fun k : Nat => PyData.int k).map .py)] := by
    have hi : evI (call T F (n + 3)) (.enu (.loc 1)) (rowN b l none none none) [.lst []] = .ok ⟨enumD 0 (l.map .str), none⟩ [.lst []] := rfl
    rw [x_loop, hi, R.bind_ok]
    show loopF _ _ (enumD 0 (l.map .str)) _ _ = _
    rw [enum_range] at e ⊢
    rw [List.map_map]
    exact e
  have ml : mkLst true [] [] = .ok (.ref 0) [.lst []] := rfl
  have sa : setAll [2, 3] [D.py (.list (b.words.map .str)), .ref 0] [some (.py (eBook b)), some (.py (eStrs l)), none, none, none, none, none, none] = some (rowN b l none none none) := rfl
  refine call_ref (xs := [eBook b, eStrs l]) (k := 0) (S' := [.lst (((needN b l).map fun k : Nat => PyData.int k).map .py)]) h._law_needless rfl ?_ ?_
  · rw [hs, hbd]
    simp only [x_cons, x_nil, x_asg, x_ret, x_exp, x_ite, x_par, x_unp, x_sub, ev_con, ev_glo, ev_loc, ev_tup, ev_lst, ev_dic, ev_bop, ev_cmp, ev_cmp2, ev_and, ev_or, ev_not, ev_ite, ev_idx, ev_call, ev_blt, ev_isi, ev_met, ev_nil, ev_cons, R.bind_ok, R.of_some, okL_some, okO_some, tt3_t, tt3_f, List.getElem?_cons_zero, List.getElem?_cons_succ, List.set_cons_zero, List.set_cons_succ, bl, truth, Option.map_some, Bool.not_true, Bool.not_false, if_true, wd, ml, sa, s2]
    rfl
  · show (pys (((needN b l).map fun k : Nat => PyData.int k).map .py)).map PyData.list = _
    rw [pys_py]
    rfl
/-! the lean form, by the law -/
def lwC : CE := .cmp .ne (.loc 2) (.lst false .nil)
def lwB : CSs := .cons (.asg 1 (.bop false .add (.sli (.loc 1) .none (.some (.idx (.loc 2) (.con (.int 0))))) (.sli (.loc 1) (.some (.bop false .add (.idx (.loc 2) (.con (.int 0))) (.con (.int 1)))) .none))) (.cons (.asg 2 (.call false "_law_needless" (.cons (.loc 0) (.cons (.loc 1) .nil)))) .nil)
def rowL (b : Book) (l : List Str) (x3 : Option D) : Rho := [some (.py (eBook b)), some (.py (eStrs l)), some (.py (eNs (needN b l))), x3]
theorem lp_lw (h : Std T) {b : Book} (hb : BookOk b) {x3 : Option D} {S : Store} : ∀ (m : Nat) (l : List Str), (∀ x ∈ l, Item b x) → l.length < 900 → l.length < m →
    loopW (fun r1 S1 => (evE (call T F (n + 4)) lwC r1 S1).bind fun d S2 => R.of (truth S2 d) S2) (fun r1 S1 => exSs (call T F (n + 4)) F lwB r1 S1) m (rowL b l x3) S = .ok (.nx (rowL b (leanN b l) x3)) S
  | 0, l, _, _, hm => by omega
  | m + 1, l, hl, h2, hm => by
    have m0 : ∀ S, mkLst false [] S = .ok (.py (.list [])) S := fun _ => rfl
    have cc : (evE (call T F (n + 4)) lwC (rowL b l x3) S).bind (fun d S2 => R.of (truth S2 d) S2) = .ok (!(needN b l).isEmpty) S := by
      simp only [lwC, rowL, ev_cmp, ev_loc, ev_lst, ev_nil, List.getElem?_cons_zero, List.getElem?_cons_succ, okL_some, R.bind_ok, m0, cmpD, eq_nil, Option.map_some, R.of_some, bl, truth]
    cases q : needN b l with
    | nil =>
      rw [q] at cc
      rw [leanN_none q]
      simp only [loopW, cc, List.isEmpty_nil, Bool.not_true, R.bind_ok, Bool.false_eq_true, if_false]
    | cons k r =>
      rw [q] at cc
      have hk := (needN_mem.mp (show k ∈ needN b l by rw [q]; exact List.mem_cons_self)).1
      have hd : ∀ x ∈ delN l k, Item b x := fun x hx => hl x (del_mem x hx)
      have ld := del_len hk
      have i0 : evE (call T F (n + 4)) (.idx (.loc 2) (.con (.int 0))) (rowL b l x3) S = .ok (.py (.int k)) S := by
        have : idxD S (.py (eNs (needN b l))) (.py (.int 0)) = some (.py (.int k)) := by
          rw [q]
          exact atD (k := 0) rfl
        simp only [rowL, ev_idx, ev_loc, List.getElem?_cons_zero, List.getElem?_cons_succ, okL_some, R.bind_ok, ev_con, this, R.of_some]
      have dl := ev_del (G := call T F (n + 4)) (S := S) (a := .loc 1) (e := .idx (.loc 2) (.con (.int 0))) (r := rowL b l x3) rfl i0 hk (by omega)
      have kn := k_law_needless (F := F) (n := n) (S := S) h hb hd (by omega)
      have run : exSs (call T F (n + 4)) F lwB (rowL b l x3) S = .ok (.nx (rowL b (delN l k) x3)) S := by
        rw [lwB, x_cons, x_asg, dl]
        simp only [rowL, x_cons, x_nil, x_asg, x_ret, x_exp, x_ite, x_par, x_unp, x_sub, ev_con, ev_glo, ev_loc, ev_tup, ev_lst, ev_dic, ev_bop, ev_cmp, ev_cmp2, ev_and, ev_or, ev_not, ev_ite, ev_idx, ev_call, ev_blt, ev_isi, ev_met, ev_nil, ev_cons, R.bind_ok, R.of_some, okL_some, okO_some, tt3_t, tt3_f, List.getElem?_cons_zero, List.getElem?_cons_succ, List.set_cons_zero, List.set_cons_succ, bl, truth, Option.map_some, Bool.not_true, Bool.not_false, if_true, kn]
      have ih := lp_lw h hb (x3 := x3) (S := S) m (delN l k) hd (by omega) (by omega)
      rw [leanN_some q]
      simp only [loopW, cc, List.isEmpty_cons, Bool.not_false, R.bind_ok, if_true, run]
      exact ih
theorem k_stream_right (h : Std T) {b : Book} (hb : BookOk b) {l : List Str} (hl : ∀ x ∈ l, Item b x) (h2 : l.length ≤ 200) (hF : l.length < F) : call T F (n + 9) mu "_law_stream_right" [.py (eBook b), .py (eStrs l)] S = .ok (.py (eStrs (leanN b l))) S := by
  have hs : startD d__law_stream_right ([eBook b, eStrs l].map .py) = [some (.py (eBook b)), some (.py (eStrs l)), none, none] := rfl
  have hbd : d__law_stream_right.body = .cons (.asg 2 (.call false "_law_needless" (.cons (.loc 0) (.cons (.loc 1) .nil)))) (.cons (.asg 3 (.call true "needless" (.cons (.loc 0) (.cons (.loc 1) .nil)))) (.cons (.ite (.cmp .ne (.loc 3) (.loc 2)) (.cons (.ret (.con (.bool false))) .nil) .nil) (.cons (.exp (.met false .append (.loc 3) (.cons (.con (.int 999)) .nil))) (.cons (.ite (.cmp .ne (.call false "needless" (.cons (.loc 0) (.cons (.loc 1) .nil))) (.loc 2)) (.cons (.ret (.con (.bool false))) .nil) .nil) (.cons (.whl lwC lwB) (.cons (.ret (.loc 1)) .nil)))))) := rfl
  have e1 := k_law_needless (F := F) (n := n + 4) (S := []) h hb hl (by omega)
  have e2 := k_needlessM (F := F) (n := n) (S := []) h.toStdN hb hl h2
  have e2 : call T F (n + 8) true "needless" [.py (eBook b), .py (eStrs l)] [] = .ok (.ref 0) [.lst (((needN b l).map fun k : Nat => PyData.int k).map .py)] := e2
  have nl : (needN b l).length ≤ l.length := by
    have := List.length_filter_le (needlB b l) (List.range l.length)
    rw [List.length_range] at this
    exact this
  have ap := app0 (rest := []) (fd := (needN b l).map fun k : Nat => PyData.int k) (d := .int 999) (by rw [List.length_map]; omega)
  have e5 := fun S => k_needless (F := F) (n := n) (S := S) h.toStdN hb hl h2
  have q1 : eqD [.lst (((needN b l).map fun k : Nat => PyData.int k).map .py)] (.ref 0) (.py (eNs (needN b l))) = some true := by
    have fz : frzD [.lst (((needN b l).map fun k : Nat => PyData.int k).map .py)] (.ref 0) = some (eNs (needN b l)) := by
      show (pys (((needN b l).map fun k : Nat => PyData.int k).map .py)).map PyData.list = _
      rw [pys_py]
      rfl
    have sh : Shp 1 (eNs (needN b l)) := shp_lst fun d hd => by
      obtain ⟨k, _, rfl⟩ := List.mem_map.mp hd
      exact shp_int
    show eqG _ _ _ = _
    unfold eqG
    rw [fz]
    show (if (SeqAt.shaped (eNs (needN b l)) && SeqAt.shaped (eNs (needN b l))) = true then some (PyData.eqv (eNs (needN b l)) (eNs (needN b l))) else none) = _
    rw [sh.shaped (by omega), if_pos (show (true && true) = true from rfl), eqv_refl sh.lay]
  have q2 : ∀ S, eqD S (.py (eNs (needN b l))) (.py (eNs (needN b l))) = some true := fun S => eq_nums
  have lw := fun S => lp_lw (F := F) (n := n + 4) h hb (x3 := some (.ref 0)) (S := S) F l hl (by omega) hF
  have s6 : ∀ S, exS (call T F (n + 8)) F (.whl lwC lwB) (rowL b l (some (.ref 0))) S = .ok (.nx (rowL b (leanN b l) (some (.ref 0)))) S := fun S => by
    simp only [exS]
    exact lw S
  refine call_py (xs := [eBook b, eStrs l]) (S' := [.lst (((needN b l).map (fun k : Nat => PyData.int k) ++ [PyData.int 999]).map .py)]) h._law_stream_right rfl ?_
  rw [hs, hbd]
  simp only [rowL] at s6
  simp only [x_cons, x_nil, x_asg, x_ret, x_exp, x_ite, x_par, x_unp, x_sub, ev_con, ev_glo, ev_loc, ev_tup, ev_lst, ev_dic, ev_bop, ev_cmp, ev_cmp2, ev_and, ev_or, ev_not, ev_ite, ev_idx, ev_call, ev_blt, ev_isi, ev_met, ev_nil, ev_cons, R.bind_ok, R.of_some, okL_some, okO_some, tt3_t, tt3_f, List.getElem?_cons_zero, List.getElem?_cons_succ, List.set_cons_zero, List.set_cons_succ, bl, truth, Option.map_some, Bool.not_true, Bool.not_false, if_true, e1, e2, cmpD, q1, rv0, ap, e5, q2, s6, endD]
theorem law_ok (h : Std T) (hF : 200 ≤ F) {ns : List Int} (hl : ns.length ≤ 63) : ∃ S, call T F (n + 11) false "law" [.scr ns] [] = .ok (bl true) S := by
  have hr : rng (.py (.int 0)) (.py (.int 2)) = some ⟨(List.range 2).map fun j : Nat => .py (.int j), none⟩ := by
    have := rng_small (j := ((2 : Nat) : Int)) (by omega) (by omega)
    rw [rangeD_nat] at this
    exact this
  refine law_loop (n := n + 9) (F := F) (c := 230) (m := 2) (k := 2) (N := 4) h.toStdD h.law hl rfl rfl rfl (fun S => ?_) (by omega) (fun r => ∃ x2 x3 x4 x5, r = [some (.scr ns), some (.ref 1), x2, x3, x4, x5]) ⟨none, none, none, none, rfl⟩ (fun r x ⟨x2, x3, x4, x5, e⟩ => ⟨some x, x3, x4, x5, by rw [e]; rfl⟩) ?_
  · rw [evI, ev_con, R.bind_ok, hr]
    rfl
  rintro r ⟨x2, x3, x4, x5, rfl⟩ q ok hat
  obtain ⟨d3, q1, r1, ⟨⟨b, hb, rfl⟩, rfl⟩, d1, e1⟩ := dr_book (F := F) (n := n + 6) (mu := false) h.toStdH (most := 6) (by decide) (by decide) q ok (by omega)
  obtain ⟨d4, q2, r2, ⟨⟨l, rfl, hl4, hll⟩, rfl⟩, d2, e2⟩ := dr_stream (F := F) (n := n + 6) (mu := false) h.toStdH hb (most := 12) (by decide) (by decide) q1 d1.ok (by have := d1.hi; omega)
  have l12 : l.length ≤ 12 := by omega
  have pr := leanN_all (b := b) (P := fun m => (∀ x ∈ m, Item b x) ∧ m.length ≤ 12 ∧ signsN l = signsN m ∧ formsN b l = formsN b m) l.length (Nat.le_refl _) ⟨hl4, l12, rfl, rfl⟩ (fun m k ⟨p1, p2, p3, p4⟩ hk => by
    obtain ⟨hk1, hk2⟩ := needN_mem.mp hk
    unfold needlB at hk2
    have hk3 := Bool.and_eq_true_iff.mp hk2
    have hs : signB (m.getD k "") = false := by simpa using hk3.1
    have hf := of_decide_eq_true hk3.2
    have ld := del_len hk1
    exact ⟨fun x hx => p1 x (del_mem x hx), by omega, by rw [del_signs hk1 hs]; exact p3, by rw [hf]; exact p4⟩)
  obtain ⟨⟨p1, p2, p3, p4⟩, p5⟩ := pr
  obtain ⟨m, hm⟩ : ∃ m, m = leanN b l := ⟨_, rfl⟩
  rw [← hm] at p1 p2 p3 p4 p5
  have b12 : ∀ k : Nat, k ≤ 12 → k * (k + 1) + k < 200 := by decide
  have f1 := fun S => k_stream_right (F := F) (n := n + 1) (mu := false) (S := S) h hb hl4 (by omega) (by omega)
  have f2 := fun S => k_lean (F := F) (n := n + 2) (mu := false) (S := S) h.toStdN hb hl4 (by omega) (by have := b12 l.length l12; omega)
  have f3 := fun S => k_needless (F := F) (n := n + 2) (S := S) h.toStdN hb p1 (by omega)
  have f4 := fun S => k_alike (F := F) (n := n) (mu := false) (S := S) h.toStdF hb hl4 p1 (by omega) (by omega) p3
  have f5 := fun S => k_lean (F := F) (n := n + 2) (mu := false) (S := S) h.toStdN hb p1 (by omega) (by have := b12 m.length p2; omega)
  rw [← hm] at f1 f2
  rw [leanN_none p5] at f5
  simp only [p5] at f3
  simp only [decide_eq_true p4] at f4
  have sh : Shp 1 (eStrs m) := shp_strsO fun x hx => (item_ok hb (p1 x hx)).1
  have g1 : ∀ S, eqD S (.py (eStrs m)) (.py (eStrs m)) = some true := fun S => eqD_same sh (by omega)
  have g2 : ∀ S, eqD S (.py (eNs [])) (.py (.list [])) = some true := fun S => eq_nil
  have m0 : ∀ S, mkLst false [] S = .ok (.py (.list [])) S := fun _ => rfl
  have c1 : ∀ S, cmpD S .is (.py (eStrs m)) (.py (.bool false)) = some false := fun S => rfl
  have c2 : ∀ S, cmpD S .isnt (.py (.bool true)) (.py (.bool true)) = some false := fun S => rfl
  have c3 : ∀ S a b, cmpD S .ne a b = (eqD S a b).map (!·) := fun S a b => rfl
  refine ⟨_, q2, [], ⟨_, rfl, ⟨x2, some (.py (eBook b)), some (.py (eStrs l)), some (.py (eStrs m)), rfl⟩, rfl⟩, (d1.trans d2).mono (by omega), ?_⟩
  simp only [bl] at f4
  simp only [x_cons, x_nil, x_asg, x_ret, x_exp, x_ite, x_par, x_unp, x_sub, ev_con, ev_glo, ev_loc, ev_tup, ev_lst, ev_dic, ev_bop, ev_cmp, ev_cmp2, ev_and, ev_or, ev_not, ev_ite, ev_idx, ev_call, ev_blt, ev_isi, ev_met, ev_nil, ev_cons, R.bind_ok, R.of_some, okL_some, okO_some, tt3_t, tt3_f, List.getElem?_cons_zero, List.getElem?_cons_succ, List.set_cons_zero, List.set_cons_succ, bl, truth, Option.map_some, Bool.not_true, Bool.not_false, if_true, e1, e2, f1, c1, f2, c3, g1, f3, m0, g2, f4, c2, f5]
end
end K11
end Sf
end
section
namespace Lk11
open PySem PySem.Spec L2 Sf
open PyProof.Rows hiding St
set_option maxRecDepth 100000
set_option maxHeartbeats 4000000
theorem std : Sf.K11.Std T := { mixed := rfl, draw := rfl, begin := rfl, value := rfl, of_ := rfl, book := rfl, row := rfl, stream := rfl, is_of := rfl, is_mark := rfl, is_word := rfl, are_rising := rfl, are_marks := rfl, are_gives := rfl, is_code := rfl, need_codes := rfl, need_book := rfl, codes_in := rfl, is_sign := rfl, worth_in := rfl, over := rfl, shown_at := rfl, is_terminal := rfl, need_terminal := rfl, chains_by_signs := rfl, hangs := rfl, need_stream := rfl, form_in := rfl, forms_by_signs := rfl, signs_of := rfl, need_both := rfl, alike := rfl, needless_in := rfl, needless := rfl, lean := rfl, _law_codes := rfl, _law_seen := rfl, _law_entry := rfl, _law_sets := rfl, _law_kinds := rfl, _law_entries := rfl, _law_apart := rfl, _law_needless := rfl, _law_stream_right := rfl, law := rfl }
theorem law_true (ns : List Int) (hl : ns.length ≤ 63) : ∃ S, call T 300 11 false "law" [.scr ns] [] = .ok (bl true) S := Sf.K11.law_ok (n := 0) std (by decide) hl
end Lk11
end
namespace Lk11
open PySem PySem.Spec L2 Sf
open PyProof.Rows hiding St
set_option maxRecDepth 100000
set_option maxHeartbeats 4000000
theorem all_mk {P : Program} {w : World} {K : PySem.W.Frag} {h : Heap} {mg : Str → Option Value} {fa : Addr} (X : K.In h) (G : h.Ns mainGlobals mg) (hfa : mg "law" = some (.ref fa))
    {f0 : Addr} {od0 an0 : Option Addr} {sl0 : Array (Option Value)} {oc0 kV0 dc0 pm0 cd0 ct0 : Value}
    {f1 : Addr} {od1 an1 : Option Addr} {sl1 : Array (Option Value)} {oc1 kV1 dc1 pm1 cd1 ct1 : Value}
    {f2 : Addr} {od2 an2 : Option Addr} {sl2 : Array (Option Value)} {oc2 kV2 dc2 pm2 cd2 ct2 : Value}
    {f3 : Addr} {od3 an3 : Option Addr} {sl3 : Array (Option Value)} {oc3 kV3 dc3 pm3 cd3 ct3 : Value}
    {f4 : Addr} {od4 an4 : Option Addr} {sl4 : Array (Option Value)} {oc4 kV4 dc4 pm4 cd4 ct4 : Value}
    {f5 : Addr} {od5 an5 : Option Addr} {sl5 : Array (Option Value)} {oc5 kV5 dc5 pm5 cd5 ct5 : Value}
    {f6 : Addr} {od6 an6 : Option Addr} {sl6 : Array (Option Value)} {oc6 kV6 dc6 pm6 cd6 ct6 : Value}
    {f7 : Addr} {od7 an7 : Option Addr} {sl7 : Array (Option Value)} {oc7 kV7 dc7 pm7 cd7 ct7 : Value}
    {f8 : Addr} {od8 an8 : Option Addr} {sl8 : Array (Option Value)} {oc8 kV8 dc8 pm8 cd8 ct8 : Value}
    {f9 : Addr} {od9 an9 : Option Addr} {sl9 : Array (Option Value)} {oc9 kV9 dc9 pm9 cd9 ct9 : Value}
    {f10 : Addr} {od10 an10 : Option Addr} {sl10 : Array (Option Value)} {oc10 kV10 dc10 pm10 cd10 ct10 : Value}
    {f11 : Addr} {od11 an11 : Option Addr} {sl11 : Array (Option Value)} {oc11 kV11 dc11 pm11 cd11 ct11 : Value}
    {f12 : Addr} {od12 an12 : Option Addr} {sl12 : Array (Option Value)} {oc12 kV12 dc12 pm12 cd12 ct12 : Value}
    {f13 : Addr} {od13 an13 : Option Addr} {sl13 : Array (Option Value)} {oc13 kV13 dc13 pm13 cd13 ct13 : Value}
    {f14 : Addr} {od14 an14 : Option Addr} {sl14 : Array (Option Value)} {oc14 kV14 dc14 pm14 cd14 ct14 : Value}
    {f15 : Addr} {od15 an15 : Option Addr} {sl15 : Array (Option Value)} {oc15 kV15 dc15 pm15 cd15 ct15 : Value}
    {f16 : Addr} {od16 an16 : Option Addr} {sl16 : Array (Option Value)} {oc16 kV16 dc16 pm16 cd16 ct16 : Value}
    {f17 : Addr} {od17 an17 : Option Addr} {sl17 : Array (Option Value)} {oc17 kV17 dc17 pm17 cd17 ct17 : Value}
    {f18 : Addr} {od18 an18 : Option Addr} {sl18 : Array (Option Value)} {oc18 kV18 dc18 pm18 cd18 ct18 : Value}
    {f19 : Addr} {od19 an19 : Option Addr} {sl19 : Array (Option Value)} {oc19 kV19 dc19 pm19 cd19 ct19 : Value}
    {f20 : Addr} {od20 an20 : Option Addr} {sl20 : Array (Option Value)} {oc20 kV20 dc20 pm20 cd20 ct20 : Value}
    {f21 : Addr} {od21 an21 : Option Addr} {sl21 : Array (Option Value)} {oc21 kV21 dc21 pm21 cd21 ct21 : Value}
    {f22 : Addr} {od22 an22 : Option Addr} {sl22 : Array (Option Value)} {oc22 kV22 dc22 pm22 cd22 ct22 : Value}
    {f23 : Addr} {od23 an23 : Option Addr} {sl23 : Array (Option Value)} {oc23 kV23 dc23 pm23 cd23 ct23 : Value}
    {f24 : Addr} {od24 an24 : Option Addr} {sl24 : Array (Option Value)} {oc24 kV24 dc24 pm24 cd24 ct24 : Value}
    {f25 : Addr} {od25 an25 : Option Addr} {sl25 : Array (Option Value)} {oc25 kV25 dc25 pm25 cd25 ct25 : Value}
    {f26 : Addr} {od26 an26 : Option Addr} {sl26 : Array (Option Value)} {oc26 kV26 dc26 pm26 cd26 ct26 : Value}
    {f27 : Addr} {od27 an27 : Option Addr} {sl27 : Array (Option Value)} {oc27 kV27 dc27 pm27 cd27 ct27 : Value}
    {f28 : Addr} {od28 an28 : Option Addr} {sl28 : Array (Option Value)} {oc28 kV28 dc28 pm28 cd28 ct28 : Value}
    {f29 : Addr} {od29 an29 : Option Addr} {sl29 : Array (Option Value)} {oc29 kV29 dc29 pm29 cd29 ct29 : Value}
    {f30 : Addr} {od30 an30 : Option Addr} {sl30 : Array (Option Value)} {oc30 kV30 dc30 pm30 cd30 ct30 : Value}
    {f31 : Addr} {od31 an31 : Option Addr} {sl31 : Array (Option Value)} {oc31 kV31 dc31 pm31 cd31 ct31 : Value}
    {f32 : Addr} {od32 an32 : Option Addr} {sl32 : Array (Option Value)} {oc32 kV32 dc32 pm32 cd32 ct32 : Value}
    {f33 : Addr} {od33 an33 : Option Addr} {sl33 : Array (Option Value)} {oc33 kV33 dc33 pm33 cd33 ct33 : Value}
    {f34 : Addr} {od34 an34 : Option Addr} {sl34 : Array (Option Value)} {oc34 kV34 dc34 pm34 cd34 ct34 : Value}
    {f35 : Addr} {od35 an35 : Option Addr} {sl35 : Array (Option Value)} {oc35 kV35 dc35 pm35 cd35 ct35 : Value}
    {f36 : Addr} {od36 an36 : Option Addr} {sl36 : Array (Option Value)} {oc36 kV36 dc36 pm36 cd36 ct36 : Value}
    {f37 : Addr} {od37 an37 : Option Addr} {sl37 : Array (Option Value)} {oc37 kV37 dc37 pm37 cd37 ct37 : Value}
    {f38 : Addr} {od38 an38 : Option Addr} {sl38 : Array (Option Value)} {oc38 kV38 dc38 pm38 cd38 ct38 : Value}
    {t_BLANK : Tok}
    {t_FIGURES : Tok}
    {t_LETTERS : Tok}
    {t_LINE_END : Tok}
    {t_MOST_ASPECTS : Tok}
    {t_MOST_CODES : Tok}
    {t_MOST_ITEMS : Tok}
    {t_MOST_KINDS : Tok}
    {t_MOST_SIGNS : Tok}
    {t_PART : Tok}
    (a0 : PySem.W.nsIn K mainGlobals "law" = some (some (.ref f0))) (l0 : K.lookup f0 = some ⟨oc0, od0, .func (PySem.W.fnOf "law" "law" (defArgs s_law) (defBody s_law) (defScope s_law) .none kV0 dc0 pm0 an0 cd0 ct0), sl0⟩) (c0 : PySem.W.codeIn K cd0 "law" = true) (k0 : PySem.W.keepIn K (.ref f0) = true)
    (a1 : PySem.W.nsIn K mainGlobals "_law_begin" = some (some (.ref f1))) (l1 : K.lookup f1 = some ⟨oc1, od1, .func (PySem.W.fnOf "_law_begin" "_law_begin" (defArgs s__law_begin) (defBody s__law_begin) (defScope s__law_begin) .none kV1 dc1 pm1 an1 cd1 ct1), sl1⟩) (c1 : PySem.W.codeIn K cd1 "_law_begin" = true) (k1 : PySem.W.keepIn K (.ref f1) = true)
    (a2 : PySem.W.nsIn K mainGlobals "_law_book" = some (some (.ref f2))) (l2 : K.lookup f2 = some ⟨oc2, od2, .func (PySem.W.fnOf "_law_book" "_law_book" (defArgs s__law_book) (defBody s__law_book) (defScope s__law_book) .none kV2 dc2 pm2 an2 cd2 ct2), sl2⟩) (c2 : PySem.W.codeIn K cd2 "_law_book" = true) (k2 : PySem.W.keepIn K (.ref f2) = true)
    (a3 : PySem.W.nsIn K mainGlobals "_law_stream" = some (some (.ref f3))) (l3 : K.lookup f3 = some ⟨oc3, od3, .func (PySem.W.fnOf "_law_stream" "_law_stream" (defArgs s__law_stream) (defBody s__law_stream) (defScope s__law_stream) .none kV3 dc3 pm3 an3 cd3 ct3), sl3⟩) (c3 : PySem.W.codeIn K cd3 "_law_stream" = true) (k3 : PySem.W.keepIn K (.ref f3) = true)
    (a4 : PySem.W.nsIn K mainGlobals "_law_stream_right" = some (some (.ref f4))) (l4 : K.lookup f4 = some ⟨oc4, od4, .func (PySem.W.fnOf "_law_stream_right" "_law_stream_right" (defArgs s__law_stream_right) (defBody s__law_stream_right) (defScope s__law_stream_right) .none kV4 dc4 pm4 an4 cd4 ct4), sl4⟩) (c4 : PySem.W.codeIn K cd4 "_law_stream_right" = true) (k4 : PySem.W.keepIn K (.ref f4) = true)
    (a5 : PySem.W.nsIn K mainGlobals "lean" = some (some (.ref f5))) (l5 : K.lookup f5 = some ⟨oc5, od5, .func (PySem.W.fnOf "lean" "lean" (defArgs s_lean) (defBody s_lean) (defScope s_lean) .none kV5 dc5 pm5 an5 cd5 ct5), sl5⟩) (c5 : PySem.W.codeIn K cd5 "lean" = true) (k5 : PySem.W.keepIn K (.ref f5) = true)
    (a6 : PySem.W.nsIn K mainGlobals "needless" = some (some (.ref f6))) (l6 : K.lookup f6 = some ⟨oc6, od6, .func (PySem.W.fnOf "needless" "needless" (defArgs s_needless) (defBody s_needless) (defScope s_needless) .none kV6 dc6 pm6 an6 cd6 ct6), sl6⟩) (c6 : PySem.W.codeIn K cd6 "needless" = true) (k6 : PySem.W.keepIn K (.ref f6) = true)
    (a7 : PySem.W.nsIn K mainGlobals "alike" = some (some (.ref f7))) (l7 : K.lookup f7 = some ⟨oc7, od7, .func (PySem.W.fnOf "alike" "alike" (defArgs s_alike) (defBody s_alike) (defScope s_alike) .none kV7 dc7 pm7 an7 cd7 ct7), sl7⟩) (c7 : PySem.W.codeIn K cd7 "alike" = true) (k7 : PySem.W.keepIn K (.ref f7) = true)
    (a8 : PySem.W.nsIn K mainGlobals "_law_draw" = some (some (.ref f8))) (l8 : K.lookup f8 = some ⟨oc8, od8, .func (PySem.W.fnOf "_law_draw" "_law_draw" (defArgs s__law_draw) (defBody s__law_draw) (defScope s__law_draw) .none kV8 dc8 pm8 an8 cd8 ct8), sl8⟩) (c8 : PySem.W.codeIn K cd8 "_law_draw" = true) (k8 : PySem.W.keepIn K (.ref f8) = true)
    (a9 : PySem.W.nsIn K mainGlobals "_law_value" = some (some (.ref f9))) (l9 : K.lookup f9 = some ⟨oc9, od9, .func (PySem.W.fnOf "_law_value" "_law_value" (defArgs s__law_value) (defBody s__law_value) (defScope s__law_value) .none kV9 dc9 pm9 an9 cd9 ct9), sl9⟩) (c9 : PySem.W.codeIn K cd9 "_law_value" = true) (k9 : PySem.W.keepIn K (.ref f9) = true)
    (a10 : PySem.W.nsIn K mainGlobals "_law_needless" = some (some (.ref f10))) (l10 : K.lookup f10 = some ⟨oc10, od10, .func (PySem.W.fnOf "_law_needless" "_law_needless" (defArgs s__law_needless) (defBody s__law_needless) (defScope s__law_needless) .none kV10 dc10 pm10 an10 cd10 ct10), sl10⟩) (c10 : PySem.W.codeIn K cd10 "_law_needless" = true) (k10 : PySem.W.keepIn K (.ref f10) = true)
    (a11 : PySem.W.nsIn K mainGlobals "need_stream" = some (some (.ref f11))) (l11 : K.lookup f11 = some ⟨oc11, od11, .func (PySem.W.fnOf "need_stream" "need_stream" (defArgs s_need_stream) (defBody s_need_stream) (defScope s_need_stream) .none kV11 dc11 pm11 an11 cd11 ct11), sl11⟩) (c11 : PySem.W.codeIn K cd11 "need_stream" = true) (k11 : PySem.W.keepIn K (.ref f11) = true)
    (a12 : PySem.W.nsIn K mainGlobals "forms_by_signs" = some (some (.ref f12))) (l12 : K.lookup f12 = some ⟨oc12, od12, .func (PySem.W.fnOf "forms_by_signs" "forms_by_signs" (defArgs s_forms_by_signs) (defBody s_forms_by_signs) (defScope s_forms_by_signs) .none kV12 dc12 pm12 an12 cd12 ct12), sl12⟩) (c12 : PySem.W.codeIn K cd12 "forms_by_signs" = true) (k12 : PySem.W.keepIn K (.ref f12) = true)
    (a13 : PySem.W.nsIn K mainGlobals "is_sign" = some (some (.ref f13))) (l13 : K.lookup f13 = some ⟨oc13, od13, .func (PySem.W.fnOf "is_sign" "is_sign" (defArgs s_is_sign) (defBody s_is_sign) (defScope s_is_sign) .none kV13 dc13 pm13 an13 cd13 ct13), sl13⟩) (c13 : PySem.W.codeIn K cd13 "is_sign" = true) (k13 : PySem.W.keepIn K (.ref f13) = true)
    (a14 : PySem.W.nsIn K mainGlobals "needless_in" = some (some (.ref f14))) (l14 : K.lookup f14 = some ⟨oc14, od14, .func (PySem.W.fnOf "needless_in" "needless_in" (defArgs s_needless_in) (defBody s_needless_in) (defScope s_needless_in) .none kV14 dc14 pm14 an14 cd14 ct14), sl14⟩) (c14 : PySem.W.codeIn K cd14 "needless_in" = true) (k14 : PySem.W.keepIn K (.ref f14) = true)
    (a15 : PySem.W.nsIn K mainGlobals "need_both" = some (some (.ref f15))) (l15 : K.lookup f15 = some ⟨oc15, od15, .func (PySem.W.fnOf "need_both" "need_both" (defArgs s_need_both) (defBody s_need_both) (defScope s_need_both) .none kV15 dc15 pm15 an15 cd15 ct15), sl15⟩) (c15 : PySem.W.codeIn K cd15 "need_both" = true) (k15 : PySem.W.keepIn K (.ref f15) = true)
    (a16 : PySem.W.nsIn K mainGlobals "_law_mixed" = some (some (.ref f16))) (l16 : K.lookup f16 = some ⟨oc16, od16, .func (PySem.W.fnOf "_law_mixed" "_law_mixed" (defArgs s__law_mixed) (defBody s__law_mixed) (defScope s__law_mixed) .none kV16 dc16 pm16 an16 cd16 ct16), sl16⟩) (c16 : PySem.W.codeIn K cd16 "_law_mixed" = true) (k16 : PySem.W.keepIn K (.ref f16) = true)
    (a17 : PySem.W.nsIn K mainGlobals "_law_apart" = some (some (.ref f17))) (l17 : K.lookup f17 = some ⟨oc17, od17, .func (PySem.W.fnOf "_law_apart" "_law_apart" (defArgs s__law_apart) (defBody s__law_apart) (defScope s__law_apart) .none kV17 dc17 pm17 an17 cd17 ct17), sl17⟩) (c17 : PySem.W.codeIn K cd17 "_law_apart" = true) (k17 : PySem.W.keepIn K (.ref f17) = true)
    (a18 : PySem.W.nsIn K mainGlobals "codes_in" = some (some (.ref f18))) (l18 : K.lookup f18 = some ⟨oc18, od18, .func (PySem.W.fnOf "codes_in" "codes_in" (defArgs s_codes_in) (defBody s_codes_in) (defScope s_codes_in) .none kV18 dc18 pm18 an18 cd18 ct18), sl18⟩) (c18 : PySem.W.codeIn K cd18 "codes_in" = true) (k18 : PySem.W.keepIn K (.ref f18) = true)
    (a19 : PySem.W.nsIn K mainGlobals "need_book" = some (some (.ref f19))) (l19 : K.lookup f19 = some ⟨oc19, od19, .func (PySem.W.fnOf "need_book" "need_book" (defArgs s_need_book) (defBody s_need_book) (defScope s_need_book) .none kV19 dc19 pm19 an19 cd19 ct19), sl19⟩) (c19 : PySem.W.codeIn K cd19 "need_book" = true) (k19 : PySem.W.keepIn K (.ref f19) = true)
    (a20 : PySem.W.nsIn K mainGlobals "form_in" = some (some (.ref f20))) (l20 : K.lookup f20 = some ⟨oc20, od20, .func (PySem.W.fnOf "form_in" "form_in" (defArgs s_form_in) (defBody s_form_in) (defScope s_form_in) .none kV20 dc20 pm20 an20 cd20 ct20), sl20⟩) (c20 : PySem.W.codeIn K cd20 "form_in" = true) (k20 : PySem.W.keepIn K (.ref f20) = true)
    (a21 : PySem.W.nsIn K mainGlobals "chains_by_signs" = some (some (.ref f21))) (l21 : K.lookup f21 = some ⟨oc21, od21, .func (PySem.W.fnOf "chains_by_signs" "chains_by_signs" (defArgs s_chains_by_signs) (defBody s_chains_by_signs) (defScope s_chains_by_signs) .none kV21 dc21 pm21 an21 cd21 ct21), sl21⟩) (c21 : PySem.W.codeIn K cd21 "chains_by_signs" = true) (k21 : PySem.W.keepIn K (.ref f21) = true)
    (a22 : PySem.W.nsIn K mainGlobals "signs_of" = some (some (.ref f22))) (l22 : K.lookup f22 = some ⟨oc22, od22, .func (PySem.W.fnOf "signs_of" "signs_of" (defArgs s_signs_of) (defBody s_signs_of) (defScope s_signs_of) .none kV22 dc22 pm22 an22 cd22 ct22), sl22⟩) (c22 : PySem.W.codeIn K cd22 "signs_of" = true) (k22 : PySem.W.keepIn K (.ref f22) = true)
    (a23 : PySem.W.nsIn K mainGlobals "_law_sets" = some (some (.ref f23))) (l23 : K.lookup f23 = some ⟨oc23, od23, .func (PySem.W.fnOf "_law_sets" "_law_sets" (defArgs s__law_sets) (defBody s__law_sets) (defScope s__law_sets) .none kV23 dc23 pm23 an23 cd23 ct23), sl23⟩) (c23 : PySem.W.codeIn K cd23 "_law_sets" = true) (k23 : PySem.W.keepIn K (.ref f23) = true)
    (a24 : PySem.W.nsIn K mainGlobals "_law_kinds" = some (some (.ref f24))) (l24 : K.lookup f24 = some ⟨oc24, od24, .func (PySem.W.fnOf "_law_kinds" "_law_kinds" (defArgs s__law_kinds) (defBody s__law_kinds) (defScope s__law_kinds) .none kV24 dc24 pm24 an24 cd24 ct24), sl24⟩) (c24 : PySem.W.codeIn K cd24 "_law_kinds" = true) (k24 : PySem.W.keepIn K (.ref f24) = true)
    (a25 : PySem.W.nsIn K mainGlobals "_law_entries" = some (some (.ref f25))) (l25 : K.lookup f25 = some ⟨oc25, od25, .func (PySem.W.fnOf "_law_entries" "_law_entries" (defArgs s__law_entries) (defBody s__law_entries) (defScope s__law_entries) .none kV25 dc25 pm25 an25 cd25 ct25), sl25⟩) (c25 : PySem.W.codeIn K cd25 "_law_entries" = true) (k25 : PySem.W.keepIn K (.ref f25) = true)
    (a26 : PySem.W.nsIn K mainGlobals "_law_seen" = some (some (.ref f26))) (l26 : K.lookup f26 = some ⟨oc26, od26, .func (PySem.W.fnOf "_law_seen" "_law_seen" (defArgs s__law_seen) (defBody s__law_seen) (defScope s__law_seen) .none kV26 dc26 pm26 an26 cd26 ct26), sl26⟩) (c26 : PySem.W.codeIn K cd26 "_law_seen" = true) (k26 : PySem.W.keepIn K (.ref f26) = true)
    (a27 : PySem.W.nsIn K mainGlobals "need_codes" = some (some (.ref f27))) (l27 : K.lookup f27 = some ⟨oc27, od27, .func (PySem.W.fnOf "need_codes" "need_codes" (defArgs s_need_codes) (defBody s_need_codes) (defScope s_need_codes) .none kV27 dc27 pm27 an27 cd27 ct27), sl27⟩) (c27 : PySem.W.codeIn K cd27 "need_codes" = true) (k27 : PySem.W.keepIn K (.ref f27) = true)
    (a28 : PySem.W.nsIn K mainGlobals "are_marks" = some (some (.ref f28))) (l28 : K.lookup f28 = some ⟨oc28, od28, .func (PySem.W.fnOf "are_marks" "are_marks" (defArgs s_are_marks) (defBody s_are_marks) (defScope s_are_marks) .none kV28 dc28 pm28 an28 cd28 ct28), sl28⟩) (c28 : PySem.W.codeIn K cd28 "are_marks" = true) (k28 : PySem.W.keepIn K (.ref f28) = true)
    (a29 : PySem.W.nsIn K mainGlobals "over" = some (some (.ref f29))) (l29 : K.lookup f29 = some ⟨oc29, od29, .func (PySem.W.fnOf "over" "over" (defArgs s_over) (defBody s_over) (defScope s_over) .none kV29 dc29 pm29 an29 cd29 ct29), sl29⟩) (c29 : PySem.W.codeIn K cd29 "over" = true) (k29 : PySem.W.keepIn K (.ref f29) = true)
    (a30 : PySem.W.nsIn K mainGlobals "shown_at" = some (some (.ref f30))) (l30 : K.lookup f30 = some ⟨oc30, od30, .func (PySem.W.fnOf "shown_at" "shown_at" (defArgs s_shown_at) (defBody s_shown_at) (defScope s_shown_at) .none kV30 dc30 pm30 an30 cd30 ct30), sl30⟩) (c30 : PySem.W.codeIn K cd30 "shown_at" = true) (k30 : PySem.W.keepIn K (.ref f30) = true)
    (a31 : PySem.W.nsIn K mainGlobals "_law_entry" = some (some (.ref f31))) (l31 : K.lookup f31 = some ⟨oc31, od31, .func (PySem.W.fnOf "_law_entry" "_law_entry" (defArgs s__law_entry) (defBody s__law_entry) (defScope s__law_entry) .none kV31 dc31 pm31 an31 cd31 ct31), sl31⟩) (c31 : PySem.W.codeIn K cd31 "_law_entry" = true) (k31 : PySem.W.keepIn K (.ref f31) = true)
    (a32 : PySem.W.nsIn K mainGlobals "_law_codes" = some (some (.ref f32))) (l32 : K.lookup f32 = some ⟨oc32, od32, .func (PySem.W.fnOf "_law_codes" "_law_codes" (defArgs s__law_codes) (defBody s__law_codes) (defScope s__law_codes) .none kV32 dc32 pm32 an32 cd32 ct32), sl32⟩) (c32 : PySem.W.codeIn K cd32 "_law_codes" = true) (k32 : PySem.W.keepIn K (.ref f32) = true)
    (a33 : PySem.W.nsIn K mainGlobals "is_code" = some (some (.ref f33))) (l33 : K.lookup f33 = some ⟨oc33, od33, .func (PySem.W.fnOf "is_code" "is_code" (defArgs s_is_code) (defBody s_is_code) (defScope s_is_code) .none kV33 dc33 pm33 an33 cd33 ct33), sl33⟩) (c33 : PySem.W.codeIn K cd33 "is_code" = true) (k33 : PySem.W.keepIn K (.ref f33) = true)
    (a34 : PySem.W.nsIn K mainGlobals "are_rising" = some (some (.ref f34))) (l34 : K.lookup f34 = some ⟨oc34, od34, .func (PySem.W.fnOf "are_rising" "are_rising" (defArgs s_are_rising) (defBody s_are_rising) (defScope s_are_rising) .none kV34 dc34 pm34 an34 cd34 ct34), sl34⟩) (c34 : PySem.W.codeIn K cd34 "are_rising" = true) (k34 : PySem.W.keepIn K (.ref f34) = true)
    (a35 : PySem.W.nsIn K mainGlobals "is_mark" = some (some (.ref f35))) (l35 : K.lookup f35 = some ⟨oc35, od35, .func (PySem.W.fnOf "is_mark" "is_mark" (defArgs s_is_mark) (defBody s_is_mark) (defScope s_is_mark) .none kV35 dc35 pm35 an35 cd35 ct35), sl35⟩) (c35 : PySem.W.codeIn K cd35 "is_mark" = true) (k35 : PySem.W.keepIn K (.ref f35) = true)
    (a36 : PySem.W.nsIn K mainGlobals "is_word" = some (some (.ref f36))) (l36 : K.lookup f36 = some ⟨oc36, od36, .func (PySem.W.fnOf "is_word" "is_word" (defArgs s_is_word) (defBody s_is_word) (defScope s_is_word) .none kV36 dc36 pm36 an36 cd36 ct36), sl36⟩) (c36 : PySem.W.codeIn K cd36 "is_word" = true) (k36 : PySem.W.keepIn K (.ref f36) = true)
    (a37 : PySem.W.nsIn K mainGlobals "are_gives" = some (some (.ref f37))) (l37 : K.lookup f37 = some ⟨oc37, od37, .func (PySem.W.fnOf "are_gives" "are_gives" (defArgs s_are_gives) (defBody s_are_gives) (defScope s_are_gives) .none kV37 dc37 pm37 an37 cd37 ct37), sl37⟩) (c37 : PySem.W.codeIn K cd37 "are_gives" = true) (k37 : PySem.W.keepIn K (.ref f37) = true)
    (a38 : PySem.W.nsIn K mainGlobals "is_of" = some (some (.ref f38))) (l38 : K.lookup f38 = some ⟨oc38, od38, .func (PySem.W.fnOf "is_of" "is_of" (defArgs s_is_of) (defBody s_is_of) (defScope s_is_of) .none kV38 dc38 pm38 an38 cd38 ct38), sl38⟩) (c38 : PySem.W.codeIn K cd38 "is_of" = true) (k38 : PySem.W.keepIn K (.ref f38) = true)
    (z_all : PySem.W.nsIn K mainGlobals "all" = some none)
    (z_dict : PySem.W.nsIn K mainGlobals "dict" = some none)
    (z_enumerate : PySem.W.nsIn K mainGlobals "enumerate" = some none)
    (z_int : PySem.W.nsIn K mainGlobals "int" = some none)
    (z_isinstance : PySem.W.nsIn K mainGlobals "isinstance" = some none)
    (z_len : PySem.W.nsIn K mainGlobals "len" = some none)
    (z_list : PySem.W.nsIn K mainGlobals "list" = some none)
    (z_range : PySem.W.nsIn K mainGlobals "range" = some none)
    (z_sorted : PySem.W.nsIn K mainGlobals "sorted" = some none)
    (z_str : PySem.W.nsIn K mainGlobals "str" = some none)
    (z_tuple : PySem.W.nsIn K mainGlobals "tuple" = some none)
    (c_BLANK : PySem.W.nsIn K mainGlobals "BLANK" = some (some (.str " " t_BLANK)))
    (c_FIGURES : PySem.W.nsIn K mainGlobals "FIGURES" = some (some (.str "0123456789" t_FIGURES)))
    (c_LETTERS : PySem.W.nsIn K mainGlobals "LETTERS" = some (some (.str "abcdefghijklmnopqrstuvwxyz" t_LETTERS)))
    (c_LINE_END : PySem.W.nsIn K mainGlobals "LINE_END" = some (some (.str "\n" t_LINE_END)))
    (c_MOST_ASPECTS : PySem.W.nsIn K mainGlobals "MOST_ASPECTS" = some (some (.int 6 t_MOST_ASPECTS)))
    (c_MOST_CODES : PySem.W.nsIn K mainGlobals "MOST_CODES" = some (some (.int 16 t_MOST_CODES)))
    (c_MOST_ITEMS : PySem.W.nsIn K mainGlobals "MOST_ITEMS" = some (some (.int 200 t_MOST_ITEMS)))
    (c_MOST_KINDS : PySem.W.nsIn K mainGlobals "MOST_KINDS" = some (some (.int 6 t_MOST_KINDS)))
    (c_MOST_SIGNS : PySem.W.nsIn K mainGlobals "MOST_SIGNS" = some (some (.int 8 t_MOST_SIGNS)))
    (c_PART : PySem.W.nsIn K mainGlobals "PART" = some (some (.str ";" t_PART))) :
    ∃ fd : FuncData, (∀ (s : Shared) (u : Value), BindsTo s fd ⟨[u], []⟩ [("script", u)]) ∧ ∀ base : Heap, K.In base → base.Ns mainGlobals mg → FnG P w K mg base 11 fa fd ["script"] (SpG K (call T 300 11) "law" 1) := by
  have U : Us K mg := ⟨def_mk X G a0 l0 c0 k0 fun _ _ _ _ _ _ us hl => match us, hl with | [_], _ => rfl,
    def_mk X G a1 l1 c1 k1 fun _ _ _ _ _ _ us hl => match us, hl with | [_], _ => rfl,
    def_mk X G a2 l2 c2 k2 fun _ _ _ _ _ _ us hl => match us, hl with | [_, _], _ => rfl,
    def_mk X G a3 l3 c3 k3 fun _ _ _ _ _ _ us hl => match us, hl with | [_, _, _], _ => rfl,
    def_mk X G a4 l4 c4 k4 fun _ _ _ _ _ _ us hl => match us, hl with | [_, _], _ => rfl,
    def_mk X G a5 l5 c5 k5 fun _ _ _ _ _ _ us hl => match us, hl with | [_, _], _ => rfl,
    def_mk X G a6 l6 c6 k6 fun _ _ _ _ _ _ us hl => match us, hl with | [_, _], _ => rfl,
    def_mk X G a7 l7 c7 k7 fun _ _ _ _ _ _ us hl => match us, hl with | [_, _, _], _ => rfl,
    def_mk X G a8 l8 c8 k8 fun _ _ _ _ _ _ us hl => match us, hl with | [_, _], _ => rfl,
    def_mk X G a9 l9 c9 k9 fun _ _ _ _ _ _ us hl => match us, hl with | [_], _ => rfl,
    def_mk X G a10 l10 c10 k10 fun _ _ _ _ _ _ us hl => match us, hl with | [_, _], _ => rfl,
    def_mk X G a11 l11 c11 k11 fun _ _ _ _ _ _ us hl => match us, hl with | [_, _], _ => rfl,
    def_mk X G a12 l12 c12 k12 fun _ _ _ _ _ _ us hl => match us, hl with | [_, _], _ => rfl,
    def_mk X G a13 l13 c13 k13 fun _ _ _ _ _ _ us hl => match us, hl with | [_], _ => rfl,
    def_mk X G a14 l14 c14 k14 fun _ _ _ _ _ _ us hl => match us, hl with | [_, _], _ => rfl,
    def_mk X G a15 l15 c15 k15 fun _ _ _ _ _ _ us hl => match us, hl with | [_, _, _], _ => rfl,
    def_mk X G a16 l16 c16 k16 fun _ _ _ _ _ _ us hl => match us, hl with | [_, _], _ => rfl,
    def_mk X G a17 l17 c17 k17 fun _ _ _ _ _ _ us hl => match us, hl with | [_, _, _], _ => rfl,
    def_mk X G a18 l18 c18 k18 fun _ _ _ _ _ _ us hl => match us, hl with | [_], _ => rfl,
    def_mk X G a19 l19 c19 k19 fun _ _ _ _ _ _ us hl => match us, hl with | [_], _ => rfl,
    def_mk X G a20 l20 c20 k20 fun _ _ _ _ _ _ us hl => match us, hl with | [_], _ => rfl,
    def_mk X G a21 l21 c21 k21 fun _ _ _ _ _ _ us hl => match us, hl with | [_, _], _ => rfl,
    def_mk X G a22 l22 c22 k22 fun _ _ _ _ _ _ us hl => match us, hl with | [_, _], _ => rfl,
    def_mk X G a23 l23 c23 k23 fun _ _ _ _ _ _ us hl => match us, hl with | [_], _ => rfl,
    def_mk X G a24 l24 c24 k24 fun _ _ _ _ _ _ us hl => match us, hl with | [_], _ => rfl,
    def_mk X G a25 l25 c25 k25 fun _ _ _ _ _ _ us hl => match us, hl with | [_], _ => rfl,
    def_mk X G a26 l26 c26 k26 fun _ _ _ _ _ _ us hl => match us, hl with | [_, _, _, _], _ => rfl,
    def_mk X G a27 l27 c27 k27 fun _ _ _ _ _ _ us hl => match us, hl with | [_, _], _ => rfl,
    def_mk X G a28 l28 c28 k28 fun _ _ _ _ _ _ us hl => match us, hl with | [_], _ => rfl,
    def_mk X G a29 l29 c29 k29 fun _ _ _ _ _ _ us hl => match us, hl with | [_, _], _ => rfl,
    def_mk X G a30 l30 c30 k30 fun _ _ _ _ _ _ us hl => match us, hl with | [_, _], _ => rfl,
    def_mk X G a31 l31 c31 k31 fun _ _ _ _ _ _ us hl => match us, hl with | [_, _], _ => rfl,
    def_mk X G a32 l32 c32 k32 fun _ _ _ _ _ _ us hl => match us, hl with | [_], _ => rfl,
    def_mk X G a33 l33 c33 k33 fun _ _ _ _ _ _ us hl => match us, hl with | [_], _ => rfl,
    def_mk X G a34 l34 c34 k34 fun _ _ _ _ _ _ us hl => match us, hl with | [_], _ => rfl,
    def_mk X G a35 l35 c35 k35 fun _ _ _ _ _ _ us hl => match us, hl with | [_], _ => rfl,
    def_mk X G a36 l36 c36 k36 fun _ _ _ _ _ _ us hl => match us, hl with | [_], _ => rfl,
    def_mk X G a37 l37 c37 k37 fun _ _ _ _ _ _ us hl => match us, hl with | [_], _ => rfl,
    def_mk X G a38 l38 c38 k38 fun _ _ _ _ _ _ us hl => match us, hl with | [_, _], _ => rfl⟩
  have M : Ms mg := ⟨PySem.W.mg_none_of X G z_all, PySem.W.mg_none_of X G z_dict, PySem.W.mg_none_of X G z_enumerate, PySem.W.mg_none_of X G z_int, PySem.W.mg_none_of X G z_isinstance, PySem.W.mg_none_of X G z_len, PySem.W.mg_none_of X G z_list, PySem.W.mg_none_of X G z_range, PySem.W.mg_none_of X G z_sorted, PySem.W.mg_none_of X G z_str, PySem.W.mg_none_of X G z_tuple, strG_mk X G c_BLANK, strG_mk X G c_FIGURES, strG_mk X G c_LETTERS, strG_mk X G c_LINE_END, intG_mk X G c_MOST_ASPECTS, intG_mk X G c_MOST_CODES, intG_mk X G c_MOST_ITEMS, intG_mk X G c_MOST_KINDS, intG_mk X G c_MOST_SIGNS, strG_mk X G c_PART⟩
  exact law_mk U.d_law hfa rfl sc_law (fun _ _ _ _ _ _ _ => rfl) fun base _ _ _ _ _ _ _ hr hg => b_law (tab U M 10) M hr hg
end Lk11
open PySem PySem.W PyProof.Rows
set_option maxRecDepth 100000 in
set_option maxHeartbeats 0 in
theorem PySem.Challenge.cw_stylefall_k11_whole_needless_and_lean_holds : PySem.Challenge.rw_stylefall_k11_whole_needless_and_lean.Holds := by
  w_on; o_law; k_head; (case hw => w_witness2)
  k_fill
  refine Sf.walkG (l := PySem.Challenge.rw_stylefall_k11_whole_needless_and_lean) (n := 63) (k := 11) (x := "script") (G := Sf.call Lk11.T 300 11) rfl (by decide) rfl ⟨rfl, by decide, by decide⟩ (fun w h Y => PySem.W.kIn_of Y) ?ok (fun ns hl => Lk11.law_true ns hl)
  case ok =>
    intro w mg fa h KX G hmg
    refine' Lk11.all_mk KX G hmg ?a0 ?l0 ?c0 ?k0 ?a1 ?l1 ?c1 ?k1 ?a2 ?l2 ?c2 ?k2 ?a3 ?l3 ?c3 ?k3 ?a4 ?l4 ?c4 ?k4 ?a5 ?l5 ?c5 ?k5 ?a6 ?l6 ?c6 ?k6 ?a7 ?l7 ?c7 ?k7 ?a8 ?l8 ?c8 ?k8 ?a9 ?l9 ?c9 ?k9 ?a10 ?l10 ?c10 ?k10 ?a11 ?l11 ?c11 ?k11 ?a12 ?l12 ?c12 ?k12 ?a13 ?l13 ?c13 ?k13 ?a14 ?l14 ?c14 ?k14 ?a15 ?l15 ?c15 ?k15 ?a16 ?l16 ?c16 ?k16 ?a17 ?l17 ?c17 ?k17 ?a18 ?l18 ?c18 ?k18 ?a19 ?l19 ?c19 ?k19 ?a20 ?l20 ?c20 ?k20 ?a21 ?l21 ?c21 ?k21 ?a22 ?l22 ?c22 ?k22 ?a23 ?l23 ?c23 ?k23 ?a24 ?l24 ?c24 ?k24 ?a25 ?l25 ?c25 ?k25 ?a26 ?l26 ?c26 ?k26 ?a27 ?l27 ?c27 ?k27 ?a28 ?l28 ?c28 ?k28 ?a29 ?l29 ?c29 ?k29 ?a30 ?l30 ?c30 ?k30 ?a31 ?l31 ?c31 ?k31 ?a32 ?l32 ?c32 ?k32 ?a33 ?l33 ?c33 ?k33 ?a34 ?l34 ?c34 ?k34 ?a35 ?l35 ?c35 ?k35 ?a36 ?l36 ?c36 ?k36 ?a37 ?l37 ?c37 ?k37 ?a38 ?l38 ?c38 ?k38 ?z_all ?z_dict ?z_enumerate ?z_int ?z_isinstance ?z_len ?z_list ?z_range ?z_sorted ?z_str ?z_tuple ?c_BLANK ?c_FIGURES ?c_LETTERS ?c_LINE_END ?c_MOST_ASPECTS ?c_MOST_CODES ?c_MOST_ITEMS ?c_MOST_KINDS ?c_MOST_SIGNS ?c_PART
    (case a0 => k_is); (case l0 => k_is); (case c0 => k_is); (case k0 => k_is); (case a1 => k_is); (case l1 => k_is); (case c1 => k_is); (case k1 => k_is); (case a2 => k_is); (case l2 => k_is); (case c2 => k_is); (case k2 => k_is); (case a3 => k_is); (case l3 => k_is); (case c3 => k_is); (case k3 => k_is); (case a4 => k_is); (case l4 => k_is); (case c4 => k_is); (case k4 => k_is); (case a5 => k_is); (case l5 => k_is); (case c5 => k_is); (case k5 => k_is); (case a6 => k_is); (case l6 => k_is); (case c6 => k_is); (case k6 => k_is); (case a7 => k_is); (case l7 => k_is); (case c7 => k_is); (case k7 => k_is); (case a8 => k_is); (case l8 => k_is); (case c8 => k_is); (case k8 => k_is); (case a9 => k_is); (case l9 => k_is); (case c9 => k_is); (case k9 => k_is); (case a10 => k_is); (case l10 => k_is); (case c10 => k_is); (case k10 => k_is); (case a11 => k_is); (case l11 => k_is); (case c11 => k_is); (case k11 => k_is); (case a12 => k_is); (case l12 => k_is); (case c12 => k_is); (case k12 => k_is); (case a13 => k_is); (case l13 => k_is); (case c13 => k_is); (case k13 => k_is); (case a14 => k_is); (case l14 => k_is); (case c14 => k_is); (case k14 => k_is); (case a15 => k_is); (case l15 => k_is); (case c15 => k_is); (case k15 => k_is); (case a16 => k_is); (case l16 => k_is); (case c16 => k_is); (case k16 => k_is); (case a17 => k_is); (case l17 => k_is); (case c17 => k_is); (case k17 => k_is); (case a18 => k_is); (case l18 => k_is); (case c18 => k_is); (case k18 => k_is); (case a19 => k_is); (case l19 => k_is); (case c19 => k_is); (case k19 => k_is); (case a20 => k_is); (case l20 => k_is); (case c20 => k_is); (case k20 => k_is); (case a21 => k_is); (case l21 => k_is); (case c21 => k_is); (case k21 => k_is); (case a22 => k_is); (case l22 => k_is); (case c22 => k_is); (case k22 => k_is); (case a23 => k_is); (case l23 => k_is); (case c23 => k_is); (case k23 => k_is); (case a24 => k_is); (case l24 => k_is); (case c24 => k_is); (case k24 => k_is); (case a25 => k_is); (case l25 => k_is); (case c25 => k_is); (case k25 => k_is); (case a26 => k_is); (case l26 => k_is); (case c26 => k_is); (case k26 => k_is); (case a27 => k_is); (case l27 => k_is); (case c27 => k_is); (case k27 => k_is); (case a28 => k_is); (case l28 => k_is); (case c28 => k_is); (case k28 => k_is); (case a29 => k_is); (case l29 => k_is); (case c29 => k_is); (case k29 => k_is); (case a30 => k_is); (case l30 => k_is); (case c30 => k_is); (case k30 => k_is); (case a31 => k_is); (case l31 => k_is); (case c31 => k_is); (case k31 => k_is); (case a32 => k_is); (case l32 => k_is); (case c32 => k_is); (case k32 => k_is); (case a33 => k_is); (case l33 => k_is); (case c33 => k_is); (case k33 => k_is); (case a34 => k_is); (case l34 => k_is); (case c34 => k_is); (case k34 => k_is); (case a35 => k_is); (case l35 => k_is); (case c35 => k_is); (case k35 => k_is); (case a36 => k_is); (case l36 => k_is); (case c36 => k_is); (case k36 => k_is); (case a37 => k_is); (case l37 => k_is); (case c37 => k_is); (case k37 => k_is); (case a38 => k_is); (case l38 => k_is); (case c38 => k_is); (case k38 => k_is); (case z_all => k_is); (case z_dict => k_is); (case z_enumerate => k_is); (case z_int => k_is); (case z_isinstance => k_is); (case z_len => k_is); (case z_list => k_is); (case z_range => k_is); (case z_sorted => k_is); (case z_str => k_is); (case z_tuple => k_is); (case c_BLANK => k_is); (case c_FIGURES => k_is); (case c_LETTERS => k_is); (case c_LINE_END => k_is); (case c_MOST_ASPECTS => k_is); (case c_MOST_CODES => k_is); (case c_MOST_ITEMS => k_is); (case c_MOST_KINDS => k_is); (case c_MOST_SIGNS => k_is); (case c_PART => k_is)
