import PyProof.Rows.All
import HandS.ForMost
import HandS.TupAny
import HandS.TupMul
import HandS.Wide
import HandS.Exc
import HandS.ExcOwn
import HandS.CallSlots
import HandS.Flow
import HandS.Gcd
import HandS.Zip
import HandS.IsInst
import HandS.Defaults
import HandS.ExcIs
import HandS.ExcField
import HandS.ExcInit
import HandS.More
import PyProof.ExcBaseAll.ValueError
import PyProof.EnumMake
import HandS.Iter
import KE.GoesZip
import KE.GoesMore
import KE.GoesEnum
import HandS.CallRecv
import HandS.TryOnly
import HandS.Ends
import HandS.EndBits
import HandS.HeadEnd
import HandS.Head0
import HandS.Head1
import HandS.Head2
import HandS.Head3
import HandS.Codes
import HandS.HeadHook1
import HandS.HeadHook2
import HandS.HeadHook3
import HandS.HeadHook4
import PySem.Challenge.RW_kinkatlas_k40_pieces
set_option Elab.async false
set_option linter.all false
set_option maxRecDepth 100000
set_option maxHeartbeats 0
/-! PVA: deep values, position-free code, the pure evaluator. -/
namespace PV
open PySem

/-- deep values: a list, an object is a place n of the deep heap -/
inductive D where
  | non | bl (b : Bool) | int (i : Int) | str (s : Str) | tup (xs : List D) | fl (xs : List D) | ref (n : Nat)

inductive Cell where
  | lst (xs : List D) | obj (C : Nat) (fs : List (Str × D)) | dct (kvs : List (L2.Key × D))
abbrev Hd := List Cell
abbrev Sl := List (Option D)
structure Exn where
  cls : Nat
  fs : List (Str × D)
inductive Out (α : Type) where
  | ok (a : α) (h : Hd) | ex (e : Exn) (h : Hd) | no
def Out.bind {α β : Type} : Out α → (α → Hd → Out β) → Out β
  | .ok a h, f => f a h
  | .ex e h, _ => .ex e h
  | .no, _ => .no

/-! ### equality of deep values -/
mutual
def D.beq : D → D → Bool
  | .non, .non => true
  | .bl a, .bl b => a == b
  | .int a, .int b => a == b
  | .str a, .str b => a == b
  | .ref a, .ref b => a == b
  | .tup a, .tup b => D.beqs a b
  | .fl a, .fl b => D.beqs a b
  | _, _ => false
def D.beqs : List D → List D → Bool
  | [], [] => true
  | x :: xs, y :: ys => D.beq x y && D.beqs xs ys
  | _, _ => false
end
mutual
theorem D.beq_refl : ∀ d : D, D.beq d d = true
  | .non => by simp [D.beq]
  | .bl _ => by simp [D.beq]
  | .int _ => by simp [D.beq]
  | .str _ => by simp [D.beq]
  | .ref _ => by simp [D.beq]
  | .tup xs => by simp only [D.beq]; exact D.beqs_refl xs
  | .fl xs => by simp only [D.beq]; exact D.beqs_refl xs
theorem D.beqs_refl : ∀ xs : List D, D.beqs xs xs = true
  | [] => by simp [D.beqs]
  | x :: xs => by simp only [D.beqs, D.beq_refl x, D.beqs_refl xs, Bool.and_self]
end
mutual
theorem D.eq_of_beq : ∀ a b : D, D.beq a b = true → a = b
  | .non, b, h => by cases b <;> simp [D.beq] at h <;> rfl
  | .bl _, b, h => by cases b <;> simp [D.beq] at h; rw [h]
  | .int _, b, h => by cases b <;> simp [D.beq] at h; rw [h]
  | .str _, b, h => by cases b <;> simp [D.beq] at h; rw [h]
  | .ref _, b, h => by cases b <;> simp [D.beq] at h; rw [h]
  | .tup xs, b, h => by
    cases b with
    | tup ys => simp only [D.beq] at h; rw [D.eq_of_beqs xs ys h]
    | _ => simp [D.beq] at h
  | .fl xs, b, h => by
    cases b with
    | fl ys => simp only [D.beq] at h; rw [D.eq_of_beqs xs ys h]
    | _ => simp [D.beq] at h
theorem D.eq_of_beqs : ∀ a b : List D, D.beqs a b = true → a = b
  | [], b, h => by cases b <;> simp [D.beqs] at h <;> rfl
  | x :: xs, b, h => by
    cases b with
    | nil => simp [D.beqs] at h
    | cons y ys =>
      simp only [D.beqs, Bool.and_eq_true] at h
      rw [D.eq_of_beq x y h.1, D.eq_of_beqs xs ys h.2]
end
/-! every place it names is below n -/
mutual
def D.lt (n : Nat) : D → Bool
  | .ref k => decide (k < n)
  | .tup xs => D.lts n xs
  | .fl xs => D.lts n xs
  | _ => true
def D.lts (n : Nat) : List D → Bool
  | [] => true
  | x :: xs => D.lt n x && D.lts n xs
end
def fsLt (n : Nat) : List (Str × D) → Bool
  | [] => true
  | x :: xs => D.lt n x.2 && fsLt n xs
def kvLt (n : Nat) : List (L2.Key × D) → Bool
  | [] => true
  | x :: xs => D.lt n x.2 && kvLt n xs
def Cell.lt (n : Nat) : Cell → Bool
  | .lst xs => D.lts n xs
  | .obj _ fs => fsLt n fs
  | .dct kvs => kvLt n kvs
def fsBeq : List (Str × D) → List (Str × D) → Bool
  | [], [] => true
  | x :: xs, y :: ys => x.1 == y.1 && D.beq x.2 y.2 && fsBeq xs ys
  | _, _ => false
def kvBeq : List (L2.Key × D) → List (L2.Key × D) → Bool
  | [], [] => true
  | x :: xs, y :: ys => decide (x.1 = y.1) && D.beq x.2 y.2 && kvBeq xs ys
  | _, _ => false
theorem fsBeq_refl : ∀ xs, fsBeq xs xs = true
  | [] => rfl
  | x :: xs => by simp [fsBeq, D.beq_refl, fsBeq_refl xs]
theorem kvBeq_refl : ∀ xs, kvBeq xs xs = true
  | [] => rfl
  | x :: xs => by simp [kvBeq, D.beq_refl, kvBeq_refl xs]
theorem eq_of_fsBeq : ∀ a b, fsBeq a b = true → a = b
  | [], b, h => by cases b <;> simp [fsBeq] at h <;> rfl
  | (f, x) :: xs, b, h => by
    cases b with
    | nil => simp [fsBeq] at h
    | cons y ys =>
      obtain ⟨g, y⟩ := y
      simp only [fsBeq, Bool.and_eq_true, beq_iff_eq] at h
      rw [h.1.1, D.eq_of_beq x y h.1.2, eq_of_fsBeq xs ys h.2]
theorem eq_of_kvBeq : ∀ a b, kvBeq a b = true → a = b
  | [], b, h => by cases b <;> simp [kvBeq] at h <;> rfl
  | (f, x) :: xs, b, h => by
    cases b with
    | nil => simp [kvBeq] at h
    | cons y ys =>
      obtain ⟨g, y⟩ := y
      simp only [kvBeq, Bool.and_eq_true, decide_eq_true_eq] at h
      rw [h.1.1, D.eq_of_beq x y h.1.2, eq_of_kvBeq xs ys h.2]
def Cell.beq : Cell → Cell → Bool
  | .lst a, .lst b => D.beqs a b
  | .obj C a, .obj E b => C == E && fsBeq a b
  | .dct a, .dct b => kvBeq a b
  | _, _ => false
theorem Cell.beq_refl : ∀ c : Cell, Cell.beq c c = true
  | .lst xs => D.beqs_refl xs
  | .obj C fs => by simp [Cell.beq, fsBeq_refl]
  | .dct kvs => kvBeq_refl kvs
theorem Cell.eq_of_beq : ∀ a b : Cell, Cell.beq a b = true → a = b
  | .lst xs, b, h => by cases b <;> simp [Cell.beq] at h; rw [D.eq_of_beqs _ _ h]
  | .obj C fs, b, h => by
    cases b <;> simp [Cell.beq] at h
    rw [h.1, eq_of_fsBeq _ _ h.2]
  | .dct kvs, b, h => by cases b <;> simp [Cell.beq] at h; rw [eq_of_kvBeq _ _ h]

/-! ### a def's end: what it made and let go is dropped -/
def keepsCells (n : Nat) : Hd → Hd → Bool
  | [], _ => true
  | _ :: _, [] => false
  | a :: r, b :: s => (Cell.beq a b || Cell.lt n b) && keepsCells n r s
/-- h: the heap at the entry -/
def gcOk (h : Hd) (h' : Hd) : Bool := keepsCells h.length h h'
def gc (h : Hd) (d : D) (h' : Hd) : Out D := if gcOk h h' && D.lt h.length d then .ok d (h'.take h.length) else .ok d h'
def gcE (h : Hd) (e : Exn) (h' : Hd) : Out D := if gcOk h h' && fsLt h.length e.fs then .ex e (h'.take h.length) else .ex e h'

/-! ### operations by values -/
abbrev line : Nat := 16777216
def mulOk (i j : Int) : Bool := decide (i.natAbs.log2 + j.natAbs.log2 < 100000000)
def divOk (i j : Int) : Bool := decide (j ≠ 0) && !Builtin.divisionGoesByPylong i j
def powOk (i j : Int) : Bool := decide (0 ≤ j) && decide (((i.natAbs.log2 + 1 : Nat) : Int) * j ≤ 100000000)
def shlOk (i j : Int) : Bool := decide (0 ≤ j) && decide (((i.natAbs.log2 + 1 : Nat) : Int) + j ≤ 100000000)
def ret {α : Type} (c : Bool) (a : α) (h : Hd) : Out α := match c with
  | true => .ok a h
  | false => .no
def newL (xs : List D) (h : Hd) : Out D := .ok (.ref h.length) (h ++ [.lst xs])
def newLc (c : Bool) (xs : List D) (h : Hd) : Out D := match c with
  | true => newL xs h
  | false => .no
/-- the list at a place -/
def lstAt (h : Hd) (n : Nat) : Option (List D) := match h[n]? with
  | some (.lst xs) => some xs
  | _ => none

def addV (x y : D) (h : Hd) : Out D := match x, y with
  | .int i, .int j => .ok (.int (i + j)) h
  | .str a, .str b => ret (decide (a.length + b.length ≤ line)) (.str (a ++ b)) h
  | .tup a, .tup b => ret (decide (a.length + b.length ≤ line)) (.tup (a ++ b)) h
  | .ref a, .ref b => match lstAt h a, lstAt h b with
    | some xs, some ys => newLc (decide (xs.length + ys.length ≤ line)) (xs ++ ys) h
    | _, _ => .no
  | _, _ => .no
def mulV (x y : D) (h : Hd) : Out D := match x, y with
  | .int i, .int j => ret (mulOk i j) (.int (i * j)) h
  | .tup xs, .int k => ret (decide (k ≤ 1000) && decide (-1000 ≤ k) && decide (xs.length ≤ 1000)) (.tup (List.replicate k.toNat xs).flatten) h
  | .ref a, .int k => match lstAt h a with
    | some xs => newLc (decide (k ≤ 1000) && decide (-1000 ≤ k) && decide (xs.length ≤ 1000)) (List.replicate k.toNat xs).flatten h
    | _ => .no
  | _, _ => .no
def binV (op : Operator) (x y : D) (h : Hd) : Out D := match op with
  | .Add => addV x y h
  | .Mult => mulV x y h
  | .Sub => match x, y with
    | .int i, .int j => .ok (.int (i - j)) h
    | _, _ => .no
  | .FloorDiv => match x, y with
    | .int i, .int j => ret (divOk i j) (.int (i.fdiv j)) h
    | _, _ => .no
  | .Mod => match x, y with
    | .int i, .int j => ret (decide (j ≠ 0)) (.int (i.fmod j)) h
    | _, _ => .no
  | .Pow => match x, y with
    | .int i, .int j => ret (powOk i j) (.int (i ^ j.toNat)) h
    | _, _ => .no
  | .LShift => match x, y with
    | .int i, .int j => ret (shlOk i j) (.int (i * 2 ^ j.toNat)) h
    | _, _ => .no
  | _ => .no
def negV (x : D) (h : Hd) : Out D := match x with
  | .int i => .ok (.int (-i)) h
  | _ => .no

mutual
def toPy (h : Hd) : D → PyData
  | .non => .none
  | .bl b => .bool b
  | .int i => .int i
  | .str s => .str s
  | .tup xs => .tuple (toPys h xs)
  | .fl xs => .list (toPys h xs)
  | .ref _ => .dict []
def toPys (h : Hd) : List D → List PyData
  | [] => []
  | x :: xs => toPy h x :: toPys h xs
end
/-! with the lists of the heap, down to a depth -/
mutual
def toPyF (f : Nat → PyData) : D → PyData
  | .non => .none
  | .bl b => .bool b
  | .int i => .int i
  | .str s => .str s
  | .tup xs => .tuple (toPysF f xs)
  | .fl xs => .list (toPysF f xs)
  | .ref n => f n
def toPysF (f : Nat → PyData) : List D → List PyData
  | [] => []
  | x :: xs => toPyF f x :: toPysF f xs
end
def refPy (h : Hd) : Nat → Nat → PyData
  | 0, _ => .dict []
  | k + 1, n => match lstAt h n with
    | some xs => .list (toPysF (refPy h k) xs)
    | none => .dict []
def toPyT (h : Hd) (d : D) : PyData := toPyF (refPy h 4) d

def flatD : D → Bool
  | .non | .bl _ | .int _ | .str _ => true
  | _ => false
def toV : D → L2.V
  | .bl b => .bl b
  | .int i => .int i
  | .str s => .str s
  | _ => .non
def truthD (h : Hd) : D → Option Bool
  | .non => some false
  | .bl b => some b
  | .int i => some (i != 0)
  | .str s => if s.length ≤ line then some ((s.length : Int) != 0) else none
  | .tup xs => some (!xs.isEmpty)
  | .fl xs => some (!xs.isEmpty)
  | .ref n => match lstAt h n with
    | some xs => some (!xs.isEmpty)
    | none => none
def eqV (h : Hd) (x y : D) : Option Bool :=
  if SeqAt.shaped (toPyT h x) && SeqAt.shaped (toPyT h y) then some (PyData.eqv (toPyT h x) (toPyT h y)) else none
/-- x in y -/
def inV (h : Hd) (x y : D) : Option Bool := match y with
  | .tup xs => if flatD x && xs.all flatD then some (L2.inV (toV x) (xs.map toV)) else none
  | .fl xs => if flatD x && xs.all flatD then some (L2.inV (toV x) (xs.map toV)) else none
  | .ref n => match lstAt h n with
    | some xs => if flatD x && xs.all flatD then some (L2.inV (toV x) (xs.map toV)) else none
    | none => none
  | .str z => match x with
    | .str i => some (!(Builtin.Str.occurrences z i 0 z.length 1).isEmpty)
    | _ => none
  | _ => none
def isV (x y : D) : Option Bool := match x, y with
  | .non, .non => some true
  | .bl a, .bl b => some (a == b)
  | .non, .bl _ => some false
  | .bl _, .non => some false
  | .int _, .non => some false
  | .str _, .non => some false
  | .tup _, .non => some false
  | .fl _, .non => some false
  | .ref _, .non => some false
  | _, _ => none
def cmpV (op : CmpOp) (h : Hd) (x y : D) : Option Bool := match op with
  | .Eq => eqV h x y
  | .NotEq => (eqV h x y).map not
  | .Lt => match x, y with
    | .int i, .int j => some (decide (i < j))
    | _, _ => none
  | .LtE => match x, y with
    | .int i, .int j => some (decide (i ≤ j))
    | _, _ => none
  | .Gt => match x, y with
    | .int i, .int j => some (decide (j < i))
    | _, _ => none
  | .GtE => match x, y with
    | .int i, .int j => some (decide (j ≤ i))
    | _, _ => none
  | .Is => isV x y
  | .IsNot => (isV x y).map not
  | .In => inV h x y
  | .NotIn => (inV h x y).map not
def boolO (h : Hd) : Option Bool → Out D
  | some b => .ok (.bl b) h
  | none => .no
def testO (h : Hd) : Option Bool → Out Bool
  | some b => .ok b h
  | none => .no
/-- x[i] -/
def idxV (x i : D) (h : Hd) : Out D := match i with
  | .int k => match x with
    | .tup xs => match L2.atI xs k with
      | some d => .ok d h
      | none => .no
    | .fl xs => match L2.atI xs k with
      | some d => .ok d h
      | none => .no
    | .ref n => match lstAt h n with
      | some xs => match L2.atI xs k with
        | some d => .ok d h
        | none => .no
      | none => .no
    | .str z => match L2.atI z.cps.toList k with
      | some c => ret (decide (z.length ≤ line)) (.str ⟨#[c]⟩) h
      | none => .no
    | _ => .no
  | _ => .no
def cut {α : Type} (xs : List α) (lo hi : Option Int) : List α := (xs.drop (HT.sIx xs.length 0 lo)).take (HT.sIx xs.length xs.length hi - HT.sIx xs.length 0 lo)
def slV (x : D) (lo hi : Option Int) (h : Hd) : Out D := match x with
  | .tup xs => .ok (.tup (cut xs lo hi)) h
  | .fl xs => newL (cut xs lo hi) h
  | .ref n => match lstAt h n with
    | some xs => newL (cut xs lo hi) h
    | none => .no
  | .str z => ret (decide (z.length ≤ line)) (.str ⟨(cut z.cps.toList lo hi).toArray⟩) h
  | _ => .no

/-! ### built-in functions -/
inductive BI where
  | int | abs | len | tuple | list | max | min | all | any | gcd | str
inductive Ty where
  | int | bool | str | tuple | list | cls (n : Nat)
def bls : List D → Option (List Bool)
  | [] => some []
  | .bl b :: r => (bls r).map (b :: ·)
  | _ => none
def biV (b : BI) (xs : List D) (h : Hd) : Out D := match b, xs with
  | .int, [.int i] => .ok (.int i) h
  | .int, [.bl k] => .ok (.int (if k then 1 else 0)) h
  | .abs, [.int i] => .ok (.int (if i < 0 then -i else i)) h
  | .len, [.tup xs] => .ok (.int xs.length) h
  | .len, [.fl xs] => .ok (.int xs.length) h
  | .len, [.str z] => ret (decide (z.length ≤ line)) (.int z.length) h
  | .len, [.ref n] => match lstAt h n with
    | some xs => .ok (.int xs.length) h
    | none => .no
  | .tuple, [.tup xs] => .ok (.tup xs) h
  | .tuple, [.fl xs] => .ok (.tup xs) h
  | .tuple, [.ref n] => match lstAt h n with
    | some xs => .ok (.tup xs) h
    | none => .no
  | .list, [.tup xs] => newL xs h
  | .list, [.fl xs] => newL xs h
  | .list, [.ref n] => match lstAt h n with
    | some xs => newL xs h
    | none => .no
  | .max, [.int i, .int j] => .ok (.int (if j > i then j else i)) h
  | .min, [.int i, .int j] => .ok (.int (if j < i then j else i)) h
  | .all, [.ref n] => match (lstAt h n).bind bls with
    | some bs => .ok (.bl (bs.all id)) h
    | none => .no
  | .any, [.ref n] => match (lstAt h n).bind bls with
    | some bs => .ok (.bl (bs.any id)) h
    | none => .no
  | .gcd, [.int a, .int b] => .ok (.int ((Nat.gcd a.natAbs b.natAbs : Nat) : Int)) h
  | .str, [.int i] => ret (decide (i.natAbs.log2 < 1920)) (.str (toString i)) h
  | _, _ => .no
def isiV (x : D) (t : Ty) (h : Hd) : Option Bool := match t, x with
  | .int, .int _ => some true
  | .int, .bl _ => some true
  | .bool, .bl _ => some true
  | .str, .str _ => some true
  | .tuple, .tup _ => some true
  | .list, .ref n => (lstAt h n).map fun _ => true
  | .list, .fl _ => some true
  | .int, .ref n => (lstAt h n).map fun _ => false
  | .bool, .ref n => (lstAt h n).map fun _ => false
  | .str, .ref n => (lstAt h n).map fun _ => false
  | .tuple, .ref n => (lstAt h n).map fun _ => false
  | .cls _, _ => none
  | _, _ => some false

/-! ### code -/
/-- targets -/
inductive QG where
  | nm (i : Nat) | tp (gs : List QG)
mutual
inductive QE where
  | var (i : Nat) | con (d : D)
  | bin (op : Operator) (a b : QE) | neg (a : QE) | nott (a : QE) | andv (a b : QE) | orv (a b : QE)
  | cmp (op : CmpOp) (a b : QE) | chain (op op' : CmpOp) (a b c : QE)
  | ife (t : QT) (a b : QE)
  | tup (es : QEs) | lst (es : QEs)
  | idx (a i : QE) | slc (a : QE) (lo hi : QO)
  | call (f : Nat) (es kes : QEs) (arr : List (Sum (Sum Nat Nat) D))
  | bi (b : BI) (es : QEs)
  | isi (a : QE) (t : Ty)
  | lc (elt : QE) (g : QG) (it : QI) (own : List Nat) (cond : QT)
  | mth (m : Nat) (o : QE) (es : QEs)
  | excIs (c : Nat) | excF (f : Str)
  | fld (a : QE) (f : Str) | make (C i : Nat) (es : QEs) | mcall (C i : Nat) (m : Str) (o : QE) (es : QEs)
  | dget (kvs : List (Str × D)) (a : QE)
inductive QEs where
  | nil | cons (e : QE) (es : QEs)
inductive QO where
  | none | some (e : QE)
inductive QT where
  | v (e : QE) | not (t : QT) | and (a b : QT) | or (a b : QT) | yes
inductive QI where
  | v (e : QE) | rng1 (a : QE) | rng2 (a b : QE) | rng3 (a b c : QE) | zip (a b : QE) | enum (a : QE)
end
mutual
inductive QS where
  | expr (e : QE) | asg (g : QG) (e : QE) | sub (o i e : QE) | par (i j : Nat) (a b : QE)
  | aug (i : Nat) (op : Operator) (e : QE)
  | ret (e : QE) | retN | ife (t : QT) (a b : QSs) | whl (t : QT) (b : QSs) | for (g : QG) (it : QI) (b : QSs)
  | raise (c : Nat) (fs : List Str) (es : QEs) | try (b : QSs) (c : Nat) (xi : Option Nat) (su : QSs)
  | pass | brk | cnt
  | fset (o : QE) (f : Str) (e : QE)
  | mtch (e : QE) (cs : QCs) | bad
inductive QSs where
  | nil | cons (s : QS) (r : QSs)
inductive QCs where
  | nil | cons (k : Str) (xs : List Nat) (b : QSs) (r : QCs)
end

/-- what the evaluator stands on: the defs' values, the turns a while may take, the exception of the suite, the classes' order -/
structure Ev where
  call : Nat → List D → Hd → Out D
  fuel : Nat
  exn : Option Exn
  sub : Nat → Nat → Bool

def bindG : QG → D → Sl → Option Sl
  | .nm i, d, s => some (s.set i (some d))
  | .tp gs, .tup ds, s => bindGs gs ds s
  | .tp _, _, _ => none
where
  bindGs : List QG → List D → Sl → Option Sl
  | [], [], s => some s
  | g :: gs, d :: ds, s => (bindG g d s).bind fun s' => bindGs gs ds s'
  | _, _, _ => none
def wipeD (s : Sl) : List Nat → Sl
  | [] => s
  | v :: vs => (wipeD s vs).set v none
def rng (a : Int) (c : Int) : Nat → List D
  | 0 => []
  | n + 1 => .int a :: rng (a + c) c n
def zipD : List D → List D → List D
  | x :: xs, y :: ys => .tup [x, y] :: zipD xs ys
  | _, _ => []
def enumD (k : Int) : List D → List D
  | [] => []
  | x :: xs => .tup [.int k, x] :: enumD (k + 1) xs
/-- what is walked: its items, the lists that must stay as they are -/
structure Walk where
  items : List D
  fix : List (Nat × List D)
def fixOk (h : Hd) : List (Nat × List D) → Bool
  | [] => true
  | (n, xs) :: r => (match lstAt h n with
    | some ys => D.beqs xs ys
    | none => false) && fixOk h r
def smallI (i : Int) : Bool := decide (i.natAbs.log2 < 62)
def rngN (a b c : Int) : Nat := if 0 < c then ((b - a + c - 1) / c).toNat else ((a - b - c - 1) / (-c)).toNat
def strD (z : Str) : List D := z.cps.toList.map fun c => .str ⟨#[c]⟩
def walkV (d : D) (h : Hd) : Out Walk := match d with
  | .tup xs => .ok ⟨xs, []⟩ h
  | .fl xs => .ok ⟨xs, []⟩ h
  | .ref n => match lstAt h n with
    | some xs => .ok ⟨xs, [(n, xs)]⟩ h
    | none => .no
  | .str z => .ok ⟨strD z, []⟩ h
  | _ => .no
def seqOf (d : D) (h : Hd) : Option Walk := match d with
  | .tup xs => some ⟨xs, []⟩
  | .fl xs => some ⟨xs, []⟩
  | .ref n => match lstAt h n with
    | some xs => some ⟨xs, [(n, xs)]⟩
    | none => none
  | _ => none
def isTup : D → Bool
  | .tup _ => true
  | _ => false
def zipV (x y : D) (h : Hd) : Out Walk := match seqOf x h, seqOf y h with
  | some a, some b => .ok ⟨zipD a.items b.items, a.fix ++ b.fix⟩ h
  | _, _ => .no
def enumV (x : D) (h : Hd) : Out Walk := match seqOf x h with
  | some a => .ok ⟨enumD 0 a.items, a.fix⟩ h
  | none => .no
def rngV (xs : List D) (h : Hd) : Out Walk := match xs with
  | [.int b] => ret (smallI b) ⟨rng 0 1 b.toNat, []⟩ h
  | [.int a, .int b] => ret (smallI a && smallI b) ⟨rng a 1 (b - a).toNat, []⟩ h
  | [.int a, .int b, .int c] => ret (smallI a && smallI b && decide (c ≠ 0) && decide (c.natAbs < 1000000)) ⟨rng a c (rngN a b c), []⟩ h
  | _ => .no
/-- methods: 0 append, 1 extend -/
def appV (o : D) (xs : List D) (h : Hd) : Out D := match o, xs with
  | .ref n, [y] => match lstAt h n with
    | some ys => ret (decide (ys.length < line)) .non (h.set n (.lst (ys ++ [y])))
    | none => .no
  | _, _ => .no
def extV (o : D) (xs : List D) (h : Hd) : Out D := match o, xs with
  | .ref n, [.ref b] => match lstAt h n, lstAt h b with
    | some ys, some zs => ret (decide (ys.length + zs.length ≤ line)) .non (h.set n (.lst (ys ++ zs)))
    | _, _ => .no
  | _, _ => .no
def isLst (h : Hd) : D → Bool
  | .ref n => (lstAt h n).isSome
  | _ => false
def mthV (m : Nat) (o : D) (xs : List D) (h : Hd) : Out D := match m with
  | 0 => appV o xs h
  | 1 => extV o xs h
  | _ => .no
def arrD (arr : List (Sum (Sum Nat Nat) D)) (xs ys : List D) : List D := arr.map fun a => match a with
  | .inl (.inl i) => xs.getD i .non
  | .inl (.inr i) => ys.getD i .non
  | .inr d => d
/-- the object at a place: its class, its fields -/
def objAt (h : Hd) (n : Nat) : Option (Nat × List (Str × D)) := match h[n]? with
  | some (.obj C fs) => some (C, fs)
  | _ => none
def putD (f : Str) (d : D) : List (Str × D) → List (Str × D)
  | [] => [(f, d)]
  | (g, x) :: r => if g = f then (g, d) :: r else (g, x) :: putD f d r
def fldV (f : Str) (x : D) (h : Hd) : Out D := match x with
  | .ref n => match objAt h n with
    | some (_, fs) => match fs.lookup f with
      | some d => .ok d h
      | none => .no
    | none => .no
  | _ => .no
/-- d.get(x), d a dict of the module with texts as keys -/
def dgetV (kvs : List (Str × D)) (x : D) (h : Hd) : Out D := match x with
  | .str z => .ok ((kvs.lookup z).getD .non) h
  | _ => .no
/-- a new object behind its __init__ -/
def mkO (n : Nat) : Out D → Out D
  | .ok .non h => .ok (.ref n) h
  | .ok _ _ => .no
  | .ex e h => .ex e h
  | .no => .no
/-- an object of the class C without a field m of its own -/
def isObj (C : Nat) (m : Str) (h : Hd) : D → Bool
  | .ref n => match objAt h n with
    | some (C', fs) => decide (C' = C) && (fs.lookup m).isNone
    | none => false
  | _ => false
/-- a comprehension's turns: b binds, c tests, e makes -/
def loopC (fix : List (Nat × List D)) (b : D → Option Sl) (c : Sl → Hd → Out Bool) (e : Sl → Hd → Out D) : List D → List D → Hd → Out (List D)
  | [], acc, h => ret (fixOk h fix) acc h
  | x :: xs, acc, h => match fixOk h fix, b x with
    | true, some s => (c s h).bind fun t h1 => match t with
      | true => (e s h1).bind fun y h2 => match decide (acc.length < line) with
        | true => loopC fix b c e xs (acc ++ [y]) h2
        | false => .no
      | false => loopC fix b c e xs acc h1
    | _, _ => .no
/-- no exception leaves a comprehension -/
def noEx {α : Type} : Out α → Out α
  | .ex _ _ => .no
  | o => o
def toI : D → Hd → Out (Option Int)
  | .int i, h => .ok (some i) h
  | _, _ => .no
def pureTrue : Option Bool → Hd → Out Bool := fun o h => testO h o
mutual
def evE (ev : Ev) : QE → Sl → Hd → Out D
  | .var i, s, h => match s[i]? with
    | some (some d) => .ok d h
    | _ => .no
  | .con d, _, h => .ok d h
  | .bin op a b, s, h => (evE ev a s h).bind fun x h1 => (evE ev b s h1).bind fun y h2 => binV op x y h2
  | .neg a, s, h => (evE ev a s h).bind fun x h1 => negV x h1
  | .nott a, s, h => (evE ev a s h).bind fun x h1 => match truthD h1 x with
    | some k => .ok (.bl (!k)) h1
    | none => .no
  | .andv a b, s, h => (evE ev a s h).bind fun x h1 => match truthD h1 x with
    | some true => evE ev b s h1
    | some false => .ok x h1
    | none => .no
  | .orv a b, s, h => (evE ev a s h).bind fun x h1 => match truthD h1 x with
    | some true => .ok x h1
    | some false => evE ev b s h1
    | none => .no
  | .cmp op a b, s, h => (evE ev a s h).bind fun x h1 => (evE ev b s h1).bind fun y h2 => boolO h2 (cmpV op h2 x y)
  | .chain op op' a b c, s, h => (evE ev a s h).bind fun x h1 => (evE ev b s h1).bind fun y h2 => match cmpV op h2 x y with
    | some true => (evE ev c s h2).bind fun z h3 => boolO h3 (cmpV op' h3 y z)
    | some false => .ok (.bl false) h2
    | none => .no
  | .ife t a b, s, h => (evT ev t s h).bind fun k h1 => match k with
    | true => evE ev a s h1
    | false => evE ev b s h1
  | .tup es, s, h => (evEs ev es s h).bind fun xs h1 => ret (decide (xs.length ≤ line)) (.tup xs) h1
  | .lst es, s, h => (evEs ev es s h).bind fun xs h1 => newLc (decide (xs.length ≤ line)) xs h1
  | .idx a i, s, h => (evE ev a s h).bind fun x h1 => (evE ev i s h1).bind fun y h2 => idxV x y h2
  | .slc a lo hi, s, h => (evE ev a s h).bind fun x h1 => (evO ev lo s h1).bind fun l h2 => (evO ev hi s h2).bind fun u h3 => slV x l u h3
  | .call f es kes arr, s, h => (evEs ev es s h).bind fun xs h1 => (evEs ev kes s h1).bind fun ys h2 => ev.call f (arrD arr xs ys) h2
  | .bi b es, s, h => (evEs ev es s h).bind fun xs h1 => biV b xs h1
  | .isi a t, s, h => (evE ev a s h).bind fun x h1 => boolO h1 (isiV x t h1)
  | .lc elt g it own cond, s, h => (evI ev it s h).bind fun w h1 => (noEx (loopC w.fix (fun d => bindG g d (wipeD s own)) (evT ev cond) (evE ev elt) w.items [] h1)).bind fun xs h2 => newL xs h2
  | .mth m o es, s, h => (evE ev o s h).bind fun x h1 => match isLst h1 x with
    | true => (evEs ev es s h1).bind fun xs h2 => mthV m x xs h2
    | false => .no
  | .excIs c, _, h => match ev.exn with
    | some e => .ok (.bl (ev.sub e.cls c)) h
    | none => .no
  | .excF f, _, h => match ev.exn with
    | some e => match e.fs.lookup f with
      | some d => .ok d h
      | none => .no
    | none => .no
  | .fld a f, s, h => (evE ev a s h).bind fun x h1 => fldV f x h1
  | .make C i es, s, h => (evEs ev es s h).bind fun xs h1 => mkO h1.length (ev.call i (.ref h1.length :: xs) (h1 ++ [.obj C []]))
  | .mcall C i m o es, s, h => (evE ev o s h).bind fun x h1 => match isObj C m h1 x with
    | true => (evEs ev es s h1).bind fun xs h2 => ev.call i (x :: xs) h2
    | false => .no
  | .dget kvs a, s, h => (evE ev a s h).bind fun x h1 => dgetV kvs x h1
def evEs (ev : Ev) : QEs → Sl → Hd → Out (List D)
  | .nil, _, h => .ok [] h
  | .cons e es, s, h => (evE ev e s h).bind fun x h1 => (evEs ev es s h1).bind fun xs h2 => .ok (x :: xs) h2
def evO (ev : Ev) : QO → Sl → Hd → Out (Option Int)
  | .none, _, h => .ok none h
  | .some e, s, h => (evE ev e s h).bind fun x h1 => toI x h1
def evT (ev : Ev) : QT → Sl → Hd → Out Bool
  | .v e, s, h => (evE ev e s h).bind fun x h1 => testO h1 (truthD h1 x)
  | .not t, s, h => (evT ev t s h).bind fun k h1 => .ok (!k) h1
  | .and a b, s, h => (evT ev a s h).bind fun k h1 => match k with
    | true => evT ev b s h1
    | false => .ok false h1
  | .or a b, s, h => (evT ev a s h).bind fun k h1 => match k with
    | true => .ok true h1
    | false => evT ev b s h1
  | .yes, _, h => .ok true h
def evI (ev : Ev) : QI → Sl → Hd → Out Walk
  | .v e, s, h => (evE ev e s h).bind fun x h1 => walkV x h1
  | .rng1 a, s, h => (evE ev a s h).bind fun x h1 => rngV [x] h1
  | .rng2 a b, s, h => (evE ev a s h).bind fun x h1 => (evE ev b s h1).bind fun y h2 => rngV [x, y] h2
  | .rng3 a b c, s, h => (evE ev a s h).bind fun x h1 => (evE ev b s h1).bind fun y h2 => (evE ev c s h2).bind fun z h3 => rngV [x, y, z] h3
  | .zip a b, s, h => (evE ev a s h).bind fun x h1 => (evE ev b s h1).bind fun y h2 => zipV x y h2
  | .enum a, s, h => (evE ev a s h).bind fun x h1 => enumV x h1
end

/-! ### statements -/
inductive SOut where
  | nx (s : Sl) (h : Hd) | rt (d : D) (h : Hd) | bk (s : Sl) (h : Hd) | ct (s : Sl) (h : Hd) | ex (e : Exn) (s : Sl) (h : Hd) | no
/-- an expression's end within a statement -/
def Out.st {α : Type} (o : Out α) (s : Sl) (f : α → Hd → SOut) : SOut := match o with
  | .ok a h => f a h
  | .ex e h => .ex e s h
  | .no => .no
/-- the slot of a suite's exception -/
def inS (xi : Option Nat) (s : Sl) : Bool := match xi with
  | none => true
  | some i => decide (i < s.length)
def goS (xi : Option Nat) (s : Sl) : Sl := match xi with
  | none => s
  | some i => s.set i none
/-- what leaves the suite; nothing may be raised there -/
def SOut.gone (xi : Option Nat) : SOut → SOut
  | .nx s h => .nx (goS xi s) h
  | .bk s h => .bk (goS xi s) h
  | .ct s h => .ct (goS xi s) h
  | .rt d h => .rt d h
  | .ex _ _ _ => .no
  | .no => .no
def SOut.then (o : SOut) (f : Sl → Hd → SOut) : SOut := match o with
  | .nx s h => f s h
  | o => o
def loopW (t : Sl → Hd → Out Bool) (b : Sl → Hd → SOut) : Nat → Sl → Hd → SOut
  | 0, _, _ => .no
  | n + 1, s, h => (t s h).st s fun k h1 => match k with
    | true => match b s h1 with
      | .nx s2 h2 => loopW t b n s2 h2
      | .ct s2 h2 => loopW t b n s2 h2
      | .bk s2 h2 => .nx s2 h2
      | o => o
    | false => .nx s h1
def loopF (fix : List (Nat × List D)) (g : D → Sl → Option Sl) (b : Sl → Hd → SOut) : List D → Sl → Hd → SOut
  | [], s, h => match fixOk h fix with
    | true => .nx s h
    | false => .no
  | x :: xs, s, h => match fixOk h fix, g x s with
    | true, some s1 => match b s1 h with
      | .nx s2 h2 => loopF fix g b xs s2 h2
      | .ct s2 h2 => loopF fix g b xs s2 h2
      | .bk s2 h2 => .nx s2 h2
      | o => o
    | _, _ => .no
def asgO (o : Option Sl) (h : Hd) : SOut := match o with
  | some s => .nx s h
  | none => .no
/-- o[i] = d -/
def subV (o i d : D) (s : Sl) (h : Hd) : SOut := match o, i with
  | .ref n, .int k => match lstAt h n with
    | some xs => match L2.ixN xs.length k with
      | some j => .nx s (h.set n (.lst (xs.set j d)))
      | none => .no
    | none => .no
  | _, _ => .no
/-- o.f = d -/
def setF (f : Str) (d : D) (s : Sl) (x : D) (h : Hd) : SOut := match x with
  | .ref n => match objAt h n with
    | some (C, fs) => match decide (fs.length < 1000) with
      | true => .nx s (h.set n (.obj C (putD f d fs)))
      | false => .no
    | none => .no
  | _ => .no
/-- several names are bound -/
def putSl : List Nat → List D → Sl → Sl
  | i :: is, d :: ds, s => putSl is ds (s.set i (some d))
  | _, _, s => s
def augV (op : Operator) (x y : D) (h : Hd) : Out D := match op, x, y with
  | .Add, .int i, .int j => .ok (.int (i + j)) h
  | .Sub, .int i, .int j => .ok (.int (i - j)) h
  | _, _, _ => .no
mutual
def exS (ev : Ev) : QS → Sl → Hd → SOut
  | .expr e, s, h => (evE ev e s h).st s fun _ h1 => .nx s h1
  | .asg g e, s, h => (evE ev e s h).st s fun d h1 => asgO (bindG g d s) h1
  | .sub o i e, s, h => (evE ev e s h).st s fun d h1 => (evE ev o s h1).st s fun x h2 => (evE ev i s h2).st s fun y h3 => subV x y d s h3
  | .par i j a b, s, h => (evE ev a s h).st s fun x h1 => (evE ev b s h1).st s fun y h2 => .nx ((s.set i (some x)).set j (some y)) h2
  | .aug i op e, s, h => match s[i]? with
    | some (some x) => (evE ev e s h).st s fun y h1 => (augV op x y h1).st s fun z h2 => .nx (s.set i (some z)) h2
    | _ => .no
  | .ret e, s, h => (evE ev e s h).st s fun d h1 => .rt d h1
  | .retN, _, h => .rt .non h
  | .ife t a b, s, h => (evT ev t s h).st s fun k h1 => match k with
    | true => exSs ev a s h1
    | false => exSs ev b s h1
  | .whl t b, s, h => loopW (evT ev t) (exSs ev b) ev.fuel s h
  | .for g it b, s, h => (evI ev it s h).st s fun w h1 => loopF w.fix (bindG g) (exSs ev b) w.items s h1
  | .raise c fs es, s, h => (evEs ev es s h).st s fun xs h1 => match decide (fs.length = xs.length) && xs.all flatD with
    | true => .ex ⟨c, fs.zip xs⟩ s h1
    | false => .no
  | .try b c xi su, s, h => match exSs ev b s h with
    | .ex e s1 h1 => match ev.sub e.cls c with
      | true => match inS xi s1 with
        | true => (exSs { ev with exn := some e } su (goS xi s1) h1).gone xi
        | false => .no
      | false => .ex e s1 h1
    | o => o
  | .pass, s, h => .nx s h
  | .brk, s, h => .bk s h
  | .cnt, s, h => .ct s h
  | .fset o f e, s, h => (evE ev e s h).st s fun d h1 => (evE ev o s h1).st s fun x h2 => setF f d s x h2
  | .mtch e cs, s, h => (evE ev e s h).st s fun d h1 => match d with
    | .tup ds => exC ev cs ds s h1
    | _ => .no
  | .bad, _, _ => .no
/-- case [k, x, y, ..]: a tuple of that length, its first item the text k -/
def exC (ev : Ev) : QCs → List D → Sl → Hd → SOut
  | .nil, _, s, h => .nx s h
  | .cons k xs b r, ds, s, h => match ds with
    | [] => exC ev r ds s h
    | d :: es => match decide (es.length = xs.length) with
      | true => match eqV h d (.str k) with
        | some true => exSs ev b (putSl xs es s) h
        | some false => exC ev r ds s h
        | none => .no
      | false => exC ev r ds s h
def exSs (ev : Ev) : QSs → Sl → Hd → SOut
  | .nil, s, h => .nx s h
  | .cons a r, s, h => match exS ev a s h with
    | .nx s1 h1 => exSs ev r s1 h1
    | o => o
end

/-- a def: how many parameters, how many names, its code -/
structure FnC where
  np : Nat
  nn : Nat
  code : QSs
def startD (n : Nat) (ds : List D) : Sl := ds.map some ++ List.replicate (n - ds.length) none
def callI (fns : List FnC) (sub : Nat → Nat → Bool) (fuel : Nat) : Nat → Nat → List D → Hd → Out D
  | 0, _, _, _ => .no
  | k + 1, f, ds, h => match fns[f]? with
    | none => .no
    | some fn => match decide (ds.length = fn.np) with
      | false => .no
      | true => match exSs ⟨callI fns sub fuel k, fuel, none, sub⟩ fn.code (startD fn.nn ds) h with
        | .rt d h' => gc h d h'
        | .nx _ h' => gc h .non h'
        | .ex e _ h' => gcE h e h'
        | _ => .no
end PV
/-! PVB: deep state and abstract heap; the operations by values. -/
namespace PV
open PySem PySem.Spec PyProof.Rows L2

/-- what the deep values stand on: the written part, the classes' objects -/
structure GW where
  K : PySem.W.Frag
  cl : Nat → Option Addr
  oc : Nat → Option Addr
  pins : List (Addr × List (Str × V))

/-! ### values -/
/-- a list that is never written -/
def FrL (K : PySem.W.Frag) (H : Hp) (a : Addr) (vs : List V) : Prop := (∃ o, H a = some (.frz o (.lst vs))) ∨ ∀ H' : Hp, SqL K H' a vs
theorem FrL.sq {K : PySem.W.Frag} {H : Hp} {a : Addr} {vs : List V} (f : FrL K H a vs) : SqL K H a vs := f.elim (fun ⟨o, e⟩ => .inl (.inr ⟨o, e⟩)) fun g => g H
mutual
inductive DR (K : PySem.W.Frag) (m : List Addr) (H : Hp) : D → V → Prop
  | non : DR K m H .non .non
  | bl (b : Bool) : DR K m H (.bl b) (.bl b)
  | int (i : Int) : DR K m H (.int i) (.int i)
  | str (s : Str) : DR K m H (.str s) (.str s)
  | tup {a : Addr} {ds : List D} {vs : List V} : SqT K H a vs → DRs K m H ds vs → DR K m H (.tup ds) (.ref a)
  | fl {a : Addr} {ds : List D} {vs : List V} : FrL K H a vs → DRs K m H ds vs → DR K m H (.fl ds) (.ref a)
  | ref {n : Nat} {a : Addr} : m[n]? = some a → DR K m H (.ref n) (.ref a)
inductive DRs (K : PySem.W.Frag) (m : List Addr) (H : Hp) : List D → List V → Prop
  | nil : DRs K m H [] []
  | cons {d : D} {v : V} {ds : List D} {vs : List V} : DR K m H d v → DRs K m H ds vs → DRs K m H (d :: ds) (v :: vs)
end
/-- what lies behind keeps what lay ahead: m the tracked places ahead, m' behind -/
structure Step (m : List Addr) (H : Hp) (m' : List Addr) (H' : Hp) : Prop where
  pre : ∃ l, m' = m ++ l ∧ ∀ a ∈ l, H a = none
  live : ∀ a ∈ m', H' a ≠ none
  keep : ∀ b o, H b = some o → b ∉ m → H' b = some o
  tups : ∀ b xs, H b = some (.tup xs) → H' b = some (.tup xs)
  frzs : ∀ b o u, H b = some (.frz o u) → H' b = some (.frz o u)
theorem Step.refl {m : List Addr} {H : Hp} (h : ∀ a ∈ m, H a ≠ none) : Step m H m H := ⟨⟨[], by simp, fun _ h => by cases h⟩, h, fun _ _ e _ => e, fun _ _ e => e, fun _ _ _ e => e⟩
theorem Step.trans {m m1 m2 : List Addr} {H H1 H2 : Hp} (a : Step m H m1 H1) (b : Step m1 H1 m2 H2) : Step m H m2 H2 := by
  obtain ⟨l1, e1, n1⟩ := a.pre
  obtain ⟨l2, e2, n2⟩ := b.pre
  refine ⟨⟨l1 ++ l2, by rw [e2, e1, List.append_assoc], fun c hc => ?_⟩, b.live, fun c o e hc => ?_, fun c xs e => b.tups c xs (a.tups c xs e), fun c o u e => b.frzs c o u (a.frzs c o u e)⟩
  · rcases List.mem_append.mp hc with h | h
    · exact n1 c h
    · have h1 := n2 c h
      cases q : H c with
      | none => rfl
      | some o =>
        by_cases hm : c ∈ m
        · exact absurd h1 (a.live c (by rw [e1]; exact List.mem_append_left _ hm))
        · rw [a.keep c o q hm] at h1; cases h1
  · refine b.keep c o (a.keep c o e hc) fun h => ?_
    rw [e1] at h
    rcases List.mem_append.mp h with h | h
    · exact hc h
    · rw [n1 c h] at e; cases e

section
variable {K : PySem.W.Frag} {m m' : List Addr} {H H' : Hp}
theorem FrL.step {a : Addr} {vs : List V} (f : FrL K H a vs) (fz : ∀ b o u, H b = some (.frz o u) → H' b = some (.frz o u)) : FrL K H' a vs := f.elim (fun ⟨o, e⟩ => .inl ⟨o, fz _ _ _ e⟩) .inr
theorem sqT_step {a : Addr} {vs : List V} (t : SqT K H a vs) (tp : ∀ b xs, H b = some (.tup xs) → H' b = some (.tup xs)) (fz : ∀ b o u, H b = some (.frz o u) → H' b = some (.frz o u)) : SqT K H' a vs := by
  rcases t with (t | ⟨o, t⟩) | t
  · exact .inl (.inl (tp _ _ t))
  · exact .inl (.inr ⟨o, fz _ _ _ t⟩)
  · exact .inr t
mutual
theorem DR.mono (pre : ∀ (n : Nat) (a : Addr), m[n]? = some a → m'[n]? = some a) (tp : ∀ b xs, H b = some (.tup xs) → H' b = some (.tup xs)) (fz : ∀ b o u, H b = some (.frz o u) → H' b = some (.frz o u)) :
    ∀ {d : D} {v : V}, DR K m H d v → DR K m' H' d v
  | _, _, .non => .non
  | _, _, .bl b => .bl b
  | _, _, .int i => .int i
  | _, _, .str s => .str s
  | _, _, .tup t r => .tup (sqT_step t tp fz) (DRs.mono pre tp fz r)
  | _, _, .fl t r => .fl (t.step fz) (DRs.mono pre tp fz r)
  | _, _, .ref e => .ref (pre _ _ e)
theorem DRs.mono (pre : ∀ (n : Nat) (a : Addr), m[n]? = some a → m'[n]? = some a) (tp : ∀ b xs, H b = some (.tup xs) → H' b = some (.tup xs)) (fz : ∀ b o u, H b = some (.frz o u) → H' b = some (.frz o u)) :
    ∀ {ds : List D} {vs : List V}, DRs K m H ds vs → DRs K m' H' ds vs
  | _, _, .nil => .nil
  | _, _, .cons a r => .cons (DR.mono pre tp fz a) (DRs.mono pre tp fz r)
end
theorem Step.get (s : Step m H m' H') (n : Nat) (a : Addr) (e : m[n]? = some a) : m'[n]? = some a := by
  obtain ⟨l, e1, _⟩ := s.pre
  rw [e1, List.getElem?_append_left (List.getElem?_eq_some_iff.mp e).1]
  exact e
theorem DR.step {d : D} {v : V} (r : DR K m H d v) (s : Step m H m' H') : DR K m' H' d v := r.mono s.get s.tups s.frzs
theorem DRs.step {d : List D} {v : List V} (r : DRs K m H d v) (s : Step m H m' H') : DRs K m' H' d v := r.mono s.get s.tups s.frzs
theorem DRs.length : ∀ {ds : List D} {vs : List V}, DRs K m H ds vs → ds.length = vs.length
  | _, _, .nil => rfl
  | _, _, .cons _ r => congrArg Nat.succ (DRs.length r)
theorem DRs.get : ∀ {ds : List D} {vs : List V} {i : Nat} {d : D}, DRs K m H ds vs → ds[i]? = some d → ∃ v, vs[i]? = some v ∧ DR K m H d v
  | _, _, _, _, .nil, e => by simp at e
  | _, _, 0, _, .cons a _, e => by simp at e; subst e; exact ⟨_, rfl, a⟩
  | _, _, i + 1, d, .cons _ r, e => by
    obtain ⟨v, h1, h2⟩ := DRs.get (i := i) (d := d) r (by simpa using e)
    exact ⟨v, by simpa using h1, h2⟩
theorem DRs.getV : ∀ {ds : List D} {vs : List V} {i : Nat} {v : V}, DRs K m H ds vs → vs[i]? = some v → ∃ d, ds[i]? = some d ∧ DR K m H d v
  | _, _, _, _, .nil, e => by simp at e
  | _, _, 0, _, .cons a _, e => by simp at e; subst e; exact ⟨_, rfl, a⟩
  | _, _, i + 1, d, .cons _ r, e => by
    obtain ⟨v, h1, h2⟩ := DRs.getV (i := i) (v := d) r (by simpa using e)
    exact ⟨v, by simpa using h1, h2⟩
theorem DRs.append : ∀ {ds es : List D} {vs ws : List V}, DRs K m H ds vs → DRs K m H es ws → DRs K m H (ds ++ es) (vs ++ ws)
  | _, _, _, _, .nil, s => s
  | _, _, _, _, .cons a r, s => .cons a (DRs.append r s)
theorem DRs.take : ∀ {ds : List D} {vs : List V} (n : Nat), DRs K m H ds vs → DRs K m H (ds.take n) (vs.take n)
  | _, _, 0, _ => .nil
  | _, _, _ + 1, .nil => .nil
  | _, _, n + 1, .cons a r => .cons a (DRs.take n r)
theorem DRs.drop : ∀ {ds : List D} {vs : List V} (n : Nat), DRs K m H ds vs → DRs K m H (ds.drop n) (vs.drop n)
  | _, _, 0, r => r
  | _, _, _ + 1, .nil => .nil
  | _, _, n + 1, .cons _ r => DRs.drop n r
theorem DRs.set {d : D} {v : V} (a : DR K m H d v) : ∀ {ds : List D} {vs : List V} (i : Nat), DRs K m H ds vs → DRs K m H (ds.set i d) (vs.set i v)
  | _, _, _, .nil => .nil
  | _, _, 0, .cons _ r => .cons a r
  | _, _, i + 1, .cons b r => .cons b (DRs.set a i r)
theorem DRs.rep {ds : List D} {vs : List V} (r : DRs K m H ds vs) : ∀ n : Nat, DRs K m H (List.replicate n ds).flatten (List.replicate n vs).flatten
  | 0 => .nil
  | n + 1 => by
    rw [List.replicate_succ, List.replicate_succ, List.flatten_cons, List.flatten_cons]
    exact r.append (DRs.rep r n)
theorem DRs.empty {ds : List D} {vs : List V} (r : DRs K m H ds vs) : ds.isEmpty = vs.isEmpty := by
  cases r <;> rfl
theorem DRs.nil_iff {ds : List D} {vs : List V} (r : DRs K m H ds vs) : ds = [] ↔ vs = [] := by
  cases r <;> simp
/-- the flat ones are the same in every heap -/
theorem DR.flat {d : D} {v : V} (r : DR K m H d v) (f : flatD d = true) : v = toV d := by
  cases r <;> first | rfl | cases f
theorem DRs.flat : ∀ {ds : List D} {vs : List V}, DRs K m H ds vs → ds.all flatD = true → vs = ds.map toV
  | _, _, .nil, _ => rfl
  | _, _, .cons a r, f => by
    rw [List.all_cons, Bool.and_eq_true] at f
    rw [List.map_cons, a.flat f.1, DRs.flat r f.2]
theorem dr_toV {d : D} (f : flatD d = true) : DR K m H d (toV d) := by
  cases d <;> first | exact .non | exact .bl _ | exact .int _ | exact .str _ | cases f
theorem flatV_toV {d : D} (f : flatD d = true) : flatV (toV d) = true := by
  cases d <;> first | rfl | cases f
/-- what a value names lies below -/
theorem DR.lt {d : D} {v : V} (r : DR K m H d v) : D.lt m.length d = true := by
  refine DR.rec (motive_1 := fun d v _ => D.lt m.length d = true) (motive_2 := fun ds vs _ => D.lts m.length ds = true) ?_ ?_ ?_ ?_ ?_ ?_ ?_ ?_ ?_ r
  · simp [D.lt]
  · intros; simp [D.lt]
  · intros; simp [D.lt]
  · intros; simp [D.lt]
  · intro a ds vs _ _ ih; simpa [D.lt] using ih
  · intro a ds vs _ _ ih; simpa [D.lt] using ih
  · intro n a e; simp [D.lt, (List.getElem?_eq_some_iff.mp e).1]
  · simp [D.lts]
  · intro d v ds vs _ _ i1 i2; simp [D.lts, i1, i2]
theorem DRs.lts {ds : List D} {vs : List V} (r : DRs K m H ds vs) : D.lts m.length ds = true := by
  induction ds generalizing vs with
  | nil => simp [D.lts]
  | cons d ds ih =>
    cases r with
    | cons a r => simp [D.lts, a.lt, ih r]
/-- .. and then the places behind do not matter -/
theorem DR.cut {l : List Addr} {d : D} {v : V} (r : DR K (m ++ l) H d v) (h : D.lt m.length d = true) : DR K m H d v := by
  refine DR.rec (motive_1 := fun d v _ => D.lt m.length d = true → DR K m H d v) (motive_2 := fun ds vs _ => D.lts m.length ds = true → DRs K m H ds vs) ?_ ?_ ?_ ?_ ?_ ?_ ?_ ?_ ?_ r h
  · intros; exact .non
  · intros; exact .bl _
  · intros; exact .int _
  · intros; exact .str _
  · intro a ds vs t _ ih q; exact .tup t (ih (by simpa [D.lt] using q))
  · intro a ds vs t _ ih q; exact .fl t (ih (by simpa [D.lt] using q))
  · intro n a e q
    have q' : n < m.length := by simpa [D.lt] using q
    rw [List.getElem?_append_left q'] at e
    exact .ref e
  · intros; exact .nil
  · intro d v ds vs _ _ i1 i2 q
    have q' : D.lt m.length d = true ∧ D.lts m.length ds = true := by simpa [D.lts] using q
    exact .cons (i1 q'.1) (i2 q'.2)
theorem DRs.cut {l : List Addr} {ds : List D} {vs : List V} (r : DRs K (m ++ l) H ds vs) (h : D.lts m.length ds = true) : DRs K m H ds vs := by
  induction ds generalizing vs with
  | nil => cases r; exact .nil
  | cons d ds ih =>
    cases r with
    | cons a r =>
      have q' : D.lt m.length d = true ∧ D.lts m.length ds = true := by simpa [D.lts] using h
      exact .cons (a.cut q'.1) (ih r q'.2)
end

/-! ### cells -/
def FsR (K : PySem.W.Frag) (m : List Addr) (H : Hp) : List (Str × D) → List (Str × V) → Prop := Paired fun p q => p.1 = q.1 ∧ DR K m H p.2 q.2
def KvR (K : PySem.W.Frag) (m : List Addr) (H : Hp) : List (L2.Key × D) → List (L2.Key × V) → Prop := Paired fun p q => p.1 = q.1 ∧ DR K m H p.2 q.2
def CellR (G : GW) (m : List Addr) (H : Hp) (a : Addr) : Cell → Prop
  | .lst ds => ∃ vs, H a = some (.lst vs) ∧ DRs G.K m H ds vs
  | .obj C fs => ∃ Ca dx vs, G.oc C = some Ca ∧ H a = some (.ins Ca dx vs) ∧ FsR G.K m H fs vs
  | .dct kvs => ∃ vs, H a = some (.dK vs) ∧ KvR G.K m H kvs vs
structure Rel (G : GW) (m : List Addr) (h : Hd) (H : Hp) : Prop where
  len : m.length = h.length
  nd : m.Nodup
  cell : ∀ (n : Nat) (c : Cell) (a : Addr), h[n]? = some c → m[n]? = some a → CellR G m H a c
  pin : ∀ p ∈ G.pins, H p.1 = some (.xd p.2) ∧ p.1 ∉ m
section
variable {G : GW} {m m' : List Addr} {h h' : Hd} {H H' : Hp}
theorem CellR.live {a : Addr} {c : Cell} (r : CellR G m H a c) : H a ≠ none := by
  cases c with
  | lst ds => obtain ⟨vs, e, _⟩ := r; rw [e]; intro z; cases z
  | obj C fs => obtain ⟨_, _, _, _, e, _⟩ := r; rw [e]; intro z; cases z
  | dct kvs => obtain ⟨vs, e, _⟩ := r; rw [e]; intro z; cases z
theorem Rel.live (r : Rel G m h H) : ∀ a ∈ m, H a ≠ none := fun a ha => by
  obtain ⟨n, hn, e⟩ := List.getElem_of_mem ha
  have e1 : m[n]? = some a := by rw [List.getElem?_eq_getElem hn, e]
  have hl : n < h.length := by rw [← r.len]; exact hn
  exact (r.cell n h[n] a (List.getElem?_eq_getElem hl) e1).live
theorem Rel.step (r : Rel G m h H) : Step m H m H := Step.refl r.live
theorem Rel.notin (r : Rel G m h H) {p : Addr} (hp : H p = none) : p ∉ m := fun z => r.live p z hp
theorem FsR.mono (pre : ∀ (n : Nat) (a : Addr), m[n]? = some a → m'[n]? = some a) (tp : ∀ b xs, H b = some (.tup xs) → H' b = some (.tup xs)) (fz : ∀ b o u, H b = some (.frz o u) → H' b = some (.frz o u)) {K : PySem.W.Frag}
    {fs : List (Str × D)} {vs : List (Str × V)} (r : FsR K m H fs vs) : FsR K m' H' fs vs := Paired.mapP r fun _ _ q => ⟨q.1, q.2.mono pre tp fz⟩
theorem KvR.mono (pre : ∀ (n : Nat) (a : Addr), m[n]? = some a → m'[n]? = some a) (tp : ∀ b xs, H b = some (.tup xs) → H' b = some (.tup xs)) (fz : ∀ b o u, H b = some (.frz o u) → H' b = some (.frz o u)) {K : PySem.W.Frag}
    {fs : List (L2.Key × D)} {vs : List (L2.Key × V)} (r : KvR K m H fs vs) : KvR K m' H' fs vs := Paired.mapP r fun _ _ q => ⟨q.1, q.2.mono pre tp fz⟩
/-- a cell where its own object stands as it was -/
theorem CellR.mono {a : Addr} {c : Cell} (r : CellR G m H a c) (e : H' a = H a) (pre : ∀ (n : Nat) (a : Addr), m[n]? = some a → m'[n]? = some a) (tp : ∀ b xs, H b = some (.tup xs) → H' b = some (.tup xs)) (fz : ∀ b o u, H b = some (.frz o u) → H' b = some (.frz o u)) : CellR G m' H' a c := by
  cases c with
  | lst ds => obtain ⟨vs, q, d⟩ := r; exact ⟨vs, e.trans q, d.mono pre tp fz⟩
  | obj C fs => obtain ⟨Ca, dx, vs, k, q, d⟩ := r; exact ⟨Ca, dx, vs, k, e.trans q, d.mono pre tp fz⟩
  | dct kvs => obtain ⟨vs, q, d⟩ := r; exact ⟨vs, e.trans q, d.mono pre tp fz⟩
/-- a new object that is not tracked by the deep heap -/
theorem new_step (r : Rel G m h H) {p : Addr} {o : HO} (hp : H p = none) : Step m H m (upd H p o) ∧ Rel G m h (upd H p o) := by
  have hk : ∀ b u, H b = some u → upd H p o b = some u := fun b u e => by rw [upd_ne (ne_of_none e hp)]; exact e
  refine ⟨⟨⟨[], by simp, fun _ h => by cases h⟩, fun a ha z => ?_, fun b u e _ => hk b u e, fun b u e => hk b _ e, fun b o u e => hk b _ e⟩, r.len, r.nd, fun n c a e1 e2 => ?_, fun q hq => ⟨hk _ _ (r.pin q hq).1, (r.pin q hq).2⟩⟩
  · cases q : H a with
    | none => exact r.live a ha q
    | some u => rw [hk a u q] at z; cases z
  · refine (r.cell n c a e1 e2).mono ?_ (fun _ _ e => e) (fun b xs e => hk b _ e) (fun b o u e => hk b _ e)
    exact upd_ne fun z => r.notin hp (by rw [← z]; exact List.mem_of_getElem? e2)
/-- a new tracked cell -/
theorem newc_step (r : Rel G m h H) {p : Addr} {o : HO} {c : Cell} (hp : H p = none) (hc : CellR G (m ++ [p]) (upd H p o) p c) : Step m H (m ++ [p]) (upd H p o) ∧ Rel G (m ++ [p]) (h ++ [c]) (upd H p o) := by
  have hk : ∀ b u, H b = some u → upd H p o b = some u := fun b u e => by rw [upd_ne (ne_of_none e hp)]; exact e
  have pr : ∀ (n : Nat) (a : Addr), m[n]? = some a → (m ++ [p])[n]? = some a := fun n a e => by rw [List.getElem?_append_left (List.getElem?_eq_some_iff.mp e).1]; exact e
  have nm := r.notin hp
  have rl : Rel G (m ++ [p]) (h ++ [c]) (upd H p o) := by
    refine ⟨by simp [r.len], ?_, fun n c' a e1 e2 => ?_, fun q hq => ⟨hk _ _ (r.pin q hq).1, fun z => ?_⟩⟩
    rotate_left 2
    · rcases List.mem_append.mp z with z | z
      · exact (r.pin q hq).2 z
      · have z : q.1 = p := by simpa using z
        have := (r.pin q hq).1
        rw [z, hp] at this
        cases this
    · rw [List.nodup_append]
      refine ⟨r.nd, by simp, fun x hx y hy z => ?_⟩
      have : y = p := by simpa using hy
      exact nm (by rw [← this, ← z]; exact hx)
    · by_cases hn : n < h.length
      · rw [List.getElem?_append_left hn] at e1
        rw [List.getElem?_append_left (by rw [r.len]; exact hn)] at e2
        refine (r.cell n c' a e1 e2).mono ?_ pr (fun b xs e => hk b _ e) (fun b o u e => hk b _ e)
        exact upd_ne fun z => nm (by rw [← z]; exact List.mem_of_getElem? e2)
      · rw [List.getElem?_append_right (by omega)] at e1
        rw [List.getElem?_append_right (by rw [r.len]; omega), r.len] at e2
        cases k : n - h.length with
        | zero =>
          rw [k] at e1 e2
          cases e1
          cases e2
          exact hc
        | succ j => rw [k] at e1; cases e1
  exact ⟨⟨⟨[p], rfl, fun a ha => by have : a = p := by simpa using ha
                                    rw [this]; exact hp⟩, rl.live, fun b u e _ => hk b u e, fun b u e => hk b _ e, fun b o u e => hk b _ e⟩, rl⟩
theorem newL_step (r : Rel G m h H) {p : Addr} {ds : List D} {vs : List V} (hp : H p = none) (d : DRs G.K m H ds vs) :
    Step m H (m ++ [p]) (upd H p (.lst vs)) ∧ Rel G (m ++ [p]) (h ++ [.lst ds]) (upd H p (.lst vs)) := by
  have hk : ∀ b u, H b = some u → upd H p (.lst vs) b = some u := fun b u e => by rw [upd_ne (ne_of_none e hp)]; exact e
  have pr : ∀ (n : Nat) (a : Addr), m[n]? = some a → (m ++ [p])[n]? = some a := fun n a e => by rw [List.getElem?_append_left (List.getElem?_eq_some_iff.mp e).1]; exact e
  exact newc_step r hp ⟨vs, upd_same, d.mono pr (fun b xs e => hk b _ e) (fun b o u e => hk b _ e)⟩
/-- a tracked cell is written -/
theorem set_step (r : Rel G m h H) {n : Nat} {p : Addr} {o u : HO} {c : Cell} (e : m[n]? = some p) (ho : H p = some u) (nt : ∀ xs, u ≠ .tup xs) (nf : ∀ ob w, u ≠ .frz ob w) (hc : CellR G m (upd H p o) p c) : Step m H m (upd H p o) ∧ Rel G m (h.set n c) (upd H p o) := by
  have tp : ∀ b xs, H b = some (.tup xs) → upd H p o b = some (.tup xs) := fun b xs q => by
    rw [upd_ne fun z => ?_]; exact q
    rw [z, ho] at q
    exact nt xs (Option.some.inj q)
  have fz : ∀ b ob w, H b = some (.frz ob w) → upd H p o b = some (.frz ob w) := fun b ob w q => by
    rw [upd_ne fun z => ?_]; exact q
    rw [z, ho] at q
    exact nf ob w (Option.some.inj q)
  have rl : Rel G m (h.set n c) (upd H p o) := by
    refine ⟨by simp [r.len], r.nd, fun j c' a e1 e2 => ?_, fun q hq => ⟨?_, (r.pin q hq).2⟩⟩
    rotate_left 1
    · rw [upd_ne fun z => (r.pin q hq).2 (by rw [z]; exact List.mem_of_getElem? e)]
      exact (r.pin q hq).1
    by_cases hj : n = j
    · subst hj
      rw [e] at e2
      cases e2
      rw [List.getElem?_set_self (by rw [← r.len]; exact (List.getElem?_eq_some_iff.mp e).1)] at e1
      cases e1
      exact hc
    · rw [List.getElem?_set_ne hj] at e1
      refine (r.cell j c' a e1 e2).mono (upd_ne fun z => ?_) (fun _ _ q => q) tp fz
      subst z
      obtain ⟨h1, e3⟩ := List.getElem?_eq_some_iff.mp e
      obtain ⟨h2, e4⟩ := List.getElem?_eq_some_iff.mp e2
      exact hj ((List.getElem_inj r.nd).mp (e3.trans e4.symm))
  exact ⟨⟨⟨[], by simp, fun _ z => by cases z⟩, rl.live, fun b w q hb => by
    rw [upd_ne fun z => hb (by rw [z]; exact List.mem_of_getElem? e)]; exact q, tp, fz⟩, rl⟩
theorem Rel.lst (r : Rel G m h H) {n : Nat} {xs : List D} {a : Addr} (e : lstAt h n = some xs) (ea : m[n]? = some a) : ∃ vs, H a = some (.lst vs) ∧ DRs G.K m H xs vs := by
  unfold lstAt at e
  split at e
  · rename_i ys q
    cases e
    exact r.cell n _ a q ea
  · cases e
theorem Rel.at (r : Rel G m h H) {n : Nat} {v : V} (d : DR G.K m H (.ref n) v) : ∃ a, v = .ref a ∧ m[n]? = some a := by
  cases d with
  | ref e => exact ⟨_, rfl, e⟩
/-- of a place that holds a list -/
theorem Rel.lstV (r : Rel G m h H) {n : Nat} {xs : List D} {v : V} (d : DR G.K m H (.ref n) v) (e : lstAt h n = some xs) : ∃ a vs, v = .ref a ∧ m[n]? = some a ∧ H a = some (.lst vs) ∧ DRs G.K m H xs vs := by
  obtain ⟨a, e1, e2⟩ := r.at d
  obtain ⟨vs, e3, e4⟩ := r.lst e e2
  exact ⟨a, vs, e1, e2, e3, e4⟩
end

/-! ### what an evaluation's end asks -/
def ExR (G : GW) (m : List Addr) (H : Hp) (e : Exn) (cls : Value) (dx : Option Addr) : Prop :=
  ∃ Ca, cls = .ref Ca ∧ G.cl e.cls = some Ca ∧ ((dx = none ∧ e.fs = []) ∨ ∃ d vs, dx = some d ∧ H d = some (.xd vs) ∧ ∀ f x, e.fs.lookup f = some x → flatD x = true ∧ vs.lookup f = some (toV x))
abbrev XKE := Value → Option Addr → Hp → Prop
def Sat {α β : Type} (G : GW) (R : List Addr → Hp → α → β → Prop) (m : List Addr) (H : Hp) (o : Out α) (Q : β → Hp → Prop) (E : XKE) : Prop := match o with
  | .ok d h => ∀ m' H' v, Step m H m' H' → Rel G m' h H' → R m' H' d v → Q v H'
  | .ex e h => ∀ m' H' cls dx, Step m H m' H' → Rel G m' h H' → ExR G m' H' e cls dx → E cls dx H'
  | .no => False
section
variable {G : GW} {α β γ δ : Type} {R : List Addr → Hp → α → β → Prop} {S : List Addr → Hp → γ → δ → Prop} {m m' : List Addr} {H H' : Hp} {h : Hd} {Q : β → Hp → Prop} {Q2 : δ → Hp → Prop} {E : XKE}
theorem Sat.trans {o : Out α} (s : Sat G R m H o Q E) (t : Step m H m' H') : Sat G R m' H' o Q E := by
  cases o with
  | ok d h => exact fun m2 H2 v t2 => s m2 H2 v (t.trans t2)
  | ex e h => exact fun m2 H2 c d t2 => s m2 H2 c d (t.trans t2)
  | no => exact s
theorem Sat.bind {o : Out α} {f : α → Hd → Out γ} (s : Sat G S m H (o.bind f) Q2 E) (k : ∀ d h1 m1 H1 v, Step m H m1 H1 → Rel G m1 h1 H1 → R m1 H1 d v → Sat G S m1 H1 (f d h1) Q2 E → Q v H1) : Sat G R m H o Q E := by
  cases o with
  | ok d h => exact fun m1 H1 v t r q => k d h m1 H1 v t r q (Sat.trans (o := f d h) s t)
  | ex e h => exact s
  | no => exact s
theorem Sat.imp {o : Out α} {Q' : β → Hp → Prop} (s : Sat G R m H o Q E) (k : ∀ v H, Q v H → Q' v H) : Sat G R m H o Q' E := by
  cases o with
  | ok d h => exact fun m1 H1 v t r q => k v H1 (s m1 H1 v t r q)
  | ex e h => exact s
  | no => exact s
theorem Sat.ok {d : α} {v : β} (s : Sat G R m H (.ok d h) Q E) (r : Rel G m h H) (q : R m H d v) : Q v H := s m H v r.step r q
theorem Sat.ret {c : Bool} {d : α} (s : Sat G R m H (ret c d h) Q E) : c = true ∧ Sat G R m H (.ok d h) Q E := by
  cases c with
  | true => exact ⟨rfl, s⟩
  | false => exact s.elim
end
abbrev RD (G : GW) : List Addr → Hp → D → V → Prop := DR G.K
abbrev RDs (G : GW) : List Addr → Hp → List D → List V → Prop := DRs G.K
abbrev RB : List Addr → Hp → Bool → Bool → Prop := fun _ _ a b => a = b
abbrev RO : List Addr → Hp → Option Int → Option Int → Prop := fun _ _ a b => a = b
theorem Sat.newL {G : GW} {m : List Addr} {h : Hd} {H : Hp} {xs : List D} {vs : List V} {Q : V → Hp → Prop} {E : XKE} {p : Addr} (s : Sat G (RD G) m H (PV.newL xs h) Q E) (r : Rel G m h H) (d : DRs G.K m H xs vs) (hp : H p = none) : Q (.ref p) (upd H p (.lst vs)) := by
  obtain ⟨t, r'⟩ := newL_step r hp d
  refine s _ _ _ t r' (.ref ?_)
  rw [List.getElem?_append_right (by rw [r.len]; exact Nat.le_refl _), r.len, Nat.sub_self]
  rfl
theorem Sat.tup {G : GW} {m : List Addr} {h : Hd} {H : Hp} {xs : List D} {vs : List V} {Q : V → Hp → Prop} {E : XKE} {p : Addr} (s : Sat G (RD G) m H (.ok (.tup xs) h) Q E) (r : Rel G m h H) (d : DRs G.K m H xs vs) (hp : H p = none) : Q (.ref p) (upd H p (.tup vs)) := by
  obtain ⟨t, r'⟩ := new_step (o := .tup vs) r hp
  exact s _ _ _ t r' (.tup (SqT.of upd_same) (d.step t))
theorem Sat.newLc {G : GW} {m : List Addr} {h : Hd} {H : Hp} {c : Bool} {xs : List D} {Q : V → Hp → Prop} {E : XKE} (s : Sat G (RD G) m H (PV.newLc c xs h) Q E) : c = true ∧ Sat G (RD G) m H (PV.newL xs h) Q E := by
  cases c with
  | true => exact ⟨rfl, s⟩
  | false => exact s.elim
end PV
/-! PVC: each operation by values keeps what the pure one says. -/
namespace PV
open PySem PySem.Spec PyProof.Rows L2
/-- the reading of a two-place operation -/
def r2 (G : GW) (F : D → D → Hd → Out D) : R2 := fun x y H Q => ∃ m h a b NoE, Rel G m h H ∧ DR G.K m H a x ∧ DR G.K m H b y ∧ Sat G (RD G) m H (F a b h) Q NoE
section
variable {X : Cx} {G : GW}
theorem line_eq : line = sizeLine := sizeLine_eq.symm
theorem intBits_le (i : Int) : Builtin.Int.intBits i ≤ i.natAbs.log2 + 1 := by
  unfold Builtin.Int.intBits
  split <;> omega
theorem mulOk_of {i j : Int} (h : mulOk i j = true) : IntMulOk i j := by
  have h3 := of_decide_eq_true h
  have h1 := intBits_le i
  have h2 := intBits_le j
  have e : bitsLine = 134217728 := by decide
  unfold IntMulOk
  intro z
  rw [Bool.and_eq_true] at z
  have z2 := z.2
  unfold Builtin.Int.intTooBig at z2
  have z3 := of_decide_eq_true z2
  rw [e] at z3
  omega
theorem add_ok (hK : X.K = G.K) : OpR X (binaryOp .Add) (r2 G addV) := by
  intro pins s σ H x y v u Q I rx ry ⟨m, h, a, b, NoE, r, da, db, q⟩
  cases a with
  | int i =>
    cases b with
    | int j =>
      cases da
      cases db
      exact op_add pins s σ H _ _ v u Q I rx ry ⟨i, j, rfl, rfl, q.ok r (.int _)⟩
    | _ => exact False.elim q
  | str i =>
    cases b with
    | str j =>
      cases da
      cases db
      obtain ⟨hz, q⟩ := Sat.ret q
      exact op_add_str pins s σ H _ _ v u Q I rx ry ⟨i, j, rfl, rfl, by rw [← line_eq]; exact of_decide_eq_true hz, q.ok r (.str _)⟩
    | _ => exact False.elim q
  | tup xs =>
    cases b with
    | tup ys =>
      cases da with
      | tup ta ra =>
        cases db with
        | tup tb rb =>
          obtain ⟨hz, q⟩ := Sat.ret q
          have hz' := of_decide_eq_true hz
          refine op_catA pins s σ H _ _ v u Q I rx ry ⟨_, _, _, _, rfl, rfl, hK ▸ ta, hK ▸ tb, by rw [← ra.length, ← rb.length, ← line_eq]; exact hz', fun e => ?_, fun _ e => ?_, fun _ _ p hp => ?_⟩
          · have e' := ra.nil_iff.mpr e
            subst e'
            exact q.ok r (.tup tb rb)
          · have e' := rb.nil_iff.mpr e
            subst e'
            exact q.ok r (.tup ta (by rw [List.append_nil]; exact ra))
          · exact q.tup r (ra.append rb) hp
    | _ => exact False.elim q
  | ref n =>
    cases b with
    | ref k =>
      have q' : Sat G (RD G) m H (match lstAt h n, lstAt h k with
        | some xs, some ys => newLc (decide (xs.length + ys.length ≤ line)) (xs ++ ys) h
        | _, _ => .no) Q NoE := q
      split at q'
      · rename_i xs ys e1 e2
        obtain ⟨hz, q2⟩ := Sat.newLc q'
        obtain ⟨a, vs, rfl, _, h1, d1⟩ := r.lstV da e1
        obtain ⟨b, ws, rfl, _, h2, d2⟩ := r.lstV db e2
        exact op_cat pins s σ H _ _ v u Q I rx ry ⟨a, b, vs, ws, rfl, rfl, h1, h2, by rw [← d1.length, ← d2.length, ← line_eq]; exact of_decide_eq_true hz, fun p hp => q2.newL r (d1.append d2) hp⟩
      · exact False.elim q'
    | _ => exact False.elim q
  | _ => exact False.elim q
end
/-! tuple * n, the other ways -/
section
theorem tuple_mulE (l : Addr) (items : Array Value) (n : Nat) (dd : Option Addr) (sl : Array (Option Value)) (x : Int) (u : Tok) (c0 : (decide (x < -(2 ^ 63)) || decide (x ≥ 2 ^ 63)) = false) (c1 : (items.isEmpty || x == 1) = true) :
    Meets (Builtin.«tuple.__mul__» ⟨[.ref l, .int x u], []⟩) (fun _ R s => s.heap.get? l = some { cls := .type "tuple", dict := dd, data := .seq items n, slots := sl } ∧
      R (.ok (.ret (Value.ref l))) s) :=
  .of_wp fun prog w A R s h => by
    obtain ⟨hp, g, d, tk, os⟩ := s
    obtain ⟨hl, h⟩ := h
    have f1 := AutoSeq1.idx_int
    wp_walk using wpAny_loadPart' hl
    refine wpAny_ite_false (decide_eq_false (by rw [c0]; exact Bool.false_ne_true)) ?_
    wp_walk using wpAny_loadPart' hl
    exact ⟨_, rfl, h⟩
theorem tuple_mulZ (l : Addr) (items : Array Value) (n : Nat) (dd : Option Addr) (sl : Array (Option Value)) (x : Int) (u : Tok) (c0 : (decide (x < -(2 ^ 63)) || decide (x ≥ 2 ^ 63)) = false) (c1 : (items.isEmpty || x == 1) = false) (c2 : (decide (x ≤ 0) || items.isEmpty) = true) :
    Meets (Builtin.«tuple.__mul__» ⟨[.ref l, .int x u], []⟩) (fun _ R s => s.heap.get? l = some { cls := .type "tuple", dict := dd, data := .seq items n, slots := sl } ∧
      R (.ok (.ret (Value.ref s.heap.objs.size))) { s with heap := s.heap.push { cls := Value.type "tuple", data := Data.seq #[] }, toks := s.toks }) :=
  .of_wp fun prog w A R s h => by
    obtain ⟨hp, g, d, tk, os⟩ := s
    obtain ⟨hl, h⟩ := h
    have f1 := AutoSeq1.idx_int
    wp_walk using wpAny_loadPart' hl
    repeat (first
      | (refine wpAny_ite_false (decide_eq_false (by rw [c0]; exact Bool.false_ne_true)) ?_; wp_walk using wpAny_loadPart' hl)
      | (refine wpAny_ite_false (decide_eq_false (by rw [c1]; exact Bool.false_ne_true)) ?_; wp_walk using wpAny_loadPart' hl)
      | (refine wpAny_ite_true (decide_eq_true (by rw [c2])) ?_; wp_walk using wpAny_loadPart' hl))
    all_goals first
      | exact ⟨_, rfl, h⟩
      | (show (0 : Nat) ≤ sizeLine; exact Nat.zero_le _)
      | skip
end
section
variable {X : Cx} {G : GW}
/-- the machine's part of tuple * n -/
theorem tup_mul {pins : List (Addr × Obj)} {s : Shared} {σ : L2.St} {H : Hp} {l : Addr} {k : Int} {t : Tok} {xs : List V} {Q : VK} (I : Inv X pins σ H s) (hT : SqT X.K H l xs) (h1 : k ≤ 1000) (h2 : -1000 ≤ k) (hz : xs.length ≤ 1000)
    (q : xs = [] ∨ k = 1 → Q (.ref l) H) (q2 : ∀ p, H p = none → Q (.ref p) (upd H p (.tup (List.replicate k.toNat xs).flatten))) : wpAny (model X.prog X.w) X.A (binaryOp .Mult (.ref l) (.int k t)) (EP X pins σ Q) X.xe s := by
  by_cases he : xs = [] ∨ k = 1
  · obtain ⟨its, r, ⟨⟨cls, dd, data, sl⟩, ho, hc, n, hd⟩, hs⟩ := I.tuple hT
    simp only at hc hd
    subst hc hd
    have c0 : (decide (k < -(2 ^ 63)) || decide (k ≥ 2 ^ 63)) = false := by
      rw [decide_eq_false (by omega), decide_eq_false (by omega)] <;> rfl
    have c1 : (its.toArray.isEmpty || k == 1) = true := by
      rcases he with e | e
      · rw [e] at r
        cases r
        rfl
      · rw [e]
        simp
    exact wpAny_binaryOp_repeat_ref (T := "tuple") (U := "int") (by decide) ⟨_, ho, rfl⟩ (fun s' => typeIs_int s' k t) noFill_tuple_mul F.fills_int_mul F.slot_int_rmul repeat_tuple F.slot_int_index.lookup
      (call_meets F.slot_int_rmul (typeIs_int s k t) F.entry_int_rmul (F.args_int_rmul_2 _ _) (int_rmul_tuple k t l its.toArray n dd sl)
        ⟨ho, rfl, ⟨_, ho, rfl⟩, call_meets F.slot_tuple_mul ⟨_, ho, rfl⟩ F.entry_tuple_mul (F.args_tuple_mul_2 _ _) (tuple_mulE l its.toArray n dd sl k t c0 c1) ⟨ho, .ref l, H, I, rfl, q he⟩⟩)
  · by_cases h0 : k ≤ 0
    · obtain ⟨its, r, ⟨⟨cls, dd, data, sl⟩, ho, hc, n, hd⟩, hs⟩ := I.tuple hT
      simp only at hc hd
      subst hc hd
      have c0 : (decide (k < -(2 ^ 63)) || decide (k ≥ 2 ^ 63)) = false := by
        rw [decide_eq_false (by omega), decide_eq_false (by omega)] <;> rfl
      have c1 : (its.toArray.isEmpty || k == 1) = false := by
        have : its ≠ [] := fun e => he (.inl (by rw [e] at r; cases r; rfl))
        cases its with
        | nil => exact absurd rfl this
        | cons a b =>
          have : (k == 1) = false := beq_eq_false_iff_ne.mpr (by omega)
          rw [this]
          rfl
      have c2 : (decide (k ≤ 0) || its.toArray.isEmpty) = true := by rw [decide_eq_true h0]; rfl
      refine wpAny_binaryOp_repeat_ref (T := "tuple") (U := "int") (by decide) ⟨_, ho, rfl⟩ (fun s' => typeIs_int s' k t) noFill_tuple_mul F.fills_int_mul F.slot_int_rmul repeat_tuple F.slot_int_index.lookup
        (call_meets F.slot_int_rmul (typeIs_int s k t) F.entry_int_rmul (F.args_int_rmul_2 _ _) (int_rmul_tuple k t l its.toArray n dd sl)
          ⟨ho, rfl, ⟨_, ho, rfl⟩, call_meets F.slot_tuple_mul ⟨_, ho, rfl⟩ F.entry_tuple_mul (F.args_tuple_mul_2 _ _) (tuple_mulZ l its.toArray n dd sl k t c0 c1 c2) ⟨ho, ?_⟩⟩)
      have e : k.toNat = 0 := by omega
      have qq := q2 s.heap.objs.size (I.hok.fresh (Nat.le_refl _))
      rw [e] at qq
      refine ⟨.ref s.heap.objs.size, _, I.laid (t' := s.toks) (o := .tup (List.replicate 0 xs).flatten) (fun b ob q => Heap.get?_push_of_some _ q) (Nat.le_refl _) ?_, rfl, qq⟩
      exact ⟨Nat.zero_le _, [], .nil, IsTup.new _ _⟩
    · have h3 : ¬ k = 1 := fun e => he (.inr e)
      exact op_repT pins s σ H (.ref l) (.int k) _ _ Q I rfl ⟨_, rfl⟩ ⟨l, k, xs, rfl, rfl, hT, fun e => he (.inl e), by omega, h1, hz, q2⟩
theorem mul_ok (hK : X.K = G.K) : OpR X (binaryOp .Mult) (r2 G mulV) := by
  intro pins s σ H x y v u Q I rx ry ⟨m, h, a, b, NoE, r, da, db, q⟩
  cases a with
  | int i =>
    cases b with
    | int j =>
      cases da
      cases db
      obtain ⟨t, rfl⟩ := rx
      obtain ⟨t', rfl⟩ := ry
      obtain ⟨hz, q⟩ := Sat.ret q
      exact mul_int ⟨.int _, H, I.tok _, ⟨_, rfl⟩, q.ok r (.int _)⟩ (mulOk_of hz)
    | _ => exact False.elim q
  | tup xs =>
    cases b with
    | int k =>
      cases da with
      | @tup l _ vs ta ra =>
        cases db
        cases rx
        obtain ⟨t', rfl⟩ := ry
        obtain ⟨hz, q⟩ := Sat.ret q
        simp only [Bool.and_eq_true, decide_eq_true_eq] at hz
        refine tup_mul I (hK ▸ ta) hz.1.1 hz.1.2 (by rw [← ra.length]; exact hz.2) (fun e => ?_) fun p hp => q.tup r (ra.rep _) hp
        rcases e with e | e
        · have e' := ra.nil_iff.mpr e
          subst e'
          rw [show (List.replicate k.toNat ([] : List D)).flatten = [] by simp] at q
          exact q.ok r (.tup ta ra)
        · subst e
          rw [show (List.replicate (1 : Int).toNat xs).flatten = xs by simp] at q
          exact q.ok r (.tup ta ra)
    | _ => exact False.elim q
  | ref n =>
    cases b with
    | int k =>
      have q' : Sat G (RD G) m H (match lstAt h n with
        | some xs => newLc (decide (k ≤ 1000) && decide (-1000 ≤ k) && decide (xs.length ≤ 1000)) (List.replicate k.toNat xs).flatten h
        | _ => .no) Q NoE := q
      split at q'
      · rename_i xs e1
        obtain ⟨hz, q2⟩ := Sat.newLc q'
        simp only [Bool.and_eq_true, decide_eq_true_eq] at hz
        obtain ⟨a, vs, rfl, _, h1, d1⟩ := r.lstV da e1
        cases db
        have hl : xs.length * k.toNat ≤ 1000 * 1000 := Nat.mul_le_mul hz.2 (by omega)
        exact op_rep pins s σ H _ _ v u Q I rx ry ⟨a, k, vs, rfl, rfl, h1, by omega, by omega, by rw [← d1.length, sizeLine_eq]; omega, fun p hp => q2.newL r (d1.rep _) hp⟩
      · exact False.elim q'
    | _ => exact False.elim q
  | _ => exact False.elim q
theorem int2_ok {op : Operator} {F : D → D → Hd → Out D} {C : Int → Int → Bool} {g : Int → Int → Int}
    (hF : ∀ a b h, F a b h = match a, b with
      | .int i, .int j => ret (C i j) (.int (g i j)) h
      | _, _ => .no)
    (rule : ∀ (i j : Int) (t u : Tok) (s : Shared) (Q : Value → Shared → Prop) (E : Value → Shared → Prop), C i j = true → Q (.int (g i j) s.toks) { s with toks := s.toks + 1 } → wpAny (model X.prog X.w) X.A (binaryOp op (.int i t) (.int j u)) Q E s) : OpR X (binaryOp op) (r2 G F) := by
  intro pins s σ H x y v u Q I rx ry ⟨m, h, a, b, NoE, r, da, db, q⟩
  rw [hF] at q
  cases a with
  | int i =>
    cases b with
    | int j =>
      cases da
      cases db
      obtain ⟨t, rfl⟩ := rx
      obtain ⟨t', rfl⟩ := ry
      obtain ⟨hz, q⟩ := Sat.ret q
      exact rule i j t t' s _ _ hz ⟨.int _, H, I.tok _, ⟨_, rfl⟩, q.ok r (.int _)⟩
    | _ => exact False.elim q
  | _ => exact False.elim q
theorem bin_ok (hK : X.K = G.K) (op : Operator) : OpR X (binaryOp op) (r2 G (binV op)) := by
  have no : ∀ {op : Operator}, (∀ a b h, binV op a b h = .no) → OpR X (binaryOp op) (r2 G (binV op)) := fun {op} e pins s σ H x y v u Q I rx ry ⟨m, h, a, b, NoE, r, da, db, q⟩ => by
    rw [e] at q
    exact False.elim q
  cases op with
  | Add => exact add_ok hK
  | Mult => exact mul_ok hK
  | Sub => exact int2_ok (C := fun _ _ => true) (g := fun i j => i - j) (fun a b h => by cases a <;> cases b <;> rfl) fun i j t u s Q E _ q => sub_int q
  | FloorDiv =>
    exact int2_ok (C := divOk) (g := fun i j => i.fdiv j) (fun a b h => by cases a <;> cases b <;> rfl) fun i j t u s Q E hc q => by
      unfold divOk at hc
      rw [Bool.and_eq_true, decide_eq_true_eq, Bool.not_eq_true'] at hc
      exact floordiv_int hc.1 q (.inl hc.2)
  | Mod => exact int2_ok (C := fun _ j => decide (j ≠ 0)) (g := fun i j => i.fmod j) (fun a b h => by cases a <;> cases b <;> rfl) fun i j t u s Q E hc q => mod_int' (of_decide_eq_true hc) q
  | Pow =>
    exact int2_ok (C := powOk) (g := fun i j => i ^ j.toNat) (fun a b h => by cases a <;> cases b <;> rfl) fun i j t u s Q E hc q => by
      unfold powOk at hc
      simp only [Bool.and_eq_true, decide_eq_true_eq] at hc
      refine pow_int hc.1 ?_ q
      have h1 : (Builtin.Int.intBits i : Int) ≤ ((i.natAbs.log2 + 1 : Nat) : Int) := Int.ofNat_le.mpr (intBits_le i)
      have h2 := Int.mul_le_mul_of_nonneg_right h1 hc.1
      have h3 : (2 : Int) ^ 27 = 134217728 := by decide
      omega
  | LShift =>
    exact int2_ok (C := shlOk) (g := fun i j => i * 2 ^ j.toNat) (fun a b h => by cases a <;> cases b <;> rfl) fun i j t u s Q E hc q => by
      unfold shlOk at hc
      simp only [Bool.and_eq_true, decide_eq_true_eq] at hc
      refine lshift_int hc.1 ?_ q
      have h1 : (Builtin.Int.intBits i : Int) ≤ ((i.natAbs.log2 + 1 : Nat) : Int) := Int.ofNat_le.mpr (intBits_le i)
      have h3 : (2 : Int) ^ 27 = 134217728 := by decide
      omega
  | _ => exact no fun a b h => rfl
/-- -x -/
def r1 (G : GW) (F : D → Hd → Out D) : V → Hp → VK → Prop := fun x H Q => ∃ m h a NoE, Rel G m h H ∧ DR G.K m H a x ∧ Sat G (RD G) m H (F a h) Q NoE
theorem neg_ok : UnR X (unaryOp .USub) (r1 G negV) := by
  intro pins s σ H x v Q I rx ⟨m, h, a, NoE, r, da, q⟩
  cases a with
  | int i =>
    cases da
    exact un_neg pins s σ H _ v Q I rx ⟨i, rfl, q.ok r (.int _)⟩
  | _ => exact False.elim q
/-! ### truth, comparisons -/
theorem tru_of {m : List Addr} {h : Hd} {H : Hp} {d : D} {v : V} {k : Bool} (hK : X.K = G.K) (r : Rel G m h H) (da : DR G.K m H d v) (e : truthD h d = some k) : TruV X.K v H k := by
  cases d with
  | non => cases da; cases e; rfl
  | bl b => cases da; cases e; rfl
  | int i => cases da; cases e; rfl
  | str z =>
    cases da
    have e' : (if z.length ≤ line then some ((z.length : Int) != 0) else none) = some k := e
    split at e'
    · rename_i hz
      cases e'
      exact ⟨by rw [← line_eq]; exact hz, rfl⟩
    · cases e'
  | tup xs =>
    cases da with
    | tup t d =>
      cases e
      exact .inr (.inl ⟨_, hK ▸ t, by rw [d.empty]⟩)
  | fl xs =>
    cases da with
    | fl t d =>
      cases e
      exact .inl ⟨_, hK ▸ t.sq, by rw [d.empty]⟩
  | ref n =>
    have e' : (match lstAt h n with
      | some xs => some (!xs.isEmpty)
      | none => none) = some k := e
    split at e'
    · rename_i xs e1
      cases e'
      obtain ⟨a, vs, rfl, _, h1, d1⟩ := r.lstV da e1
      exact .inl ⟨vs, SqL.of h1, by rw [d1.empty]⟩
    · cases e'
end
section
variable {K : PySem.W.Frag} {m : List Addr} {H : Hp} {h : Hd}
mutual
theorem dp_of {f : Nat → PyData} (hf : ∀ (n : Nat) (v : V), DR K m H (.ref n) v → (f n).canLay0 = true → Dp K H v (f n)) : ∀ {d : D} {v : V}, DR K m H d v → (toPyF f d).canLay0 = true → Dp K H v (toPyF f d)
  | _, _, .non, _ => by simp only [toPyF]; exact .non
  | _, _, .bl b, _ => by simp only [toPyF]; exact .bl b
  | _, _, .int i, _ => by simp only [toPyF]; exact .int i
  | _, _, .str s, _ => by simp only [toPyF]; exact .str s
  | _, _, .tup t d, c => by
    simp only [toPyF] at c ⊢
    exact .tup t (dps_of hf d (by simpa [PyData.canLay0] using c))
  | _, _, .fl t d, c => by
    simp only [toPyF] at c ⊢
    exact .lst t.sq (dps_of hf d (by simpa [PyData.canLay0] using c))
  | _, _, .ref e, c => by
    simp only [toPyF] at c ⊢
    exact hf _ _ (.ref e) c
theorem dps_of {f : Nat → PyData} (hf : ∀ (n : Nat) (v : V), DR K m H (.ref n) v → (f n).canLay0 = true → Dp K H v (f n)) : ∀ {ds : List D} {vs : List V}, DRs K m H ds vs → PyData.canLayAll0 (toPysF f ds) = true → DpAll K H vs (toPysF f ds)
  | _, _, .nil, _ => by simp only [toPysF]; exact .nil
  | _, _, .cons a r, c => by
    simp only [toPysF] at c ⊢
    rw [PyData.canLayAll0, Bool.and_eq_true] at c
    exact .cons (dp_of hf a c.1) (dps_of hf r c.2)
end
theorem dpR_of {G : GW} (r : Rel G m h H) : ∀ (k n : Nat) (v : V), DR G.K m H (.ref n) v → (refPy h k n).canLay0 = true → Dp G.K H v (refPy h k n)
  | 0, _, _, _, c => by simp [refPy, PyData.canLay0] at c
  | k + 1, n, v, a, c => by
    unfold refPy at c ⊢
    split at c
    · rename_i xs e
      obtain ⟨p, vs, rfl, _, h1, d1⟩ := r.lstV a e
      exact .lst (SqL.of h1) (dps_of (dpR_of r k) d1 (by simpa [PyData.canLay0] using c))
    · simp [PyData.canLay0] at c
theorem dpT_of {G : GW} {d : D} {v : V} (r : Rel G m h H) (a : DR G.K m H d v) (c : SeqAt.shaped (toPyT h d) = true) : Dp G.K H v (toPyT h d) := by
  have c1 : (toPyT h d).canLay0 = true := by
    unfold SeqAt.shaped at c
    rw [Bool.and_eq_true] at c
    exact c.1
  exact dp_of (dpR_of r 4) a c1
end
section
variable {X : Cx} {G : GW}
/-- the reading of a comparison -/
def rc (G : GW) (F : Hd → D → D → Option Bool) : R2 := r2 G fun x y h => boolO h (F h x y)
theorem rc_out {F : Hd → D → D → Option Bool} {x y : V} {H : Hp} {Q : VK} (q : rc G F x y H Q) : ∃ m h a b c, Rel G m h H ∧ DR G.K m H a x ∧ DR G.K m H b y ∧ F h a b = some c ∧ Q (.bl c) H := by
  obtain ⟨m, h, a, b, NoE, r, da, db, q⟩ := q
  have q : Sat G (RD G) m H (boolO h (F h a b)) Q NoE := q
  cases e : F h a b with
  | none =>
    rw [e] at q
    exact False.elim q
  | some c =>
    rw [e] at q
    exact ⟨m, h, a, b, c, r, da, db, e, Sat.ok (G := G) q r (.bl c)⟩
theorem eq_ok (hK : X.K = G.K) (hu : X.A.units + 64 < cLine) : OpR X (compareOp .Eq) (rc G eqV) := by
  intro pins s σ H x y v u Q I rx ry q
  obtain ⟨m, h, a, b, c, r, da, db, e, q⟩ := rc_out q
  unfold eqV at e
  split at e
  · rename_i hs
    rw [Bool.and_eq_true] at hs
    cases e
    exact op_eqD hu pins s σ H x y v u Q I rx ry ⟨_, _, hK ▸ dpT_of r da hs.1, hK ▸ dpT_of r db hs.2, hs.1, hs.2, q⟩
  · cases e
theorem ne_ok (hK : X.K = G.K) (hu : X.A.units + 64 < cLine) : OpR X (compareOp .NotEq) (rc G fun h x y => (eqV h x y).map not) := by
  intro pins s σ H x y v u Q I rx ry q
  obtain ⟨m, h, a, b, c, r, da, db, e, q⟩ := rc_out q
  unfold eqV at e
  split at e
  · rename_i hs
    rw [Bool.and_eq_true] at hs
    cases e
    exact op_neD hu pins s σ H x y v u Q I rx ry ⟨_, _, hK ▸ dpT_of r da hs.1, hK ▸ dpT_of r db hs.2, hs.1, hs.2, q⟩
  · cases e
theorem ord_ok {op : CmpOp} {F : Hd → D → D → Option Bool} {g : Int → Int → Bool} (hF : ∀ h a b, F h a b = match a, b with
      | .int i, .int j => some (g i j)
      | _, _ => none) (ho : OpR X (compareOp op) (rI0 fun i j => .bl (g i j))) : OpR X (compareOp op) (rc G F) := by
  intro pins s σ H x y v u Q I rx ry q
  obtain ⟨m, h, a, b, c, r, da, db, e, q⟩ := rc_out q
  rw [hF] at e
  cases a with
  | int i =>
    cases b with
    | int j =>
      cases da
      cases db
      cases e
      exact ho pins s σ H _ _ v u Q I rx ry ⟨i, j, rfl, rfl, q⟩
    | _ => cases e
  | _ => cases e
theorem is_none_bl {M : Model} {A : Around} {E : Value → Shared → Prop} {s : Shared} {Q : Value → Shared → Prop} {c : Bool} (h : Q (.bool false) s) : wpAny M A (compareOp .Is .none (.bool c)) Q E s :=
  wpAny_pure (a := Value.bool (Value.none == Value.bool c)) h
theorem isnot_none_bl {M : Model} {A : Around} {E : Value → Shared → Prop} {s : Shared} {Q : Value → Shared → Prop} {c : Bool} (h : Q (.bool true) s) : wpAny M A (compareOp .IsNot .none (.bool c)) Q E s :=
  wpAny_pure (a := Value.bool (!(Value.none == Value.bool c))) h
theorem is_ok : OpR X (compareOp .Is) (rc G fun _ => isV) := by
  intro pins s σ H x y v u Q I rx ry q
  obtain ⟨m, h, a, b, c, r, da, db, e, q⟩ := rc_out q
  cases b with
  | non =>
    cases db
    have e' : isV a .non = some c := e
    refine op_isN pins s σ H _ _ v u Q I rx ry ⟨rfl, ?_⟩
    cases a <;> cases da <;> first | (cases e'; exact q) | cases e'
  | bl k =>
    cases db
    cases ry
    have e' : isV a (.bl k) = some c := e
    cases a with
    | bl j =>
      cases da
      cases rx
      cases e'
      exact is_bool ⟨.bl _, H, I, rfl, q⟩
    | non =>
      cases da
      cases rx
      cases e'
      exact is_none_bl ⟨.bl _, H, I, rfl, q⟩
    | _ => cases e'
  | _ => cases a <;> cases e
theorem isnot_ok : OpR X (compareOp .IsNot) (rc G fun _ x y => (isV x y).map not) := by
  intro pins s σ H x y v u Q I rx ry q
  obtain ⟨m, h, a, b, c, r, da, db, e, q⟩ := rc_out q
  cases b with
  | non =>
    cases db
    have e' : (isV a .non).map not = some c := e
    refine op_notN pins s σ H _ _ v u Q I rx ry ⟨rfl, ?_⟩
    cases a <;> cases da <;> first | (cases e'; exact q) | cases e'
  | bl k =>
    cases db
    cases ry
    have e' : (isV a (.bl k)).map not = some c := e
    cases a with
    | bl j =>
      cases da
      cases rx
      cases e'
      exact isnot_bool ⟨.bl _, H, I, rfl, by
        have : (j != k) = !(j == k) := rfl
        rw [this]
        exact q⟩
    | non =>
      cases da
      cases rx
      cases e'
      exact isnot_none_bl ⟨.bl _, H, I, rfl, q⟩
    | _ => cases e'
  | _ => cases a <;> cases e
theorem all_flatV : ∀ {xs : List D}, xs.all flatD = true → (xs.map toV).all flatV = true
  | [], _ => rfl
  | x :: xs, f => by
    rw [List.all_cons, Bool.and_eq_true] at f
    rw [List.map_cons, List.all_cons, flatV_toV f.1, all_flatV f.2]
    rfl
theorem in_gen (hK : X.K = G.K) {op : CmpOp} {neg : Bool} (ho : OpR X (compareOp op) (rIn X.K neg))
    (hs : ∀ {pins s σ H i z v u Q}, Inv X pins σ H s → RelV (.str i) v → RelV (.str z) u → Q (V.bl (if neg then !(!(Builtin.Str.occurrences z i 0 z.length 1).isEmpty) else !(Builtin.Str.occurrences z i 0 z.length 1).isEmpty)) H → wpAny (model X.prog X.w) X.A (compareOp op v u) (EP X pins σ Q) X.xe s) :
    OpR X (compareOp op) (rc G fun h x y => (inV h x y).map fun b => if neg then !b else b) := by
  intro pins s σ H x y v u Q I rx ry q
  obtain ⟨m, h, a, b, c, r, da, db, e, qq⟩ := rc_out q
  cases e1 : inV h a b with
  | none => rw [e1] at e; cases e
  | some k =>
    rw [e1] at e
    cases e
    have q := qq
    cases b with
    | tup xs =>
      cases db with
      | tup t d =>
        have e2 : (if flatD a && xs.all flatD then some (L2.inV (toV a) (xs.map toV)) else none) = some k := e1
        split at e2
        · rename_i f
          rw [Bool.and_eq_true] at f
          cases e2
          rw [d.flat f.2] at t
          rw [da.flat f.1] at rx
          exact ho pins s σ H _ _ v u Q I rx ry ⟨_, _, rfl, .inr (hK ▸ t), flatV_toV f.1, all_flatV f.2, qq⟩
        · cases e2
    | fl xs =>
      cases db with
      | fl t d =>
        have e2 : (if flatD a && xs.all flatD then some (L2.inV (toV a) (xs.map toV)) else none) = some k := e1
        split at e2
        · rename_i f
          rw [Bool.and_eq_true] at f
          cases e2
          rw [d.flat f.2] at t
          rw [da.flat f.1] at rx
          exact ho pins s σ H _ _ v u Q I rx ry ⟨_, _, rfl, .inl (hK ▸ t.sq), flatV_toV f.1, all_flatV f.2, qq⟩
        · cases e2
    | ref n =>
      have e2 : (match lstAt h n with
        | some xs => if flatD a && xs.all flatD then some (L2.inV (toV a) (xs.map toV)) else none
        | none => none) = some k := e1
      split at e2
      · rename_i xs e3
        split at e2
        · rename_i f
          rw [Bool.and_eq_true] at f
          cases e2
          obtain ⟨p, vs, rfl, _, h1, d⟩ := r.lstV db e3
          rw [d.flat f.2] at h1
          rw [da.flat f.1] at rx
          exact ho pins s σ H _ _ v u Q I rx ry ⟨_, _, rfl, .inl (SqL.of h1), flatV_toV f.1, all_flatV f.2, qq⟩
        · cases e2
      · cases e2
    | str z =>
      cases a with
      | str i =>
        cases da
        cases db
        cases e1
        exact hs I rx ry qq
      | _ => cases e1
    | _ => cases e1
theorem in_ok (hK : X.K = G.K) : OpR X (compareOp .In) (rc G inV) := by
  have := in_gen (G := G) (neg := false) hK op_in_seq fun {pins s σ H i z v u Q} I rx ry q => op_in_str pins s σ H (.str i) (.str z) v u Q I rx ry ⟨i, z, rfl, rfl, q⟩
  have e : (fun h x y => (inV h x y).map fun b => if false = true then !b else b) = inV := by
    funext h x y
    cases inV h x y <;> rfl
  rw [e] at this
  exact this
theorem notin_ok (hK : X.K = G.K) : OpR X (compareOp .NotIn) (rc G fun h x y => (inV h x y).map not) :=
  in_gen (neg := true) hK op_notIn_seq fun {pins s σ H i z v u Q} I rx ry q => op_notin_str pins s σ H (.str i) (.str z) v u Q I rx ry ⟨i, z, rfl, rfl, q⟩
theorem cmp_ok (hK : X.K = G.K) (hu : X.A.units + 64 < cLine) (op : CmpOp) : OpR X (compareOp op) (rc G (cmpV op)) := by
  cases op with
  | Eq => exact eq_ok hK hu
  | NotEq => exact ne_ok hK hu
  | Lt => exact ord_ok (fun h a b => by cases a <;> cases b <;> rfl) op_lt
  | LtE => exact ord_ok (fun h a b => by cases a <;> cases b <;> rfl) op_le
  | Gt => exact ord_ok (fun h a b => by cases a <;> cases b <;> rfl) op_gt
  | GtE => exact ord_ok (fun h a b => by cases a <;> cases b <;> rfl) op_ge
  | Is => exact is_ok
  | IsNot => exact isnot_ok
  | In => exact in_ok hK
  | NotIn => exact notin_ok hK
/-! ### subscripts -/
theorem atI_of {m : List Addr} {H : Hp} {K : PySem.W.Frag} {ds : List D} {vs : List V} {k : Int} {d : D} (r : DRs K m H ds vs) (e : L2.atI ds k = some d) : ∃ v, L2.atI vs k = some v ∧ DR K m H d v := by
  unfold L2.atI at e ⊢
  rw [← r.length]
  cases q : L2.ixN ds.length k with
  | none => rw [q] at e; cases e
  | some j =>
    rw [q] at e
    exact r.get e
theorem idx_ok (hK : X.K = G.K) : IxR X (r2 G idxV) := by
  intro value slice pins s σ H x y v u Q I rx ry ⟨m, h, a, b, NoE, r, da, db, q⟩ hs
  cases b with
  | int k =>
    cases db
    cases a with
    | tup xs =>
      cases da with
      | tup t d =>
        have q' : Sat G (RD G) m H (match L2.atI xs k with
          | some d => .ok d h
          | none => .no) Q NoE := q
        split at q'
        · rename_i d' e
          obtain ⟨w', e2, dw⟩ := atI_of d e
          exact ix_tup value slice pins s σ H _ _ v u Q I rx ry ⟨_, _, k, w', rfl, rfl, hK ▸ t, e2, q'.ok r dw⟩ hs
        · exact False.elim q'
    | fl xs =>
      cases da with
      | fl t d =>
        have q' : Sat G (RD G) m H (match L2.atI xs k with
          | some d => .ok d h
          | none => .no) Q NoE := q
        split at q'
        · rename_i d' e
          obtain ⟨w', e2, dw⟩ := atI_of d e
          exact ix_list value slice pins s σ H _ _ v u Q I rx ry ⟨_, _, k, w', rfl, rfl, hK ▸ t.sq, e2, q'.ok r dw⟩ hs
        · exact False.elim q'
    | ref n =>
      have q' : Sat G (RD G) m H (match lstAt h n with
        | some xs => match L2.atI xs k with
          | some d => .ok d h
          | none => .no
        | none => .no) Q NoE := q
      split at q'
      · rename_i xs e1
        split at q'
        · rename_i d' e
          obtain ⟨p, vs, rfl, _, h1, d⟩ := r.lstV da e1
          obtain ⟨w', e2, dw⟩ := atI_of d e
          exact ix_list value slice pins s σ H _ _ v u Q I rx ry ⟨_, _, k, w', rfl, rfl, SqL.of h1, e2, q'.ok r dw⟩ hs
        · exact False.elim q'
      · exact False.elim q'
    | str z =>
      have q' : Sat G (RD G) m H (match L2.atI z.cps.toList k with
        | some c => PV.ret (decide (z.length ≤ line)) (.str ⟨#[c]⟩) h
        | none => .no) Q NoE := q
      split at q'
      · rename_i c e
        obtain ⟨hz, q2⟩ := Sat.ret q'
        cases da
        exact ix_str value slice pins s σ H _ _ v u Q I rx ry ⟨z, k, c, rfl, rfl, by rw [← line_eq]; exact of_decide_eq_true hz, e, q2.ok r (.str _)⟩ hs
      · exact False.elim q'
    | _ => exact False.elim q
  | _ => exact False.elim q
def rsl (G : GW) : V → Option Int → Option Int → Hp → VK → Prop := fun x lo hi H Q => ∃ m h a NoE, Rel G m h H ∧ DR G.K m H a x ∧ Sat G (RD G) m H (slV a lo hi h) Q NoE
theorem cut_of {m : List Addr} {H : Hp} {K : PySem.W.Frag} {ds : List D} {vs : List V} (lo hi : Option Int) (r : DRs K m H ds vs) : DRs K m H (cut ds lo hi) (cutV vs lo hi) := by
  unfold cut cutV
  rw [r.length]
  exact (r.drop _).take _
theorem cut_whole {ds : List D} {lo hi : Option Int} (h : HT.sIx ds.length 0 lo = 0 ∧ HT.sIx ds.length ds.length hi = ds.length) : cut ds lo hi = ds := by
  unfold cut
  rw [h.1, h.2]
  simp
theorem sl_ok (hK : X.K = G.K) : SlR X (rsl G) := by
  intro pins s σ H x v vl vu lo hi sl Q I rx hs pl pu ⟨m, h, a, NoE, r, da, q⟩
  cases a with
  | tup xs =>
    cases da with
    | tup t d =>
      refine sl_tupA pins s σ H _ v vl vu lo hi sl Q I rx hs pl pu ⟨_, _, rfl, hK ▸ t, fun hw => ?_, fun _ p hp => q.tup r (cut_of lo hi d) hp⟩
      rw [← d.length] at hw
      have q' : Sat G (RD G) m H (.ok (.tup (cut xs lo hi)) h) Q NoE := q
      rw [cut_whole hw] at q'
      exact q'.ok r (.tup t d)
  | fl xs =>
    cases da with
    | fl t d => exact sl_list pins s σ H _ v vl vu lo hi sl Q I rx hs pl pu ⟨_, _, rfl, hK ▸ t.sq, fun p hp => Sat.newL (xs := cut xs lo hi) q r (cut_of lo hi d) hp⟩
  | ref n =>
    have q' : Sat G (RD G) m H (match lstAt h n with
      | some xs => PV.newL (cut xs lo hi) h
      | none => .no) Q NoE := q
    split at q'
    · rename_i xs e1
      obtain ⟨p, vs, rfl, _, h1, d⟩ := r.lstV da e1
      exact sl_list pins s σ H _ v vl vu lo hi sl Q I rx hs pl pu ⟨_, _, rfl, SqL.of h1, fun p hp => q'.newL r (cut_of lo hi d) hp⟩
    · exact False.elim q'
  | str z =>
    cases da
    obtain ⟨hz, q2⟩ := Sat.ret q
    exact sl_str pins s σ H _ v vl vu lo hi sl Q I rx hs pl pu ⟨z, rfl, by rw [← line_eq]; exact of_decide_eq_true hz, q2.ok r (.str _)⟩
  | _ => exact False.elim q
/-! ### built-in functions -/
def rbi (G : GW) (b : BI) : List V → Hp → VK → Prop := fun vs H Q => ∃ m h xs NoE, Rel G m h H ∧ DRs G.K m H xs vs ∧ Sat G (RD G) m H (biV b xs h) Q NoE
def BI.val : BI → Value
  | .int => .type "int" | .abs => .builtin "abs" | .len => .builtin "len" | .tuple => .type "tuple" | .list => .type "list" | .max => .builtin "max" | .min => .builtin "min" | .all => .builtin "all" | .any => .builtin "any" | .gcd => .builtin "math.gcd" | .str => .type "str"
theorem bls_of {m : List Addr} {H : Hp} {K : PySem.W.Frag} : ∀ {ds : List D} {vs : List V} {bs : List Bool}, DRs K m H ds vs → bls ds = some bs → vs = bs.map V.bl
  | _, _, _, .nil, e => by cases e; rfl
  | _, _, bs, .cons (d := d) (ds := ds) a r, e => by
    cases d with
    | bl b =>
      cases a
      have e' : (bls ds).map (b :: ·) = some bs := e
      cases q : bls ds with
      | none => rw [q] at e'; cases e'
      | some cs =>
        rw [q] at e'
        cases e'
        rw [bls_of r q]
        rfl
    | _ => cases e
theorem one_of {m : List Addr} {H : Hp} {K : PySem.W.Frag} {d : D} {vs : List V} (r : DRs K m H [d] vs) : ∃ v, vs = [v] ∧ DR K m H d v := by
  cases r with
  | cons a r => cases r; exact ⟨_, rfl, a⟩
theorem two_of {m : List Addr} {H : Hp} {K : PySem.W.Frag} {d e : D} {vs : List V} (r : DRs K m H [d, e] vs) : ∃ v w, vs = [v, w] ∧ DR K m H d v ∧ DR K m H e w := by
  cases r with
  | cons a r =>
    cases r with
    | cons b r => cases r; exact ⟨_, _, rfl, a, b⟩
theorem bi_ok (hK : X.K = G.K) (hc : X.calm = true) (b : BI) : CallR X b.val (rbi G b) := by
  intro pins s σ H vs us Q I rv ⟨m, h, xs, NoE, r, d, q⟩
  unfold biV at q
  split at q
  · obtain ⟨v, rfl, a⟩ := one_of d
    cases a
    exact call_int1 pins s σ H _ us Q I rv (.inl ⟨_, rfl, q.ok r (.int _)⟩)
  · obtain ⟨v, rfl, a⟩ := one_of d
    cases a
    exact call_int1 pins s σ H _ us Q I rv (.inr ⟨_, rfl, q.ok r (.int _)⟩)
  · obtain ⟨v, rfl, a⟩ := one_of d
    cases a
    exact call_abs pins s σ H _ us Q I rv ⟨_, rfl, q.ok r (.int _)⟩
  · obtain ⟨v, rfl, a⟩ := one_of d
    cases a with
    | tup t d' => exact call_len_seq pins s σ H _ us Q I rv ⟨_, _, rfl, .inr (hK ▸ t), by rw [← d'.length]; exact q.ok r (.int _)⟩
  · obtain ⟨v, rfl, a⟩ := one_of d
    cases a with
    | fl t d' => exact call_len_seq pins s σ H _ us Q I rv ⟨_, _, rfl, .inl (hK ▸ t.sq), by rw [← d'.length]; exact q.ok r (.int _)⟩
  · obtain ⟨v, rfl, a⟩ := one_of d
    cases a
    obtain ⟨hz, q2⟩ := Sat.ret q
    exact call_len_str pins s σ H _ us Q I rv ⟨_, rfl, by rw [← line_eq]; exact of_decide_eq_true hz, q2.ok r (.int _)⟩
  · split at q
    · rename_i e1
      obtain ⟨v, rfl, a⟩ := one_of d
      obtain ⟨p, ws, rfl, _, h1, d'⟩ := r.lstV a e1
      exact call_len_seq pins s σ H _ us Q I rv ⟨_, _, rfl, .inl (SqL.of h1), by rw [← d'.length]; exact q.ok r (.int _)⟩
    · exact False.elim q
  · obtain ⟨v, rfl, a⟩ := one_of d
    cases a with
    | tup t d' => exact call_tuple_of pins s σ H _ us Q I rv ⟨_, _, rfl, .inr ⟨hK ▸ t, q.ok r (.tup t d')⟩⟩
  · obtain ⟨v, rfl, a⟩ := one_of d
    cases a with
    | fl t d' => exact call_tuple_of pins s σ H _ us Q I rv ⟨_, _, rfl, .inl ⟨hK ▸ t.sq, fun p hp => q.tup r d' hp⟩⟩
  · split at q
    · rename_i e1
      obtain ⟨v, rfl, a⟩ := one_of d
      obtain ⟨p, ws, rfl, _, h1, d'⟩ := r.lstV a e1
      exact call_tuple_of pins s σ H _ us Q I rv ⟨_, _, rfl, .inl ⟨SqL.of h1, fun p hp => q.tup r d' hp⟩⟩
    · exact False.elim q
  · obtain ⟨v, rfl, a⟩ := one_of d
    cases a with
    | tup t d' => exact call_list_of pins s σ H _ us Q I rv ⟨_, _, rfl, .inr (hK ▸ t), fun p hp => q.newL r d' hp⟩
  · obtain ⟨v, rfl, a⟩ := one_of d
    cases a with
    | fl t d' => exact call_list_of pins s σ H _ us Q I rv ⟨_, _, rfl, .inl (hK ▸ t.sq), fun p hp => q.newL r d' hp⟩
  · split at q
    · rename_i e1
      obtain ⟨v, rfl, a⟩ := one_of d
      obtain ⟨p, ws, rfl, _, h1, d'⟩ := r.lstV a e1
      exact call_list_of pins s σ H _ us Q I rv ⟨_, _, rfl, .inl (SqL.of h1), fun p hp => q.newL r d' hp⟩
    · exact False.elim q
  · obtain ⟨v, w, rfl, a, b⟩ := two_of d
    cases a
    cases b
    exact call_max2 hc pins s σ H _ us Q I rv ⟨_, _, rfl, q.ok r (.int _)⟩
  · obtain ⟨v, w, rfl, a, b⟩ := two_of d
    cases a
    cases b
    exact call_min2 hc pins s σ H _ us Q I rv ⟨_, _, rfl, q.ok r (.int _)⟩
  · split at q
    · rename_i bs e1
      obtain ⟨v, rfl, a⟩ := one_of d
      cases e2 : lstAt h _ with
      | none => rw [e2] at e1; cases e1
      | some ys =>
        rw [e2] at e1
        obtain ⟨p, ws, rfl, _, h1, d'⟩ := r.lstV a e2
        exact cr_all hc pins s σ H _ us Q I rv ⟨_, bs, rfl, by rw [← bls_of d' e1]; exact SqL.of h1, q.ok r (.bl _)⟩
    · exact False.elim q
  · split at q
    · rename_i bs e1
      obtain ⟨v, rfl, a⟩ := one_of d
      cases e2 : lstAt h _ with
      | none => rw [e2] at e1; cases e1
      | some ys =>
        rw [e2] at e1
        obtain ⟨p, ws, rfl, _, h1, d'⟩ := r.lstV a e2
        exact cr_any hc pins s σ H _ us Q I rv ⟨_, bs, rfl, by rw [← bls_of d' e1]; exact SqL.of h1, q.ok r (.bl _)⟩
    · exact False.elim q
  · obtain ⟨v, w, rfl, a, b⟩ := two_of d
    cases a
    cases b
    exact cr_gcd pins s σ H _ us Q I rv ⟨_, _, rfl, q.ok r (.int _)⟩
  · obtain ⟨v, rfl, a⟩ := one_of d
    cases a
    obtain ⟨hz, q2⟩ := Sat.ret q
    exact call_str_int pins s σ H _ us Q I rv ⟨_, rfl, of_decide_eq_true hz, q2.ok r (.str _)⟩
  · exact False.elim q
/-! ### isinstance, built-in types -/
def Ty.nm : Ty → String
  | .int => "int" | .bool => "bool" | .str => "str" | .tuple => "tuple" | .list => "list" | .cls _ => ""
theorem tyX_tup {m : List Addr} {H : Hp} {a : Addr} {vs : List V} {K : PySem.W.Frag} (t : SqT K H a vs) : TyX K H (.ref a) (.type "tuple") := by
  rcases t with (t | ⟨o, t⟩) | ⟨o, its, n, hk, hc, _⟩
  · exact .base (.tup t)
  · exact .fTuple t
  · exact .kTuple hk hc
theorem tyX_lst {H : Hp} {a : Addr} {vs : List V} {K : PySem.W.Frag} (t : SqL K H a vs) : TyX K H (.ref a) (.type "list") := by
  rcases t with (t | ⟨o, t⟩) | ⟨o, its, n, hk, hc, _⟩
  · exact .base (.lst t)
  · exact .base (.frz t)
  · exact .kList hk hc
/-- isinstance(x, T): the arguments as they stand -/
def risi (G : GW) (t : Ty) : List V → Hp → VK → Prop := fun vs H Q => ∃ m h a v NoE, vs = [v, .ty t.nm] ∧ (∀ n, t ≠ .cls n) ∧ Rel G m h H ∧ DR G.K m H a v ∧ Sat G (RD G) m H (boolO h (isiV a t h)) Q NoE
theorem isi_ok (hK : X.K = G.K) (t : Ty) : CallR X (.builtin "isinstance") (risi G t) := by
  intro pins s σ H vs us Q I rv ⟨m, h, a, v, NoE, e, nc, r, d, q⟩
  subst e
  have go : ∀ {T : String} {b : Bool}, TyX X.K H v (.type T) → kitB T t.nm = some b → isiV a t h = some b → wpAny (model X.prog X.w) X.A (call (.builtin "isinstance") us) (EP X pins σ Q) X.xe s := fun {T b} ty k e => by
    rw [e] at q
    exact call_isi pins s σ H _ us Q I rv ⟨v, .ty t.nm, .type T, .type t.nm, b, rfl, .ty _, ty, kit_ty k, Sat.ok (G := G) q r (.bl b)⟩
  have ref : ∀ {n : Nat}, a = .ref n → ∃ xs, lstAt h n = some xs := fun {n} e => by
    subst e
    cases e2 : lstAt h n with
    | some xs => exact ⟨xs, rfl⟩
    | none =>
      exfalso
      cases t <;> first
        | exact nc _ rfl
        | (have q' : Sat G (RD G) m H (boolO h ((lstAt h n).map fun _ => true)) Q NoE := q
           rw [e2] at q'
           exact False.elim q')
        | (have q' : Sat G (RD G) m H (boolO h ((lstAt h n).map fun _ => false)) Q NoE := q
           rw [e2] at q'
           exact False.elim q')
  cases a with
  | non => cases d; cases t <;> first | exact absurd rfl (nc _) | exact go (.base .non) (by decide +kernel) rfl
  | bl k => cases d; cases t <;> first | exact absurd rfl (nc _) | exact go (.base (.bl _)) (by decide +kernel) rfl
  | int k => cases d; cases t <;> first | exact absurd rfl (nc _) | exact go (.base (.int _)) (by decide +kernel) rfl
  | str k => cases d; cases t <;> first | exact absurd rfl (nc _) | exact go (.base (.str _)) (by decide +kernel) rfl
  | tup xs =>
    cases d with
    | tup tt d' =>
      have ty := tyX_tup (m := m) (hK ▸ tt)
      cases t <;> first | exact absurd rfl (nc _) | exact go ty (by decide +kernel) rfl
  | fl xs =>
    cases d with
    | fl tt d' =>
      have ty := tyX_lst (K := X.K) (hK ▸ tt.sq)
      cases t <;> first | exact absurd rfl (nc _) | exact go ty (by decide +kernel) rfl
  | ref n =>
    obtain ⟨xs, e⟩ := ref rfl
    obtain ⟨p, ws, rfl, _, h1, d'⟩ := r.lstV d e
    have ty := tyX_lst (K := X.K) (SqL.of h1)
    cases t <;> first
      | exact absurd rfl (nc _)
      | exact go (b := true) ty (by decide +kernel) (by unfold isiV; dsimp only; rw [e]; rfl)
      | exact go (b := false) ty (by decide +kernel) (by unfold isiV; dsimp only; rw [e]; rfl)
/-! ### methods of lists, stores, augmented assignments -/
def rmt (G : GW) (F : D → List D → Hd → Out D) : V → List V → Hp → VK → Prop := fun x vs H Q => ∃ m h a xs NoE, Rel G m h H ∧ DR G.K m H a x ∧ DRs G.K m H xs vs ∧ Sat G (RD G) m H (F a xs h) Q NoE
/-- a tracked list is written -/
theorem lst_set {m : List Addr} {h : Hd} {H : Hp} {n : Nat} {p : Addr} {ws ws' : List V} {ys' : List D} (r : Rel G m h H) (ep : m[n]? = some p) (h1 : H p = some (.lst ws)) (d : DRs G.K m H ys' ws') : Step m H m (upd H p (.lst ws')) ∧ Rel G m (h.set n (.lst ys')) (upd H p (.lst ws')) := by
  have hw : ∀ b u, b ≠ p → H b = some u → upd H p (.lst ws') b = some u := fun b u hb e => by rw [upd_ne hb]; exact e
  have tp : ∀ b xs, H b = some (.tup xs) → upd H p (.lst ws') b = some (.tup xs) := fun b xs e => hw b _ (fun z => by rw [z, h1] at e; cases e) e
  have fz : ∀ b o u, H b = some (.frz o u) → upd H p (.lst ws') b = some (.frz o u) := fun b o u e => hw b _ (fun z => by rw [z, h1] at e; cases e) e
  exact set_step (o := .lst ws') (c := .lst ys') r ep h1 (fun _ z => by cases z) (fun _ _ z => by cases z) ⟨_, upd_same, d.mono (fun _ _ e => e) tp fz⟩
theorem append_ok : MtM X "list.append" (rmt G appV) := by
  intro pins s σ H x vs v us Q I rx rv ⟨m, h, a, xs, NoE, r, da, d, q⟩
  unfold appV at q
  split at q
  · split at q
    · rename_i ys e1
      obtain ⟨hz, q2⟩ := Sat.ret q
      obtain ⟨p, ws, rfl, ep, h1, d1⟩ := r.lstV da e1
      obtain ⟨w', rfl, dy⟩ := one_of d
      refine mt_append pins s σ H _ _ v us Q I rx rv ⟨p, ws, w', rfl, rfl, h1, by rw [← d1.length, ← line_eq]; exact of_decide_eq_true hz, ?_⟩
      obtain ⟨st, r'⟩ := lst_set r ep h1 (d1.append (.cons dy .nil))
      exact q2 m _ _ st r' .non
    · exact False.elim q
  · exact False.elim q
theorem extend_ok : MtM X "list.extend" (rmt G extV) := by
  intro pins s σ H x vs v us Q I rx rv ⟨m, h, a, xs, NoE, r, da, d, q⟩
  unfold extV at q
  split at q
  · split at q
    · rename_i ys zs e1 e2
      obtain ⟨hz, q2⟩ := Sat.ret q
      obtain ⟨p, ws, rfl, ep, h1, d1⟩ := r.lstV da e1
      obtain ⟨w', rfl, dy⟩ := one_of d
      obtain ⟨p2, ws2, rfl, ep2, h2, d2⟩ := r.lstV dy e2
      refine mt_extend pins s σ H _ _ v us Q I rx rv ⟨p, p2, ws, ws2, rfl, rfl, h1, h2, by rw [← d1.length, ← d2.length, ← line_eq]; exact of_decide_eq_true hz, ?_⟩
      obtain ⟨st, r'⟩ := lst_set r ep h1 (d1.append d2)
      exact q2 m _ _ st r' .non
    · exact False.elim q
  · exact False.elim q
theorem aug_ok (op : Operator) : PIp X op (r2 G (augV op)) := by
  intro pins s σ H x y v u Q I rx ry ⟨m, h, a, b, NoE, r, da, db, q⟩
  unfold augV at q
  split at q
  · cases da
    cases db
    exact ip_add pins s σ H _ _ v u Q I rx ry ⟨_, _, rfl, rfl, q.ok r (.int _)⟩
  · cases da
    cases db
    exact ip_sub pins s σ H _ _ v u Q I rx ry ⟨_, _, rfl, rfl, q.ok r (.int _)⟩
  · exact False.elim q
end
end PV
/-! PVD: from the text's expressions to code, and that the machine does what the code says. -/
namespace PV
open PySem PySem.Spec PyProof.Rows L2

/-- what a global name stands for -/
abbrev Arr := List (Sum (Sum Nat Nat) D)
inductive Gv where
  | con (d : D) | fn (i np : Nat) (shapes : List (Nat × List Str × Arr)) | bi (b : BI) | ty (t : Ty) | isi | rng | zip | enum | exc (c : Nat) (fs : List Str)
  | own (C i np : Nat) | met (C i np : Nat) (m : Str) | flds (fs : List Str) | xin (c : Nat) (fs : List Str) | dct (kvs : List (Str × D))
/-- where a piece of text stands: the names by slot, the scope, the names that may be stored, the globals, whether in an except suite, the exception's slot -/
structure CC where
  N : List Str
  sc : Scope
  as : List Str
  gl : List (Str × Gv)
  hot : Bool
  xi : Option Nat

def ixOf (N : List Str) (x : Str) : Option Nat := match N with
  | [] => none
  | y :: r => if x = y then some 0 else (ixOf r x).map (· + 1)
theorem ixOf_get : ∀ {N : List Str} {x : Str} {i : Nat}, ixOf N x = some i → N[i]? = some x
  | [], _, _, e => by cases e
  | y :: r, x, i, e => by
    unfold ixOf at e
    split at e
    · rename_i h
      cases e
      rw [h]
      rfl
    · cases q : ixOf r x with
      | none => rw [q] at e; cases e
      | some j =>
        rw [q] at e
        cases e
        show r[j]? = some x
        exact ixOf_get q
def plainName (x : Str) : Bool := !(x == ("__debug__" : Str)) && !(x == ("__classdict__" : Str)) && decide (x ≠ "__name__")
def visB (sc : Scope) (x : Str) : Bool := match sc.names.lookup x with
  | some .local => true
  | some .cell => true
  | some .free => true
  | _ => false
def glB (sc : Scope) (x : Str) : Bool := match sc.names.lookup x with
  | some .globalImplicit => true
  | _ => false
def cConst : Const → Option D
  | .none => some .non
  | .bool b => some (.bl b)
  | .int i => some (.int i)
  | .str s => some (.str s)
  | _ => none
def cName (cc : CC) (x : Str) : Option QE :=
  if plainName x then
    if visB cc.sc x then match ixOf cc.N x with
      | some i => if cc.xi = some i then none else some (.var i)
      | none => none
    else if glB cc.sc x then match cc.gl.lookup x with
      | some (.con d) => some (.con d)
      | _ => none
    else none
  else none
def foldB (f : Expr → Option QE) (mk : QE → QE → QE) : List Expr → Option QE
  | [] => none
  | [a] => f a
  | a :: b :: r => match f a, foldB f mk (b :: r) with
    | some p, some q => some (mk p q)
    | _, _ => none
def foldT (f : Expr → Option QT) (mk : QT → QT → QT) : List Expr → Option QT
  | [] => none
  | [a] => f a
  | a :: b :: r => match f a, foldT f mk (b :: r) with
    | some p, some q => some (mk p q)
    | _, _ => none
def cList (f : Expr → Option QE) : List Expr → Option QEs
  | [] => some .nil
  | a :: r => match f a, cList f r with
    | some p, some q => some (.cons p q)
    | _, _ => none
def cKws (f : Expr → Option QE) : List Keyword → Option QEs
  | [] => some .nil
  | ⟨some _, a, _⟩ :: r => match f a, cKws f r with
    | some p, some q => some (.cons p q)
    | _, _ => none
  | _ => none
def kwNames (ks : List Keyword) : List Str := ks.filterMap (·.arg)
def cOpt (f : Expr → Option QE) : Option Expr → Option QO
  | none => some .none
  | some e => (f e).map .some
def tyBI : Ty → Option BI
  | .int => some .int
  | .str => some .str
  | .tuple => some .tuple
  | .list => some .list
  | _ => none
def shapeOf (shapes : List (Nat × List Str × Arr)) (n : Nat) (ks : List Str) : Option Arr := match shapes with
  | [] => none
  | (m, ls, a) :: r => if m = n ∧ ls = ks then some a else shapeOf r n ks
theorem shapeOf_mem : ∀ {shapes : List (Nat × List Str × Arr)} {n : Nat} {ks : List Str} {a : Arr}, shapeOf shapes n ks = some a → (n, ks, a) ∈ shapes
  | (m, ls, b) :: r, n, ks, a, e => by
    unfold shapeOf at e
    split at e
    · rename_i h
      cases e
      rw [h.1, h.2]
      exact List.mem_cons_self
    · exact List.mem_cons_of_mem _ (shapeOf_mem e)
/-- targets -/
def cTgts (f : Expr → Option QG) : List Expr → Option (List QG)
  | [] => some []
  | e :: r => match f e, cTgts f r with
    | some g, some gs => some (g :: gs)
    | _, _ => none
def cTgt (cc : CC) : Nat → Expr → Option QG
  | 0, _ => none
  | n + 1, e => match e with
    | .Name x _ => if cc.as.contains x then match ixOf cc.N x with
      | some i => if cc.xi = some i then none else some (.nm i)
      | none => none
      else none
    | .Tuple es _ _ => if cc.hot then none else (cTgts (cTgt cc n) es).map .tp
    | _ => none
def cBi (cc : CC) (f : Expr → Option QE) (b : BI) (args : List Expr) : Option QE := match args with
  | [] => none
  | a :: r => if cc.hot then none else (cList f (a :: r)).map (.bi b)
def tyOf (cc : CC) (e : Expr) : Option Ty := match e with
  | .Name x _ => if plainName x && glB cc.sc x then match cc.gl.lookup x with
    | some (.ty t) => match t with
      | .cls _ => none
      | t => some t
    | _ => none
    else none
  | _ => none
/-- the fields of own exceptions -/
def xFlds : List Str := ["layer", "reason", "row", "place"]
/-- the name of the exception that the suite holds -/
def isXi (cc : CC) (e : Expr) : Bool := cc.hot && (match e with
  | .Name y _ => plainName y && visB cc.sc y && decide (ixOf cc.N y = cc.xi) && cc.xi.isSome
  | _ => false)
def excOf (cc : CC) (e : Expr) : Option Nat := match e with
  | .Name c _ => if plainName c && glB cc.sc c then match cc.gl.lookup c with
    | some (.exc n _) => some n
    | _ => none
    else none
  | _ => none
def cCall (cc : CC) (f : Expr → Option QE) (x : Str) (args : List Expr) (kws : List Keyword) : Option QE :=
  if plainName x && glB cc.sc x then match cc.gl.lookup x with
    | some (.fn i np shapes) => if cc.hot then none else match args, kws with
      | [], _ :: _ => none
      | args, kws => match cList f args, cKws f kws, shapeOf shapes args.length (kwNames kws) with
        | some es, some ks, some arr => some (.call i es ks arr)
        | _, _, _ => none
    | some (.bi b) => match kws with
      | [] => cBi cc f b args
      | _ => none
    | some (.ty t) => match kws, tyBI t with
      | [], some b => cBi cc f b args
      | _, _ => none
    | some (.own C i np) => if cc.hot then none else match kws with
      | [] => if args.length + 1 = np then (cList f args).map (.make C i) else none
      | _ => none
    | some .isi => match kws, args with
      | [], [a, t] => if isXi cc a then (excOf cc t).map .excIs else match f a, tyOf cc t with
        | some p, some t => some (.isi p t)
        | _, _ => none
      | _, _ => none
    | _ => none
  else none
/-- the key of a method among the globals -/
def mkey (m : Str) : Str := ⟨(46 :: m.cps.toList).toArray⟩
/-- nothing but the object is asked (no super()) -/
def baseOk : Expr → Bool
  | .Call (.Name id _) [] [] _ => id != ("super" : Str)
  | _ => true
def cDget (cc : CC) (f : Expr → Option QE) (o : Expr) (m : Str) (ap cp : Pos) (args : List Expr) (kws : List Keyword) : Option QE := match o, args, kws with
  | .Name d _, [a], [] => match cc.gl.lookup d with
    | some (.dct kvs) => if m = ("get" : Str) ∧ plainName d = true ∧ glB cc.sc d = true ∧ (ap.endLine == cp.line) = true then (f a).map (.dget kvs) else none
    | _ => none
  | _, _, _ => none
def cMeth (cc : CC) (f : Expr → Option QE) (o : Expr) (m : Str) (ap cp : Pos) (args : List Expr) (kws : List Keyword) : Option QE := match cc.gl.lookup (mkey m), kws with
  | some (.met C i np m'), [] => if m' = m ∧ baseOk o = true ∧ (ap.endLine == cp.line) = true ∧ args.length + 1 = np ∧ args.length < 29 ∧ cc.hot = false then match f o, cList f args with
      | some p, some es => some (.mcall C i m p es)
      | _, _ => none
    else none
  | _, _ => none
def cFld (cc : CC) (f : Expr → Option QE) (o : Expr) (n : Str) : Option QE := match cc.gl.lookup ("." : Str) with
  | some (.flds fs) => if fs.contains n ∧ baseOk o = true ∧ cc.hot = false then (f o).map fun p => .fld p n else none
  | _ => none
def mthOf (m : Str) : Option Nat := if m = ("append" : Str) then some 0 else if m = ("extend" : Str) then some 1 else none
/-- the iterables that are walked -/
def cIter (cc : CC) (f : Expr → Option QE) (tg : QG) (e : Expr) : Option QI := match e with
  | .Call (.Name x p) args kws pos => if plainName x && glB cc.sc x then match cc.gl.lookup x, kws with
    | some .rng, [] => match args with
      | [a] => (f a).map .rng1
      | [a, b] => match f a, f b with
        | some p, some q => some (.rng2 p q)
        | _, _ => none
      | _ => none
    | some .zip, [] => match args, tg with
      | [a, b], .tp _ => match f a, f b with
        | some p, some q => some (.zip p q)
        | _, _ => none
      | _, _ => none
    | some .enum, [] => match args, tg with
      | [a], .tp _ => (f a).map .enum
      | _, _ => none
    | _, _ => (f e).map .v
    else none
  | .Set .. => none
  | e => (f e).map .v
def ownOf (N : List Str) : List (Str × NameKind) → Option (List (Str × Nat))
  | [] => some []
  | (x, k) :: r => match k with
    | .local | .cell => match ixOf N x, ownOf N r with
      | some i, some l => some ((x, i) :: l)
      | none, some l => some l
      | _, none => none
    | _ => ownOf N r
def cBlk (cc : CC) (scope : Scope) (own : List (Str × Nat)) : CC := { cc with sc := relS scope cc.sc, as := own.map (·.1), hot := false, xi := none }
def notCall : Expr → Bool
  | .Call .. => false
  | _ => true
mutual
def cE : Nat → CC → Expr → Option QE
  | 0, _, _ => none
  | n + 1, cc, e => match e with
    | .Constant c _ _ => (cConst c).map .con
    | .Name x _ => cName cc x
    | .BinOp a op b _ => match cE n cc a, cE n cc b with
      | some p, some q => some (.bin op p q)
      | _, _ => none
    | .UnaryOp op a _ => match op with
      | .USub => (cE n cc a).map .neg
      | .Not => (cE n cc a).map .nott
      | _ => none
    | .BoolOp op vs _ => match op with
      | .And => foldB (cE n cc) .andv vs
      | .Or => foldB (cE n cc) .orv vs
    | .Compare a ops bs _ => match ops, bs with
      | [op], [b] => match cE n cc a, cE n cc b with
        | some p, some q => some (.cmp op p q)
        | _, _ => none
      | [op, op'], [b, c] => match cE n cc a, cE n cc b, cE n cc c with
        | some p, some q, some r => some (.chain op op' p q r)
        | _, _, _ => none
      | _, _ => none
    | .IfExp t a b _ => match cT n cc t, cE n cc a, cE n cc b with
      | some t, some p, some q => some (.ife t p q)
      | _, _, _ => none
    | .Tuple es _ _ => (cList (cE n cc) es).map .tup
    | .List es _ => (cList (cE n cc) es).map .lst
    | .Subscript a i _ => match i with
      | .Slice lo hi st _ => match st, cE n cc a, cOpt (cE n cc) lo, cOpt (cE n cc) hi with
        | none, some p, some l, some u => some (.slc p l u)
        | _, _, _, _ => none
      | i => match cE n cc a, cE n cc i with
        | some p, some q => some (.idx p q)
        | _, _ => none
    | .Call f args kws cp => match f with
      | .Name x _ => cCall cc (cE n cc) x args kws
      | .Attribute o m ap => match mthOf m with
        | some k => match args, kws with
          | [a], [] => match (ap.endLine == cp.line) && notCall o, cE n cc o, cE n cc a with
            | true, some p, some q => some (.mth k p (.cons q .nil))
            | _, _, _ => none
          | _, _ => none
        | none => match cDget cc (cE n cc) o m ap cp args kws with
          | some p => some p
          | none => cMeth cc (cE n cc) o m ap cp args kws
      | _ => none
    | .Attribute o f _ => if isXi cc o && xFlds.contains f then some (.excF f) else cFld cc (cE n cc) o f
    | .ListComp elt gs scope _ => match gs with
      | [⟨tg, it, ifs, as⟩] => match decide (as = 0) && !cc.hot, ownOf cc.N scope.names with
        | true, some own => match blkC cc.N cc.sc scope own with
          | true => match cTgt (cBlk cc scope own) 4 tg with
            | some g => match cIter cc (cE n cc) g it, cE n (cBlk cc scope own) elt with
              | some i, some el => match ifs with
                | [] => some (.lc el g i (own.map (·.2)) .yes)
                | [c] => match cT n (cBlk cc scope own) c with
                  | some t => some (.lc el g i (own.map (·.2)) t)
                  | none => none
                | _ => none
              | _, _ => none
            | none => none
          | false => none
        | _, _ => none
      | _ => none
    | _ => none
def cT : Nat → CC → Expr → Option QT
  | 0, _, _ => none
  | n + 1, cc, e => match e with
    | .UnaryOp op a p => match op with
      | .Not => (cT n cc a).map .not
      | op => (cE n cc (.UnaryOp op a p)).map .v
    | .BoolOp op vs _ => match op with
      | .And => foldT (cT n cc) .and vs
      | .Or => foldT (cT n cc) .or vs
    | .IfExp .. => none
    | e => (cE n cc e).map .v
end

/-! ### the slots -/
def SR (G : GW) (m : List Addr) (H : Hp) (s : Sl) (σ : L2.St) : Prop := s.length = σ.length ∧ ∀ (i : Nat) (d : D), s[i]? = some (some d) → ∃ v, σ[i]? = some (some v) ∧ DR G.K m H d v
section
variable {G : GW} {m m' : List Addr} {H H' : Hp} {s : Sl} {σ : L2.St}
theorem SR.step (r : SR G m H s σ) (t : Step m H m' H') : SR G m' H' s σ := ⟨r.1, fun i d e => let ⟨v, e1, d1⟩ := r.2 i d e; ⟨v, e1, d1.step t⟩⟩
theorem SR.set {d : D} {v : V} (r : SR G m H s σ) (a : DR G.K m H d v) (i : Nat) : SR G m H (s.set i (some d)) (σ.set i (some v)) := by
  refine ⟨by rw [List.length_set, List.length_set, r.1], fun j e he => ?_⟩
  by_cases hj : i = j
  · subst hj
    by_cases hl : i < s.length
    · rw [List.getElem?_set_self hl] at he
      cases he
      exact ⟨v, List.getElem?_set_self (by rw [← r.1]; exact hl), a⟩
    · rw [List.getElem?_eq_none (by simpa using hl)] at he
      cases he
  · rw [List.getElem?_set_ne hj] at he ⊢
    exact r.2 j e he
theorem SR.unset (r : SR G m H s σ) (i : Nat) (o : Option V) : SR G m H (s.set i none) (σ.set i o) := by
  refine ⟨by rw [List.length_set, List.length_set, r.1], fun j e he => ?_⟩
  by_cases hj : i = j
  · subst hj
    by_cases hl : i < s.length
    · rw [List.getElem?_set_self hl] at he
      cases he
    · rw [List.getElem?_eq_none (by simpa using hl)] at he
      cases he
  · rw [List.getElem?_set_ne hj] at he ⊢
    exact r.2 j e he
theorem SR.wipe (r : SR G m H s σ) : ∀ vs : List Nat, SR G m H (wipeD s vs) (L2.wipe σ vs)
  | [] => r
  | v :: vs => (SR.wipe r vs).unset v none
end

/-! ### the context of a piece of code -/
structure WD where
  P : Program
  w : World
  mg : Str → Option Value
  base : Heap
  G : GW
  xa : Addr
def arrV (arr : Arr) (vs zs : List V) : List V := arr.map fun a => match a with
  | .inl (.inl i) => vs.getD i .non
  | .inl (.inr i) => zs.getD i .non
  | .inr d => toV d
def arrFlat (arr : Arr) : Bool := arr.all fun a => match a with
  | .inr d => flatD d
  | _ => true
theorem getD_rel {K : PySem.W.Frag} {m : List Addr} {H : Hp} {xs : List D} {vs : List V} (r : DRs K m H xs vs) (i : Nat) : DR K m H (xs.getD i .non) (vs.getD i .non) := by
  rw [List.getD_eq_getElem?_getD, List.getD_eq_getElem?_getD]
  cases e : xs[i]? with
  | some d =>
    obtain ⟨v, e1, d1⟩ := r.get e
    rw [e1]
    exact d1
  | none =>
    have h1 : xs.length ≤ i := List.getElem?_eq_none_iff.mp e
    rw [List.getElem?_eq_none (by rw [← r.length]; exact h1)]
    exact .non
theorem arr_rel {K : PySem.W.Frag} {m : List Addr} {H : Hp} {xs ys : List D} {vs zs : List V} (r : DRs K m H xs vs) (q : DRs K m H ys zs) : ∀ {arr : Arr}, arrFlat arr = true → DRs K m H (arrD arr xs ys) (arrV arr vs zs)
  | [], _ => .nil
  | a :: r', f => by
    unfold arrFlat at f
    rw [List.all_cons, Bool.and_eq_true] at f
    refine .cons ?_ (arr_rel r q (arr := r') f.2)
    match a, f.1 with
    | .inl (.inl i), _ => exact getD_rel r i
    | .inl (.inr i), _ => exact getD_rel q i
    | .inr d, f => exact dr_toV f
/-- what a def's promise says: what the pure call gives -/
def spF (G : GW) (np : Nat) (F : List D → Hd → Out D) : Sp := fun vs H Q E => ∃ m h ds, Rel G m h H ∧ DRs G.K m H ds vs ∧ ds.length = np ∧ Sat G (RD G) m H (F ds h) Q E
/-- what the __init__ of an own exception keeps: its parameters become its fields -/
def spI (C : Addr) (fs : List Str) : Sp := fun vs H Q _ => ∃ (a : Addr) (ws : List V), vs = .ref a :: ws ∧ ws.length = fs.length ∧ H a = some (exo a C none) ∧ ∀ dx, H dx = none → dx ≠ a → Q .non (upd (upd H dx (exd dx (fs.zip ws).reverse)) a (exo a C (some dx)))
def GvOk (W : WD) (k : Nat) (ev : Ev) (x : Str) : Gv → Prop
  | .con d => ∃ u v, W.mg x = some u ∧ RelV v u ∧ ∀ m H, DR W.G.K m H d v
  | .fn i np shapes => ∃ f fd ps, W.mg x = some (.ref f) ∧ PySem.W.keepIn W.G.K (.ref f) = true ∧ ps.length = np ∧ FnOk W.P W.w W.G.K W.mg W.base (L2.CX W.P W.w) (3 * k) f fd ps (spF W.G np (ev.call i)) ∧
      ∀ n ks arr, (n, ks, arr) ∈ shapes → arr.length = np ∧ arrFlat arr = true ∧ ∃ g, KBn W.G.K fd ps n ks g (arrV arr)
  | .bi b => match b with
    | .gcd => W.mg x = some (.builtin "math.gcd")
    | b => W.mg x = none ∧ bootBuiltins x = some b.val
  | .ty t => W.mg x = none ∧ bootBuiltins x = some (.type t.nm)
  | .isi => W.mg x = none ∧ bootBuiltins x = some (.builtin "isinstance")
  | .rng => x = "range" ∧ W.mg x = none
  | .zip => x = "zip" ∧ W.mg x = none
  | .enum => x = "enumerate" ∧ W.mg x = none
  | .exc c fs => ∃ Ca, W.mg x = some (.ref Ca) ∧ W.G.cl c = some Ca ∧ (fs = [] → PySem.W.excIn W.G.K Ca [.type "ValueError", .type "Exception", .type "BaseException", .type "object"] "ValueError.__new__" = true)
  | .own C i np => ∃ Ca f fd ps, W.mg x = some (.ref Ca) ∧ W.G.oc C = some Ca ∧ Mk W.G.K Ca f ∧ ps.length = np ∧ FnOk W.P W.w W.G.K W.mg W.base (L2.CX W.P W.w) (3 * k) f fd ps (spF W.G np (ev.call i)) ∧ Binds W.G.K fd ps []
  | .met C i np m => ∃ Ca f fd ps, W.G.oc C = some Ca ∧ Cls W.G.K Ca ∧ Meth W.G.K Ca m f ∧ ps.length = np ∧ FnOk W.P W.w W.G.K W.mg W.base (L2.CX W.P W.w) (3 * k) f fd ps (spF W.G np (ev.call i)) ∧ Binds W.G.K fd ps []
  | .xin c fs => ∃ Ca fI fd ps, W.G.cl c = some Ca ∧ OexC W.G.K Ca ∧ PySem.W.findIn W.G.K (.ref Ca) "__init__" = some (some (.ref fI)) ∧ PySem.W.typeIn W.G.K (.ref fI) = some (.type "function") ∧ FnOk W.P W.w W.G.K W.mg W.base (L2.CX W.P W.w) 1 fI fd ps (spI Ca fs) ∧ Binds W.G.K fd ps []
  | .dct kvs => ∃ a es n, W.mg x = some (.ref a) ∧ KDict W.G.K W.w a es n ∧ ∀ z, match kvs.lookup z with
    | some d => flatD d = true ∧ ∃ u, PySem.W.nsIn W.G.K a z = some (some u) ∧ RelV (toV d) u
    | none => PySem.W.nsIn W.G.K a z = some none
  | .flds fs => ∀ C Ca, W.G.oc C = some Ca → Cls W.G.K Ca ∧ ∀ f ∈ fs, NoAttr W.G.K Ca f
/-- what is asked of an own exception class -/
structure ClsOk (W : WD) (ev : Ev) (c : Nat) (Ca : Addr) : Prop where
  kp : PySem.W.keepIn W.G.K (.ref Ca) = true
  ec : ExcC W.G.K Ca
  ty : PySem.W.typeIn W.G.K (.ref Ca) = some (.type "type")
  exm : ∀ d Da, W.G.cl d = some Da → PySem.W.exmOne W.G.K (.ref Ca) (.ref Da) = some (ev.sub c d)
  kit : ∀ d Da, W.G.cl d = some Da → PySem.W.kitOne W.G.K (.ref Ca) (.ref Da) = some (ev.sub c d)
  nof : ∀ f ∈ xFlds, PySem.W.findIn W.G.K (.ref Ca) f = some none
structure XG (W : WD) (cc : CC) (k : Nat) (ev : Ev) (X : Cx) (E : WX) : Prop where
  prog : X.prog = W.P
  wd : X.w = W.w
  K : X.K = W.G.K
  mg : X.mg = W.mg
  base : X.base = W.base
  N : X.N = cc.N
  nd : cc.N.Nodup
  sc : X.env.scope = cc.sc
  asg : ∀ x, x ∈ cc.as → Loc cc.sc x ∧ (X.fn x = true ∨ cc.sc.names.lookup x = some .local)
  room : cc.hot = false → X.calm = true ∧ Room (3 * k + 2) X.A
  units : X.A.units + 64 < cLine
  tk : Takes X E
  gl : ∀ x v, cc.gl.lookup x = some v → GvOk W k ev x v
  cls : ∀ c Ca, W.G.cl c = some Ca → ClsOk W ev c Ca
  hx : cc.hot = true → ∃ (X0 : Cx) (oe : Obj) (pn : List (Addr × Obj)) (d : Option Addr) (ex : Exn) (Ca : Addr), X = Cx.suite X0 W.xa ((W.xa, oe) :: pn) ∧ Zc (.ref Ca) d oe ∧ (∃ vs, oe.data = .fields vs) ∧ ev.exn = some ex ∧ W.G.cl ex.cls = some Ca ∧
    ((d = none ∧ ex.fs = []) ∨ ∃ dd fs, d = some dd ∧ (dd, fs) ∈ W.G.pins ∧ ∀ f x, ex.fs.lookup f = some x → flatD x = true ∧ fs.lookup f = some (toV x))
/-- the exception's slot holds it -/
def XiOk (xi : Option Nat) (a : Addr) (σ : L2.St) : Prop := match xi with
  | none => True
  | some i => σ[i]? = some (some (.ref a))
/-- the reading of a piece of code -/
def rdg {α β : Type} (G : GW) (xi : Option Nat) (a : Addr) (E : WX) (R : List Addr → Hp → α → β → Prop) (F : Sl → Hd → Out α) : L2.St → Hp → (β → Hp → Prop) → Prop := fun σ H Q =>
  ∃ m h s, Rel G m h H ∧ SR G m H s σ ∧ XiOk xi a σ ∧ Sat G R m H (F s h) Q fun c d H' => E c d σ H'
theorem PE.imp {X : Cx} {e : Expr} {t t' : TE} (p : PE X e t) (h : ∀ σ H Q, t' σ H Q → t σ H Q) : PE X e t' := ⟨fun pins s σ H Q I q => p.run pins s σ H Q I (h σ H Q q)⟩
theorem PT.imp {X : Cx} {e : Expr} {t t' : TT} (p : PT X e t) (h : ∀ σ H Q, t' σ H Q → t σ H Q) : PT X e t' := ⟨fun pins s σ H Q I q => p.run pins s σ H Q I (h σ H Q q)⟩
theorem PW.imp {X : Cx} {e : Expr} {t t' : TT} (p : PW X e t) (h : ∀ σ H Q, t' σ H Q → t σ H Q) : PW X e t' := ⟨fun wh pins s σ H Q I q => p.run wh pins s σ H Q I (h σ H Q q)⟩
theorem PA.imp {X : Cx} {e : List Expr} {t t' : TA} (p : PA X e t) (h : ∀ σ H Q, t' σ H Q → t σ H Q) : PA X e t' := ⟨fun po pins s σ H Q I q => p.run po pins s σ H Q I (h σ H Q q)⟩
theorem PK.imp {X : Cx} {e : List Keyword} {t t' : TA} (p : PK X e t) (h : ∀ σ H Q, t' σ H Q → t σ H Q) : PK X e t' := ⟨fun po pins s σ H Q I q => p.run po pins s σ H Q I (h σ H Q q)⟩
end PV
/-! PVE: an expression's code says what the machine does. -/
namespace PV
open PySem PySem.Spec PyProof.Rows L2
section
variable {W : WD} {cc : CC} {k : Nat} {ev : Ev} {X : Cx} {E : WX} {a : Addr}
abbrev RE (W : WD) (cc : CC) (a : Addr) (E : WX) (ev : Ev) (p : QE) : TE := rdg W.G cc.xi W.xa E (RD W.G) (evE ev p)
abbrev RT (W : WD) (cc : CC) (a : Addr) (E : WX) (ev : Ev) (p : QT) : TT := rdg W.G cc.xi W.xa E RB (evT ev p)
abbrev REs (W : WD) (cc : CC) (a : Addr) (E : WX) (ev : Ev) (p : QEs) : TA := rdg W.G cc.xi W.xa E (RDs W.G) (evEs ev p)
abbrev ROp (W : WD) (cc : CC) (a : Addr) (E : WX) (ev : Ev) (p : QO) : TO := rdg W.G cc.xi W.xa E RO (evO ev p)
variable {e e1 e2 e3 : Expr} {p q r : QE} {pos : Pos}

theorem k_con {d : D} {v : V} (h : ∀ m H, DR W.G.K m H d v) {σ : L2.St} {H : Hp} {Q : VK} (z : RE W cc a E ev (.con d) σ H Q) : Q v H := by
  obtain ⟨m, hh, s, rl, sr, xi, z⟩ := z
  have z : Sat W.G (RD W.G) m H (.ok d hh) Q _ := z
  exact z.ok rl (h m H)
theorem k_const {c : Const} {d : D} {j : Nat} (h : cConst c = some d) : PE X (.Constant c j pos) (RE W cc a E ev (.con d)) := by
  cases c <;> cases h
  · exact PE.imp pe_non fun σ H Q z => k_con (v := .non) (fun _ _ => .non) z
  · exact PE.imp pe_bl fun σ H Q z => k_con (v := .bl _) (fun _ _ => .bl _) z
  · exact PE.imp pe_int fun σ H Q z => k_con (v := .int _) (fun _ _ => .int _) z
  · exact PE.imp pe_str fun σ H Q z => k_con (v := .str _) (fun _ _ => .str _) z
theorem vis_of {sc : Scope} {x : Str} (h : visB sc x = true) : Vis sc x := by
  unfold visB at h
  split at h
  · exact .inl (by assumption)
  · exact .inr (.inl (by assumption))
  · exact .inr (.inr (by assumption))
  · cases h
theorem gl_of (x : XG W cc k ev X E) {y : Str} (h : glB cc.sc y = true) : Gl X y := by
  unfold glB at h
  split at h
  · show X.env.scope.names.lookup y = _
    rw [x.sc]
    assumption
  · cases h
theorem pn1 {x : Str} (h : plainName x = true) : (x == ("__debug__" : Str)) = false ∧ (x == ("__classdict__" : Str)) = false ∧ x ≠ "__name__" := by
  unfold plainName at h
  simp only [Bool.and_eq_true, Bool.not_eq_true', decide_eq_true_eq] at h
  exact ⟨h.1.1, h.1.2, h.2⟩
theorem k_name (x : XG W cc k ev X E) {y : Str} (h : cName cc y = some p) : PE X (.Name y pos) (RE W cc a E ev p) := by
  unfold cName at h
  split at h
  · rename_i hp
    obtain ⟨n1, n2, n3⟩ := pn1 hp
    split at h
    · rename_i hv
      split at h
      · rename_i i hi
        split at h
        · cases h
        · cases h
          have hN : X.N[i]? = some y := by rw [x.N]; exact ixOf_get hi
          refine PE.imp (pe_var hN (by rw [x.sc]; exact vis_of hv) n1 n2) fun σ H Q ⟨m, hh, s, rl, sr, xi, z⟩ => ?_
          have z : Sat W.G (RD W.G) m H (match s[i]? with
            | some (some d) => .ok d hh
            | _ => .no) Q _ := z
          split at z
          · rename_i d e
            obtain ⟨v, e1, d1⟩ := sr.2 i d e
            exact ⟨v, e1, z.ok rl d1⟩
          · exact False.elim z
      · cases h
    · split at h
      · rename_i hg
        split at h
        · rename_i d hd
          cases h
          obtain ⟨u, v, e1, e2, e3⟩ := x.gl y _ hd
          exact PE.imp (pe_glob (gl_of x hg) (by rw [x.mg]; exact e1) e2 n1) fun σ H Q z => k_con e3 z
        · cases h
      · cases h
  · cases h
theorem k_bin (x : XG W cc k ev X E) {op : Operator} (ha : PE X e1 (RE W cc a E ev p)) (hb : PE X e2 (RE W cc a E ev q)) : PE X (.BinOp e1 op e2 pos) (RE W cc a E ev (.bin op p q)) :=
  PE.imp (pe_op (bin_ok x.K op) ha hb) fun σ H Q ⟨m, h, s, r, sr, xi, z⟩ => by
    have z : Sat W.G (RD W.G) m H ((evE ev p s h).bind fun x h1 => (evE ev q s h1).bind fun y h2 => binV op x y h2) Q _ := z
    exact ⟨m, h, s, r, sr, xi, z.bind fun d h1 m1 H1 v st r1 dv q1 => ⟨m1, h1, s, r1, sr.step st, xi, q1.bind fun d2 h2 m2 H2 v2 st2 r2 dv2 q2 => ⟨m2, h2, d, d2, _, r2, dv.step st2, dv2, q2⟩⟩⟩
theorem k_neg (x : XG W cc k ev X E) (ha : PE X e1 (RE W cc a E ev p)) : PE X (.UnaryOp .USub e1 pos) (RE W cc a E ev (.neg p)) :=
  PE.imp (pe_un (neg_ok (G := W.G)) ha) fun σ H Q ⟨m, h, s, r, sr, xi, z⟩ => by
    have z : Sat W.G (RD W.G) m H ((evE ev p s h).bind fun x h1 => negV x h1) Q _ := z
    exact ⟨m, h, s, r, sr, xi, z.bind fun d h1 m1 H1 v st r1 dv q1 => ⟨m1, h1, d, _, r1, dv, q1⟩⟩
theorem k_nott (x : XG W cc k ev X E) (ha : PE X e1 (RE W cc a E ev p)) : PE X (.UnaryOp .Not e1 pos) (RE W cc a E ev (.nott p)) :=
  PE.imp (pe_notT ha) fun σ H Q ⟨m, h, s, r, sr, xi, z⟩ => by
    have z : Sat W.G (RD W.G) m H ((evE ev p s h).bind fun x h1 => match truthD h1 x with
      | some k => .ok (.bl (!k)) h1
      | none => .no) Q _ := z
    refine ⟨m, h, s, r, sr, xi, z.bind fun d h1 m1 H1 v st r1 dv q1 => ?_⟩
    split at q1
    · rename_i kk e
      exact ⟨kk, tru_of x.K r1 dv e, q1.ok r1 (.bl _)⟩
    · exact False.elim q1
theorem k_andv (x : XG W cc k ev X E) {rest : List Expr} (ha : PE X e1 (RE W cc a E ev p)) (hb : PE X (.BoolOp .And (e2 :: rest) pos) (RE W cc a E ev q)) : PE X (.BoolOp .And (e1 :: e2 :: rest) pos) (RE W cc a E ev (.andv p q)) :=
  PE.imp (pe_andT ha hb) fun σ H Q ⟨m, h, s, r, sr, xi, z⟩ => by
    have z : Sat W.G (RD W.G) m H ((evE ev p s h).bind fun x h1 => match truthD h1 x with
      | some true => evE ev q s h1
      | some false => .ok x h1
      | none => .no) Q _ := z
    refine ⟨m, h, s, r, sr, xi, z.bind fun d h1 m1 H1 v st r1 dv q1 => ?_⟩
    split at q1
    · rename_i e
      exact ⟨true, tru_of x.K r1 dv e, iteT ⟨m1, h1, s, r1, sr.step st, xi, q1⟩⟩
    · rename_i e
      exact ⟨false, tru_of x.K r1 dv e, iteF (q1.ok r1 dv)⟩
    · exact False.elim q1
theorem k_orv (x : XG W cc k ev X E) {rest : List Expr} (ha : PE X e1 (RE W cc a E ev p)) (hb : PE X (.BoolOp .Or (e2 :: rest) pos) (RE W cc a E ev q)) : PE X (.BoolOp .Or (e1 :: e2 :: rest) pos) (RE W cc a E ev (.orv p q)) :=
  PE.imp (pe_orT ha hb) fun σ H Q ⟨m, h, s, r, sr, xi, z⟩ => by
    have z : Sat W.G (RD W.G) m H ((evE ev p s h).bind fun x h1 => match truthD h1 x with
      | some true => .ok x h1
      | some false => evE ev q s h1
      | none => .no) Q _ := z
    refine ⟨m, h, s, r, sr, xi, z.bind fun d h1 m1 H1 v st r1 dv q1 => ?_⟩
    split at q1
    · rename_i e
      exact ⟨true, tru_of x.K r1 dv e, iteT (q1.ok r1 dv)⟩
    · rename_i e
      exact ⟨false, tru_of x.K r1 dv e, iteF ⟨m1, h1, s, r1, sr.step st, xi, q1⟩⟩
    · exact False.elim q1
def notSet : Expr → Bool
  | .Set .. => false
  | _ => true
theorem nomarkS {op : CmpOp} {e : Expr} (h : notSet e = true) : behindInMarks op e = false := by
  cases e <;> first | rfl | cases h
theorem k_cmp (x : XG W cc k ev X E) {op : CmpOp} (hs : notSet e2 = true) (ha : PE X e1 (RE W cc a E ev p)) (hb : PE X e2 (RE W cc a E ev q)) : PE X (.Compare e1 [op] [e2] pos) (RE W cc a E ev (.cmp op p q)) :=
  PE.imp (pe_cmpR (cmp_ok x.K x.units op) ha hb (nomarkS hs)) fun σ H Q ⟨m, h, s, r, sr, xi, z⟩ => by
    have z : Sat W.G (RD W.G) m H ((evE ev p s h).bind fun x h1 => (evE ev q s h1).bind fun y h2 => boolO h2 (cmpV op h2 x y)) Q _ := z
    exact ⟨m, h, s, r, sr, xi, z.bind fun d h1 m1 H1 v st r1 dv q1 => ⟨m1, h1, s, r1, sr.step st, xi, q1.bind fun d2 h2 m2 H2 v2 st2 r2 dv2 q2 => ⟨m2, h2, d, d2, _, r2, dv.step st2, dv2, q2⟩⟩⟩
theorem bool_test {m : List Addr} {h : Hd} {H : Hp} {c : Option Bool} {Q : Bool → Hp → Prop} {E' : XKE} (z : Sat W.G RB m H ((boolO h c).bind fun x h1 => testO h1 (truthD h1 x)) Q E') : Sat W.G (RD W.G) m H (boolO h c) (fun x H' => ∃ k, x = .bl k ∧ Q k H') E' := by
  cases c with
  | none => exact False.elim z
  | some b =>
    intro m' H' v st r' dv
    cases dv
    exact ⟨b, rfl, z m' H' b st r' rfl⟩
theorem t_cmp (x : XG W cc k ev X E) {op : CmpOp} (hs : notSet e2 = true) (ha : PE X e1 (RE W cc a E ev p)) (hb : PE X e2 (RE W cc a E ev q)) : PT X (.Compare e1 [op] [e2] pos) (RT W cc a E ev (.v (.cmp op p q))) :=
  PT.imp (pt_cmpR (cmp_ok x.K x.units op) ha hb (nomarkS hs)) fun σ H Q ⟨m, h, s, r, sr, xi, z⟩ => by
    have z : Sat W.G RB m H (((evE ev p s h).bind fun x h1 => (evE ev q s h1).bind fun y h2 => boolO h2 (cmpV op h2 x y)).bind fun x h1 => testO h1 (truthD h1 x)) Q _ := z
    refine ⟨m, h, s, r, sr, xi, ?_⟩
    cases e0 : evE ev p s h with
    | no => rw [e0] at z; exact False.elim z
    | ex e h' => rw [e0] at z; exact z
    | ok d h1 =>
      rw [e0] at z
      intro m1 H1 v st r1 dv
      have z : Sat W.G RB m H (((evE ev q s h1).bind fun y h2 => boolO h2 (cmpV op h2 d y)).bind fun x h1 => testO h1 (truthD h1 x)) Q _ := z
      have z := z.trans st
      refine ⟨m1, h1, s, r1, sr.step st, xi, ?_⟩
      cases e0' : evE ev q s h1 with
      | no => rw [e0'] at z; exact False.elim z
      | ex e h' => rw [e0'] at z; exact z
      | ok d2 h2 =>
        rw [e0'] at z
        intro m2 H2 v2 st2 r2 dv2
        exact ⟨m2, h2, d, d2, _, r2, dv.step st2, dv2, bool_test (z.trans st2)⟩
theorem k_ife (x : XG W cc k ev X E) {c : Expr} {t : QT} (hc : PT X c (RT W cc a E ev t)) (ha : PE X e1 (RE W cc a E ev p)) (hb : PE X e2 (RE W cc a E ev q)) : PE X (.IfExp c e1 e2 pos) (RE W cc a E ev (.ife t p q)) :=
  PE.imp (pe_ifExp hc ha hb) fun σ H Q ⟨m, h, s, r, sr, xi, z⟩ => by
    have z : Sat W.G (RD W.G) m H ((evT ev t s h).bind fun k h1 => match k with
      | true => evE ev p s h1
      | false => evE ev q s h1) Q _ := z
    refine ⟨m, h, s, r, sr, xi, z.bind fun d h1 m1 H1 v st r1 dv q1 => ?_⟩
    have dv : d = v := dv
    subst dv
    cases d with
    | true => exact iteT ⟨m1, h1, s, r1, sr.step st, xi, q1⟩
    | false => exact iteF ⟨m1, h1, s, r1, sr.step st, xi, q1⟩
/-! ### tests -/
theorem t_v (x : XG W cc k ev X E) (he : ∀ whole, isTrue e X.env whole = (do let v ← whole; standAt e.pos; holding [v] (truthy v))) (ha : PE X e (RE W cc a E ev p)) : PT X e (RT W cc a E ev (.v p)) :=
  PT.imp (pt_truth ha he) fun σ H Q ⟨m, h, s, r, sr, xi, z⟩ => by
    have z : Sat W.G RB m H ((evE ev p s h).bind fun x h1 => testO h1 (truthD h1 x)) Q _ := z
    refine ⟨m, h, s, r, sr, xi, z.bind fun d h1 m1 H1 v st r1 dv q1 => ?_⟩
    cases e0 : truthD h1 d with
    | none => rw [e0] at q1; exact False.elim q1
    | some b =>
      rw [e0] at q1
      exact ⟨b, tru_of x.K r1 dv e0, Sat.ok (G := W.G) q1 r1 rfl⟩
theorem t_not {t : QT} (ha : PT X e (RT W cc a E ev t)) : PT X (.UnaryOp .Not e pos) (RT W cc a E ev (.not t)) :=
  PT.imp (pt_not ha) fun σ H Q ⟨m, h, s, r, sr, xi, z⟩ => by
    have z : Sat W.G RB m H ((evT ev t s h).bind fun k h1 => .ok (!k) h1) Q _ := z
    refine ⟨m, h, s, r, sr, xi, z.bind fun d h1 m1 H1 v st r1 dv q1 => ?_⟩
    have dv : d = v := dv
    subst dv
    exact q1.ok r1 rfl
theorem t_and {t u : QT} {rest : List Expr} (ha : PT X e1 (RT W cc a E ev t)) (hb : PW X (.BoolOp .And (e2 :: rest) pos) (RT W cc a E ev u)) : PW X (.BoolOp .And (e1 :: e2 :: rest) pos) (RT W cc a E ev (.and t u)) :=
  PW.imp (pw_and ha hb) fun σ H Q ⟨m, h, s, r, sr, xi, z⟩ => by
    have z : Sat W.G RB m H ((evT ev t s h).bind fun k h1 => match k with
      | true => evT ev u s h1
      | false => .ok false h1) Q _ := z
    refine ⟨m, h, s, r, sr, xi, z.bind fun d h1 m1 H1 v st r1 dv q1 => ?_⟩
    have dv : d = v := dv
    subst dv
    cases d with
    | true => exact iteT ⟨m1, h1, s, r1, sr.step st, xi, q1⟩
    | false => exact iteF (Sat.ok (G := W.G) q1 r1 rfl)
theorem t_or {t u : QT} {rest : List Expr} (ha : PT X e1 (RT W cc a E ev t)) (hb : PW X (.BoolOp .Or (e2 :: rest) pos) (RT W cc a E ev u)) : PW X (.BoolOp .Or (e1 :: e2 :: rest) pos) (RT W cc a E ev (.or t u)) :=
  PW.imp (pw_or ha hb) fun σ H Q ⟨m, h, s, r, sr, xi, z⟩ => by
    have z : Sat W.G RB m H ((evT ev t s h).bind fun k h1 => match k with
      | true => .ok true h1
      | false => evT ev u s h1) Q _ := z
    refine ⟨m, h, s, r, sr, xi, z.bind fun d h1 m1 H1 v st r1 dv q1 => ?_⟩
    have dv : d = v := dv
    subst dv
    cases d with
    | true => exact iteT (Sat.ok (G := W.G) q1 r1 rfl)
    | false => exact iteF ⟨m1, h1, s, r1, sr.step st, xi, q1⟩
/-! ### lists of expressions, displays -/
def notStar : Expr → Bool
  | .Starred .. => false
  | _ => true
theorem star1 {env : Env} {es : List Expr} (h : notStar e = true) : starEach (e :: es) env = (false, eval e env) :: starEach es env := by
  cases e <;> first | rfl | cases h
theorem as_nil : PA X [] (REs W cc a E ev .nil) := PA.imp pa_nil fun σ H Q ⟨m, h, s, r, sr, xi, z⟩ => by
  have z : Sat W.G (RDs W.G) m H (.ok [] h) Q _ := z
  exact z.ok r .nil
theorem as_cons {es : List Expr} {ps : QEs} (hs : notStar e = true) (ha : PE X e (RE W cc a E ev p)) (hb : PA X es (REs W cc a E ev ps)) : PA X (e :: es) (REs W cc a E ev (.cons p ps)) :=
  PA.imp (pa_cons ha hb (star1 hs)) fun σ H Q ⟨m, h, s, r, sr, xi, z⟩ => by
    have z : Sat W.G (RDs W.G) m H ((evE ev p s h).bind fun x h1 => (evEs ev ps s h1).bind fun xs h2 => .ok (x :: xs) h2) Q _ := z
    exact ⟨m, h, s, r, sr, xi, z.bind fun d h1 m1 H1 v st r1 dv q1 => ⟨m1, h1, s, r1, sr.step st, xi, q1.bind fun d2 h2 m2 H2 v2 st2 r2 dv2 q2 => q2.ok r2 (.cons (dv.step st2) dv2)⟩⟩
theorem ks_nil : PK X [] (REs W cc a E ev .nil) := PK.imp pk_nil fun σ H Q ⟨m, h, s, r, sr, xi, z⟩ => by
  have z : Sat W.G (RDs W.G) m H (.ok [] h) Q _ := z
  exact z.ok r .nil
theorem ks_cons {es : List Keyword} {ps : QEs} {nm : Option Str} {kp : Pos} (ha : PE X e (RE W cc a E ev p)) (hb : PK X es (REs W cc a E ev ps)) : PK X (⟨nm, e, kp⟩ :: es) (REs W cc a E ev (.cons p ps)) :=
  PK.imp (pk_cons ha hb) fun σ H Q ⟨m, h, s, r, sr, xi, z⟩ => by
    have z : Sat W.G (RDs W.G) m H ((evE ev p s h).bind fun x h1 => (evEs ev ps s h1).bind fun xs h2 => .ok (x :: xs) h2) Q _ := z
    exact ⟨m, h, s, r, sr, xi, z.bind fun d h1 m1 H1 v st r1 dv q1 => ⟨m1, h1, s, r1, sr.step st, xi, q1.bind fun d2 h2 m2 H2 v2 st2 r2 dv2 q2 => q2.ok r2 (.cons (dv.step st2) dv2)⟩⟩
theorem k_tup {es : List Expr} {ps : QEs} {j : Nat} (h : PA X es (REs W cc a E ev ps)) : PE X (.Tuple es j pos) (RE W cc a E ev (.tup ps)) :=
  PE.imp (pe_tup h) fun σ H Q ⟨m, h, s, r, sr, xi, z⟩ => by
    have z : Sat W.G (RD W.G) m H ((evEs ev ps s h).bind fun xs h1 => ret (decide (xs.length ≤ line)) (.tup xs) h1) Q _ := z
    refine ⟨m, h, s, r, sr, xi, z.bind fun d h1 m1 H1 v st r1 dv q1 => ?_⟩
    obtain ⟨hz, q1⟩ := Sat.ret q1
    exact ⟨by rw [← dv.length, ← line_eq]; exact of_decide_eq_true hz, fun p hp => q1.tup r1 dv hp⟩
theorem k_lst {es : List Expr} {ps : QEs} (h : PA X es (REs W cc a E ev ps)) : PE X (.List es pos) (RE W cc a E ev (.lst ps)) :=
  PE.imp (pe_lst h) fun σ H Q ⟨m, h, s, r, sr, xi, z⟩ => by
    have z : Sat W.G (RD W.G) m H ((evEs ev ps s h).bind fun xs h1 => newLc (decide (xs.length ≤ line)) xs h1) Q _ := z
    refine ⟨m, h, s, r, sr, xi, z.bind fun d h1 m1 H1 v st r1 dv q1 => ?_⟩
    obtain ⟨hz, q1⟩ := Sat.newLc q1
    exact ⟨by rw [← dv.length, ← line_eq]; exact of_decide_eq_true hz, fun p hp => q1.newL r1 dv hp⟩
/-! ### subscripts -/
def notSlice : Expr → Bool
  | .Slice .. => false
  | _ => true
theorem plainIx {e : Expr} (h : notSlice e = true) : PlainIx e := fun o i => by
  cases e <;> first | rfl | cases h
theorem k_idx (x : XG W cc k ev X E) (hs : notSlice e2 = true) (ha : PE X e1 (RE W cc a E ev p)) (hb : PE X e2 (RE W cc a E ev q)) : PE X (.Subscript e1 e2 pos) (RE W cc a E ev (.idx p q)) :=
  PE.imp (pe_ix (idx_ok x.K) ha hb (plainIx hs)) fun σ H Q ⟨m, h, s, r, sr, xi, z⟩ => by
    have z : Sat W.G (RD W.G) m H ((evE ev p s h).bind fun x h1 => (evE ev q s h1).bind fun y h2 => idxV x y h2) Q _ := z
    exact ⟨m, h, s, r, sr, xi, z.bind fun d h1 m1 H1 v st r1 dv q1 => ⟨m1, h1, s, r1, sr.step st, xi, q1.bind fun d2 h2 m2 H2 v2 st2 r2 dv2 q2 => ⟨m2, h2, d, d2, _, r2, dv.step st2, dv2, q2⟩⟩⟩
theorem PO.imp {o : Option Expr} {t t' : TO} (p : PO X o t) (h : ∀ σ H Q, t' σ H Q → t σ H Q) : PO X o t' := ⟨fun pins s σ H Q I q => p.run pins s σ H Q I (h σ H Q q)⟩
theorem o_none : PO X none (ROp W cc a E ev .none) := PO.imp po_none fun σ H Q ⟨m, h, s, r, sr, xi, z⟩ => by
  have z : Sat W.G RO m H (.ok none h) Q _ := z
  exact z.ok r rfl
theorem o_some (ha : PE X e (RE W cc a E ev p)) : PO X (some e) (ROp W cc a E ev (.some p)) := PO.imp (po_some ha) fun σ H Q ⟨m, h, s, r, sr, xi, z⟩ => by
  have z : Sat W.G RO m H ((evE ev p s h).bind fun x h1 => toI x h1) Q _ := z
  refine ⟨m, h, s, r, sr, xi, z.bind fun d h1 m1 H1 v st r1 dv q1 => ?_⟩
  cases d with
  | int i => cases dv; exact ⟨i, rfl, Sat.ok (G := W.G) q1 r1 rfl⟩
  | _ => exact False.elim q1
theorem k_slc (x : XG W cc k ev X E) {lo hi : Option Expr} {l u : QO} {pos2 : Pos} (ha : PE X e1 (RE W cc a E ev p)) (hl : PO X lo (ROp W cc a E ev l)) (hu : PO X hi (ROp W cc a E ev u)) : PE X (.Subscript e1 (.Slice lo hi none pos2) pos) (RE W cc a E ev (.slc p l u)) :=
  PE.imp (pe_slice (sl_ok x.K) ha hl hu) fun σ H Q ⟨m, h, s, r, sr, xi, z⟩ => by
    have z : Sat W.G (RD W.G) m H ((evE ev p s h).bind fun x h1 => (evO ev l s h1).bind fun l h2 => (evO ev u s h2).bind fun u h3 => slV x l u h3) Q _ := z
    refine ⟨m, h, s, r, sr, xi, z.bind fun d h1 m1 H1 v st r1 dv q1 => ⟨m1, h1, s, r1, sr.step st, xi, q1.bind fun d2 h2 m2 H2 v2 st2 r2 dv2 q2 => ⟨m2, h2, s, r2, (sr.step st).step st2, xi, q2.bind fun d3 h3 m3 H3 v3 st3 r3 dv3 q3 => ?_⟩⟩⟩
    have e2 : d2 = v2 := dv2
    have e3 : d3 = v3 := dv3
    subst e2 e3
    exact ⟨m3, h3, d, _, r3, (dv.step st2).step st3, q3⟩
end
end PV
/-! PVF: chains, calls, what is walked, comprehensions. -/
namespace PV
open PySem PySem.Spec PyProof.Rows L2
section
variable {W : WD} {cc : CC} {k : Nat} {ev : Ev} {X : Cx} {E : WX} {a : Addr}
variable {e e1 e2 e3 : Expr} {p q r : QE} {pos : Pos}
theorem lastS {op op' : CmpOp} (h3 : notSet e3 = true) : lastMarks [op, op'] [e2, e3] = false := nomarkS h3
/-- the two comparisons of a chain -/
theorem chain_go {m : List Addr} {h2 : Hd} {H2 : Hp} {s : Sl} {σ : L2.St} {d d2 : D} {v v2 : V} {op op' : CmpOp} {Q : VK} (r2 : Rel W.G m h2 H2) (sr : SR W.G m H2 s σ) (xi : XiOk cc.xi W.xa σ) (dv : DR W.G.K m H2 d v) (dv2 : DR W.G.K m H2 d2 v2)
    (z : Sat W.G (RD W.G) m H2 (match cmpV op h2 d d2 with
      | some true => (evE ev r s h2).bind fun z h3 => boolO h3 (cmpV op' h3 d2 z)
      | some false => .ok (.bl false) h2
      | none => .no) Q fun c d H' => E c d σ H') :
    rc W.G (cmpV op) v v2 H2 fun z H3 => ∃ k, z = .bl k ∧ (if k = true then RE W cc a E ev r σ H3 fun w' H4 => rc W.G (cmpV op') v2 w' H4 Q else Q (.bl false) H3) := by
  refine ⟨m, h2, d, d2, (fun c d H' => E c d σ H'), r2, dv, dv2, ?_⟩
  show Sat W.G (RD W.G) m H2 (boolO h2 (cmpV op h2 d d2)) _ _
  split at z
  · rename_i e0
    rw [e0]
    intro m' H' u st r' du
    cases du
    refine ⟨true, rfl, iteT ⟨m', h2, s, r', sr.step st, xi, ?_⟩⟩
    exact (z.trans st).bind fun d3 h3 m3 H3 v3 st3 r3 dv3 q3 => ⟨m3, h3, d2, d3, _, r3, (dv2.step st).step st3, dv3, q3⟩
  · rename_i e0
    rw [e0]
    intro m' H' u st r' du
    cases du
    exact ⟨false, rfl, iteF (z m' H' _ st r' (.bl _))⟩
  · exact False.elim z
theorem k_chain (x : XG W cc k ev X E) {op op' : CmpOp} (hs : notSet e3 = true) (ha : PE X e1 (RE W cc a E ev p)) (hb : PE X e2 (RE W cc a E ev q)) (hc : PE X e3 (RE W cc a E ev r)) : PE X (.Compare e1 [op, op'] [e2, e3] pos) (RE W cc a E ev (.chain op op' p q r)) :=
  PE.imp (pe_chain (cmp_ok x.K x.units op) (cmp_ok x.K x.units op') ha hb hc (lastS hs)) fun σ H Q ⟨m, h, s, r, sr, xi, z⟩ =>
    ⟨m, h, s, r, sr, xi, Sat.bind (S := RD W.G) (f := fun x h1 => (evE ev q s h1).bind fun y h2 => match cmpV op h2 x y with
      | some true => (evE ev _ s h2).bind fun z h3 => boolO h3 (cmpV op' h3 y z)
      | some false => .ok (.bl false) h2
      | none => .no) z fun d h1 m1 H1 v st r1 dv q1 => ⟨m1, h1, s, r1, sr.step st, xi, q1.bind fun d2 h2 m2 H2 v2 st2 r2 dv2 q2 => chain_go r2 ((sr.step st).step st2) xi (dv.step st2) dv2 q2⟩⟩
theorem t_chain (x : XG W cc k ev X E) {op op' : CmpOp} (hs : notSet e3 = true) (ha : PE X e1 (RE W cc a E ev p)) (hb : PE X e2 (RE W cc a E ev q)) (hc : PE X e3 (RE W cc a E ev r)) : PT X (.Compare e1 [op, op'] [e2, e3] pos) (RT W cc a E ev (.v (.chain op op' p q r))) := by
  refine PT.imp (pt_chain (cmp_ok x.K x.units op) (cmp_ok x.K x.units op') ha hb hc (lastS hs)) fun σ H Q ⟨m, h, s, rl, sr, xi, z⟩ => ?_
  have z : Sat W.G RB m H (((evE ev p s h).bind fun x h1 => (evE ev q s h1).bind fun y h2 => match cmpV op h2 x y with
      | some true => (evE ev r s h2).bind fun z h3 => boolO h3 (cmpV op' h3 y z)
      | some false => .ok (.bl false) h2
      | none => .no).bind fun x h1 => testO h1 (truthD h1 x)) Q _ := z
  refine ⟨m, h, s, rl, sr, xi, ?_⟩
  cases e0 : evE ev p s h with
  | no => rw [e0] at z; exact False.elim z
  | ex e h' => rw [e0] at z; exact z
  | ok d h1 =>
    rw [e0] at z
    intro m1 H1 v st r1 dv
    have z : Sat W.G RB m H (((evE ev q s h1).bind fun y h2 => match cmpV op h2 d y with
      | some true => (evE ev r s h2).bind fun z h3 => boolO h3 (cmpV op' h3 y z)
      | some false => .ok (.bl false) h2
      | none => .no).bind fun x h1 => testO h1 (truthD h1 x)) Q _ := z
    have z := z.trans st
    refine ⟨m1, h1, s, r1, sr.step st, xi, ?_⟩
    cases e0' : evE ev q s h1 with
    | no => rw [e0'] at z; exact False.elim z
    | ex e h' => rw [e0'] at z; exact z
    | ok d2 h2 =>
      rw [e0'] at z
      intro m2 H2 v2 st2 r2 dv2
      have z : Sat W.G RB m1 H1 ((match cmpV op h2 d d2 with
        | some true => (evE ev r s h2).bind fun z h3 => boolO h3 (cmpV op' h3 d2 z)
        | some false => .ok (.bl false) h2
        | none => .no).bind fun x h1 => testO h1 (truthD h1 x)) Q _ := z
      have z := z.trans st2
      refine chain_go (Q := fun x H' => ∃ k, x = .bl k ∧ Q k H') r2 ((sr.step st).step st2) xi (dv.step st2) dv2 ?_
      split at z
      · cases e3 : evE ev r s h2 with
        | no => rw [e3] at z; exact False.elim z
        | ex e h' => rw [e3] at z; exact z
        | ok d3 h3 =>
          rw [e3] at z
          exact bool_test z
      · intro m' H' u st' r' du
        cases du
        exact ⟨false, rfl, z m' H' false st' r' rfl⟩
      · exact False.elim z
/-! ### calls -/
theorem run_fnKS {pins : List (Addr × Obj)} {σ : L2.St} {H : Hp} {s : Shared} {Q : VK} {CX : CXT} {j n : Nat} {f : Addr} {fd : FuncData} {ps ks : List Str} {sp : Sp} {F : XK} {us ws : List Value} {vs zs : List V} {g : List Value → List Value → List Value} {gV : List V → List V → List V}
    (Fo : FnOk X.prog X.w X.K X.mg X.base CX j f fd ps sp) (hr : Room j X.A) (hb : KBn X.K fd ps n ks g gV) (hx : PassesAt CX X σ F)
    (I : Inv X pins σ H s) (r : Vals vs us) (rz : Vals zs ws) (l1 : vs.length = n) (l2 : zs.length = ks.length) (h : sp (gV vs zs) H Q F) : wpAny (model X.prog X.w) X.A (call (.ref f) us (ks.zip ws)) (EP X pins σ Q) X.xe s := by
  have r2 := hb.rel r rz
  refine wpAny_call (codeAny_mono (Fo.run X.A X.stack s H ⟨us, ks.zip ws⟩ (g us ws) (gV vs zs) Q F hr I.env0 (hb.to s us ws I.kIn (r.length.symm.trans l1) (rz.length.symm.trans l2)) r2 h) fun r s' hq => ?_)
  cases r with
  | error e => exact hx pins H s e s' I hq
  | ok fl =>
    cases fl with
    | ret u => exact I.after hq
    | next => exact False.elim hq
    | brk => exact False.elim hq
    | cont => exact False.elim hq
theorem starAll {env : Env} : ∀ {es : List Expr}, es.all notStar = true → ∀ po : Pos, (backTo po (starEach es env)).any (·.1) = false
  | [], _, _ => rfl
  | e :: es, h, po => by
    rw [List.all_cons, Bool.and_eq_true] at h
    rw [star1 h.1]
    show (false || (backTo po (starEach es env)).any (·.1)) = false
    rw [starAll h.2 po]
    rfl
def kwAll : List Keyword → Bool
  | [] => true
  | ⟨some _, _, _⟩ :: r => kwAll r
  | _ => false
theorem kwFacts {env : Env} (po : Pos) : ∀ {ks : List Keyword}, kwAll ks = true → (backToKw po (keywordEach ks env)).all (·.1.isSome) = true ∧ (backToKw po (keywordEach ks env)).filterMap (·.1) = kwNames ks ∧ (backToKw po (keywordEach ks env)).any (·.1.isNone) = false
  | [], _ => ⟨rfl, rfl, rfl⟩
  | ⟨some n, v, kp⟩ :: r, h => by
    obtain ⟨h1, h2, h3⟩ := kwFacts po (ks := r) h
    refine ⟨?_, ?_, ?_⟩
    · show (true && (backToKw po (keywordEach r env)).all (·.1.isSome)) = true
      rw [h1]
      rfl
    · show n :: (backToKw po (keywordEach r env)).filterMap (·.1) = n :: kwNames r
      rw [h2]
    · show (false || (backToKw po (keywordEach r env)).any (·.1.isNone)) = false
      rw [h3]
      rfl
theorem kwNames_len : ∀ {ks : List Keyword}, kwAll ks = true → (kwNames ks).length = ks.length
  | [], _ => rfl
  | ⟨some n, v, kp⟩ :: r, h => by
    show ((kwNames r).length + 1) = r.length + 1
    rw [kwNames_len (ks := r) h]
def QEs.len : QEs → Nat
  | .nil => 0
  | .cons _ r => r.len + 1
theorem evEs_len {s : Sl} : ∀ {ps : QEs} {h h' : Hd} {xs : List D}, evEs ev ps s h = .ok xs h' → xs.length = ps.len
  | .nil, h, h', xs, e => by
    have e : Out.ok [] h = Out.ok xs h' := e
    cases e
    rfl
  | .cons p ps, h, h', xs, e => by
    have e : ((evE ev p s h).bind fun x h1 => (evEs ev ps s h1).bind fun xs h2 => .ok (x :: xs) h2) = Out.ok xs h' := e
    cases e1 : evE ev p s h with
    | no => rw [e1] at e; cases e
    | ex _ _ => rw [e1] at e; cases e
    | ok d h1 =>
      rw [e1] at e
      have e : ((evEs ev ps s h1).bind fun xs h2 => .ok (d :: xs) h2) = Out.ok xs h' := e
      cases e2 : evEs ev ps s h1 with
      | no => rw [e2] at e; cases e
      | ex _ _ => rw [e2] at e; cases e
      | ok ys h2 =>
        rw [e2] at e
        have e : Out.ok (d :: ys) h2 = Out.ok xs h' := e
        cases e
        show ys.length + 1 = ps.len + 1
        rw [evEs_len e2]
/-- a list of expressions, its length told -/
theorem Sat.bindL {ps : QEs} {s : Sl} {m : List Addr} {h : Hd} {H : Hp} {f : List D → Hd → Out D} {Q : VK} {F : XKE} {Q1 : List V → Hp → Prop} (z : Sat W.G (RD W.G) m H ((evEs ev ps s h).bind f) Q F)
    (kk : ∀ d h1 m1 H1 v, d.length = ps.len → Step m H m1 H1 → Rel W.G m1 h1 H1 → DRs W.G.K m1 H1 d v → Sat W.G (RD W.G) m1 H1 (f d h1) Q F → Q1 v H1) : Sat W.G (RDs W.G) m H (evEs ev ps s h) Q1 F := by
  cases e : evEs ev ps s h with
  | no => rw [e] at z; exact False.elim z
  | ex _ _ => rw [e] at z; exact z
  | ok d h1 =>
    rw [e] at z
    exact fun m1 H1 v t r q => kk d h1 m1 H1 v (evEs_len e) t r q (Sat.trans (o := f d h1) z t)
theorem k_call (x : XG W cc k ev X E) {y : Str} {i np : Nat} {shapes : List (Nat × List Str × Arr)} {args : List Expr} {kws : List Keyword} {es kes : QEs} {arr : Arr} {p1 : Pos} (hcold : cc.hot = false) (hn : plainName y = true) (hg : glB cc.sc y = true) (hl : cc.gl.lookup y = some (.fn i np shapes))
    (hs : args.all notStar = true) (hk : kwAll kws = true) (h0 : args = [] → kws = []) (l1 : es.len = args.length) (l2 : kes.len = kws.length) (hsh : shapeOf shapes args.length (kwNames kws) = some arr)
    (ha : PA X args (REs W cc a E ev es)) (hb : PK X kws (REs W cc a E ev kes)) : PE X (.Call (.Name y p1) args kws pos) (RE W cc a E ev (.call i es kes arr)) := by
  obtain ⟨f, fd, ps, e1, kp, lps, Fo, hsp⟩ := x.gl y _ hl
  obtain ⟨la, fa, g, KB⟩ := hsp _ _ _ (shapeOf_mem hsh)
  obtain ⟨n1, n2, n3⟩ := pn1 hn
  have Fo : FnOk X.prog X.w X.K X.mg X.base (L2.CX X.prog X.w) (3 * k) f fd ps (spF W.G np (ev.call i)) := by
    rw [x.prog, x.wd, x.K, x.mg, x.base]; exact Fo
  have KB : KBn X.K fd ps args.length (kwNames kws) g (arrV arr) := by rw [x.K]; exact KB
  have kp : PySem.W.keepIn X.K (.ref f) = true := by rw [x.K]; exact kp
  have hgl := gl_of x hg
  have hmg : X.mg y = some (.ref f) := by rw [x.mg]; exact e1
  have hr : Room (3 * k) X.A := (x.room hcold).2.mono (by omega)
  refine ⟨fun pins s σ H Q I ⟨m, h, sl, rl, sr, xi, z⟩ => ?_⟩
  have z : Sat W.G (RD W.G) m H ((evEs ev es sl h).bind fun xs h1 => (evEs ev kes sl h1).bind fun ys h2 => ev.call i (arrD arr xs ys) h2) Q _ := z
  have rd : REs W cc a E ev es σ H fun vs H1 => vs.length = args.length ∧ REs W cc a E ev kes σ H1 fun zs H2 => zs.length = kws.length ∧ spF W.G np (ev.call i) (arrV arr vs zs) H2 Q (WE E σ) :=
    ⟨m, h, sl, rl, sr, xi, z.bindL fun d h1 m1 H1 v ld st r1 dv q1 => ⟨by rw [← dv.length, ld, l1], m1, h1, sl, r1, sr.step st, xi, q1.bindL fun d2 h2 m2 H2 v2 ld2 st2 r2 dv2 q2 => ⟨by rw [← dv2.length, ld2, l2], m2, h2, _, r2, arr_rel (dv.step st2) dv2 fa, by
      unfold arrD
      rw [List.length_map, la], q2⟩⟩⟩
  refine wpAny_Call_Name_kw (ld_glob I hgl hmg ?_ n1)
  have fin : ∀ {s2 H2 us ws vs zs}, Inv X pins σ H2 s2 → Vals vs us → Vals zs ws → vs.length = args.length → zs.length = kws.length → spF W.G np (ev.call i) (arrV arr vs zs) H2 Q (WE E σ) → wpAny (model X.prog X.w) X.A (call (.ref f) us ((kwNames kws).zip ws)) (EP X pins σ Q) X.xe s2 :=
    fun {s2 H2 us ws vs zs} I2 r rz l1 l2 q => run_fnKS Fo hr KB (passAt x.tk σ) I2 r rz l1 (by rw [l2, kwNames_len hk]) q
  cases args with
  | nil =>
    have hk0 := h0 rfl
    subst hk0
    cases es with
    | cons _ _ => cases l1
    | nil =>
      cases kes with
      | cons _ _ => cases l2
      | nil =>
        have q1 := ha.run pos pins s σ H _ I rd
        refine PySem.W.callWith_K0 I.kIn kp (fin (us := []) (ws := []) (vs := []) (zs := []) I .nil .nil rfl rfl ?_)
        obtain ⟨m', h', s', r', sr', xi', z'⟩ := rd
        have z' : Sat W.G (RDs W.G) m' H (.ok [] h') _ _ := z'
        obtain ⟨_, m2, h2, s2, r2, sr2, xi2, z2⟩ := z'.ok r' .nil
        have z2 : Sat W.G (RDs W.G) m2 H (.ok [] h2) _ _ := z2
        exact (z2.ok r2 .nil).2
  | cons e0 rest =>
    rw [List.all_cons, Bool.and_eq_true] at hs
    have he := star1 (env := X.env) (es := rest) hs.1
    cases kws with
    | nil =>
      cases kes with
      | cons _ _ => cases l2
      | nil =>
        refine PySem.W.callWith_K (h₀ := X.base) I.ok.mod.kin kp (thn (ha.run pos pins s σ H _ I rd) fun us s1 ⟨vs, H1, I1, r, l, m2, h2, s2, r2, sr2, xi2, z2⟩ => ⟨I1.kIn, ?_⟩) he (starAll hs.2 pos)
        have z2 : Sat W.G (RDs W.G) m2 H1 (.ok [] h2) _ _ := z2
        exact fin (ws := []) (zs := []) I1 r .nil l rfl (z2.ok r2 .nil).2
    | cons kw kws =>
      obtain ⟨k1, k2, k3⟩ := kwFacts (env := X.env) pos hk
      refine PySem.W.callWith_KW (h₀ := X.base) I.ok.mod.kin kp k1 (thn (ha.run pos pins s σ H _ I rd) fun us s1 ⟨vs, H1, I1, r, l, q⟩ => ?_) ?_ he
      · refine thn (hb.run pos pins s1 σ H1 _ I1 q) fun ws s2 ⟨zs, H2, I2, rz, l2', q2⟩ => ⟨I2.kIn, ?_⟩
        rw [k2]
        exact fin I2 r rz l l2' q2
      · rw [k3, he]
        show ((false || (backTo pos (starEach rest X.env)).any (·.1)) || false) = false
        rw [starAll hs.2 pos]
        rfl
theorem k_bi (x : XG W cc k ev X E) {y : Str} {b : BI} {es : QEs} {rest : List Expr} {p1 : Pos} (hcold : cc.hot = false) (hn : plainName y = true) (hg : glB cc.sc y = true) (hv : match b with
      | .gcd => X.mg y = some (.builtin "math.gcd")
      | b => X.mg y = none ∧ bootBuiltins y = some b.val) (hs : (e :: rest).all notStar = true) (ha : PA X (e :: rest) (REs W cc a E ev es)) : PE X (.Call (.Name y p1) (e :: rest) [] pos) (RE W cc a E ev (.bi b es)) := by
  obtain ⟨n1, n2, n3⟩ := pn1 hn
  have hgl := gl_of x hg
  have co := bi_ok (G := W.G) x.K (x.room hcold).1 b
  rw [List.all_cons, Bool.and_eq_true] at hs
  have he := star1 (env := X.env) (es := rest) hs.1
  have hpl := starAll (env := X.env) hs.2 pos
  have key : ∀ σ H Q, RE W cc a E ev (.bi b es) σ H Q → tCB (rbi W.G b) (REs W cc a E ev es) σ H Q := fun σ H Q ⟨m, h, s, r, sr, xi, z⟩ => by
    have z : Sat W.G (RD W.G) m H ((evEs ev es s h).bind fun xs h1 => biV b xs h1) Q _ := z
    exact ⟨m, h, s, r, sr, xi, z.bind fun d h1 m1 H1 v st r1 dv q1 => ⟨m1, h1, d, _, r1, dv, q1⟩⟩
  cases b with
  | gcd => exact PE.imp (pe_callBfun co hgl hv ha n1 he hpl) key
  | int => exact PE.imp (pe_callTy co hgl hv.1 hv.2 ha n3 n1 he hpl) key
  | tuple => exact PE.imp (pe_callTy co hgl hv.1 hv.2 ha n3 n1 he hpl) key
  | list => exact PE.imp (pe_callTy co hgl hv.1 hv.2 ha n3 n1 he hpl) key
  | str => exact PE.imp (pe_callTy co hgl hv.1 hv.2 ha n3 n1 he hpl) key
  | abs => exact PE.imp (pe_callB co hgl hv.1 hv.2 ha n3 n1 he hpl) key
  | len => exact PE.imp (pe_callB co hgl hv.1 hv.2 ha n3 n1 he hpl) key
  | max => exact PE.imp (pe_callB co hgl hv.1 hv.2 ha n3 n1 he hpl) key
  | min => exact PE.imp (pe_callB co hgl hv.1 hv.2 ha n3 n1 he hpl) key
  | all => exact PE.imp (pe_callB co hgl hv.1 hv.2 ha n3 n1 he hpl) key
  | any => exact PE.imp (pe_callB co hgl hv.1 hv.2 ha n3 n1 he hpl) key
theorem k_isi (x : XG W cc k ev X E) {y : Str} {t : Ty} {e2 : Expr} {p1 : Pos} (hn : plainName y = true) (hg : glB cc.sc y = true) (hv : X.mg y = none ∧ bootBuiltins y = some (.builtin "isinstance")) (hs : notStar e1 = true) (ht : tyOf cc e2 = some t) (ha : PE X e1 (RE W cc a E ev p)) :
    PE X (.Call (.Name y p1) [e1, e2] [] pos) (RE W cc a E ev (.isi p t)) := by
  obtain ⟨n1, n2, n3⟩ := pn1 hn
  have hgl := gl_of x hg
  have nc : (∀ n, t ≠ .cls n) ∧ notStar e2 = true ∧ PE X e2 (tC (.ty t.nm)) := by
    unfold tyOf at ht
    split at ht
    · split at ht
      · rename_i hp
        rw [Bool.and_eq_true] at hp
        obtain ⟨m1, m2, m3⟩ := pn1 hp.1
        split at ht
        · rename_i t' e0
          obtain ⟨g1, g2⟩ := x.gl _ _ e0
          split at ht
          · cases ht
          · rename_i t2 hne
            cases ht
            exact ⟨fun n z => hne n z, rfl, pe_bltn (gl_of x hp.2) (by rw [x.mg]; exact g1) g2 rfl m3 m1⟩
        · cases ht
      · cases ht
    · cases ht
  obtain ⟨nc, hs2, ht⟩ := nc
  refine PE.imp (pe_callB (isi_ok (G := W.G) x.K t) hgl hv.1 hv.2 (pa_cons ha (pa_cons ht pa_nil (star1 hs2)) (star1 hs)) n3 n1 (star1 hs) (by
    rw [star1 hs2]
    rfl)) fun σ H Q ⟨m, h, s, r, sr, xi, z⟩ => ?_
  have z : Sat W.G (RD W.G) m H ((evE ev p s h).bind fun x h1 => boolO h1 (isiV x t h1)) Q _ := z
  exact ⟨m, h, s, r, sr, xi, z.bind fun d h1 m1 H1 v st r1 dv q1 => ⟨m1, h1, d, v, _, rfl, nc, r1, dv, q1⟩⟩
end
end PV
/-! PVZp: zip of two, each a list or a tuple. -/
namespace PV
open PySem PySem.Spec PyProof.Rows L2
/-- a list (false), a tuple (true) -/
def SqK (K : PySem.W.Frag) (k : Bool) (H : Hp) (a : Addr) (xs : List V) : Prop := match k with
  | true => SqT K H a xs
  | false => SqL K H a xs
def ItsK (k : Bool) (h : Heap) (a : Addr) (its : Array Value) : Prop := match k with
  | true => h.IsTuple a its
  | false => h.IsList a its
def IterK (k : Bool) (h : Heap) (it a : Addr) (i : Nat) : Prop := match k with
  | true => h.IsTupleIter it a i
  | false => h.IsListIter it a i
def objK (k : Bool) (a : Addr) : Obj := match k with
  | true => { cls := .type "tuple_iterator", data := .fields #[.ref a, .int 0 0] }
  | false => { cls := .type "list_iterator", data := .fields #[.ref a, .int 0 0] }
theorem IterK.obj {k : Bool} {h : Heap} {it a : Addr} {i : Nat} (x : IterK k h it a i) : ∃ o, h.get? it = some o ∧ ∃ vs, o.data = .fields vs := by
  cases k with
  | true => obtain ⟨o, e, _, d⟩ := (show h.IsTupleIter it a i from x); exact ⟨o, e, _, d⟩
  | false => obtain ⟨o, e, _, d⟩ := (show h.IsListIter it a i from x); exact ⟨o, e, _, d⟩
theorem IterK.at {k : Bool} {h h' : Heap} {it a : Addr} {i : Nat} (x : IterK k h it a i) (q : ∀ o, h.get? it = some o → h'.get? it = some o) : IterK k h' it a i := by
  cases k with
  | true => exact Heap.IsTupleIter.at (show h.IsTupleIter it a i from x) q
  | false => exact Heap.IsListIter.at (show h.IsListIter it a i from x) q
theorem ItsK.at {k : Bool} {h h' : Heap} {a : Addr} {its : Array Value} (x : ItsK k h a its) (q : ∀ o, h.get? a = some o → h'.get? a = some o) : ItsK k h' a its := by
  cases k with
  | true => exact Heap.IsTuple.at (show h.IsTuple a its from x) q
  | false => exact Heap.IsList.at (show h.IsList a its from x) q
theorem ItsK.lt {k : Bool} {h : Heap} {a : Addr} {its : Array Value} (x : ItsK k h a its) : a < h.objs.size := by
  cases k with
  | true => obtain ⟨o, e, _⟩ := (show h.IsTuple a its from x); exact Heap.lt_size e
  | false => obtain ⟨o, e, _⟩ := (show h.IsList a its from x); exact Heap.lt_size e
theorem ItsK.ne_iter {k : Bool} {h : Heap} {a it : Addr} {its : Array Value} {i : Nat} (x : ItsK k h a its) (y : IterK k h it a i) : a ≠ it := fun q => by
  subst q
  cases k with
  | true =>
    obtain ⟨o, e, c, _⟩ := (show h.IsTuple a its from x)
    obtain ⟨o', e', c', _⟩ := (show h.IsTupleIter a a i from y)
    rw [e] at e'; cases e'; rw [c] at c'; simp at c'
  | false =>
    obtain ⟨o, e, c, _⟩ := (show h.IsList a its from x)
    obtain ⟨o', e', c', _⟩ := (show h.IsListIter a a i from y)
    rw [e] at e'; cases e'; rw [c] at c'; simp at c'
theorem begK (k : Bool) (a : Addr) (its : Array Value) : Begins (.ref a) (objK k a) fun h => ItsK k h a its := by
  cases k with
  | true => exact begins_tuple a its
  | false => exact begins_list a its
theorem iterK0 {k : Bool} {h : Heap} {it a : Addr} (e : h.get? it = some (objK k a)) : IterK k h it a 0 := by
  cases k with
  | true => exact ⟨_, e, rfl, rfl⟩
  | false => exact ⟨_, e, rfl, rfl⟩
section
variable {X : Cx} {pins : List (Addr × Obj)} {σ : L2.St} {H : Hp} {s : Shared}
theorem inv_k {k : Bool} {a : Addr} {xs : List V} (I : Inv X pins σ H s) (q : SqK X.K k H a xs) : ∃ its : List Value, Vals xs its ∧ ItsK k s.heap a its.toArray := by
  cases k with
  | true => obtain ⟨its, rv, p, _⟩ := I.tuple q; exact ⟨its, rv, p⟩
  | false => obtain ⟨its, rv, p, _⟩ := I.list q; exact ⟨its, rv, p.isList⟩
theorem inj_k {k : Bool} {a : Addr} {xs ys : List V} (I : Inv X pins σ H s) (q : SqK X.K k H a xs) (q' : SqK X.K k H a ys) : xs = ys := by
  cases k with
  | true => exact I.tuple_inj q q'
  | false => exact I.list_inj q q'
end
section
variable {prog : Program} {w : World} {A : Around}
theorem drawK (k : Bool) (hh : A.handled = none) (it a : Addr) (hne : a ≠ it) (its : Array Value) : Draws prog w A it [it, a] its.size (fun i v => its[i]? = some v) (fun i h => IterK k h it a i ∧ ItsK k h a its) := by
  cases k with
  | true => exact Draws.tuple hh it a hne its
  | false => exact Draws.list hh it a hne its
/-- an iterator at its end -/
theorem drawE (k : Bool) (hh : A.handled = none) (it a : Addr) (its : Array Value) (i : Nat) (he : its[i]? = none) : Draws prog w A it [it, a] i (fun _ _ => False) (fun j h => j = i ∧ IterK k h it a i ∧ ItsK k h a its) where
  live := fun _ _ st => let ⟨o, ho, _⟩ := st.2.1.obj; ⟨o, ho⟩
  frame := fun _ _ _ st hk => ⟨st.1, st.2.1.at fun o e => hk it (by simp) o e, st.2.2.at fun o e => hk a (by simp) o e⟩
  item := fun j s Q E hj st hQ => absurd st.1 (Nat.ne_of_lt hj)
  done := fun s Q E st hE => by
    cases k with
    | true => exact wpAny_nextOf_tuple_end hh st.2.1 st.2.2 he hE
    | false => exact wpAny_nextOf_list_end hh st.2.1 st.2.2 he hE
/-- either way -/
theorem drawX (k : Bool) (hh : A.handled = none) (it a : Addr) (hne : a ≠ it) (its : Array Value) (i : Nat) {h : Heap} (x : IterK k h it a i) (y : ItsK k h a its) : ∃ n P St, Draws prog w A it [it, a] n P St ∧ St i h ∧ i ≤ n ∧ (its.size ≤ i → i = n) := by
  by_cases e : i < its.size
  · exact ⟨_, _, _, drawK k hh it a hne its, ⟨x, y⟩, Nat.le_of_lt e, fun z => by omega⟩
  · exact ⟨_, _, _, drawE k hh it a its i (by simp; omega), ⟨rfl, x, y⟩, Nat.le_refl _, fun _ => rfl⟩
end
/-- the two at a and b as they stand at each turn, the items in new pairs -/
def ItzM (K : PySem.W.Frag) (k1 k2 : Bool) (a b : Addr) : It :=
  ⟨fun i H => ∃ (xs ys : List V) (x y : V), SqK K k1 H a xs ∧ SqK K k2 H b ys ∧ xs[i]? = some x ∧ ys[i]? = some y,
    fun i H v H' => ∃ T x y, v = .ref T ∧ H T = none ∧ H' = upd H T (.tup [x, y]) ∧ (∀ xs, SqK K k1 H a xs → xs[i]? = some x) ∧ ∀ ys, SqK K k2 H b ys → ys[i]? = some y,
    fun i H => ∃ xs ys : List V, SqK K k1 H a xs ∧ SqK K k2 H b ys ∧ (xs.length ≤ i ∨ ys.length ≤ i)⟩
theorem turn_zipM {P : Program} {w : World} {K : PySem.W.Frag} {elts : List Expr} {kk : Nat} {tpos : Pos} (k1 k2 : Bool) {a b z TI TO i1 i2 : Addr} (D : ZipSep2 z TI TO i1 i2 [i1, a] [i2, b]) :
    Turn P w K (.Tuple elts kk tpos) (ItzM K k1 k2 a b) [z, TI, TO, i1, i2] z (fun i h => IsZip h z TI TO .none ∧ IsTupOf2 h TI (.ref i1) (.ref i2) ∧ (∃ x y, IsTupOf2 h TO x y) ∧ IterK k1 h i1 a i ∧ IterK k2 h i2 b i) where
  mem := by simp
  obj := fun i h st c hc => by
    obtain ⟨hz, hTI, ⟨x, y, hTO⟩, h1, h2⟩ := st
    obtain ⟨o1, e1, v1, d1⟩ := h1.obj
    obtain ⟨o2, e2, v2, d2⟩ := h2.obj
    have e' : c = z ∨ c = TI ∨ c = TO ∨ c = i1 ∨ c = i2 := by simpa using hc
    rcases e' with q | q | q | q | q
    · rw [q]; exact ⟨_, hz, fun v q => nomatch q⟩
    · rw [q]; exact ⟨_, hTI, fun v q => nomatch q⟩
    · rw [q]; exact ⟨_, hTO, fun v q => nomatch q⟩
    · rw [q]; exact ⟨o1, e1, fun v q => by rw [d1] at q; cases q⟩
    · rw [q]; exact ⟨o2, e2, fun v q => by rw [d2] at q; cases q⟩
  keep := fun i h h' st k => by
    obtain ⟨hz, hTI, ⟨x, y, hTO⟩, h1, h2⟩ := st
    exact ⟨k z (by simp) _ hz, k TI (by simp) _ hTI, ⟨x, y, k TO (by simp) _ hTO⟩, h1.at fun o q => k i1 (by simp) o q, h2.at fun o q => k i2 (by simp) o q⟩
  item := by
    intro X hP hw hK hc i pins s σ H E I hf st hg
    subst hP hw hK
    obtain ⟨hz, hTI, ⟨x0, y0, hTO⟩, h1, h2⟩ := st
    obtain ⟨xs, ys, x, y, hqx, hqy, hx, hy⟩ := hg
    obtain ⟨its, rv, p⟩ := inv_k I hqx
    obtain ⟨its2, rv2, p2⟩ := inv_k I hqy
    obtain ⟨u, hu, ru⟩ := rv.get hx
    obtain ⟨u2, hu2, ru2⟩ := rv2.get hy
    have hzl : z < s.heap.objs.size := Heap.lt_size hz
    have ne1 := ItsK.ne_iter p h1
    have ne2 := ItsK.ne_iter p2 h2
    have hh : X.A.in1.handled = none := I.ok.hd hc
    have lt1 : i < its.toArray.size := by
      have := (List.getElem?_eq_some_iff.mp hu).1
      simpa using this
    have lt2 : i < its2.toArray.size := by
      have := (List.getElem?_eq_some_iff.mp hu2).1
      simpa using this
    refine wpAny_pyNext_zipD2_item D (drawK k1 hh i1 a ne1 its.toArray) (drawK k2 hh i2 b ne2 its2.toArray) hz hTI hTO ⟨h1, p⟩ ⟨h2, p2⟩ lt1 lt2 fun w1 w2 h' tk hy1 hy2 z' TO' s1' s2' hT hsz hk => ?_
    have hy1 : its.toArray[i]? = some w1 := hy1
    have hy2 : its2.toArray[i]? = some w2 := hy2
    have hu' : its.toArray[i]? = some u := by simpa using hu
    have hu2' : its2.toArray[i]? = some u2 := by simpa using hu2
    rw [hu'] at hy1
    rw [hu2'] at hy2
    cases hy1
    cases hy2
    refine ⟨_, rfl, wpAny_letOwnedTupleGo_zip (s := { s with heap := h', toks := tk }) z' fun h'' z'' sb => ?_⟩
    have hT2 : h''.get? s.heap.objs.size = some { cls := .type "tuple", data := .seq #[u, u2] } := (sb.2 _ (Nat.ne_of_gt hzl)).trans hT
    have new : ObjOk X.prog X.w (upd H s.heap.objs.size (.tup [x, y])) h'' s.heap.objs.size (.tup [x, y]) :=
      ⟨by show 2 ≤ sizeLine; decide, [u, u2], .cons ru (.cons ru2 .nil), ⟨_, hT2, rfl, _, rfl⟩⟩
    have I1 : Inv X pins σ (upd H s.heap.objs.size (.tup [x, y])) { s with heap := h'', toks := tk } :=
      I.turnedNew (t' := tk) (ch := [z, TI, TO, i1, i2]) (fun c o hb q => (sb.2 c (fun q' => hb (by simp [q']))).trans (hk c o (fun q' => hb (by simp [q'])) (fun q' => hb (by simp [q'])) (fun q' => hb (by simp [q'])) (fun q' => hb (by simp [q'])) q)) hf (Nat.le_refl _) new
    refine ⟨.ref s.heap.objs.size, _, I1, rfl, ⟨_, x, y, rfl, I.hok.fresh (Nat.le_refl _), rfl, fun l hl => by rw [inj_k I hl hqx]; exact hx, fun l hl => by rw [inj_k I hl hqy]; exact hy⟩, ⟨z'', ?_, ⟨u, u2, ?_⟩, ?_, ?_⟩, fun c hcm => ?_⟩
    · exact (sb.2 _ D.TIz).trans (hk _ _ D.TIz D.TITO D.TIi1 D.TIi2 hTI)
    · exact (sb.2 _ D.TOz).trans TO'
    · exact s1'.1.at fun o q => (sb.2 _ (Ne.symm D.zi1)).trans q
    · exact s2'.1.at fun o q => (sb.2 _ (Ne.symm D.zi2)).trans q
    · have hlt : c < s.heap.objs.size := by
        have e' : c = z ∨ c = TI ∨ c = TO ∨ c = i1 ∨ c = i2 := by simpa using hcm
        rcases e' with q | q | q | q | q
        · rw [q]; exact hzl
        · rw [q]; exact Heap.lt_size hTI
        · rw [q]; exact Heap.lt_size hTO
        · rw [q]; obtain ⟨_, e1, _⟩ := h1.obj; exact Heap.lt_size e1
        · rw [q]; obtain ⟨_, e2, _⟩ := h2.obj; exact Heap.lt_size e2
      rw [upd_ne (Nat.ne_of_lt hlt)]
      exact (hf c hcm).1
  done := by
    intro X hP hw hK hc i pins s σ H E I hf st hg
    subst hP hw hK
    obtain ⟨hz, hTI, ⟨x0, y0, hTO⟩, h1, h2⟩ := st
    obtain ⟨xs, ys, hqx, hqy, hend⟩ := hg
    obtain ⟨its, rv, p⟩ := inv_k I hqx
    obtain ⟨its2, rv2, p2⟩ := inv_k I hqy
    have l1 := rv.length
    have l2 := rv2.length
    have hh : X.A.in1.handled = none := I.ok.hd hc
    have ne1 := ItsK.ne_iter p h1
    have ne2 := ItsK.ne_iter p2 h2
    obtain ⟨n1, P1, St1, D1, s1, le1, en1⟩ := drawX (prog := X.prog) (w := X.w) k1 hh i1 a ne1 its.toArray i h1 p
    obtain ⟨n2, P2, St2, D2, s2, le2, en2⟩ := drawX (prog := X.prog) (w := X.w) k2 hh i2 b ne2 its2.toArray i h2 p2
    have en : i = n1 ∨ i = n2 := by
      rcases hend with z | z
      · exact .inl (en1 (by simp; omega))
      · exact .inr (en2 (by simp; omega))
    obtain ⟨f0, f1, f2, f3, f4, f5⟩ := hf z (by simp)
    refine wpAny_pyNext_zipD2_end D D1 D2 hz hTI hTO s1 s2 le1 le2 en fun h' tk kk => ⟨rfl, ?_⟩
    exact I.turnedL (t' := tk) (ch := [z, TI, TO, i1, i2]) (fun c o hb q => kk c o (fun q' => hb (by simp [q'])) (fun q' => hb (by simp [q'])) (fun q' => hb (by simp [q'])) (fun q' => hb (by simp [q'])) q) hf
  self := fun A i s Q E st h => wpAny_pyIter_zip st.1 h
section
variable {prog : Program} {w : World} {A : Around} {E : Value → Shared → Prop} {s : Shared}
theorem call_zipM {k1 k2 : Bool} {l1 l2 : Addr} {xs ys : Array Value} {Q : Value → Shared → Prop} (p1 : ItsK k1 s.heap l1 xs) (p2 : ItsK k2 s.heap l2 ys)
    (h : ∀ h', IsZip h' (s.heap.objs.size + 4) (s.heap.objs.size + 2) (s.heap.objs.size + 3) .none → IsTupOf2 h' (s.heap.objs.size + 2) (.ref s.heap.objs.size) (.ref (s.heap.objs.size + 1)) → IsTupOf2 h' (s.heap.objs.size + 3) .none .none →
      IterK k1 h' s.heap.objs.size l1 0 → IterK k2 h' (s.heap.objs.size + 1) l2 0 → (∀ c o, s.heap.get? c = some o → h'.get? c = some o) → Q (.ref (s.heap.objs.size + 4)) { s with heap := h' }) :
    wpAny (model prog w) A (call (.type "zip") [.ref l1, .ref l2]) Q E s := by
  refine callType_new F.called_zip (by decide) (F.typeCall_zip_2 _ _) (F.newCall_zip_2 _ _) (fun obj => F.args_object_init_3 obj _ _) F.entry_zip_new (meets_zip_newB2 (begK k1 l1 xs) (begK k2 l2 ys)) ⟨⟨p1, p2⟩, ?_⟩
  have z1 : (s.heap.push (objK k1 l1)).objs.size = s.heap.objs.size + 1 := Heap.size_push ..
  have z2 : ((s.heap.push (objK k1 l1)).push (objK k2 l2)).objs.size = s.heap.objs.size + 2 := (Heap.size_push ..).trans (by rw [z1])
  have f1 : (objK k1 l1).isFreed = false := (begK k1 l1 xs).free
  have f2 : (objK k2 l2).isFreed = false := (begK k2 l2 ys).free
  generalize e3 : ((s.heap.push (objK k1 l1)).push (objK k2 l2)).push { cls := .type "tuple", data := .seq #[.ref s.heap.objs.size, .ref (s.heap.push (objK k1 l1)).objs.size] } = h3
  have z3 : h3.objs.size = s.heap.objs.size + 3 := by rw [← e3, Heap.size_push, z2]
  generalize e4 : h3.push { cls := .type "tuple", data := .seq #[.none, .none] } = h4
  have z4 : h4.objs.size = s.heap.objs.size + 4 := by rw [← e4, Heap.size_push, z3]
  have g3 : gzT2 s.heap (objK k1 l1) (objK k2 l2) = h3 := e3
  have g4 : gzO2 s.heap (objK k1 l1) (objK k2 l2) = h4 := by rw [← e4, ← g3]
  have g5 : gzZ2 s.heap (objK k1 l1) (objK k2 l2) = h4.push { cls := .type "zip", data := .fields #[.none, .bool false, .bool false, .ref (s.heap.objs.size + 2), .ref (s.heap.objs.size + 3)] } := by
    show (gzO2 s.heap (objK k1 l1) (objK k2 l2)).push { cls := .type "zip", data := .fields #[.none, .bool false, .bool false, .ref ((s.heap.push (objK k1 l1)).push (objK k2 l2)).objs.size, .ref (gzT2 s.heap (objK k1 l1) (objK k2 l2)).objs.size] } = _
    rw [g4, g3, z2, z3]
  rw [g4, g5]
  show _ ∧ _
  rw [z4]
  have at5 : (h4.push { cls := .type "zip", data := .fields #[.none, .bool false, .bool false, .ref (s.heap.objs.size + 2), .ref (s.heap.objs.size + 3)] }).get? (s.heap.objs.size + 4) = some { cls := .type "zip", data := .fields #[.none, .bool false, .bool false, .ref (s.heap.objs.size + 2), .ref (s.heap.objs.size + 3)] } := by
    have := Heap.get?_push_size h4 (o := { cls := .type "zip", data := .fields #[.none, .bool false, .bool false, .ref (s.heap.objs.size + 2), .ref (s.heap.objs.size + 3)] }) rfl
    rw [z4] at this
    exact this
  have at4 : h4.get? (s.heap.objs.size + 3) = some { cls := .type "tuple", data := .seq #[.none, .none] } := by
    have := Heap.get?_push_size h3 (o := { cls := .type "tuple", data := .seq #[.none, .none] }) rfl
    rw [z3, e4] at this
    exact this
  have at3 : h3.get? (s.heap.objs.size + 2) = some { cls := .type "tuple", data := .seq #[.ref s.heap.objs.size, .ref (s.heap.objs.size + 1)] } := by
    have := Heap.get?_push_size ((s.heap.push (objK k1 l1)).push (objK k2 l2)) (o := { cls := .type "tuple", data := .seq #[.ref s.heap.objs.size, .ref (s.heap.push (objK k1 l1)).objs.size] }) rfl
    rw [z2, e3, z1] at this
    exact this
  have at2 : ((s.heap.push (objK k1 l1)).push (objK k2 l2)).get? (s.heap.objs.size + 1) = some (objK k2 l2) := by
    have := Heap.get?_push_size (s.heap.push (objK k1 l1)) f2
    rw [z1] at this
    exact this
  have at1 : (s.heap.push (objK k1 l1)).get? s.heap.objs.size = some (objK k1 l1) := Heap.get?_push_size s.heap f1
  have up3 : ∀ c o, ((s.heap.push (objK k1 l1)).push (objK k2 l2)).get? c = some o → h3.get? c = some o := fun c o x => by rw [← e3]; exact Heap.get?_push_of_some _ x
  have up4 : ∀ c o, h3.get? c = some o → h4.get? c = some o := fun c o x => by rw [← e4]; exact Heap.get?_push_of_some _ x
  refine ⟨⟨_, at5, rfl⟩, h _ at5 (Heap.get?_push_of_some _ (up4 _ _ at3)) (Heap.get?_push_of_some _ at4) ?_ ?_ fun c o x => ?_⟩
  · exact iterK0 (Heap.get?_push_of_some _ (up4 _ _ (up3 _ _ (Heap.get?_push_of_some _ at1))))
  · exact iterK0 (Heap.get?_push_of_some _ (up4 _ _ (up3 _ _ at2)))
  · exact Heap.get?_push_of_some _ (up4 _ _ (up3 _ _ (Heap.get?_push_of_some _ (Heap.get?_push_of_some _ x))))
end
/-- zip of two, each a list or a tuple -/
def iZipM (K : PySem.W.Frag) (ta : TA) : TI := fun σ H R => ta σ H fun vs H1 => ∃ (k1 k2 : Bool) (a b : Addr) (xs ys : List V), vs = [.ref a, .ref b] ∧ SqK K k1 H1 a xs ∧ SqK K k2 H1 b ys ∧ R (ItzM K k1 k2 a b) H1
theorem pi_zipM {X : Cx} {e e2 : Expr} {ta : TA} {p pos tpos : Pos} {elts : List Expr} {kk : Nat} (hg : Gl X "zip") (hm : X.mg "zip" = none) (ha : PA X [e, e2] ta) (hs : starEach [e, e2] X.env = (false, eval e X.env) :: starEach [e2] X.env) (hs2 : ((backTo pos (starEach [e2] X.env)).any fun x => x.fst) = false) :
    PI X (.Tuple elts kk tpos) (.Call (.Name "zip" p) [e, e2] [] pos) (iZipM X.K ta) := by
  refine ⟨fun pins s σ H R I h => ?_⟩
  refine Call_ (ld_blt I hg hm boot_zip (PyProof.Rows.callWith_type1 (thn (ha.run pos pins s σ H _ I h) fun us s1 ⟨vs, H1, I1, r1, q1⟩ => ?_) hs hs2))
  obtain ⟨k1, k2, a, b, xs, ys, ex, q1, q2, q⟩ := q1
  subst ex
  cases r1 with
  | cons r rr =>
    cases rr with
    | cons r2 rr =>
      cases rr
      cases r
      cases r2
      obtain ⟨its, rv, p1⟩ := inv_k I1 q1
      obtain ⟨its2, rv2, p2⟩ := inv_k I1 q2
      refine call_zipM p1 p2 fun h' hz hTI hTO i1 i2 hk => wpAny_pyIter_zip hz ?_
      have D : ZipSep2 (s1.heap.objs.size + 4) (s1.heap.objs.size + 2) (s1.heap.objs.size + 3) s1.heap.objs.size (s1.heap.objs.size + 1) [s1.heap.objs.size, a] [s1.heap.objs.size + 1, b] := by
        have la := p1.lt
        have lb := p2.lt
        refine ⟨?_, ?_, ?_, ?_, ?_, ?_, ?_, ?_, ?_, ?_, ?_, ?_, ?_⟩ <;> simp [Addr] at * <;> omega
      refine ⟨s1.heap.objs.size + 4, [s1.heap.objs.size + 4, s1.heap.objs.size + 2, s1.heap.objs.size + 3, s1.heap.objs.size, s1.heap.objs.size + 1], _, _, H1, rfl, I1.kept (t' := s1.toks) hk, turn_zipM k1 k2 D, ⟨hz, hTI, ⟨_, _, hTO⟩, i1, i2⟩, fun c hc => ?_, q⟩
      have place : s1.heap.objs.size ≤ c := by
        have e' : c = s1.heap.objs.size + 4 ∨ c = s1.heap.objs.size + 2 ∨ c = s1.heap.objs.size + 3 ∨ c = s1.heap.objs.size ∨ c = s1.heap.objs.size + 1 := by simpa using hc
        rcases e' with z | z | z | z | z <;> rw [z] <;> first | exact Nat.le_refl _ | exact Nat.le_add_right _ _
      exact I1.fpOk place (I1.hok.fresh place)
end PV
/-! PVG: methods of lists, what is walked, comprehensions. -/
namespace PV
open PySem PySem.Spec PyProof.Rows L2
section
variable {W : WD} {cc : CC} {k : Nat} {ev : Ev} {X : Cx} {E : WX} {a : Addr}
variable {e e1 e2 e3 : Expr} {p q r : QE} {pos : Pos}
/-! ### methods -/
theorem baseC {o : Expr} {md : Str} {env : Env} {wh : Sem Value} (h : notCall o = true) : attributeBase o md env wh = wh := by
  cases o <;> first | rfl | cases h
theorem k_mthG (x : XG W cc k ev X E) {o : Expr} {md : Str} {j : Nat} {ap : Pos} {id : String} {F : D → List D → Hd → Out D} (hl : (ap.endLine == pos.line) = true) (hc : notCall o = true) (hs : notStar e1 = true) (sl : Slot "list" md id) (hty : typeOf (.builtin id) = pure (.type "method_descriptor")) (hm : MtM X id (rmt W.G F)) (hj : mthV j = F)
    (ho : PE X o (RE W cc a E ev p)) (ha : PE X e1 (RE W cc a E ev q)) : PE X (.Call (.Attribute o md ap) [e1] [] pos) (RE W cc a E ev (.mth j p (.cons q .nil))) := by
  have hst := star1 (env := X.env) (es := []) hs
  refine PE.imp (pe_bm PySem.F.plainAttrs_list sl hty hm ho (as_cons hs ha as_nil) (baseC hc) (by rw [hst]; rfl) hl hst rfl) fun σ H Q ⟨m, h, s, rl, sr, xi, z⟩ => ?_
  have z : Sat W.G (RD W.G) m H ((evE ev p s h).bind fun x h1 => match isLst h1 x with
    | true => (evEs ev (.cons q .nil) s h1).bind fun xs h2 => mthV j x xs h2
    | false => .no) Q _ := z
  refine ⟨m, h, s, rl, sr, xi, z.bind fun d h1 m1 H1 v st r1 dv q1 => ?_⟩
  cases e0 : isLst h1 d with
  | false => rw [e0] at q1; exact False.elim q1
  | true =>
    rw [e0] at q1
    cases d with
    | ref n =>
      cases e5 : lstAt h1 n with
      | none =>
        have e0 : (lstAt h1 n).isSome = true := e0
        rw [e5] at e0
        cases e0
      | some xs =>
        obtain ⟨b, vs, rfl, _, hb, _⟩ := r1.lstV dv e5
        refine ⟨.inl ⟨rfl, vs, SqL.of hb⟩, m1, h1, s, r1, sr.step st, xi, Sat.bind (S := RD W.G) q1 fun d2 h2 m2 H2 v2 st2 r2 dv2 q2 => ?_⟩
        rw [hj] at q2
        exact ⟨m2, h2, _, d2, _, r2, dv.step st2, dv2, q2⟩
    | _ => cases e0
theorem k_mth (x : XG W cc k ev X E) {o : Expr} {md : Str} {j : Nat} {ap : Pos} (hm : mthOf md = some j) (hl : (ap.endLine == pos.line) = true) (hc : notCall o = true) (hs : notStar e1 = true)
    (ho : PE X o (RE W cc a E ev p)) (ha : PE X e1 (RE W cc a E ev q)) : PE X (.Call (.Attribute o md ap) [e1] [] pos) (RE W cc a E ev (.mth j p (.cons q .nil))) := by
  unfold mthOf at hm
  split at hm
  · rename_i e0
    cases hm
    subst e0
    exact k_mthG x hl hc hs PySem.F.slot_list_append PySem.F.type_list_append append_ok rfl ho ha
  · split at hm
    · rename_i e0
      cases hm
      subst e0
      exact k_mthG x hl hc hs PySem.F.slot_list_extend PySem.F.type_list_extend extend_ok rfl ho ha
    · cases hm
/-! ### what is walked -/
/-- J walks w's items, as long as the lists stand -/
def WalkR (G : GW) : List Addr → Hp → Walk → It → Prop := fun m H w J => ∀ m' h' H', Step m H m' H' → Rel G m' h' H' → fixOk h' w.fix = true → ∀ i : Nat,
  (∀ d, w.items[i]? = some d → J.go i H' ∧ ∀ x H'', J.yld i H' x H'' → Rel G m' h' H'' ∧ Step m' H' m' H'' ∧ DR G.K m' H'' d x) ∧ (w.items[i]? = none → J.stop i H')
abbrev RI (W : WD) (cc : CC) (a : Addr) (E : WX) (ev : Ev) (p : QI) : TI := rdg W.G cc.xi W.xa E (WalkR W.G) (evI ev p)
theorem PI.imp {tg : Expr} {t t' : TI} (p : PI X tg e t) (h : ∀ σ H Q, t' σ H Q → t σ H Q) : PI X tg e t' := ⟨fun pins s σ H Q I q => p.run pins s σ H Q I (h σ H Q q)⟩
theorem walk_tup {G : GW} {m : List Addr} {H : Hp} {b : Addr} {ds : List D} {vs : List V} (t : SqT G.K H b vs) (d : DRs G.K m H ds vs) : WalkR G m H ⟨ds, []⟩ (Itt G.K b) := fun m' h' H' st r' _ i => by
  have t' := sqT_step t st.tups st.frzs
  have d' := d.step st
  refine ⟨fun x e0 => ?_, fun e0 => ⟨vs, t', by rw [← d'.length]; exact List.getElem?_eq_none_iff.mp e0⟩⟩
  obtain ⟨v, e1, dv⟩ := d'.get e0
  refine ⟨⟨vs, v, t', e1⟩, fun y H'' ⟨e2, e3⟩ => ?_⟩
  subst e2
  have := e3 vs t'
  rw [e1] at this
  cases this
  exact ⟨r', r'.step, dv⟩
theorem walk_fl {G : GW} {m : List Addr} {H : Hp} {b : Addr} {ds : List D} {vs : List V} (t : FrL G.K H b vs) (d : DRs G.K m H ds vs) : WalkR G m H ⟨ds, []⟩ (Itl G.K b) := fun m' h' H' st r' _ i => by
  have t' := (t.step st.frzs).sq
  have d' := d.step st
  refine ⟨fun x e0 => ?_, fun e0 => ⟨vs, t', by rw [← d'.length]; exact List.getElem?_eq_none_iff.mp e0⟩⟩
  obtain ⟨v, e1, dv⟩ := d'.get e0
  refine ⟨⟨vs, v, t', e1⟩, fun y H'' ⟨e2, e3⟩ => ?_⟩
  subst e2
  have := e3 vs t'
  rw [e1] at this
  cases this
  exact ⟨r', r'.step, dv⟩
theorem fix_cons {h : Hd} {n : Nat} {xs : List D} {r : List (Nat × List D)} (f : fixOk h ((n, xs) :: r) = true) : lstAt h n = some xs ∧ fixOk h r = true := by
  unfold fixOk at f
  rw [Bool.and_eq_true] at f
  refine ⟨?_, f.2⟩
  have f1 := f.1
  split at f1
  · rename_i ys e
    rw [e, D.eq_of_beqs _ _ f1]
  · cases f1
theorem fix_app {h : Hd} : ∀ {l r : List (Nat × List D)}, fixOk h (l ++ r) = true → fixOk h l = true ∧ fixOk h r = true
  | [], _, f => ⟨rfl, f⟩
  | (n, xs) :: l, r, f => by
    rw [List.cons_append] at f
    unfold fixOk at f
    rw [Bool.and_eq_true] at f
    obtain ⟨f2, f3⟩ := fix_app f.2
    exact ⟨by unfold fixOk; rw [Bool.and_eq_true]; exact ⟨f.1, f2⟩, f3⟩
theorem ref_get {G : GW} {m m' : List Addr} {H H' : Hp} {n : Nat} {b : Addr} {h' : Hd} {ds : List D} (e1 : m[n]? = some b) (st : Step m H m' H') (r' : Rel G m' h' H') (f : lstAt h' n = some ds) : ∃ vs, SqL G.K H' b vs ∧ DRs G.K m' H' ds vs := by
  obtain ⟨vs, h1, d1⟩ := r'.lst f (st.get n b e1)
  exact ⟨vs, SqL.of h1, d1⟩
/-- a list that is tracked is read one way -/
theorem sq_one {G : GW} {m : List Addr} {H : Hp} {n : Nat} {b : Addr} {h : Hd} {ds : List D} (e1 : m[n]? = some b) (r : Rel G m h H) (f : lstAt h n = some ds) : ∃ vs, H b = some (.lst vs) ∧ DRs G.K m H ds vs := r.lst f e1
theorem walk_ref {G : GW} {m : List Addr} {H : Hp} {b : Addr} {n : Nat} {ds : List D} (e0 : m[n]? = some b) : WalkR G m H ⟨ds, [(n, ds)]⟩ (Itl G.K b) := fun m' h' H' st r' f i => by
  obtain ⟨f1, _⟩ := fix_cons f
  obtain ⟨vs, t', d'⟩ := ref_get e0 st r' f1
  refine ⟨fun x e0 => ?_, fun e0 => ⟨vs, t', by rw [← d'.length]; exact List.getElem?_eq_none_iff.mp e0⟩⟩
  obtain ⟨v, e1, dv⟩ := d'.get e0
  refine ⟨⟨vs, v, t', e1⟩, fun y H'' ⟨e2, e3⟩ => ?_⟩
  subst e2
  have := e3 vs t'
  rw [e1] at this
  cases this
  exact ⟨r', r'.step, dv⟩
theorem walk_str {G : GW} {m : List Addr} {H : Hp} {z : Str} : WalkR G m H ⟨strD z, []⟩ (Its z) := fun m' h' H' st r' _ i => by
  have get : (strD z)[i]? = (z.cps[i]?).map fun c => D.str ⟨#[c]⟩ := by
    unfold strD
    rw [List.getElem?_map]
    simp
  refine ⟨fun d e0 => ?_, fun e0 => ?_⟩
  · have e0 : (strD z)[i]? = some d := e0
    rw [get] at e0
    cases e1 : z.cps[i]? with
    | none => rw [e1] at e0; cases e0
    | some c =>
      rw [e1] at e0
      cases e0
      refine ⟨(Array.getElem?_eq_some_iff.mp e1).1, fun y H'' ⟨e2, c', e3, e4⟩ => ?_⟩
      subst e2 e4
      rw [e1] at e3
      cases e3
      exact ⟨r', r'.step, .str _⟩
  · have e0 : (strD z)[i]? = none := e0
    rw [get] at e0
    cases e1 : z.cps[i]? with
    | none => exact Array.getElem?_eq_none_iff.mp e1
    | some c => rw [e1] at e0; cases e0
theorem rng_get : ∀ (n : Nat) (lo c : Int) (i : Nat), (rng lo c n)[i]? = if i < n then some (.int (lo + i * c)) else none
  | 0, lo, c, i => by simp [rng]
  | n + 1, lo, c, 0 => by simp [rng]
  | n + 1, lo, c, i + 1 => by
    show (rng (lo + c) c n)[i]? = _
    rw [rng_get n (lo + c) c i]
    by_cases h : i < n
    · rw [if_pos h, if_pos (by omega)]
      have : lo + c + (i : Int) * c = lo + ((i + 1 : Nat) : Int) * c := by
        rw [Int.natCast_add, Int.add_mul]
        simp
        omega
      rw [this]
    · rw [if_neg h, if_neg (by omega)]
theorem walk_rng {G : GW} {m : List Addr} {H : Hp} {lo : Int} {n : Nat} : WalkR G m H ⟨rng lo 1 n, []⟩ (Itr lo n) := fun m' h' H' st r' _ i => by
  refine ⟨fun d e0 => ?_, fun e0 => ?_⟩
  · have e0 : (rng lo 1 n)[i]? = some d := e0
    rw [rng_get] at e0
    split at e0
    · rename_i hi
      cases e0
      refine ⟨hi, fun y H'' ⟨e2, e3⟩ => ?_⟩
      subst e2 e3
      rw [Int.mul_one]
      exact ⟨r', r'.step, .int _⟩
    · cases e0
  · have e0 : (rng lo 1 n)[i]? = none := e0
    rw [rng_get] at e0
    split at e0
    · cases e0
    · rename_i hi
      exact Nat.le_of_not_lt hi
theorem zip_get : ∀ (xs ys : List D) (i : Nat), (zipD xs ys)[i]? = match xs[i]?, ys[i]? with
    | some x, some y => some (.tup [x, y])
    | _, _ => none
  | [], ys, i => by simp [zipD]
  | x :: xs, [], i => by cases i <;> simp [zipD]
  | x :: xs, y :: ys, 0 => by simp [zipD]
  | x :: xs, y :: ys, i + 1 => by
    show (zipD xs ys)[i]? = _
    rw [zip_get xs ys i]
    simp
/-- the pair that zip makes -/
theorem pair_new {G : GW} {m : List Addr} {h : Hd} {H : Hp} {T : Addr} {x y : V} {d1 d2 : D} (r : Rel G m h H) (hT : H T = none) (a1 : DR G.K m H d1 x) (a2 : DR G.K m H d2 y) : Rel G m h (upd H T (.tup [x, y])) ∧ Step m H m (upd H T (.tup [x, y])) ∧ DR G.K m (upd H T (.tup [x, y])) (.tup [d1, d2]) (.ref T) := by
  obtain ⟨st, r'⟩ := new_step (o := .tup [x, y]) r hT
  exact ⟨r', st, .tup (SqT.of upd_same) (.cons (a1.step st) (.cons (a2.step st) .nil))⟩
theorem walk_zipM {G : GW} {m : List Addr} {H : Hp} {k1 k2 : Bool} {b c : Addr} {ds es : List D} {fx : List (Nat × List D)} (hb : ∀ m' h' H', Step m H m' H' → Rel G m' h' H' → fixOk h' fx = true → ∃ vs ws, SqK G.K k1 H' b vs ∧ DRs G.K m' H' ds vs ∧ SqK G.K k2 H' c ws ∧ DRs G.K m' H' es ws) : WalkR G m H ⟨zipD ds es, fx⟩ (ItzM G.K k1 k2 b c) := fun m' h' H' st r' f i => by
  obtain ⟨vs, ws, t1, d1, t2, d2⟩ := hb m' h' H' st r' f
  refine ⟨fun d e0 => ?_, fun e0 => ?_⟩
  · have e0 : (zipD ds es)[i]? = some d := e0
    rw [zip_get] at e0
    split at e0
    · rename_i x y e1 e2
      cases e0
      obtain ⟨v, e3, dv⟩ := d1.get e1
      obtain ⟨w', e4, dw⟩ := d2.get e2
      refine ⟨⟨vs, ws, v, w', t1, t2, e3, e4⟩, fun u H'' ⟨T, x', y', e5, hT, e6, e7, e8⟩ => ?_⟩
      have a1 := e7 vs t1
      have a2 := e8 ws t2
      rw [e3] at a1
      rw [e4] at a2
      cases a1
      cases a2
      subst e5 e6
      exact pair_new r' hT dv dw
    · cases e0
  · have e0 : (zipD ds es)[i]? = none := e0
    rw [zip_get] at e0
    refine ⟨vs, ws, t1, t2, ?_⟩
    rw [← d1.length, ← d2.length]
    cases e1 : ds[i]? with
    | none => exact .inl (List.getElem?_eq_none_iff.mp e1)
    | some x =>
      cases e2 : es[i]? with
      | none => exact .inr (List.getElem?_eq_none_iff.mp e2)
      | some y => rw [e1, e2] at e0; cases e0
/-- a value is walked -/
theorem i_v (x : XG W cc k ev X E) {tg : Expr} (ha : PE X e (RE W cc a E ev p)) : PI X tg e (RI W cc a E ev (.v p)) := by
  refine ⟨fun pins st0 σ H R I ⟨m, h, s, r, sr, xi, z⟩ => ?_⟩
  have z : Sat W.G (WalkR W.G) m H ((evE ev p s h).bind fun x h1 => walkV x h1) R _ := z
  have hK := x.K
  cases e0 : evE ev p s h with
  | no => rw [e0] at z; exact False.elim z
  | ex ex h' =>
    rw [e0] at z
    refine (pi_tup (tg := tg) ha).run pins st0 σ H R I ?_
    exact ⟨m, h, s, r, sr, xi, by rw [e0]; exact z⟩
  | ok d h1 =>
    rw [e0] at z
    have z : Sat W.G (WalkR W.G) m H (walkV d h1) R _ := z
    have go : ∀ (t : V → Hp → Prop), (∀ m1 H1 v, Step m H m1 H1 → Rel W.G m1 h1 H1 → DR W.G.K m1 H1 d v → t v H1) → RE W cc a E ev p σ H t := fun t ht => ⟨m, h, s, r, sr, xi, by rw [e0]; exact fun m1 H1 v st r1 dv => ht m1 H1 v st r1 dv⟩
    cases d with
    | tup ds =>
      refine (pi_tup (tg := tg) ha).run pins st0 σ H R I (go _ fun m1 H1 v st r1 dv => ?_)
      cases dv with
      | tup t dd => exact ⟨_, rfl, ⟨_, hK ▸ t⟩, z m1 H1 _ st r1 (hK ▸ walk_tup t dd)⟩
    | fl ds =>
      refine (pi_list (tg := tg) ha).run pins st0 σ H R I (go _ fun m1 H1 v st r1 dv => ?_)
      cases dv with
      | fl t dd => exact ⟨_, rfl, ⟨_, hK ▸ t.sq⟩, z m1 H1 _ st r1 (hK ▸ walk_fl t dd)⟩
    | ref n =>
      have z : Sat W.G (WalkR W.G) m H (match lstAt h1 n with
        | some xs => .ok ⟨xs, [(n, xs)]⟩ h1
        | none => .no) R _ := z
      split at z
      · rename_i xs e1
        refine (pi_list (tg := tg) ha).run pins st0 σ H R I (go _ fun m1 H1 v st r1 dv => ?_)
        obtain ⟨b, vs, rfl, e2, h3, d3⟩ := r1.lstV dv e1
        exact ⟨_, rfl, ⟨_, SqL.of h3⟩, z m1 H1 _ st r1 (hK ▸ walk_ref e2)⟩
      · exact False.elim z
    | str zz =>
      refine (pi_str (tg := tg) ha).run pins st0 σ H R I (go _ fun m1 H1 v st r1 dv => ?_)
      cases dv
      exact ⟨_, rfl, z m1 H1 _ st r1 walk_str⟩
    | _ => exact False.elim z
theorem small_of {i : Int} (h : smallI i = true) : -(2 ^ 62) ≤ i ∧ i < 2 ^ 62 := by
  have h1 : i.natAbs.log2 < 62 := of_decide_eq_true h
  have h2 : i.natAbs < 2 ^ 62 := by
    by_cases z : i.natAbs = 0
    · rw [z]; decide
    · exact (Nat.log2_lt z).mp h1
  have e : (2 : Int) ^ 62 = ((2 ^ 62 : Nat) : Int) := by rw [Int.natCast_pow]; rfl
  rw [e]
  omega
theorem i_rng1 (x : XG W cc k ev X E) {tg : Expr} {p1 : Pos} (hg : glB cc.sc "range" = true) (hm : W.mg "range" = none) (hs : notStar e1 = true) (ha : PE X e1 (RE W cc a E ev p)) : PI X tg (.Call (.Name "range" p1) [e1] [] pos) (RI W cc a E ev (.rng1 p)) :=
  PI.imp (pi_range1 (gl_of x hg) (by rw [x.mg]; exact hm) (as_cons hs ha as_nil) (star1 hs)) fun σ H R ⟨m, h, s, r, sr, xi, z⟩ => by
    have z : Sat W.G (WalkR W.G) m H ((evE ev p s h).bind fun x h1 => rngV [x] h1) R _ := z
    refine ⟨m, h, s, r, sr, xi, ?_⟩
    show Sat W.G (RDs W.G) m H ((evE ev p s h).bind fun x h1 => (Out.ok [] h1).bind fun xs h2 => .ok (x :: xs) h2) _ _
    cases e0 : evE ev p s h with
    | no => rw [e0] at z; exact False.elim z
    | ex _ _ => rw [e0] at z; exact z
    | ok d h1 =>
      rw [e0] at z
      intro m1 H1 v st r1 dv
      have z : Sat W.G (WalkR W.G) m H (rngV [d] h1) R _ := z
      cases d with
      | int i =>
        obtain ⟨hz, z⟩ := Sat.ret z
        obtain ⟨b1, b2⟩ := small_of hz
        cases dv with
        | cons d1 d2 =>
          cases d1
          cases d2
          exact ⟨i, rfl, b1, b2, z m1 H1 _ st r1 walk_rng⟩
      | _ => exact False.elim z
theorem i_rng2 (x : XG W cc k ev X E) {tg : Expr} {p1 : Pos} (hg : glB cc.sc "range" = true) (hm : W.mg "range" = none) (hs : notStar e1 = true) (hs2 : notStar e2 = true) (ha : PE X e1 (RE W cc a E ev p)) (hb : PE X e2 (RE W cc a E ev q)) : PI X tg (.Call (.Name "range" p1) [e1, e2] [] pos) (RI W cc a E ev (.rng2 p q)) :=
  PI.imp (pi_range2 (gl_of x hg) (by rw [x.mg]; exact hm) (as_cons hs ha (as_cons hs2 hb as_nil)) (by rw [star1 hs, star1 hs2]; rfl) (star1 hs2)) fun σ H R ⟨m, h, s, r, sr, xi, z⟩ => by
    have z : Sat W.G (WalkR W.G) m H ((evE ev p s h).bind fun x h1 => (evE ev q s h1).bind fun y h2 => rngV [x, y] h2) R _ := z
    refine ⟨m, h, s, r, sr, xi, ?_⟩
    show Sat W.G (RDs W.G) m H ((evE ev p s h).bind fun x h1 => ((evE ev q s h1).bind fun y h2 => (Out.ok [] h2).bind fun xs h3 => .ok (y :: xs) h3).bind fun xs h2 => .ok (x :: xs) h2) _ _
    cases e0 : evE ev p s h with
    | no => rw [e0] at z; exact False.elim z
    | ex _ _ => rw [e0] at z; exact z
    | ok d h1 =>
      rw [e0] at z
      have z : Sat W.G (WalkR W.G) m H ((evE ev q s h1).bind fun y h2 => rngV [d, y] h2) R _ := z
      show Sat W.G (RDs W.G) m H (((evE ev q s h1).bind fun y h2 => (Out.ok [] h2).bind fun xs h3 => .ok (y :: xs) h3).bind fun xs h2 => .ok (d :: xs) h2) _ _
      cases e1 : evE ev q s h1 with
      | no => rw [e1] at z; exact False.elim z
      | ex _ _ => rw [e1] at z; exact z
      | ok d2 h2 =>
        rw [e1] at z
        intro m1 H1 v st r1 dv
        have z : Sat W.G (WalkR W.G) m H (rngV [d, d2] h2) R _ := z
        cases d with
        | int i =>
          cases d2 with
          | int j =>
            obtain ⟨hz, z⟩ := Sat.ret z
            rw [Bool.and_eq_true] at hz
            obtain ⟨b1, b2⟩ := small_of hz.1
            obtain ⟨b3, b4⟩ := small_of hz.2
            obtain ⟨v1, v2, rfl, d1, d3⟩ := two_of dv
            cases d1
            cases d3
            exact ⟨i, j, rfl, ⟨b1, b2, b3, b4⟩, z m1 H1 _ st r1 walk_rng⟩
          | _ => exact False.elim z
        | _ => exact False.elim z
/-- what zip walks -/
theorem seq_of {G : GW} {m : List Addr} {h : Hd} {H : Hp} {d : D} {w : Walk} {v : V} (r : Rel G m h H) (e : seqOf d h = some w) (dv : DR G.K m H d v) : ∃ b, v = .ref b ∧ ((isTup d = true ∧ ∃ vs, SqT G.K H b vs ∧ DRs G.K m H w.items vs ∧ w.fix = []) ∨
    (isTup d = false ∧ (∃ vs, SqL G.K H b vs) ∧ ∀ m' h' H', Step m H m' H' → Rel G m' h' H' → fixOk h' w.fix = true → ∃ vs, SqL G.K H' b vs ∧ DRs G.K m' H' w.items vs)) := by
  cases d with
  | tup ds =>
    cases e
    cases dv with
    | tup t dd => exact ⟨_, rfl, .inl ⟨rfl, _, t, dd, rfl⟩⟩
  | fl ds =>
    cases e
    cases dv with
    | fl t dd => exact ⟨_, rfl, .inr ⟨rfl, ⟨_, t.sq⟩, fun m' h' H' st _ _ => ⟨_, (t.step st.frzs).sq, dd.step st⟩⟩⟩
  | ref n =>
    have e : (match lstAt h n with
      | some xs => some (⟨xs, [(n, xs)]⟩ : Walk)
      | none => none) = some w := e
    split at e
    · rename_i xs e1
      cases e
      obtain ⟨b, vs, rfl, e2, h3, d3⟩ := r.lstV dv e1
      exact ⟨b, rfl, .inr ⟨rfl, ⟨_, SqL.of h3⟩, fun m' h' H' st r' f => ref_get e2 st r' (fix_cons f).1⟩⟩
    · cases e
  | _ => cases e
theorem seq_ofM {G : GW} {m : List Addr} {h : Hd} {H : Hp} {d : D} {w : Walk} {v : V} (r : Rel G m h H) (e : seqOf d h = some w) (dv : DR G.K m H d v) : ∃ b, v = .ref b ∧ ∃ (k : Bool) (xs : List V), SqK G.K k H b xs ∧ ∀ m' h' H', Step m H m' H' → Rel G m' h' H' → fixOk h' w.fix = true → ∃ vs, SqK G.K k H' b vs ∧ DRs G.K m' H' w.items vs := by
  obtain ⟨b, rfl, s1⟩ := seq_of r e dv
  rcases s1 with ⟨i1, vs, t1, q1, f1⟩ | ⟨i1, ⟨vs, t1⟩, q1⟩
  · exact ⟨b, rfl, true, vs, t1, fun m' h' H' st' _ _ => ⟨vs, sqT_step t1 st'.tups st'.frzs, q1.step st'⟩⟩
  · exact ⟨b, rfl, false, vs, t1, q1⟩
theorem i_zip (x : XG W cc k ev X E) {elts : List Expr} {kk : Nat} {tpos : Pos} {p1 : Pos} (hg : glB cc.sc "zip" = true) (hm : W.mg "zip" = none) (hs : notStar e1 = true) (hs2 : notStar e2 = true) (ha : PE X e1 (RE W cc a E ev p)) (hb : PE X e2 (RE W cc a E ev q)) : PI X (.Tuple elts kk tpos) (.Call (.Name "zip" p1) [e1, e2] [] pos) (RI W cc a E ev (.zip p q)) :=
  PI.imp (pi_zipM (gl_of x hg) (by rw [x.mg]; exact hm) (as_cons hs ha (as_cons hs2 hb as_nil)) (star1 hs) (by rw [star1 hs2]; rfl)) fun σ H R ⟨m, h, s, r, sr, xi, z⟩ => by
    have z : Sat W.G (WalkR W.G) m H ((evE ev p s h).bind fun x h1 => (evE ev q s h1).bind fun y h2 => zipV x y h2) R _ := z
    refine ⟨m, h, s, r, sr, xi, ?_⟩
    show Sat W.G (RDs W.G) m H ((evE ev p s h).bind fun x h1 => ((evE ev q s h1).bind fun y h2 => (Out.ok [] h2).bind fun xs h3 => .ok (y :: xs) h3).bind fun xs h2 => .ok (x :: xs) h2) _ _
    cases e0 : evE ev p s h with
    | no => rw [e0] at z; exact False.elim z
    | ex _ _ => rw [e0] at z; exact z
    | ok d h1 =>
      rw [e0] at z
      have z : Sat W.G (WalkR W.G) m H ((evE ev q s h1).bind fun y h2 => zipV d y h2) R _ := z
      show Sat W.G (RDs W.G) m H (((evE ev q s h1).bind fun y h2 => (Out.ok [] h2).bind fun xs h3 => .ok (y :: xs) h3).bind fun xs h2 => .ok (d :: xs) h2) _ _
      cases e1 : evE ev q s h1 with
      | no => rw [e1] at z; exact False.elim z
      | ex _ _ => rw [e1] at z; exact z
      | ok d2 h2 =>
        rw [e1] at z
        intro m1 H1 v st r1 dv
        have z : Sat W.G (WalkR W.G) m H (match seqOf d h2, seqOf d2 h2 with
          | some a, some b => .ok ⟨zipD a.items b.items, a.fix ++ b.fix⟩ h2
          | _, _ => .no) R _ := z
        split at z
        · rename_i wa wb ea eb
          obtain ⟨v1, v2, rfl, d1, d3⟩ := two_of dv
          have hK := x.K
          obtain ⟨b, rfl, k1, xs, t1, q1⟩ := seq_ofM r1 ea d1
          obtain ⟨c, rfl, k2, ys, t2, q2⟩ := seq_ofM r1 eb d3
          refine ⟨k1, k2, b, c, xs, ys, rfl, hK ▸ t1, hK ▸ t2, z m1 H1 _ st r1 (hK ▸ walk_zipM fun m' h' H' st' r' f => ?_)⟩
          obtain ⟨f1, f2⟩ := fix_app f
          obtain ⟨vs', a1, a2⟩ := q1 m' h' H' st' r' f1
          obtain ⟨ws', a3, a4⟩ := q2 m' h' H' st' r' f2
          exact ⟨vs', ws', a1, a2, a3, a4⟩
        · exact False.elim z
end
end PV
/-! PVH: targets, comprehensions. -/
namespace PV
open PySem PySem.Spec PyProof.Rows L2
section
variable {W : WD} {cc : CC} {k : Nat} {ev : Ev} {X : Cx} {E : WX} {a : Addr}
variable {e e1 e2 e3 : Expr} {p q r : QE} {pos : Pos}
/-! ### targets -/
mutual
def gIx : QG → List Nat
  | .nm i => [i]
  | .tp gs => gsIx gs
def gsIx : List QG → List Nat
  | [] => []
  | g :: gs => gIx g ++ gsIx gs
end
/-- the slots outside stay -/
def Fr (l : List Nat) (σ σ2 : L2.St) : Prop := σ2.length = σ.length ∧ ∀ i, i ∉ l → σ2[i]? = σ[i]?
theorem Fr.refl {l : List Nat} {σ : L2.St} : Fr l σ σ := ⟨rfl, fun _ _ => rfl⟩
theorem Fr.trans {l l' : List Nat} {σ σ2 σ3 : L2.St} (f : Fr l σ σ2) (g : Fr l' σ2 σ3) : Fr (l ++ l') σ σ3 := ⟨g.1.trans f.1, fun i h => (g.2 i fun z => h (List.mem_append_right _ z)).trans (f.2 i fun z => h (List.mem_append_left _ z))⟩
theorem Fr.wipe {l vs : List Nat} {σ σ2 : L2.St} (f : Fr l σ σ2) (h : ∀ i ∈ l, i ∈ vs) : L2.wipe σ2 vs = L2.wipe σ vs := by
  refine List.ext_getElem? fun i => ?_
  have key : ∀ (ws : List Nat) (τ : L2.St) (i : Nat), (L2.wipe τ ws)[i]? = if i ∈ ws then (τ[i]?).map (fun _ => none) else τ[i]? := by
    intro ws
    induction ws with
    | nil => intro τ i; simp [L2.wipe]
    | cons w ws ih =>
      intro τ i
      unfold L2.wipe
      by_cases hw : w = i
      · subst hw
        rw [if_pos List.mem_cons_self]
        by_cases hl : w < (L2.wipe τ ws).length
        · rw [List.getElem?_set_self hl]
          rw [L2.wipe_length] at hl
          rw [List.getElem?_eq_getElem hl]
          rfl
        · rw [List.getElem?_eq_none (by simpa using hl)]
          rw [L2.wipe_length] at hl
          rw [List.getElem?_eq_none (Nat.le_of_not_lt hl)]
          rfl
      · rw [List.getElem?_set_ne hw, ih]
        have : i ∈ w :: ws ↔ i ∈ ws := by
          rw [List.mem_cons]
          exact ⟨fun z => z.elim (fun z => absurd z.symm hw) id, .inr⟩
        simp only [this]
  rw [key, key]
  by_cases hv : i ∈ vs
  · rw [if_pos hv, if_pos hv]
    by_cases hi : i < σ.length
    · rw [List.getElem?_eq_getElem hi, List.getElem?_eq_getElem (by rw [f.1]; exact hi)]
      rfl
    · rw [List.getElem?_eq_none (Nat.le_of_not_lt hi), List.getElem?_eq_none (by rw [f.1]; exact Nat.le_of_not_lt hi)]
  · rw [if_neg hv, if_neg hv]
    exact f.2 i fun z => hv (h i z)
/-- v is d, and it is stored -/
def rg (G : GW) (g : QG) : TG := fun v σ H Q => ∃ m h s d s2, Rel G m h H ∧ SR G m H s σ ∧ DR G.K m H d v ∧ bindG g d s = some s2 ∧ ∀ σ2, SR G m H s2 σ2 → Fr (gIx g) σ σ2 → Q σ2 H
def rgs (G : GW) (gs : List QG) : TGs := fun vs σ H Q => ∃ m h s ds s2, Rel G m h H ∧ SR G m H s σ ∧ DRs G.K m H ds vs ∧ bindG.bindGs gs ds s = some s2 ∧ ∀ σ2, SR G m H s2 σ2 → Fr (gsIx gs) σ σ2 → Q σ2 H
theorem PG.imp {e : Expr} {t t' : TG} (p : PG X e t) (h : ∀ v σ H Q, t' v σ H Q → t v σ H Q) : PG X e t' := ⟨fun pins s σ H v u Q I r q => p.run pins s σ H v u Q I r (h v σ H Q q)⟩
theorem PGs.imp {e : List Expr} {t t' : TGs} (p : PGs X e t) (h : ∀ v σ H Q, t' v σ H Q → t v σ H Q) : PGs X e t' := ⟨fun pins s σ H v u Q I r q => p.run pins s σ H v u Q I r (h v σ H Q q)⟩
theorem g_name (x : XG W cc k ev X E) {y : Str} {i : Nat} (hy : y ∈ cc.as) (hi : ixOf cc.N y = some i) : PG X (.Name y pos) (rg W.G (.nm i)) := by
  obtain ⟨h1, h2⟩ := x.asg y hy
  refine PG.imp (pg_name (by rw [x.N]; exact x.nd) (by rw [x.N]; exact ixOf_get hi) (by rw [x.sc]; exact h1) (by rw [x.sc]; exact h2)) fun v σ H Q ⟨m, h, s, d, s2, r, sr, dv, e, hq⟩ => ?_
  have e : some (s.set i (some d)) = some s2 := by simpa [bindG] using e
  cases e
  refine hq _ (sr.set dv i) ⟨by rw [List.length_set], fun j hj => ?_⟩
  rw [List.getElem?_set_ne]
  intro z
  exact hj (by simp [gIx, z])
theorem assignEach1 (h : notStar e = true) (es : List Expr) (env : Env) : assignEach (e :: es) env = (false, assign e env) :: assignEach es env := by
  cases e <;> first | rfl | cases h
theorem tgt_notStar : ∀ {n : Nat} {e : Expr} {g : QG}, cTgt cc n e = some g → notStar e = true
  | 0, _, _, h => by simp [cTgt] at h
  | n + 1, e, g, h => by
    cases e <;> first | rfl | (simp [cTgt] at h)
theorem g_all (x : XG W cc k ev X E) : ∀ (n : Nat) {e : Expr} {g : QG}, cTgt cc n e = some g → PG X e (rg W.G g)
  | 0, _, _, h => by simp [cTgt] at h
  | n + 1, e, g, h => by
    have recu : ∀ (es : List Expr) (gs : List QG), cTgts (cTgt cc n) es = some gs → PGs X es (rgs W.G gs) ∧ (assignEach es X.env).length = gs.length ∧ (assignEach es X.env).findIdx? (·.1) = none := by
      intro es
      induction es with
      | nil =>
        intro gs h
        cases h
        refine ⟨PGs.imp pgs_nil fun vs σ H Q ⟨m, h, s, ds, s2, r, sr, dv, e, hq⟩ => ?_, rfl, rfl⟩
        cases dv with
        | nil =>
          have e : some s = some s2 := by simpa [bindG.bindGs] using e
          cases e
          exact ⟨rfl, hq σ sr Fr.refl⟩
        | cons _ _ => simp [bindG.bindGs] at e
      | cons e es ih =>
        intro gs h
        unfold cTgts at h
        split at h
        · rename_i g gs' h1 h2
          cases h
          obtain ⟨p, l, f⟩ := ih gs' h2
          have ns := tgt_notStar h1
          have ae := assignEach1 ns es X.env
          refine ⟨PGs.imp (pgs_cons (g_all x n h1) p (by rw [ae]; rfl)) fun vs σ H Q ⟨m, h, s, ds, s2, r, sr, dv, e, hq⟩ => ?_, by rw [ae]; simp [l], by rw [ae]; simp [List.findIdx?_cons, f]⟩
          cases dv with
          | nil => simp [bindG.bindGs] at e
          | @cons d v ds vs dv dvs =>
            have e : ((bindG g d s).bind fun s' => bindG.bindGs gs' ds s') = some s2 := by simpa [bindG.bindGs] using e
            cases e1 : bindG g d s with
            | none => rw [e1] at e; cases e
            | some s1 =>
              rw [e1] at e
              have e : bindG.bindGs gs' ds s1 = some s2 := e
              refine ⟨v, vs, rfl, m, _, s, d, s1, r, sr, dv, e1, fun σ1 sr1 f1 => ⟨m, _, s1, ds, s2, r, sr1, dvs, e, fun σ2 sr2 f2 => hq σ2 sr2 ?_⟩⟩
              have := f1.trans f2
              simpa [gsIx] using this
        · cases h
    cases e with
    | Name y py =>
      have h : (if cc.as.contains y then match ixOf cc.N y with
        | some i => if cc.xi = some i then none else some (QG.nm i)
        | none => none
        else none) = some g := h
      split at h
      · rename_i hy
        split at h
        · rename_i i hi
          split at h
          · cases h
          · cases h
            exact g_name x (by simpa using hy) hi
        · cases h
      · cases h
    | Tuple es kk py =>
      have h : (if cc.hot then none else (cTgts (cTgt cc n) es).map QG.tp) = some g := h
      split at h
      · cases h
      · rename_i hc
        cases e1 : cTgts (cTgt cc n) es with
        | none => rw [e1] at h; cases h
        | some gs =>
          rw [e1] at h
          cases h
          obtain ⟨p, l, f⟩ := recu es gs e1
          have hcold : cc.hot = false := by simpa using hc
          refine PG.imp (pg_tup (n := gs.length) (x.room hcold).1 p l f) fun v σ H Q ⟨m, h, s, d, s2, r, sr, dv, e, hq⟩ => ?_
          cases d with
          | tup ds =>
            have e : bindG.bindGs gs ds s = some s2 := by simpa [bindG] using e
            cases dv with
            | @tup b _ vs t dd =>
              have len : ∀ (gs : List QG) (ds : List D) (s : Sl), bindG.bindGs gs ds s = some s2 → ds.length = gs.length := by
                intro gs
                induction gs with
                | nil => intro ds s e; cases ds <;> simp [bindG.bindGs] at e ⊢
                | cons g gs ih =>
                  intro ds s e
                  cases ds with
                  | nil => simp [bindG.bindGs] at e
                  | cons d ds =>
                    have e : ((bindG g d s).bind fun s' => bindG.bindGs gs ds s') = some s2 := by simpa [bindG.bindGs] using e
                    cases e1 : bindG g d s with
                    | none => rw [e1] at e; cases e
                    | some s1 =>
                      rw [e1] at e
                      simp [ih ds s1 e]
              refine ⟨b, vs, rfl, by rw [x.K]; exact t, by rw [← dd.length]; exact len gs ds s e, m, _, s, ds, s2, r, sr, dd, e, fun σ2 sr2 f2 => hq σ2 sr2 ?_⟩
              simpa [gIx] using f2
          | _ => simp [bindG] at e
    | _ => simp [cTgt] at h
/-- the slots it stores at -/
theorem tgt_ix (P : Nat → Prop) (hP : ∀ y ∈ cc.as, ∀ i, ixOf cc.N y = some i → cc.xi ≠ some i → P i) : ∀ (n : Nat) {e : Expr} {g : QG}, cTgt cc n e = some g → ∀ i ∈ gIx g, P i
  | 0, _, _, h => by simp [cTgt] at h
  | n + 1, e, g, h => by
    cases e with
    | Name y py =>
      have h : (if cc.as.contains y then match ixOf cc.N y with
        | some i => if cc.xi = some i then none else some (QG.nm i)
        | none => none
        else none) = some g := h
      split at h
      · rename_i hy
        split at h
        · rename_i i hi
          split at h
          · cases h
          · rename_i hx
            cases h
            intro j hj
            have : j = i := by simpa [gIx] using hj
            subst this
            exact hP y (by simpa using hy) _ hi hx
        · cases h
      · cases h
    | Tuple es kk py =>
      have h : (if cc.hot then none else (cTgts (cTgt cc n) es).map QG.tp) = some g := h
      split at h
      · cases h
      · have recu : ∀ (es : List Expr) (gs : List QG), cTgts (cTgt cc n) es = some gs → ∀ i ∈ gsIx gs, P i := by
          intro es
          induction es with
          | nil => intro gs h; cases h; intro i hi; simp [gsIx] at hi
          | cons e es ih =>
            intro gs h
            unfold cTgts at h
            split at h
            · rename_i g gs' h1 h2
              cases h
              intro i hi
              have hi : i ∈ gIx g ++ gsIx gs' := by simpa [gsIx] using hi
              rcases List.mem_append.mp hi with z | z
              · exact tgt_ix P hP n h1 i z
              · exact ih gs' h2 i z
            · cases h
        cases e1 : cTgts (cTgt cc n) es with
        | none => rw [e1] at h; cases h
        | some gs =>
          rw [e1] at h
          cases h
          intro i hi
          exact recu es gs e1 i (by simpa [gIx] using hi)
    | _ => simp [cTgt] at h
theorem xi_fr {xi : Option Nat} {l : List Nat} {σ σ2 : L2.St} (f : Fr l σ σ2) (h : ∀ i ∈ l, xi ≠ some i) (o : XiOk xi a σ) : XiOk xi a σ2 := by
  cases xi with
  | none => trivial
  | some i =>
    have o : σ[i]? = some (some (.ref a)) := o
    show σ2[i]? = _
    rw [f.2 i fun z => h i z rfl]
    exact o

/-! ### comprehensions -/
theorem tk0 {X : Cx} : Takes X (fun _ _ _ _ => False) := fun _ _ x => by
  obtain ⟨_, _, _, _, _, _, _, _, _, _, _, _, _, _, _, _, z⟩ := x
  exact z.elim
abbrev F0 : WX := fun _ _ _ _ => False
theorem own_mem {N : List Str} : ∀ {l : List (Str × NameKind)} {own : List (Str × Nat)}, ownOf N l = some own → ∀ y i, (y, i) ∈ own → ixOf N y = some i ∧ ((y, NameKind.local) ∈ l ∨ (y, NameKind.cell) ∈ l)
  | [], own, h, y, i, hy => by cases h; cases hy
  | (x, kd) :: r, own, h, y, i, hy => by
    have up : ∀ own', ownOf N r = some own' → (y, i) ∈ own' → ixOf N y = some i ∧ ((y, NameKind.local) ∈ (x, kd) :: r ∨ (y, NameKind.cell) ∈ (x, kd) :: r) := fun own' h1 h2 =>
      let ⟨a1, a2⟩ := own_mem h1 y i h2
      ⟨a1, a2.imp (List.mem_cons_of_mem _) (List.mem_cons_of_mem _)⟩
    have gen : ∀ (hk : kd = .local ∨ kd = .cell), (match ixOf N x, ownOf N r with
      | some i, some l => some ((x, i) :: l)
      | none, some l => some l
      | _, none => none) = some own → ixOf N y = some i ∧ ((y, NameKind.local) ∈ (x, kd) :: r ∨ (y, NameKind.cell) ∈ (x, kd) :: r) := fun hk h => by
      split at h
      · rename_i j l e1 e2
        cases h
        rcases List.mem_cons.mp hy with z | z
        · cases z
          refine ⟨e1, ?_⟩
          rcases hk with rfl | rfl
          · exact .inl List.mem_cons_self
          · exact .inr List.mem_cons_self
        · exact up _ e2 z
      · rename_i l e1 e2
        cases h
        exact up _ e2 hy
      · cases h
    cases kd with
    | «local» => exact gen (.inl rfl) h
    | cell => exact gen (.inr rfl) h
    | _ => exact up own h hy
theorem xg_blk (x : XG W cc k ev X E) (hcold : cc.hot = false) {scope : Scope} {own : List (Str × Nat)} (hown : ownOf cc.N scope.names = some own) (hb : blkC cc.N cc.sc scope own = true) (s : Shared) (H : Hp) (C : Addr) (cl : List (Str × Addr)) (fp : List Addr) :
    XG W (cBlk cc scope own) k ev (X.blk s H scope (compEnvC scope cl C X.env) fp) F0 := by
  have bo := blkOk_by hb
  have hsc : relS scope cc.sc = relS scope X.env.scope := by rw [x.sc]
  refine ⟨x.prog, x.wd, x.K, x.mg, x.base, x.N, x.nd, ?_, fun y hy => ?_, fun _ => x.room hcold, x.units, tk0, x.gl, x.cls, fun z => by cases z⟩
  · show relS scope X.env.scope = relS scope cc.sc
    rw [x.sc]
  · obtain ⟨⟨y', i⟩, hm, e⟩ := List.mem_map.mp hy
    have e : y' = y := e
    subst e
    obtain ⟨h1, h2⟩ := own_mem hown _ _ hm
    show Loc (relS scope cc.sc) y' ∧ ((scope.names.lookup y' == some NameKind.cell) = true ∨ (relS scope cc.sc).names.lookup y' = some .local)
    rcases h2 with h2 | h2
    · have l1 := bo.uniq _ h2
      have l2 : (relS scope cc.sc).names.lookup y' = some .local := lookup_relS_keep (by intro z; cases z) l1
      exact ⟨.inl l2, .inr l2⟩
    · have l1 : scope.names.lookup y' = some .cell := bo.uniq _ h2
      have l2 : (relS scope cc.sc).names.lookup y' = some .cell := lookup_relS_keep (by intro z; cases z) l1
      exact ⟨.inr l2, .inl (by rw [l1]; rfl)⟩
/-- a list that was made on the side is taken up -/
theorem adopt {G : GW} {m : List Addr} {h : Hd} {H : Hp} {p : Addr} {ds : List D} {vs : List V} (r : Rel G m h H) (hm : p ∉ m) (hp : H p = some (.lst vs)) (d : DRs G.K m H ds vs) : Rel G (m ++ [p]) (h ++ [.lst ds]) H := by
  have pr : ∀ (n : Nat) (a : Addr), m[n]? = some a → (m ++ [p])[n]? = some a := fun n a e => by rw [List.getElem?_append_left (List.getElem?_eq_some_iff.mp e).1]; exact e
  refine ⟨by simp [r.len], ?_, fun n c' a e1 e2 => ?_, fun q hq => ⟨(r.pin q hq).1, fun z => ?_⟩⟩
  rotate_left 2
  · rcases List.mem_append.mp z with z | z
    · exact (r.pin q hq).2 z
    · have z : q.1 = p := by simpa using z
      have := (r.pin q hq).1
      rw [z, hp] at this
      cases this
  · rw [List.nodup_append]
    refine ⟨r.nd, by simp, fun x hx y hy z => ?_⟩
    have : y = p := by simpa using hy
    exact hm (by rw [← this, ← z]; exact hx)
  · by_cases hn : n < h.length
    · rw [List.getElem?_append_left hn] at e1
      rw [List.getElem?_append_left (by rw [r.len]; exact hn)] at e2
      exact (r.cell n c' a e1 e2).mono rfl pr (fun b xs e => e) (fun b o u e => e)
    · rw [List.getElem?_append_right (by omega)] at e1
      rw [List.getElem?_append_right (by rw [r.len]; omega), r.len] at e2
      cases k : n - h.length with
      | zero =>
        rw [k] at e1 e2
        cases e1
        cases e2
        exact ⟨vs, hp, d.mono pr (fun b xs e => e) (fun b o u e => e)⟩
      | succ j => rw [k] at e1; cases e1
/-- .. and grows -/
theorem grow {G : GW} {m : List Addr} {h : Hd} {H : Hp} {p : Addr} {us vs : List V} (r : Rel G m h H) (hm : p ∉ m) (hp : H p = some (.lst us)) : Rel G m h (upd H p (.lst vs)) ∧ (∀ b xs, H b = some (.tup xs) → upd H p (.lst vs) b = some (.tup xs)) ∧ (∀ b o u, H b = some (.frz o u) → upd H p (.lst vs) b = some (.frz o u)) := by
  have tp : ∀ b xs, H b = some (.tup xs) → upd H p (.lst vs) b = some (.tup xs) := fun b xs q => by
    rw [upd_ne fun z => ?_]; exact q
    rw [z, hp] at q
    cases q
  have fz : ∀ b ob w, H b = some (.frz ob w) → upd H p (.lst vs) b = some (.frz ob w) := fun b ob w q => by
    rw [upd_ne fun z => ?_]; exact q
    rw [z, hp] at q
    cases q
  refine ⟨⟨r.len, r.nd, fun n c a e1 e2 => ?_, fun q hq => ⟨?_, (r.pin q hq).2⟩⟩, tp, fz⟩
  rotate_left 1
  · have h1 := (r.pin q hq).1
    rw [upd_ne fun z => ?_]; exact h1
    rw [z, hp] at h1
    cases h1
  refine (r.cell n c a e1 e2).mono (upd_ne fun z => hm (by rw [← z]; exact List.mem_of_getElem? e2)) (fun _ _ q => q) tp fz
theorem Step.grow {m0 m : List Addr} {H0 H : Hp} {p : Addr} {us vs : List V} (st : Step m0 H0 m H) (h0 : H0 p = none) (hp : H p = some (.lst us)) : Step m0 H0 m (upd H p (.lst vs)) := by
  refine ⟨st.pre, fun b hb z => ?_, fun b o e hb => ?_, fun b xs e => ?_, fun b o u e => ?_⟩
  · by_cases hq : b = p
    · rw [hq, upd_same] at z; cases z
    · rw [upd_ne hq] at z; exact st.live b hb z
  · rw [upd_ne (ne_of_none e h0)]; exact st.keep b o e hb
  · rw [upd_ne (ne_of_none e h0)]; exact st.tups b xs e
  · rw [upd_ne (ne_of_none e h0)]; exact st.frzs b o u e
theorem Step.side {m m' : List Addr} {H H' : Hp} {p : Addr} {us : List V} (st : Step m H m' H') (hm : p ∉ m) (hp : H p = some (.lst us)) : p ∉ m' ∧ H' p = some (.lst us) := by
  refine ⟨fun z => ?_, st.keep p _ hp hm⟩
  obtain ⟨l, e, n⟩ := st.pre
  rw [e] at z
  rcases List.mem_append.mp z with z | z
  · exact hm z
  · rw [n p z] at hp; cases hp
theorem loopC_cons {fix : List (Nat × List D)} {b : D → Option Sl} {c : Sl → Hd → Out Bool} {e : Sl → Hd → Out D} {x : D} {xs acc ys : List D} {h h' : Hd} (hh : loopC fix b c e (x :: xs) acc h = .ok ys h') : fixOk h fix = true ∧ ∃ s, b x = some s ∧ ∃ t h1, c s h = .ok t h1 ∧
    ((t = true ∧ ∃ y h2, e s h1 = .ok y h2 ∧ acc.length < line ∧ loopC fix b c e xs (acc ++ [y]) h2 = .ok ys h') ∨ (t = false ∧ loopC fix b c e xs acc h1 = .ok ys h')) := by
  unfold loopC at hh
  split at hh
  · rename_i s e1 e2
    refine ⟨e1, s, e2, ?_⟩
    cases ec : c s h with
    | no => rw [ec] at hh; cases hh
    | ex _ _ => rw [ec] at hh; cases hh
    | ok t h1 =>
      rw [ec] at hh
      refine ⟨t, h1, rfl, ?_⟩
      cases t with
      | false => exact .inr ⟨rfl, hh⟩
      | true =>
        have hh : ((e s h1).bind fun y h2 => match decide (acc.length < line) with
          | true => loopC fix b c e xs (acc ++ [y]) h2
          | false => .no) = .ok ys h' := hh
        cases ee : e s h1 with
        | no => rw [ee] at hh; cases hh
        | ex _ _ => rw [ee] at hh; cases hh
        | ok y h2 =>
          rw [ee] at hh
          have hh : (match decide (acc.length < line) with
            | true => loopC fix b c e xs (acc ++ [y]) h2
            | false => .no) = .ok ys h' := hh
          split at hh
          · rename_i hd
            exact .inl ⟨rfl, y, h2, rfl, of_decide_eq_true hd, hh⟩
          · cases hh
  · cases hh
/-- the reading of the turns -/
theorem lc_turns {G : GW} {cx : CC} {m1 : List Addr} {H1 : Hp} {σ : L2.St} {s : Sl} {w : Walk} {J : It} {g : QG} {ct : QT} {el : QE} {vs : List Nat} {h1 h' : Hd} {xs : List D} {Q : V → Hp → Prop} {b : Addr} {Dl : Addr} (hxi : cx.xi = none) (hg : ∀ i ∈ gIx g, i ∈ vs) (r1 : Rel G m1 h1 H1) (sr : SR G m1 H1 s σ) (wj : WalkR G m1 H1 w J)
    (ok : loopC w.fix (fun d => bindG g d (wipeD s vs)) (evT ev ct) (evE ev el) w.items [] h1 = .ok xs h') (fin : ∀ m H v, Step m1 H1 (m ++ [Dl]) H → Rel G (m ++ [Dl]) (h' ++ [.lst xs]) H → v = .ref Dl → Q v H) (hD : H1 Dl = none) :
    ∃ W : Nat → Nat → Hp → Prop, (∃ m, W 0 m (upd H1 Dl (.lst []))) ∧ ∀ i m H, W i m H →
  (J.stop i H ∧ Q (.ref Dl) H) ∨ (J.go i H ∧ ∃ Nx : Hp → Prop, (∀ H', Nx H' → ∃ m', m' < m ∧ W (i + 1) m' H') ∧ ∀ x H', J.yld i H x H' → rg G g x (wipe σ vs) H' fun σ2 H2 => wipe σ2 vs = wipe σ vs ∧ rdg G cx.xi b F0 RB (evT ev ct) σ2 H2 fun b' H3 =>
    if b' = true then rdg G cx.xi b F0 (RD G) (evE ev el) σ2 H3 fun y H4 => ∃ acc, H4 Dl = some (.lst acc) ∧ acc.length < sizeLine ∧ Nx (upd H4 Dl (.lst (acc ++ [y]))) else Nx H3) := by
  refine ⟨fun i n H => n = w.items.length - i ∧ i ≤ w.items.length ∧ ∃ m h acc us, Step m1 H1 m H ∧ Rel G m h H ∧ Dl ∉ m ∧ H Dl = some (.lst us) ∧ DRs G.K m H acc us ∧ loopC w.fix (fun d => bindG g d (wipeD s vs)) (evT ev ct) (evE ev el) (w.items.drop i) acc h = .ok xs h',
    ⟨_, rfl, Nat.zero_le _, m1, h1, [], [], ?_⟩, ?_⟩
  · obtain ⟨st, r⟩ := new_step (o := .lst []) r1 hD
    exact ⟨st, r, r1.notin hD, upd_same, .nil, ok⟩
  · rintro i n H ⟨rfl, hi, m, h, acc, us, st, r, hm, hd, da, lp⟩
    by_cases hlt : i < w.items.length
    · have eg : w.items[i]? = some w.items[i] := List.getElem?_eq_getElem hlt
      rw [List.drop_eq_getElem_cons hlt] at lp
      obtain ⟨fx, s1, hb, t, h2, hc, rest⟩ := loopC_cons lp
      obtain ⟨go, yl⟩ := (wj m h H st r fx i).1 _ eg
      refine .inr ⟨go, fun H' => ∃ m h acc us, Step m1 H1 m H' ∧ Rel G m h H' ∧ Dl ∉ m ∧ H' Dl = some (.lst us) ∧ DRs G.K m H' acc us ∧ loopC w.fix (fun d => bindG g d (wipeD s vs)) (evT ev ct) (evE ev el) (w.items.drop (i + 1)) acc h = .ok xs h', fun H' q => ⟨_, by omega, rfl, hlt, q⟩, fun x H' y => ?_⟩
      obtain ⟨r', st', dx⟩ := yl x H' y
      obtain ⟨hm', hd'⟩ := st'.side hm hd
      have st1 := st.trans st'
      refine ⟨m, h, wipeD s vs, w.items[i], s1, r', (sr.step st1).wipe vs, dx, hb, fun σ2 sr2 fr => ⟨?_, m, h, s1, r', sr2, by rw [hxi]; trivial, ?_⟩⟩
      · have e1 := fr.wipe hg
        rw [e1]
        refine List.ext_getElem? fun j => ?_
        exact congrArg (·[j]?) (Fr.wipe (l := vs) (vs := vs) (σ := σ) (σ2 := wipe σ vs) ⟨L2.wipe_length _ _, fun j hj => wipe_out hj⟩ fun _ h => h)
      · rw [hc]
        intro m3 H3 v3 st3 r3 e3
        have e3 : t = v3 := e3
        subst e3
        obtain ⟨hm3, hd3⟩ := st3.side hm' hd'
        rcases rest with ⟨rfl, y, h4, he, hl, lp⟩ | ⟨rfl, lp⟩
        · refine iteT ⟨m3, h2, s1, r3, sr2.step st3, by rw [hxi]; trivial, ?_⟩
          rw [he]
          intro m4 H4 v4 st4 r4 d4
          obtain ⟨hm4, hd4⟩ := st4.side hm3 hd3
          have da4 := ((da.step st').step st3).step st4
          refine ⟨us, hd4, by rw [← da4.length]; exact hl, ?_⟩
          obtain ⟨r5, tp, fz⟩ := grow (vs := us ++ [v4]) r4 hm4 hd4
          refine ⟨m4, h4, acc ++ [y], us ++ [v4], ((st1.trans st3).trans st4).grow hD hd4, r5, hm4, upd_same, ?_, lp⟩
          have d5 : DRs G.K m4 H4 (acc ++ [y]) (us ++ [v4]) := da4.append (.cons d4 .nil)
          exact d5.mono (fun _ _ e => e) tp fz
        · exact iteF ⟨m3, h2, acc, us, st1.trans st3, r3, hm3, hd3, (da.step st').step st3, lp⟩
    · have ei : i = w.items.length := by omega
      rw [List.drop_eq_nil_of_le (by omega)] at lp
      unfold loopC at lp
      have lp2 : (match fixOk h w.fix with
        | true => Out.ok acc h
        | false => Out.no) = .ok xs h' := lp
      split at lp2
      · rename_i fx
        cases lp2
        have sp := (wj m _ H st r fx i).2 (List.getElem?_eq_none (by omega))
        refine .inl ⟨sp, fin m H _ ?_ (adopt r hm hd da) rfl⟩
        obtain ⟨l, e, n⟩ := st.pre
        refine ⟨⟨l ++ [Dl], by rw [e, List.append_assoc], fun c hc => ?_⟩, fun c hc => ?_, st.keep, st.tups, st.frzs⟩
        · rcases List.mem_append.mp hc with z | z
          · exact n c z
          · have : c = Dl := by simpa using z
            rw [this]; exact hD
        · rcases List.mem_append.mp hc with z | z
          · exact st.live c z
          · have : c = Dl := by simpa using z
            rw [this, hd]; intro z; cases z
      · cases lp2
where
  wipe_out {σ : L2.St} {j : Nat} : ∀ {vs : List Nat}, j ∉ vs → (wipe σ vs)[j]? = σ[j]?
  | [], _ => rfl
  | v :: vs, h => by
    unfold wipe
    rw [List.getElem?_set_ne fun z => h (by rw [z]; exact List.mem_cons_self)]
    exact wipe_out fun z => h (List.mem_cons_of_mem _ z)
/-- [elt for tg in iter if ..] -/
theorem lc_read (x : XG W cc k ev X E) {scope : Scope} {own : List (Str × Nat)} {g : QG} {ct : QT} {el : QE} {it : QI} (hg : ∀ i ∈ gIx g, i ∈ own.map (·.2)) {σ : L2.St} {H : Hp} {Q : VK} (z : RE W cc a E ev (.lc el g it (own.map (·.2)) ct) σ H Q) :
    tLc (RI W cc a E ev it) (rg W.G g) (RT W (cBlk cc scope own) a F0 ev ct) (RE W (cBlk cc scope own) a F0 ev el) (own.map (·.2)) σ H Q := by
  obtain ⟨m, h, s, r, sr, xi, z⟩ := z
  have z : Sat W.G (RD W.G) m H ((evI ev it s h).bind fun w h1 => (noEx (loopC w.fix (fun d => bindG g d (wipeD s (own.map (·.2)))) (evT ev ct) (evE ev el) w.items [] h1)).bind fun xs h2 => newL xs h2) Q _ := z
  refine ⟨m, h, s, r, sr, xi, z.bind fun w h1 m1 H1 J st r1 wj q1 => ?_⟩
  intro Dl hD
  cases e0 : loopC w.fix (fun d => bindG g d (wipeD s (own.map (·.2)))) (evT ev ct) (evE ev el) w.items [] h1 with
  | no => rw [e0] at q1; exact False.elim q1
  | ex _ _ => rw [e0] at q1; exact False.elim q1
  | ok xs h' =>
    rw [e0] at q1
    have q1 : Sat W.G (RD W.G) m1 H1 (.ok (.ref h'.length) (h' ++ [.lst xs])) Q _ := q1
    refine lc_turns (cx := cBlk cc scope own) rfl hg r1 (sr.step st) wj e0 (fun m2 H2 v st2 r2 ev' => ?_) hD
    subst ev'
    refine q1 _ H2 _ st2 r2 (.ref ?_)
    have len : m2.length = h'.length := by
      have := r2.len
      simp at this
      exact this
    rw [List.getElem?_append_right (by omega), len, Nat.sub_self]
    rfl
theorem k_lc (x : XG W cc k ev X E) (hcold : cc.hot = false) {elt tg iter : Expr} {ifs : List Expr} {scope : Scope} {own : List (Str × Nat)} {g : QG} {ct : QT} {el : QE} {it : QI} {n : Nat} (hown : ownOf cc.N scope.names = some own) (hb : blkC cc.N cc.sc scope own = true) (hg : cTgt (cBlk cc scope own) n tg = some g)
    (hi : PI X tg iter (RI W cc a E ev it)) (hel : ∀ X', XG W (cBlk cc scope own) k ev X' F0 → PE X' elt (RE W (cBlk cc scope own) a F0 ev el)) (hts : ∀ X', XG W (cBlk cc scope own) k ev X' F0 → PTs X' ifs (RT W (cBlk cc scope own) a F0 ev ct)) (hs : ∀ x, foldedSetIterable iter X.env x = pure x) :
    PE X (.ListComp elt [⟨tg, iter, ifs, 0⟩] scope pos) (RE W cc a E ev (.lc el g it (own.map (·.2)) ct)) := by
  have xb := xg_blk x hcold hown hb
  have hix : ∀ i ∈ gIx g, i ∈ own.map (·.2) := tgt_ix (fun i => i ∈ own.map (·.2)) (fun y hy i hi _ => by
    obtain ⟨⟨y', j⟩, hm, e⟩ := List.mem_map.mp hy
    have e : y' = y := e
    subst e
    have h1 := (own_mem hown _ _ hm).1
    have hi : ixOf cc.N y' = some i := hi
    rw [h1] at hi
    cases hi
    exact List.mem_map.mpr ⟨_, hm, rfl⟩) n hg
  refine PE.imp (pe_lc (x.room hcold).1 (by rw [x.N]; exact x.nd) hi (by rw [x.N, x.sc]; exact blkOk_by hb) (fun s H C cl fp => g_all (xb s H C cl fp) n hg) (fun s H C cl fp => hts _ (xb s H C cl fp)) (fun s H C cl fp => hel _ (xb s H C cl fp)) hs) fun σ H Q z => lc_read x hix z
/-- y = [..] on one line -/
theorem k_setLc (x : XG W cc k ev X E) (hcold : cc.hot = false) {elt tg iter : Expr} {ifs : List Expr} {scope : Scope} {own : List (Str × Nat)} {g : QG} {ct : QT} {el : QE} {it : QI} {n i : Nat} {y : Str} {py spos : Pos} (hy : cc.N[i]? = some y) (hyl : cc.sc.names.lookup y = some .local) (hsw : swapsWith (.ListComp elt [⟨tg, iter, ifs, 0⟩] scope pos) (some (.Name y py)) spos.line X.env = pure true)
    (hown : ownOf cc.N scope.names = some own) (hb : blkC cc.N cc.sc scope own = true) (hg : cTgt (cBlk cc scope own) n tg = some g)
    (hi : PI X tg iter (RI W cc a E ev it)) (hel : ∀ X', XG W (cBlk cc scope own) k ev X' F0 → PE X' elt (RE W (cBlk cc scope own) a F0 ev el)) (hts : ∀ X', XG W (cBlk cc scope own) k ev X' F0 → PTs X' ifs (RT W (cBlk cc scope own) a F0 ev ct)) (hs : ∀ x, foldedSetIterable iter X.env x = pure x) :
    PS X (.Assign [.Name y py] (.ListComp elt [⟨tg, iter, ifs, 0⟩] scope pos) spos) (tAsg (RE W cc a E ev (.lc el g it (own.map (·.2)) ct)) (gName i)) := by
  have xb := xg_blk x hcold hown hb
  have hix : ∀ i ∈ gIx g, i ∈ own.map (·.2) := tgt_ix (fun i => i ∈ own.map (·.2)) (fun y hy i hi _ => by
    obtain ⟨⟨y', j⟩, hm, e⟩ := List.mem_map.mp hy
    have e : y' = y := e
    subst e
    have h1 := (own_mem hown _ _ hm).1
    have hi : ixOf cc.N y' = some i := hi
    rw [h1] at hi
    cases hi
    exact List.mem_map.mpr ⟨_, hm, rfl⟩) n hg
  have base := ps_setLc (X := X) (i := i) (y := y) (py := py) (spos := spos) (pos := pos) (x.room hcold).1 (by rw [x.N]; exact x.nd) (by rw [x.N]; exact hy) (by rw [x.sc]; exact hyl) hsw hi (by rw [x.N, x.sc]; exact blkOk_by hb) (fun s H C cl fp => g_all (xb s H C cl fp) n hg) (fun s H C cl fp => hts _ (xb s H C cl fp)) (fun s H C cl fp => hel _ (xb s H C cl fp)) hs
  exact ⟨fun pins s σ H Dl I z => base.run pins s σ H Dl I (lc_read x hix z)⟩
end
end PV
/-! PVX: the caught exception: isinstance, its fields. -/
namespace PV
open PySem PySem.Spec PyProof.Rows L2
section
open PySem.W PySem.Calls
variable {prog : Program} {w : World} {A : Around} {E : Value → Shared → Prop} {s : Shared} {K : Frag} {x D : Addr} {ox : Obj} {od : Option Obj}
/-- the class of an instance, its own dict or none -/
theorem find_class (T : ExcC K D) : findObj K D od "__class__" = some (.bind (.builtin "getset_descriptor.__get__") (.builtin "object.__class__")) := by
  obtain ⟨cd, hc, _⟩ := any_some T.hd
  unfold findObj
  rw [hc, Option.bind_some, T.ha, Option.bind_some]
  simp [T.hn, T.ht]
theorem class_is {Q : Option Value → Shared → Prop} (T : ExcC K D) (X : K.In s.heap) (I : InstAt s.heap x ox D od) (h : Q (some (.ref D)) { s with toks := s.toks + 1 }) : wpAny (model prog w) A (getAttr? (.ref x) "__class__") Q E s := by
  have hf := find_class (od := od) T
  obtain ⟨hp, g, d, t, os⟩ := s
  have L0 := I.type (M := model prog w)
  have L1 := looks_findIn (M := model prog w) X T.hg
  have L2 := looks_findIn (M := model prog w) X T.hk
  have L3 := looks_find (M := model prog w) X I hf
  have sub : Looks (model prog w) hp (isInstance (.ref x) (.type "BaseException")) true := L0.andThen (looks_subIn X T.hs)
  have hx0 : (false && onTheHeap (Value.builtin "BaseException.__getattribute__")) = false := rfl
  have hx1 : (onTheHeap (Value.ref D) && Value.builtin "BaseException.__getattribute__" == Value.builtin "object.__getattribute__") = false := by
    have h2 : (Value.builtin "BaseException.__getattribute__" == Value.builtin "object.__getattribute__") = false := by decide +kernel
    rw [h2]
    rfl
  unfold getAttr? getAttrBy? getAttrBy
  refine wpAny_bind (wpAny_mkText (wpAny_bind (wpAny_attempt (wpAny_holding (wpAny_bind (L0.at (wpAny_bind (L1.at ?_))))))))
  show wpAny _ _ (if (onTheHeap (Value.ref D) && Value.builtin "BaseException.__getattribute__" == Value.builtin "object.__getattribute__") = true then _ else _) _ _ _
  rw [hx1, if_neg Bool.false_ne_true]
  unfold getAttrByItsOwn hookBefore
  refine wpAny_bind ?_
  rw [if_pos (show onTheHeap (Value.ref D) = true from rfl)]
  refine L2.at ?_
  refine wpAny_bind (wpAny_attempt (wpAny_holding ?_))
  unfold callGetattribute
  rw [hx0, if_neg Bool.false_ne_true]
  unfold boundAndCalled
  rw [PySem.F.excAttr_ValueError.ga.bind (.ref x)]
  refine wpAny_bind (wpAny_pure ?_)
  show wpAny _ _ (call (.builtin "BaseException.__getattribute__") [.ref x, .str "__class__" t]) _ _ _
  refine wpAny_call (codeAny_call_builtin PySem.F.excAttr_ValueError.ga.plain PySem.F.entry_bexc_ga ?_)
  refine @check_slot (model prog w) _ _ ⟨hp, g, d, t + 1, os⟩ "BaseException.__getattribute__" "BaseException" "__getattribute__" (.ref x) [.str "__class__" t] [] _ (by decide +kernel) (by decide +kernel) sub (PySem.F.args_bexc_ga (.ref x) (.str "__class__" t)) ?_
  unfold Builtin.«object.__getattribute__»
  refine wpAny_bind (wpAny_of_eq (a := ((Value.ref x : Value), [Value.str "__class__" t])) (by first | rfl | (simp only [slotArgs]; rfl)) ?_)
  refine wpAny_bind (wpAny_pure (wpAny_bind (L0.at (wpAny_bind (L3.at ?_)))))
  show wpAny _ _ (holding [Value.builtin "object.__class__"] (call (.builtin "getset_descriptor.__get__") [.builtin "object.__class__", .ref x, .ref D]) >>= PySem.ret) _ _ _
  refine wpAny_bind (wpAny_holding (wpAny_call (class_get (s := ⟨hp, g, d, t + 1, os⟩) (ox := ox) (od := od) X I T.hm ?_)))
  refine wpAny_pure ?_
  show wpAny _ _ (handedOut (.ref D)) _ _ _
  rw [handedOut_of (v := .ref D) rfl]
  first
    | exact wpAny_pure (wpAny_pure h)
    | exact wpAny_pure h
    | exact wpAny_pure (wpAny_bind (wpAny_pure (wpAny_pure h)))
theorem kit_exc (T : ExcC K D) : KitX K (.ref x) (.ref D) (fun h => InstAt h x ox D od) := by
  obtain ⟨cd, hc, _⟩ := any_some T.hd
  have T' := T
  unfold clsIn at hc
  split at hc
  · rename_i c' d' cd' sl' ho
    refine ⟨fun _ _ _ I => I.type, fun _ _ X _ => ?_, fun h tp dd its n sl X htp => ?_, fun X I k => class_is T' X I k⟩
    · intro A' Q' E' s' k q
      unfold isType loadHead
      exact wpAny_bind (wpAny_loadPart (k _ _ (X _ _ ho)) (wpAny_pure q))
    · refine Bool.eq_false_iff.mpr fun q => ?_
      have e : D = tp := Value.ref.inj (beq_iff_eq.mp q)
      subst e
      have z := (X _ _ ho).symm.trans htp
      cases z
  · cases hc
end
/-- what of the exception is known: without a dict, or it is tracked -/
def DxOk (H : Hp) (d : Option Addr) : Prop := d = none ∨ ∃ dd fs, d = some dd ∧ H dd = some (.xd fs)
def rIs (K : PySem.W.Frag) (D a : Addr) (d : Option Addr) : List V → Hp → VK → Prop := fun xs H Q => ∃ (c : V) (cv : Value) (b : Bool), xs = [.ref a, c] ∧ (∀ u, RelV c u → u = cv) ∧ PySem.W.kitOne K (.ref D) cv = some b ∧ DxOk H d ∧ Q (.bl b) H
theorem call_is {X : Cx} {a D : Addr} {d : Option Addr} {oe : Obj} {pn : List (Addr × Obj)} (C : ExcC X.K D) (hz : Zc (.ref D) d oe) (hf : ∃ vs, oe.data = .fields vs) : CallR (X.suite a ((a, oe) :: pn)) (.builtin "isinstance") (rIs X.K D a d) := by
  intro pins s σ H xs us Q I r h
  obtain ⟨c, cv, b, rfl, hcv, e, dx, q⟩ := h
  obtain ⟨u1, u2, rfl, r1, r2⟩ : ∃ u1 u2, us = [u1, u2] ∧ RelV (.ref a) u1 ∧ RelV c u2 := by
    cases r with
    | cons rx rr =>
      cases rr with
      | cons rt rr =>
        cases rr
        exact ⟨_, _, rfl, rx, rt⟩
  obtain rfl : u1 = Value.ref a := r1
  obtain rfl := hcv _ r2
  obtain ⟨hget, _⟩ := I.pin (a, oe) (List.mem_append.mpr (.inl List.mem_cons_self))
  obtain ⟨vs, hv⟩ := hf
  have J : ∃ od, PySem.W.InstAt s.heap a oe D od := by
    rcases dx with rfl | ⟨dd, fs, rfl, hd⟩
    · exact ⟨none, hget, hz.1, by unfold PySem.W.notCls; rw [hv] <;> rfl, by rw [hz.2]; trivial⟩
    · obtain ⟨mA, hns, hr⟩ : ObjOk X.prog X.w H s.heap dd (.xd fs) := I.hok dd _ hd
      obtain ⟨od, ho, _⟩ := lookIn_ns hns
      exact ⟨some od, hget, hz.1, by unfold PySem.W.notCls; rw [hv] <;> rfl, by rw [hz.2]; exact ho⟩
  obtain ⟨od, J⟩ := J
  exact PySem.W.kia_one (kit_exc C) I.kIn J e (fun z => nomatch z) fun tk => ⟨.bl b, H, I.kept (t' := tk) fun _ _ z => z, rfl, q⟩
section
variable {W : WD} {cc : CC} {k : Nat} {ev : Ev} {X : Cx} {E : WX} {a : Addr} {e t : Expr} {pos p1 : Pos}
/-- the suite's exception by its name -/
theorem k_xi (x : XG W cc k ev X E) (h : isXi cc e = true) : cc.hot = true ∧ notStar e = true ∧ (∀ n env w, attributeBase e n env w = w) ∧ PE X e (fun σ H Q => XiOk cc.xi W.xa σ ∧ Q (.ref W.xa) H) := by
  unfold isXi at h
  rw [Bool.and_eq_true] at h
  obtain ⟨h0, h⟩ := h
  cases e with
  | Name y py =>
    have h : (plainName y && visB cc.sc y && decide (ixOf cc.N y = cc.xi) && cc.xi.isSome) = true := h
    simp only [Bool.and_eq_true, decide_eq_true_eq] at h
    obtain ⟨⟨⟨hp, hv⟩, hi⟩, hs⟩ := h
    obtain ⟨i, e1⟩ := Option.isSome_iff_exists.mp hs
    obtain ⟨n1, n2, n3⟩ := pn1 hp
    refine ⟨h0, rfl, fun _ _ _ => rfl, PE.imp (pe_var (i := i) (by rw [x.N]; exact ixOf_get (hi.trans e1)) (by rw [x.sc]; exact vis_of hv) n1 n2) fun σ H Q ⟨xi, q⟩ => ?_⟩
    rw [e1] at xi
    exact ⟨_, xi, q⟩
  | _ => cases h
theorem k_xcls (x : XG W cc k ev X E) {c : Nat} (h : excOf cc e = some c) : notStar e = true ∧ ∃ Ca, W.G.cl c = some Ca ∧ PE X e (tC (.ref Ca)) := by
  unfold excOf at h
  split at h
  · rename_i y py
    split at h
    · rename_i hp
      rw [Bool.and_eq_true] at hp
      obtain ⟨n1, n2, n3⟩ := pn1 hp.1
      split at h
      · rename_i n fs e0
        cases h
        obtain ⟨Ca, h1, h2, _⟩ := x.gl _ _ e0
        exact ⟨rfl, Ca, h2, pe_glob (gl_of x hp.2) (by rw [x.mg]; exact h1) rfl n1⟩
      · cases h
    · cases h
  · cases h
theorem k_excIs (x : XG W cc k ev X E) {y : Str} {c : Nat} (hn : plainName y = true) (hg : glB cc.sc y = true) (hv : X.mg y = none ∧ bootBuiltins y = some (.builtin "isinstance")) (h1 : isXi cc e = true) (h2 : excOf cc t = some c) : PE X (.Call (.Name y p1) [e, t] [] pos) (RE W cc a E ev (.excIs c)) := by
  obtain ⟨n1, n2, n3⟩ := pn1 hn
  obtain ⟨hot, s1, _, pe⟩ := k_xi x h1
  obtain ⟨s2, Ca, hc, pt⟩ := k_xcls x h2
  have hgl := gl_of x hg
  obtain ⟨X0, oe, pn, d, ex, Da, rfl, hz, hf, hex, hcl, hd⟩ := x.hx hot
  have co := x.cls _ _ hcl
  have hK : X0.K = W.G.K := x.K
  refine PE.imp (pe_callB (call_is (X := X0) (by rw [hK]; exact co.ec) hz hf) hgl hv.1 hv.2 (pa_cons pe (pa_cons pt pa_nil (star1 s2)) (star1 s1)) n3 n1 (star1 s1) (by
    rw [star1 s2]
    rfl)) fun σ H Q ⟨m, h, s, r, sr, xi, z⟩ => ?_
  have z : Sat W.G (RD W.G) m H (match ev.exn with
    | some e => .ok (.bl (ev.sub e.cls c)) h
    | none => .no) Q _ := z
  rw [hex] at z
  refine ⟨xi, .ref Ca, .ref Ca, ev.sub ex.cls c, rfl, fun u hu => hu, by rw [hK]; exact co.kit _ _ hc, ?_, z.ok r (.bl _)⟩
  rcases hd with ⟨hd, _⟩ | ⟨dd, fs, hd, hp, _⟩
  · exact .inl hd
  · exact .inr ⟨dd, fs, hd, (r.pin _ hp).1⟩
theorem k_excF (x : XG W cc k ev X E) {f : Str} (h1 : isXi cc e = true) (hf : f ∈ xFlds) : PE X (.Attribute e f pos) (RE W cc a E ev (.excF f)) := by
  obtain ⟨hot, s1, ab, pe⟩ := k_xi x h1
  obtain ⟨X0, oe, pn, d, ex, Da, rfl, hz, hfs, hex, hcl, hd⟩ := x.hx hot
  have co := x.cls _ _ hcl
  have hK : X0.K = W.G.K := x.K
  refine PE.imp (pe_xf (T := ⟨by rw [hK]; exact co.ec.hg, by rw [hK]; exact co.ec.hk, by rw [hK]; exact co.ec.hs, by rw [hK]; exact co.ec.hd⟩) (by rw [hK]; exact co.nof f hf) hz hfs pe (ab _ _ _)) fun σ H Q ⟨m, h, s, r, sr, xi, z⟩ => ?_
  have z : Sat W.G (RD W.G) m H (match ev.exn with
    | some e => match e.fs.lookup f with
      | some d => .ok d h
      | none => .no
    | none => .no) Q _ := z
  rw [hex] at z
  have z : Sat W.G (RD W.G) m H (match ex.fs.lookup f with
      | some d => .ok d h
      | none => .no) Q _ := z
  split at z
  · rename_i dv e0
    refine ⟨xi, rfl, rfl, ?_⟩
    rcases hd with ⟨_, hn⟩ | ⟨dd, fs, hd, hp, hl⟩
    · rw [hn] at e0; cases e0
    · obtain ⟨fl, lk⟩ := hl f dv e0
      exact ⟨dd, fs, _, hd, (r.pin _ hp).1, lk, z.ok r (dr_toV fl)⟩
  · exact False.elim z
end
end PV
/-! PVU: enumerate over a tuple. -/
namespace PV
open PySem PySem.Spec PyProof.Rows L2
open AutoSeq1 (wpAny_loadPart')
theorem meets_enumT (l : Addr) (items : Array Value) (n : Nat) (dct : Option Addr) (sl : Array (Option Value)) : Meets (Builtin.«enumerate.__new__» ⟨[.type "enumerate", .ref l], []⟩)
    (fun _ R s => s.heap.get? l = some { cls := .type "tuple", dict := dct, data := .seq items n, slots := sl } ∧ R (.ok (.ret (.ref (s.heap.push { cls := .type "tuple_iterator", data := .fields #[.ref l, .int 0 0] }).objs.size)))
      { s with heap := (s.heap.push { cls := .type "tuple_iterator", data := .fields #[.ref l, .int 0 0] }).push { cls := .type "enumerate", data := .fields #[.none, .bool false, .ref s.heap.objs.size, rawInt 0, .none, .none] } }) :=
  .of_wp fun prog w A R s h => by
    obtain ⟨hp, g, d, tk, os⟩ := s
    obtain ⟨hl, h⟩ := h
    have sub := sub_enumerate
    have tup : Heap.IsTuple (Shared.heap ⟨hp, g, d, tk, os⟩) l items := ⟨_, hl, rfl, n, rfl⟩
    wp_walk using wpAny_loadPart' hl
    refine wpAny_stack_any fun st => wpAny_pure ?_
    split
    · rename_i c _ _ _ _ _
      cases (c == Value.type "enumerate") <;>
      · wp_walk using wpAny_loadPart' hl, wpAny_pyIter_tuple tup
        exact ⟨_, rfl, h⟩
    · wp_walk using wpAny_loadPart' hl, wpAny_pyIter_tuple tup
      exact ⟨_, rfl, h⟩
section
variable {prog : Program} {w : World} {A : Around} {E : Value → Shared → Prop} {s : Shared}
theorem call_enumT {l : Addr} {items : Array Value} {Q : Value → Shared → Prop} (tup : s.heap.IsTuple l items)
    (h : ∀ h', IsEnum h' (s.heap.objs.size + 1) s.heap.objs.size 0 .none → h'.IsTupleIter s.heap.objs.size l 0 → (∀ b o, s.heap.get? b = some o → h'.get? b = some o) → Q (.ref (s.heap.objs.size + 1)) { s with heap := h' }) :
    wpAny (model prog w) A (call (.type "enumerate") [.ref l]) Q E s := by
  obtain ⟨⟨c, dct, dt, sl⟩, hl, hc, n, hd⟩ := tup
  replace hc : c = .type "tuple" := hc
  replace hd : dt = .seq items n := hd
  subst hc hd
  refine callType_new F.called_enumerate (by decide) (F.typeCall_enumerate_1 _) (F.newCall_enumerate_1 _) (fun obj => F.args_object_init_2 obj _) F.entry_enumerate_new (meets_enumT l items n dct sl) ⟨hl, ?_⟩
  have size : (s.heap.push { cls := .type "tuple_iterator", data := .fields #[.ref l, .int 0 0] }).objs.size = s.heap.objs.size + 1 := Heap.size_push ..
  show _ ∧ _
  rw [size]
  have en : IsEnum ((s.heap.push { cls := .type "tuple_iterator", data := .fields #[.ref l, .int 0 0] }).push { cls := .type "enumerate", data := .fields #[.none, .bool false, .ref s.heap.objs.size, rawInt 0, .none, .none] }) (s.heap.objs.size + 1) s.heap.objs.size 0 .none := by
    have at_ := Heap.get?_push_size (s.heap.push { cls := .type "tuple_iterator", data := .fields #[.ref l, .int 0 0] }) (o := { cls := .type "enumerate", data := .fields #[.none, .bool false, .ref s.heap.objs.size, rawInt 0, .none, .none] }) rfl
    rw [size] at at_
    exact at_
  exact ⟨⟨_, en, rfl⟩, h _ en ⟨_, Heap.get?_push_of_some _ (Heap.get?_push_size _ rfl), rfl, rfl⟩ fun b o x => Heap.get?_push_of_some _ (Heap.get?_push_of_some _ x)⟩
end
/-- the tuple at a, each item with its place in a new pair -/
def IteT (K : PySem.W.Frag) (a : Addr) : It :=
  ⟨fun i H => ∃ (xs : List V) (x : V), SqT K H a xs ∧ xs[i]? = some x, fun i H v H' => ∃ T x, v = .ref T ∧ H T = none ∧ H' = upd H T (.tup [.int (i : Nat), x]) ∧ ∀ xs, SqT K H a xs → xs[i]? = some x, fun i H => ∃ xs : List V, SqT K H a xs ∧ xs.length ≤ i⟩
theorem turn_enumT {P : Program} {w : World} {K : PySem.W.Frag} {elts : List Expr} {kk : Nat} {tpos : Pos} (a e it : Addr) (hai : a ≠ it) (hae : a ≠ e) :
    Turn P w K (.Tuple elts kk tpos) (IteT K a) [e, it] e (fun i h => (∃ old, IsEnum h e it ((i : Nat) : Int) old) ∧ h.IsTupleIter it a i ∧ e ≠ it) where
  mem := by simp
  obj := fun i h st b hb => by
    obtain ⟨⟨old, he⟩, ⟨o, ho, hc, hd⟩, _⟩ := st
    have e' : b = e ∨ b = it := by simpa using hb
    rcases e' with z | z
    · rw [z]; exact ⟨_, he, fun v q => nomatch q⟩
    · rw [z]; exact ⟨o, ho, fun v q => by rw [hd] at q; cases q⟩
  keep := fun i h h' st k => by
    obtain ⟨⟨old, he⟩, hi, hne⟩ := st
    exact ⟨⟨old, k e (by simp) _ he⟩, hi.at fun o q => k it (by simp) o q, hne⟩
  item := by
    intro X hP hw hK hc i pins s σ H E I hf st hg
    subst hP hw hK
    obtain ⟨⟨old, he⟩, hit, hne⟩ := st
    obtain ⟨xs, x, hq, hx⟩ := hg
    obtain ⟨its, rv, p, hz⟩ := I.tuple hq
    obtain ⟨u, hu, ru⟩ := rv.get hx
    have hel : e < s.heap.objs.size := Heap.lt_size he
    have hil : it < s.heap.objs.size := by obtain ⟨_, q, _⟩ := hit; exact Heap.lt_size q
    have hlt : i < its.toArray.size := by
      have := (List.getElem?_eq_some_iff.mp hu).1
      simpa using this
    have hef : e ∉ [it, a] := by
      intro z
      have z : e = it ∨ e = a := by simpa using z
      rcases z with z | z
      · exact hne z
      · exact hae z.symm
    refine wpAny_pyNext_enum_itemD (Draws.tuple (show X.A.in1.handled = none from I.ok.hd hc) it a hai its.toArray) he ⟨hit, p⟩ hlt hne hef fun y h' tk hy ho hs' hT hsz hk => ?_
    have hy : its.toArray[i]? = some y := hy
    have hu' : its.toArray[i]? = some u := by simpa using hu
    rw [hu'] at hy
    cases hy
    refine ⟨_, rfl, wpAny_letOwnedTupleGo_enum (s := { s with heap := h', toks := tk + 1 }) ho fun h'' he' sb => ?_⟩
    have hT2 : h''.get? s.heap.objs.size = some { cls := .type "tuple", data := .seq #[.int i tk, u] } := (sb.2 _ (Nat.ne_of_gt hel)).trans hT
    have new : ObjOk X.prog X.w (upd H s.heap.objs.size (.tup [.int (i : Nat), x])) h'' s.heap.objs.size (.tup [.int (i : Nat), x]) :=
      ⟨by show 2 ≤ sizeLine; decide, [.int i tk, u], .cons ⟨_, rfl⟩ (.cons ru .nil), ⟨_, hT2, rfl, _, rfl⟩⟩
    have I1 : Inv X pins σ (upd H s.heap.objs.size (.tup [.int (i : Nat), x])) { s with heap := h'', toks := tk + 1 } :=
      I.turnedNew (ch := [e, it]) (fun b ob hb q => (sb.2 b (fun z => hb (by simp [z]))).trans (hk b ob (fun z => hb (by simp [z])) (fun z => hb (by simp [z])) q)) hf (Nat.le_refl _) new
    refine ⟨.ref s.heap.objs.size, _, I1, rfl, ⟨_, x, rfl, I.hok.fresh (Nat.le_refl _), rfl, fun ys hy => by rw [I.tuple_inj hy hq]; exact hx⟩, ⟨⟨u, ?_⟩, hs'.1.at fun o q => (sb.2 it (Ne.symm hne)).trans q, hne⟩, fun b hb => ?_⟩
    · have e1 : ((i + 1 : Nat) : Int) = (i : Int) + 1 := by omega
      rw [e1]; exact he'
    · have hb' : b < s.heap.objs.size := by
        have e' : b = e ∨ b = it := by simpa using hb
        rcases e' with z | z
        · rw [z]; exact hel
        · rw [z]; exact hil
      rw [upd_ne (Nat.ne_of_lt hb')]
      exact (hf b hb).1
  done := by
    intro X hP hw hK hc i pins s σ H E I hf st hg
    subst hP hw hK
    obtain ⟨⟨old, he⟩, hit, hne⟩ := st
    obtain ⟨xs, hq, hx⟩ := hg
    obtain ⟨its, rv, p, hz⟩ := I.tuple hq
    obtain ⟨f0, f1, f2, f3, f4, f5⟩ := hf it (by simp)
    have hl := rv.length
    have hh : X.A.in1.handled = none := I.ok.hd hc
    have last : its.toArray[i]? = none := by simp; omega
    have D : Draws X.prog X.w X.A.in1 it [it, a] i (fun _ _ => False) (fun j h => j = i ∧ h.IsTupleIter it a i ∧ h.IsTuple a its.toArray) :=
      { live := fun _ _ st => let ⟨o, ho, _⟩ := st.2.1; ⟨o, ho⟩
        frame := fun _ _ _ st hk => ⟨st.1, st.2.1.at fun o e => hk it (by simp) o e, st.2.2.at fun o e => hk a (by simp) o e⟩
        item := fun j s Q E hj st hQ => absurd st.1 (Nat.ne_of_lt hj)
        done := fun s Q E st hE => wpAny_nextOf_tuple_end hh st.2.1 st.2.2 last hE }
    exact wpAny_pyNext_enum_endD D he ⟨rfl, hit, p⟩ fun h' eb => ⟨rfl, I.turned (t' := s.toks) (fun b o hb q => eb b o hb q) f0 f1 f3 f4 f5⟩
  self := fun A i s Q E st h => let ⟨⟨_, he⟩, _⟩ := st; wpAny_pyIter_enum he h
/-- enumerate of a list or of a tuple -/
def iEnumA (K : PySem.W.Frag) (ta : TA) : TI := fun σ H R => ta σ H fun vs H1 => ∃ a xs, vs = [.ref a] ∧ ((SqL K H1 a xs ∧ R (Ite K a) H1) ∨ (SqT K H1 a xs ∧ R (IteT K a) H1))
theorem pi_enumA {X : Cx} {e : Expr} {ta : TA} {p pos tpos : Pos} {elts : List Expr} {kk : Nat} (hg : Gl X "enumerate") (hm : X.mg "enumerate" = none) (ha : PA X [e] ta) (hs : starEach [e] X.env = [(false, eval e X.env)]) :
    PI X (.Tuple elts kk tpos) (.Call (.Name "enumerate" p) [e] [] pos) (iEnumA X.K ta) := by
  refine ⟨fun pins s σ H R I h => ?_⟩
  refine Call_ (ld_blt I hg hm boot_enumerate (PyProof.Rows.callWith_type1 (thn (ha.run pos pins s σ H _ I h) fun us s1 ⟨vs, H1, I1, r1, q1⟩ => ?_) hs rfl))
  obtain ⟨a, xs, ex, q⟩ := q1
  subst ex
  cases r1 with
  | cons r rr =>
    cases rr
    cases r
    have place : ∀ b, b ∈ [s1.heap.objs.size + 1, s1.heap.objs.size] → s1.heap.objs.size ≤ b := fun b hb => by
      have e' : b = s1.heap.objs.size + 1 ∨ b = s1.heap.objs.size := by simpa using hb
      rcases e' with z | z
      · rw [z]; exact Nat.le_add_right _ _
      · rw [z]; exact Nat.le_refl _
    rcases q with ⟨hq, q⟩ | ⟨hq, q⟩
    · obtain ⟨its, rv, p', hz⟩ := I1.list hq
      refine call_enumerate_list p'.isList fun h' he hit hsz hk => wpAny_pyIter_enum he ?_
      exact ⟨s1.heap.objs.size + 1, [s1.heap.objs.size + 1, s1.heap.objs.size], _, _, H1, rfl, I1.kept (t' := s1.toks) hk, turn_enum a (s1.heap.objs.size + 1) s1.heap.objs.size, ⟨⟨.none, he⟩, hit, Nat.succ_ne_self _⟩, fun b hb => I1.fpOk (place b hb) (I1.hok.fresh (place b hb)), q⟩
    · obtain ⟨its, rv, p', hz⟩ := I1.tuple hq
      have al : a < s1.heap.objs.size := by obtain ⟨o, y, _⟩ := p'; exact Heap.lt_size y
      refine call_enumT p' fun h' he hit hk => wpAny_pyIter_enum he ?_
      exact ⟨s1.heap.objs.size + 1, [s1.heap.objs.size + 1, s1.heap.objs.size], _, _, H1, rfl, I1.kept (t' := s1.toks) hk, turn_enumT a (s1.heap.objs.size + 1) s1.heap.objs.size (Nat.ne_of_lt al) (Nat.ne_of_lt (Nat.lt_succ_of_lt al)), ⟨⟨.none, he⟩, hit, Nat.succ_ne_self _⟩, fun b hb => I1.fpOk (place b hb) (I1.hok.fresh (place b hb)), q⟩
theorem enum_get : ∀ (xs : List D) (k i : Nat), (enumD (k : Int) xs)[i]? = (xs[i]?).map fun x => .tup [.int ((k + i : Nat) : Int), x]
  | [], k, i => by simp [enumD]
  | x :: xs, k, 0 => by simp [enumD]
  | x :: xs, k, i + 1 => by
    have e : ((k : Int) + 1) = ((k + 1 : Nat) : Int) := by omega
    show (enumD ((k : Int) + 1) xs)[i]? = _
    rw [e, enum_get xs (k + 1) i, List.getElem?_cons_succ]
    have e2 : k + 1 + i = k + (i + 1) := by omega
    rw [e2]
theorem enum_get0 (xs : List D) (i : Nat) : (enumD 0 xs)[i]? = (xs[i]?).map fun x => .tup [.int (i : Int), x] := by
  have := enum_get xs 0 i
  rw [Nat.zero_add] at this
  exact this
theorem walk_enumL {G : GW} {m : List Addr} {H : Hp} {b : Addr} {ds : List D} {fx : List (Nat × List D)} (hb : ∀ m' h' H', Step m H m' H' → Rel G m' h' H' → fixOk h' fx = true → ∃ vs, SqL G.K H' b vs ∧ DRs G.K m' H' ds vs) : WalkR G m H ⟨enumD 0 ds, fx⟩ (Ite G.K b) := fun m' h' H' st r' f i => by
  obtain ⟨vs, t1, d1⟩ := hb m' h' H' st r' f
  refine ⟨fun d e0 => ?_, fun e0 => ?_⟩
  · have e0 : (enumD 0 ds)[i]? = some d := e0
    rw [enum_get0] at e0
    cases e1 : ds[i]? with
    | none => rw [e1] at e0; cases e0
    | some x =>
      rw [e1] at e0
      cases e0
      obtain ⟨v, e3, dv⟩ := d1.get e1
      refine ⟨⟨vs, v, t1, e3⟩, fun u H'' ⟨T, x', e5, hT, e6, e7⟩ => ?_⟩
      have a1 := e7 vs t1
      rw [e3] at a1
      cases a1
      subst e5 e6
      exact pair_new r' hT (.int _) dv
  · have e0 : (enumD 0 ds)[i]? = none := e0
    rw [enum_get0] at e0
    refine ⟨vs, t1, ?_⟩
    rw [← d1.length]
    cases e1 : ds[i]? with
    | none => exact List.getElem?_eq_none_iff.mp e1
    | some x => rw [e1] at e0; cases e0
theorem walk_enumT {G : GW} {m : List Addr} {H : Hp} {b : Addr} {ds : List D} {vs : List V} (t1 : SqT G.K H b vs) (d1 : DRs G.K m H ds vs) : WalkR G m H ⟨enumD 0 ds, []⟩ (IteT G.K b) := fun m' h' H' st r' f i => by
  have t1 := sqT_step t1 st.tups st.frzs
  have d1 := d1.step st
  refine ⟨fun d e0 => ?_, fun e0 => ?_⟩
  · have e0 : (enumD 0 ds)[i]? = some d := e0
    rw [enum_get0] at e0
    cases e1 : ds[i]? with
    | none => rw [e1] at e0; cases e0
    | some x =>
      rw [e1] at e0
      cases e0
      obtain ⟨v, e3, dv⟩ := d1.get e1
      refine ⟨⟨vs, v, t1, e3⟩, fun u H'' ⟨T, x', e5, hT, e6, e7⟩ => ?_⟩
      have a1 := e7 vs t1
      rw [e3] at a1
      cases a1
      subst e5 e6
      exact pair_new r' hT (.int _) dv
  · have e0 : (enumD 0 ds)[i]? = none := e0
    rw [enum_get0] at e0
    refine ⟨vs, t1, ?_⟩
    rw [← d1.length]
    cases e1 : ds[i]? with
    | none => exact List.getElem?_eq_none_iff.mp e1
    | some x => rw [e1] at e0; cases e0
section
variable {W : WD} {cc : CC} {k : Nat} {ev : Ev} {X : Cx} {E : WX} {a : Addr} {e1 : Expr} {p : QE} {pos : Pos}
theorem i_enum (x : XG W cc k ev X E) {elts : List Expr} {kk : Nat} {tpos : Pos} {p1 : Pos} (hg : glB cc.sc "enumerate" = true) (hm : W.mg "enumerate" = none) (hs : notStar e1 = true) (ha : PE X e1 (RE W cc a E ev p)) : PI X (.Tuple elts kk tpos) (.Call (.Name "enumerate" p1) [e1] [] pos) (RI W cc a E ev (.enum p)) :=
  PI.imp (pi_enumA (gl_of x hg) (by rw [x.mg]; exact hm) (as_cons hs ha as_nil) (star1 hs)) fun σ H R ⟨m, h, s, r, sr, xi, z⟩ => by
    have z : Sat W.G (WalkR W.G) m H ((evE ev p s h).bind fun x h1 => enumV x h1) R _ := z
    refine ⟨m, h, s, r, sr, xi, ?_⟩
    show Sat W.G (RDs W.G) m H ((evE ev p s h).bind fun x h1 => (Out.ok [] h1).bind fun xs h2 => .ok (x :: xs) h2) _ _
    cases e0 : evE ev p s h with
    | no => rw [e0] at z; exact False.elim z
    | ex _ _ => rw [e0] at z; exact z
    | ok d h1 =>
      rw [e0] at z
      intro m1 H1 v st r1 dv
      have z : Sat W.G (WalkR W.G) m H (match seqOf d h1 with
        | some a => .ok ⟨enumD 0 a.items, a.fix⟩ h1
        | none => .no) R _ := z
      cases e1 : seqOf d h1 with
      | none => rw [e1] at z; exact False.elim z
      | some w =>
        rw [e1] at z
        cases dv with
        | cons d1 dn =>
          cases dn
          have hK := x.K
          obtain ⟨b, rfl, s1⟩ := seq_of r1 e1 d1
          rcases s1 with ⟨i1, vs, t1, q1, f1⟩ | ⟨i1, ⟨vs, t1⟩, q1⟩
          · have z : Sat W.G (WalkR W.G) m H (.ok ⟨enumD 0 w.items, w.fix⟩ h1) R _ := z
            rw [f1] at z
            exact ⟨b, vs, rfl, .inr ⟨hK ▸ t1, z m1 H1 _ st r1 (hK ▸ walk_enumT t1 q1)⟩⟩
          · exact ⟨b, vs, rfl, .inl ⟨hK ▸ t1, z m1 H1 _ st r1 (hK ▸ walk_enumL q1)⟩⟩
end
end PV
/-! PVY: objects of own classes: made, their fields read and set, their methods called. -/
namespace PV
open PySem PySem.Spec PyProof.Rows L2
section
variable {W : WD} {cc : CC} {k : Nat} {ev : Ev} {X : Cx} {E : WX} {a : Addr} {e o : Expr} {p : QE} {pos : Pos}
theorem baseO {md : Str} {env : Env} {wh : Sem Value} (h : baseOk o = true) : attributeBase o md env wh = wh := by
  cases o with
  | Call f args kws q =>
    cases f with
    | Name id p0 =>
      cases args with
      | cons _ _ => rfl
      | nil =>
        cases kws with
        | cons _ _ => rfl
        | nil => exact abase_call h
    | _ => rfl
  | _ => rfl
/-! ### fields -/
theorem fs_get {K : PySem.W.Frag} {m : List Addr} {H : Hp} {f : Str} : ∀ {fs : List (Str × D)} {vs : List (Str × V)}, FsR K m H fs vs → (∀ d, fs.lookup f = some d → ∃ v, vs.lookup f = some v ∧ DR K m H d v) ∧ (fs.lookup f = none → vs.lookup f = none)
  | _, _, .nil => ⟨fun d e => (by cases e), fun _ => rfl⟩
  | _, _, .cons (a := (g, x)) (b := (g', y)) q r => by
    obtain ⟨r1, r2⟩ := fs_get r
    have e : g = g' := q.1
    subst e
    cases h : f == g with
    | true =>
      refine ⟨fun d e => ?_, fun e => ?_⟩
      · rw [List.lookup_cons, h] at e
        cases e
        exact ⟨y, by rw [List.lookup_cons, h], q.2⟩
      · rw [List.lookup_cons, h] at e
        cases e
    | false =>
      refine ⟨fun d e => ?_, fun e => ?_⟩
      · rw [List.lookup_cons, h] at e
        obtain ⟨v, e1, e2⟩ := r1 d e
        exact ⟨v, by rw [List.lookup_cons, h]; exact e1, e2⟩
      · rw [List.lookup_cons, h] at e
        rw [List.lookup_cons, h]
        exact r2 e
theorem fs_put {K : PySem.W.Frag} {m : List Addr} {H : Hp} {f : Str} {d : D} {v : V} (dv : DR K m H d v) : ∀ {fs : List (Str × D)} {vs : List (Str × V)}, FsR K m H fs vs → FsR K m H (putD f d fs) (putF f v vs)
  | _, _, .nil => .cons ⟨rfl, dv⟩ .nil
  | _, _, .cons (a := (g, x)) (b := (g', y)) (l₁ := l1) (l₂ := l2) q r => by
    have e : g = g' := q.1
    subst e
    show FsR K m H (if g = f then (g, d) :: l1 else (g, x) :: putD f d l1) (if g = f then (g, v) :: l2 else (g, y) :: putF f v l2)
    by_cases h : g = f
    · rw [if_pos h, if_pos h]
      exact .cons ⟨rfl, dv⟩ r
    · rw [if_neg h, if_neg h]
      exact .cons q (fs_put dv r)
theorem fs_len {K : PySem.W.Frag} {m : List Addr} {H : Hp} : ∀ {fs : List (Str × D)} {vs : List (Str × V)}, FsR K m H fs vs → fs.length = vs.length
  | _, _, .nil => rfl
  | _, _, .cons _ r => by simp [fs_len r]
theorem Rel.obj {G : GW} {m : List Addr} {h : Hd} {H : Hp} (r : Rel G m h H) {n C : Nat} {fs : List (Str × D)} {v : V} (d : DR G.K m H (.ref n) v) (e : objAt h n = some (C, fs)) : ∃ b Ca dx vs, v = .ref b ∧ m[n]? = some b ∧ G.oc C = some Ca ∧ H b = some (.ins Ca dx vs) ∧ FsR G.K m H fs vs := by
  obtain ⟨b, e1, e2⟩ := r.at d
  unfold objAt at e
  split at e
  · rename_i C' fs' q
    cases e
    obtain ⟨Ca, dx, vs, h1, h2, h3⟩ := r.cell n _ b q e2
    exact ⟨b, Ca, dx, vs, e1, e2, h1, h2, h3⟩
  · cases e
theorem k_fld (x : XG W cc k ev X E) {f : Str} {fs : List Str} (hl : cc.gl.lookup ("." : Str) = some (.flds fs)) (hf : f ∈ fs) (hb : baseOk o = true) (ho : PE X o (RE W cc a E ev p)) : PE X (.Attribute o f pos) (RE W cc a E ev (.fld p f)) :=
  PE.imp (pe_fld ho (baseO hb)) fun σ H Q ⟨m, h, s, r, sr, xi, z⟩ => by
    have z : Sat W.G (RD W.G) m H ((evE ev p s h).bind fun x h1 => fldV f x h1) Q _ := z
    refine ⟨m, h, s, r, sr, xi, z.bind fun d h1 m1 H1 v st r1 dv q1 => ?_⟩
    cases d with
    | ref n =>
      have q1 : Sat W.G (RD W.G) m1 H1 (match objAt h1 n with
        | some (_, fs) => match fs.lookup f with
          | some d => .ok d h1
          | none => .no
        | none => .no) Q _ := q1
      cases e0 : objAt h1 n with
      | none => rw [e0] at q1; exact False.elim q1
      | some c =>
        obtain ⟨C, fs'⟩ := c
        rw [e0] at q1
        obtain ⟨b, Ca, dx, vs, rfl, eb, oc, hb, fr⟩ := r1.obj dv e0
        have q1 : Sat W.G (RD W.G) m1 H1 (match fs'.lookup f with
          | some d => .ok d h1
          | none => .no) Q _ := q1
        cases e1 : fs'.lookup f with
        | none => rw [e1] at q1; exact False.elim q1
        | some d2 =>
          rw [e1] at q1
          obtain ⟨v2, l2, dv2⟩ := (fs_get fr).1 d2 e1
          obtain ⟨c1, c2⟩ := x.gl _ _ hl C Ca oc
          exact ⟨b, Ca, dx, vs, v2, rfl, hb, by rw [x.K]; exact c1, by rw [x.K]; exact c2 f hf, l2, q1.ok r1 dv2⟩
    | _ => exact False.elim q1
/-! ### calls of methods and of classes, at one state -/
theorem go_fn {pins : List (Addr × Obj)} {σ : L2.St} {H : Hp} {s : Shared} {Q : VK} {CX : CXT} {j : Nat} {f : Addr} {fd : FuncData} {ps : List Str} {sp : Sp} {F : XK} {us : List Value} {vs : List V}
    (Fo : FnOk X.prog X.w X.K X.mg X.base CX j f fd ps sp) (hr : Room j X.A) (hb : Binds X.K fd ps []) (hx : PassesAt CX X σ F) (I : Inv X pins σ H s) (r : Vals vs us) (h : sp vs H Q F) : wpAny (model X.prog X.w) X.A (call (.ref f) us) (EP X pins σ Q) X.xe s := by
  have len : (us ++ ([] : List Value)).length = ps.length := by
    rw [List.append_nil, ← r.length]
    exact Fo.len _ _ _ _ h
  have bt := hb s us I.kIn len
  rw [List.append_nil] at bt
  refine wpAny_call (codeAny_mono (Fo.run X.A X.stack s H ⟨us, []⟩ us vs Q F hr I.env0 bt r h) fun out s' back => ?_)
  match out, back with
  | .error e, back => exact hx pins H s e s' I back
  | .ok (.ret u), back => exact I.after back
  | .ok .next, back => exact False.elim back
  | .ok .brk, back => exact False.elim back
  | .ok .cont, back => exact False.elim back
theorem go_make {pins : List (Addr × Obj)} {σ : L2.St} {H : Hp} {s : Shared} {Q : VK} {CX : CXT} {j : Nat} {f C : Addr} {fd : FuncData} {ps : List Str} {sp : Sp} {F : XK} {us : List Value} {vs : List V} (M : Mk X.K C f)
    (Fo : FnOk X.prog X.w X.K X.mg X.base CX j f fd ps sp) (hr : Room (j + 1) X.A) (hb : Binds X.K fd ps []) (hx : PassesAt CX X σ F) (I : Inv X pins σ H s) (r : Vals vs us)
    (h : ∀ x dx, H x = none → H dx = none → dx ≠ x → sp (.ref x :: vs) (upd (upd H dx (.own x)) x (.ins C dx [])) (fun v H2 => v = .non ∧ Q (.ref x) H2) F) : wpAny (model X.prog X.w) X.A (call (.ref C) us) (EP X pins σ Q) X.xe s := by
  have now := h (s.heap.objs.size + 1) s.heap.objs.size (I.hok.fresh (Nat.le_succ _)) (I.hok.fresh (Nat.le_refl _)) (Nat.ne_of_lt (Nat.lt_succ_self _))
  have J := Inv.made (C := C) I
  have r2 : Vals (V.ref (s.heap.objs.size + 1) :: vs) (Value.ref (s.heap.objs.size + 1) :: us) := .cons rfl r
  have len : ((Value.ref (s.heap.objs.size + 1) :: us) ++ ([] : List Value)).length = ps.length := by
    rw [List.append_nil, ← r2.length]
    exact Fo.len _ _ _ _ now
  have bt := hb _ (Value.ref (s.heap.objs.size + 1) :: us) J.kIn len
  rw [List.append_nil] at bt
  refine wpAny_call (make_map (f := f) I.kIn M.makes M.init (beq_iff_eq.mp M.fn) (codeAny_mono (Fo.run _ X.stack _ _ ⟨Value.ref (s.heap.objs.size + 1) :: us, []⟩ (Value.ref (s.heap.objs.size + 1) :: us) _ _ F (hr.make C us []) (J.env0.make C us []) bt r2 now) fun out s' back => ?_))
  match out, back with
  | .error e, back => exact hx pins _ _ e s' J back
  | .ok (.ret u), back =>
    obtain ⟨v, H', I3, rv, ev, q3⟩ := J.after back
    subst ev
    exact ⟨rv, ⟨V.ref (s.heap.objs.size + 1), H', I3, rfl, q3⟩⟩
  | .ok .next, back => exact False.elim back
  | .ok .brk, back => exact False.elim back
  | .ok .cont, back => exact False.elim back
/-- a new object in the deep heap -/
theorem newO_step {G : GW} {m : List Addr} {h : Hd} {H : Hp} (r : Rel G m h H) {x dx Ca : Addr} {C : Nat} (hx : H x = none) (hd : H dx = none) (ne : dx ≠ x) (oc : G.oc C = some Ca) :
    Step m H (m ++ [x]) (upd (upd H dx (.own x)) x (.ins Ca dx [])) ∧ Rel G (m ++ [x]) (h ++ [.obj C []]) (upd (upd H dx (.own x)) x (.ins Ca dx [])) := by
  obtain ⟨s1, r1⟩ := new_step (o := .own x) r hd
  have hx1 : upd H dx (.own x) x = none := by rw [upd_ne (Ne.symm ne)]; exact hx
  obtain ⟨s2, r2⟩ := newc_step (o := .ins Ca dx []) (c := .obj C []) r1 hx1 ⟨Ca, dx, [], oc, upd_same, .nil⟩
  exact ⟨s1.trans s2, r2⟩
/-- what a maker's promise is, behind its arguments -/
theorem make_go {m : List Addr} {h : Hd} {H : Hp} {C i np : Nat} {ds : List D} {vs : List V} {Ca : Addr} {Q : VK} {F : XKE} (r : Rel W.G m h H) (dv : DRs W.G.K m H ds vs) (oc : W.G.oc C = some Ca) (hn : ds.length + 1 = np)
    (z : Sat W.G (RD W.G) m H (mkO h.length (ev.call i (.ref h.length :: ds) (h ++ [.obj C []]))) Q F) (x dx : Addr) (hx : H x = none) (hd : H dx = none) (ne : dx ≠ x) : spF W.G np (ev.call i) (.ref x :: vs) (upd (upd H dx (.own x)) x (.ins Ca dx [])) (fun v H2 => v = .non ∧ Q (.ref x) H2) F := by
  obtain ⟨st, r2⟩ := newO_step r hx hd ne oc
  have me : (m ++ [x])[h.length]? = some x := by
    rw [List.getElem?_append_right (by rw [r.len]; exact Nat.le_refl _), r.len, Nat.sub_self]
    rfl
  refine ⟨m ++ [x], h ++ [.obj C []], .ref h.length :: ds, r2, .cons (.ref me) (dv.step st), by simpa using hn, ?_⟩
  have z := z.trans st
  cases e0 : ev.call i (.ref h.length :: ds) (h ++ [.obj C []]) with
  | no => rw [e0] at z; exact False.elim z
  | ex e h' => rw [e0] at z; exact z
  | ok d h' =>
    rw [e0] at z
    cases d with
    | non =>
      intro m' H' v st' r' dv'
      cases dv'
      exact ⟨rfl, z m' H' (.ref x) st' r' (.ref (st'.get _ _ me))⟩
    | _ => exact False.elim z
theorem k_make (x : XG W cc k ev X E) {y : Str} {C i np : Nat} {args : List Expr} {es : QEs} {p1 : Pos} (hcold : cc.hot = false) (hn : plainName y = true) (hg : glB cc.sc y = true) (hl : cc.gl.lookup y = some (.own C i np)) (hs : args.all notStar = true) (l1 : es.len = args.length) (hnp : args.length + 1 = np)
    (ha : PA X args (REs W cc a E ev es)) : PE X (.Call (.Name y p1) args [] pos) (RE W cc a E ev (.make C i es)) := by
  obtain ⟨Ca, f, fd, ps, e1, oc, M, lps, Fo, B⟩ := x.gl y _ hl
  obtain ⟨n1, n2, n3⟩ := pn1 hn
  have Fo : FnOk X.prog X.w X.K X.mg X.base (L2.CX X.prog X.w) (3 * k) f fd ps (spF W.G np (ev.call i)) := by
    rw [x.prog, x.wd, x.K, x.mg, x.base]; exact Fo
  have B : Binds X.K fd ps [] := by rw [x.K]; exact B
  have M : Mk X.K Ca f := by rw [x.K]; exact M
  have hgl := gl_of x hg
  have hmg : X.mg y = some (.ref Ca) := by rw [x.mg]; exact e1
  have hr : Room (3 * k + 1) X.A := (x.room hcold).2.mono (by omega)
  refine ⟨fun pins s σ H Q I ⟨m, h, sl, rl, sr, xi, z⟩ => ?_⟩
  have z : Sat W.G (RD W.G) m H ((evEs ev es sl h).bind fun xs h1 => mkO h1.length (ev.call i (.ref h1.length :: xs) (h1 ++ [.obj C []]))) Q _ := z
  have rd : REs W cc a E ev es σ H fun vs H1 => ∀ x dx, H1 x = none → H1 dx = none → dx ≠ x → spF W.G np (ev.call i) (.ref x :: vs) (upd (upd H1 dx (.own x)) x (.ins Ca dx [])) (fun v H2 => v = .non ∧ Q (.ref x) H2) (WE E σ) :=
    ⟨m, h, sl, rl, sr, xi, z.bindL fun d h1 m1 H1 v ld st r1 dv q1 => fun x dx hx hd ne => make_go r1 dv oc (by rw [ld, l1]; exact hnp) q1 x dx hx hd ne⟩
  refine wpAny_Call_Name_kw (ld_glob I hgl hmg ?_ n1)
  cases args with
  | nil =>
    cases es with
    | cons _ _ => cases l1
    | nil =>
      refine PySem.W.callWith_K0 I.kIn M.kp (go_make (us := []) (vs := []) M Fo hr B (passAt x.tk σ) I .nil ?_)
      obtain ⟨m', h', s', r', sr', xi', z'⟩ := rd
      have z' : Sat W.G (RDs W.G) m' H (.ok [] h') _ _ := z'
      exact z'.ok r' .nil
  | cons e0 rest =>
    rw [List.all_cons, Bool.and_eq_true] at hs
    have he := star1 (env := X.env) (es := rest) hs.1
    refine PySem.W.callWith_K (h₀ := X.base) I.ok.mod.kin M.kp (thn (ha.run pos pins s σ H _ I rd) fun us s1 ⟨vs, H1, I1, r, q⟩ => ⟨I1.kIn, ?_⟩) he (starAll hs.2 pos)
    exact go_make M Fo hr B (passAt x.tk σ) I1 r q
theorem mtree {m : Str} {ap : Pos} {args : List Expr} {env : Env} (hb : baseOk o = true) (hs : args.all notStar = true) (hl : (ap.endLine == pos.line) = true) (h9 : args.length < 29) : eval (.Call (.Attribute o m ap) args [] pos) env = (do
      let ov ← eval o env
      standAt ap.atName
      let (f, first) ← holding [ov] (getMethod ov m (do return (← importBound o env).getD true))
      callWith pos f first (backTo pos (starEach args env)) (backToKw pos (keywordEach [] env))) := by
  have all : ∀ l : List (Bool × Sem Value), l.any (·.1) = false → l.all (!·.1) = true := fun l h => by
    rw [List.all_eq_true]
    intro y hy
    have := List.any_eq_false.mp h y hy
    simpa using this
  have form : methodCallForm (args.length + ([] : List Keyword).length) (backTo pos (starEach args env)) (backToKw pos (keywordEach [] env)) = true := by
    unfold methodCallForm
    rw [all _ (starAll hs pos)]
    show (true && true && decide (args.length + 0 + 0 < 30)) = true
    rw [decide_eq_true (by omega)]
    rfl
  have line : methodCallPos true o env ap pos = pure pos := by
    unfold methodCallPos
    simp [hl]
  refine mcall_of (baseO hb) fun ov => ?_
  unfold methodCall
  rw [form, line]
  rfl
theorem k_mcall (x : XG W cc k ev X E) {md : Str} {C i np : Nat} {args : List Expr} {es : QEs} {ap : Pos} (hcold : cc.hot = false) (hl : cc.gl.lookup (mkey md) = some (.met C i np md)) (hb : baseOk o = true) (hli : (ap.endLine == pos.line) = true) (hs : args.all notStar = true) (l1 : es.len = args.length) (hnp : args.length + 1 = np) (h9 : args.length < 29)
    (ho : PE X o (RE W cc a E ev p)) (ha : PA X args (REs W cc a E ev es)) : PE X (.Call (.Attribute o md ap) args [] pos) (RE W cc a E ev (.mcall C i md p es)) := by
  obtain ⟨Ca, f, fd, ps, oc, cl, me, lps, Fo, B⟩ := x.gl _ _ hl
  have Fo : FnOk X.prog X.w X.K X.mg X.base (L2.CX X.prog X.w) (3 * k) f fd ps (spF W.G np (ev.call i)) := by
    rw [x.prog, x.wd, x.K, x.mg, x.base]; exact Fo
  have B : Binds X.K fd ps [] := by rw [x.K]; exact B
  have cl : Cls X.K Ca := by rw [x.K]; exact cl
  have me : Meth X.K Ca md f := by rw [x.K]; exact me
  have hr : Room (3 * k) X.A := (x.room hcold).2.mono (by omega)
  refine ⟨fun pins s σ H Q I ⟨m, h, sl, rl, sr, xi, z⟩ => ?_⟩
  have z : Sat W.G (RD W.G) m H ((evE ev p sl h).bind fun x h1 => match isObj C md h1 x with
    | true => (evEs ev es sl h1).bind fun xs h2 => ev.call i (x :: xs) h2
    | false => .no) Q _ := z
  have rd : RE W cc a E ev p σ H fun v H1 => ∃ b dx vs, v = .ref b ∧ H1 b = some (.ins Ca dx vs) ∧ vs.lookup md = none ∧ REs W cc a E ev es σ H1 fun us H2 => spF W.G np (ev.call i) (v :: us) H2 Q (WE E σ) :=
    ⟨m, h, sl, rl, sr, xi, z.bind fun d h1 m1 H1 v st r1 dv q1 => by
      cases e0 : isObj C md h1 d with
      | false => rw [e0] at q1; exact False.elim q1
      | true =>
        rw [e0] at q1
        cases d with
        | ref n =>
          have e0 : (match objAt h1 n with
            | some (C', fs) => decide (C' = C) && (fs.lookup md).isNone
            | none => false) = true := e0
          cases e1 : objAt h1 n with
          | none => rw [e1] at e0; cases e0
          | some c =>
            obtain ⟨C', fs⟩ := c
            rw [e1] at e0
            have e0 : (decide (C' = C) && (fs.lookup md).isNone) = true := e0
            simp only [Bool.and_eq_true, decide_eq_true_eq] at e0
            obtain ⟨rfl, e2⟩ := e0
            obtain ⟨b, Cb, dx, vs, rfl, eb, ob, hb', fr⟩ := r1.obj dv e1
            rw [oc] at ob
            cases ob
            refine ⟨b, dx, vs, rfl, hb', (fs_get fr).2 (by simpa using e2), m1, h1, sl, r1, sr.step st, xi, ?_⟩
            exact Sat.bindL (f := fun xs h2 => ev.call i (.ref n :: xs) h2) q1 fun d2 h2 m2 H2 v2 ld st2 r2 dv2 q2 => ⟨m2, h2, .ref n :: d2, r2, .cons (dv.step st2) dv2, by rw [List.length_cons, ld, l1]; exact hnp, q2⟩
        | _ => cases e0⟩
  refine PySem.W.methodCall_KW (thn (ho.run pins s σ H _ I rd) fun u s1 ⟨v, H1, I1, rx, b, dx, vs, ex, ea, l, q⟩ => ?_) (mtree hb hs hli h9)
  subst ex
  obtain rfl : u = Value.ref b := rx
  refine getmeth_ok I1 ea cl me l ?_
  cases args with
  | nil =>
    cases es with
    | cons _ _ => cases l1
    | nil =>
      obtain ⟨m', h', s', r', sr', xi', z'⟩ := q
      have z' : Sat W.G (RDs W.G) m' H1 (.ok [] h') _ _ := z'
      exact PySem.W.callWith_K0 (first := [.ref b]) I1.kIn me.kp (go_fn (us := [.ref b]) (vs := [.ref b]) Fo hr B (passAt x.tk σ) I1 (.cons rfl .nil) (z'.ok r' .nil))
  | cons e0 rest =>
    rw [List.all_cons, Bool.and_eq_true] at hs
    have he := star1 (env := X.env) (es := rest) hs.1
    refine PySem.W.callWith_K (first := [.ref b]) (h₀ := X.base) I.ok.mod.kin me.kp (thn (ha.run pos pins s1 σ H1 _ I1 q) fun us s2 ⟨vs2, H2, I2, r, q2⟩ => ⟨I2.kIn, ?_⟩) he (starAll hs.2 pos)
    exact go_fn (us := .ref b :: us) (vs := .ref b :: vs2) Fo hr B (passAt x.tk σ) I2 (.cons rfl r) q2
/-- d.get(e), d a dict of the module -/
theorem k_dget (x : XG W cc k ev X E) {d : Str} {kvs : List (Str × D)} {ap p1 : Pos} {e1 : Expr} (hn : plainName d = true) (hg : glB cc.sc d = true) (hl : cc.gl.lookup d = some (.dct kvs)) (hli : (ap.endLine == pos.line) = true) (hs : notStar e1 = true) (ha : PE X e1 (RE W cc a E ev p)) :
    PE X (.Call (.Attribute (.Name d p1) "get" ap) [e1] [] pos) (RE W cc a E ev (.dget kvs p)) := by
  obtain ⟨b, es, n, e1', kd, all⟩ := x.gl _ _ hl
  obtain ⟨n1, n2, n3⟩ := pn1 hn
  have hmg : X.mg d = some (.ref b) := by rw [x.mg]; exact e1'
  have kd : KDict X.K X.w b es n := by rw [x.K, x.wd]; exact kd
  have st := star1 (env := X.env) (es := []) hs
  have ho : PE X (.Name d p1) (tC (.ref b)) := pe_glob (gl_of x hg) hmg rfl n1
  refine ⟨fun pins s σ H Q I ⟨m, h, sl, rl, sr, xi, z⟩ => ?_⟩
  have z : Sat W.G (RD W.G) m H ((evE ev p sl h).bind fun x h1 => dgetV kvs x h1) Q _ := z
  have rd : RE W cc a E ev p σ H fun y H1 => ∃ z, y = .str z ∧ Q (toV ((kvs.lookup z).getD .non)) H1 := ⟨m, h, sl, rl, sr, xi, z.bind fun d h1 m1 H1 v st r1 dv q1 => by
    cases d with
    | str w =>
      cases dv
      refine ⟨w, rfl, ?_⟩
      have q1 : Sat W.G (RD W.G) m1 H1 (.ok ((kvs.lookup w).getD .non) h1) Q _ := q1
      refine q1.ok r1 (dr_toV ?_)
      have := all w
      cases e : kvs.lookup w with
      | none => rfl
      | some y => rw [e] at this; exact this.1
    | _ => exact False.elim q1⟩
  refine wpAny_Call_method rfl (by rw [st]; rfl) hli PySem.F.plainAttrs_dict PySem.F.slot_dict_get PySem.F.type_dict_get (thn (ho.run pins s σ H _ I (show tC (.ref b) σ H (fun y H1 => y = .ref b ∧ H1 = H) from ⟨rfl, rfl⟩)) fun u s1 ⟨y, H1, I1, ry, ey, eH⟩ => ?_)
  subst ey eH
  obtain rfl : u = Value.ref b := ry
  have hm := PySem.W.mapOf_K (prog := X.prog) (w := X.w) I1.kIn kd.at_ kd.lit
  refine ⟨hm.typeIs, fun c q => ?_, ?_⟩
  · cases q
    exact ⟨_, I1.kIn _ _ kd.at_, rfl⟩
  · rw [st]
    refine Calls.callWith_builtin rfl (Calls.evalArgs_plain (Calls.spliced_cons (thn (ha.run pins s1 σ _ _ I1 rd) fun iv s2 ⟨y, H2, I2, ry, z, ez, q2⟩ => Calls.spliced_nil ?_)))
    subst ez
    obtain ⟨t, rfl⟩ := (show ∃ t, iv = Value.str z t from ry)
    have hm2 := PySem.W.mapOf_K (prog := X.prog) (w := X.w) I2.kIn kd.at_ kd.lit
    refine call_meetsIn PySem.F.slot_dict_get hm2.typeIs PySem.F.entry_dict_get (PySem.F.args_dict_get_2 _ _) (meets_dict_get (strKind X.prog X.w) b (strKind_is X.prog X.w z t) kd.low) ⟨_, hm2, ?_⟩
    have al := all z
    have K1 := x.K
    cases e : kvs.lookup z with
    | none =>
      rw [e] at al q2
      have f := PySem.W.find_K kd.at_ (x := z) (r := none) (by rw [K1]; exact al)
      rw [f]
      exact ⟨.non, H2, I2.tok _, rfl, q2⟩
    | some y =>
      rw [e] at al q2
      obtain ⟨_, u, e2, ru⟩ := al
      have f := PySem.W.find_K kd.at_ (x := z) (r := some u) (by rw [K1]; exact e2)
      rw [f]
      exact ⟨toV y, H2, I2.tok _, ru, q2⟩
end
end PV
/-! PVI: every expression that has code. -/
namespace PV
open PySem PySem.Spec PyProof.Rows L2
section
variable {W : WD} {cc : CC} {k : Nat} {ev : Ev} {X : Cx} {E : WX} {a : Addr} {pos : Pos}
theorem cE_kind : ∀ {n : Nat} {e : Expr} {p : QE}, cE n cc e = some p → notStar e = true ∧ notSlice e = true ∧ notSet e = true
  | 0, _, _, h => by simp [cE] at h
  | n + 1, e, p, h => by
    cases e <;> first | exact ⟨rfl, rfl, rfl⟩ | (exfalso; cases h)
theorem list_ok {f : Expr → Option QE} (hf : ∀ e p, f e = some p → notStar e = true ∧ PE X e (RE W cc a E ev p)) : ∀ {es : List Expr} {ps : QEs}, cList f es = some ps → es.all notStar = true ∧ ps.len = es.length ∧ PA X es (REs W cc a E ev ps)
  | [], ps, h => by
    cases h
    exact ⟨rfl, rfl, as_nil⟩
  | e :: es, ps, h => by
    unfold cList at h
    split at h
    · rename_i p qs h1 h2
      cases h
      obtain ⟨n1, p1⟩ := hf e p h1
      obtain ⟨n2, l2, p2⟩ := list_ok hf h2
      exact ⟨by rw [List.all_cons, n1, n2]; rfl, by show qs.len + 1 = es.length + 1; rw [l2], as_cons n1 p1 p2⟩
    · cases h
theorem kws_ok {f : Expr → Option QE} (hf : ∀ e p, f e = some p → notStar e = true ∧ PE X e (RE W cc a E ev p)) : ∀ {ks : List Keyword} {ps : QEs}, cKws f ks = some ps → kwAll ks = true ∧ ps.len = ks.length ∧ PK X ks (REs W cc a E ev ps)
  | [], ps, h => by
    cases h
    exact ⟨rfl, rfl, ks_nil⟩
  | ⟨some nm, e, kp⟩ :: es, ps, h => by
    unfold cKws at h
    split at h
    · rename_i p qs h1 h2
      cases h
      obtain ⟨n1, p1⟩ := hf e p h1
      obtain ⟨n2, l2, p2⟩ := kws_ok hf h2
      exact ⟨n2, by show qs.len + 1 = es.length + 1; rw [l2], ks_cons p1 p2⟩
    · cases h
  | ⟨none, e, kp⟩ :: es, ps, h => by cases h
theorem opt_ok {f : Expr → Option QE} (hf : ∀ e p, f e = some p → notStar e = true ∧ PE X e (RE W cc a E ev p)) : ∀ {o : Option Expr} {p : QO}, cOpt f o = some p → PO X o (ROp W cc a E ev p)
  | none, p, h => by
    cases h
    exact o_none
  | some e, p, h => by
    have h : (f e).map QO.some = some p := h
    cases e1 : f e with
    | none => rw [e1] at h; cases h
    | some q =>
      rw [e1] at h
      cases h
      exact o_some (hf e q e1).2
theorem foldA_ok (x : XG W cc k ev X E) {f : Expr → Option QE} (hf : ∀ e p, f e = some p → notStar e = true ∧ PE X e (RE W cc a E ev p)) : ∀ {es : List Expr} {p : QE}, foldB f .andv es = some p → PE X (.BoolOp .And es pos) (RE W cc a E ev p)
  | [], p, h => by cases h
  | [e], p, h => pe_one (hf e p h).2
  | e :: e2 :: r, p, h => by
    unfold foldB at h
    split at h
    · rename_i p1 q1 h1 h2
      cases h
      exact k_andv x (hf e p1 h1).2 (foldA_ok x hf h2)
    · cases h
theorem foldO_ok (x : XG W cc k ev X E) {f : Expr → Option QE} (hf : ∀ e p, f e = some p → notStar e = true ∧ PE X e (RE W cc a E ev p)) : ∀ {es : List Expr} {p : QE}, foldB f .orv es = some p → PE X (.BoolOp .Or es pos) (RE W cc a E ev p)
  | [], p, h => by cases h
  | [e], p, h => pe_one (hf e p h).2
  | e :: e2 :: r, p, h => by
    unfold foldB at h
    split at h
    · rename_i p1 q1 h1 h2
      cases h
      exact k_orv x (hf e p1 h1).2 (foldO_ok x hf h2)
    · cases h
theorem foldTA_ok {f : Expr → Option QT} (hf : ∀ e p, f e = some p → PT X e (RT W cc a E ev p)) : ∀ {es : List Expr} {p : QT}, foldT f .and es = some p → PW X (.BoolOp .And es pos) (RT W cc a E ev p)
  | [], p, h => by cases h
  | [e], p, h => pw_and1 (hf e p h)
  | e :: e2 :: r, p, h => by
    unfold foldT at h
    split at h
    · rename_i p1 q1 h1 h2
      cases h
      exact t_and (hf e p1 h1) (foldTA_ok hf h2)
    · cases h
theorem foldTO_ok {f : Expr → Option QT} (hf : ∀ e p, f e = some p → PT X e (RT W cc a E ev p)) : ∀ {es : List Expr} {p : QT}, foldT f .or es = some p → PW X (.BoolOp .Or es pos) (RT W cc a E ev p)
  | [], p, h => by cases h
  | [e], p, h => pw_or1 (hf e p h)
  | e :: e2 :: r, p, h => by
    unfold foldT at h
    split at h
    · rename_i p1 q1 h1 h2
      cases h
      exact t_or (hf e p1 h1) (foldTO_ok hf h2)
    · cases h
theorem glb_of {y : Str} (h : (plainName y && glB cc.sc y) = true) : plainName y = true ∧ glB cc.sc y = true := by
  rw [Bool.and_eq_true] at h
  exact h
theorem bi_arg (x : XG W cc k ev X E) {y : Str} {b : BI} (hl : GvOk W k ev y (.bi b)) : (match (generalizing := false) b with
      | .gcd => X.mg y = some (.builtin "math.gcd")
      | b => X.mg y = none ∧ bootBuiltins y = some b.val) := by
  rw [x.mg]
  cases b <;> exact hl
theorem ty_arg (x : XG W cc k ev X E) {y : Str} {t : Ty} {b : BI} (hb : tyBI t = some b) (hl : GvOk W k ev y (.ty t)) : (match (generalizing := false) b with
      | .gcd => X.mg y = some (.builtin "math.gcd")
      | b => X.mg y = none ∧ bootBuiltins y = some b.val) := by
  rw [x.mg]
  cases t <;> cases hb <;> exact hl
theorem cBi_ok (x : XG W cc k ev X E) {f : Expr → Option QE} (hf : ∀ e p, f e = some p → notStar e = true ∧ PE X e (RE W cc a E ev p)) {y : Str} {b : BI} {args : List Expr} {p : QE} {p1 : Pos} (hn : plainName y = true) (hg : glB cc.sc y = true) (hv : match b with
      | .gcd => X.mg y = some (.builtin "math.gcd")
      | b => X.mg y = none ∧ bootBuiltins y = some b.val) (h : cBi cc f b args = some p) : PE X (.Call (.Name y p1) args [] pos) (RE W cc a E ev p) := by
  unfold cBi at h
  split at h
  · cases h
  · rename_i e r
    split at h
    · cases h
    · rename_i hc
      cases e1 : cList f (e :: r) with
      | none => rw [e1] at h; cases h
      | some es =>
        rw [e1] at h
        cases h
        obtain ⟨n1, l1, p1⟩ := list_ok hf e1
        exact k_bi x (by simpa using hc) hn hg hv n1 p1
theorem meth_ok (x : XG W cc k ev X E) {f : Expr → Option QE} (hf : ∀ e p, f e = some p → notStar e = true ∧ PE X e (RE W cc a E ev p)) {o : Expr} {md : Str} {ap : Pos} {args : List Expr} {kws : List Keyword} {p : QE} (h : cMeth cc f o md ap pos args kws = some p) : PE X (.Call (.Attribute o md ap) args kws pos) (RE W cc a E ev p) := by
  unfold cMeth at h
  split at h
  · rename_i C i np m' hl
    split at h
    · rename_i hc
      obtain ⟨rfl, c2, c3, c4, c5, c6⟩ := hc
      split at h
      · rename_i q es e1 e2
        cases h
        obtain ⟨n1, l1, pa⟩ := list_ok hf e2
        exact k_mcall x c6 hl c2 c3 n1 l1 c4 c5 (hf _ _ e1).2 pa
      · cases h
    · cases h
  · cases h
theorem dget_ok (x : XG W cc k ev X E) {f : Expr → Option QE} (hf : ∀ e p, f e = some p → notStar e = true ∧ PE X e (RE W cc a E ev p)) {o : Expr} {md : Str} {ap : Pos} {args : List Expr} {kws : List Keyword} {p : QE} (h : cDget cc f o md ap pos args kws = some p) : PE X (.Call (.Attribute o md ap) args kws pos) (RE W cc a E ev p) := by
  unfold cDget at h
  split at h
  · rename_i d p1 a1
    split at h
    · rename_i kvs hl
      split at h
      · rename_i hc
        obtain ⟨rfl, c2, c3, c4⟩ := hc
        cases e1 : f a1 with
        | none => rw [e1] at h; cases h
        | some q =>
          rw [e1] at h
          cases h
          exact k_dget x c2 c3 hl c4 (hf _ _ e1).1 (hf _ _ e1).2
      · cases h
    · cases h
  · cases h
theorem fld_ok (x : XG W cc k ev X E) {f : Expr → Option QE} (hf : ∀ e p, f e = some p → notStar e = true ∧ PE X e (RE W cc a E ev p)) {o : Expr} {n : Str} {p : QE} (h : cFld cc f o n = some p) : PE X (.Attribute o n pos) (RE W cc a E ev p) := by
  unfold cFld at h
  split at h
  · rename_i fs hl
    split at h
    · rename_i hc
      obtain ⟨c1, c2, c3⟩ := hc
      cases e1 : f o with
      | none => rw [e1] at h; cases h
      | some q =>
        rw [e1] at h
        cases h
        exact k_fld x hl (by simpa using c1) c2 (hf _ _ e1).2
    · cases h
  · cases h
theorem call_ok (x : XG W cc k ev X E) {f : Expr → Option QE} (hf : ∀ e p, f e = some p → notStar e = true ∧ PE X e (RE W cc a E ev p)) {y : Str} {args : List Expr} {kws : List Keyword} {p : QE} {p1 : Pos} (h : cCall cc f y args kws = some p) : PE X (.Call (.Name y p1) args kws pos) (RE W cc a E ev p) := by
  unfold cCall at h
  split at h
  · rename_i hpg
    obtain ⟨hp, hg⟩ := glb_of hpg
    split at h
    · rename_i i np shapes hl
      split at h
      · cases h
      · rename_i hc
        have hcold : cc.hot = false := by simpa using hc
        split at h
        · cases h
        · rename_i h0 
          split at h
          · rename_i es ks arr e1 e2 e3
            cases h
            obtain ⟨n1, l1, pa⟩ := list_ok hf e1
            obtain ⟨n2, l2, pk⟩ := kws_ok hf e2
            refine k_call x hcold hp hg hl n1 n2 (fun ea => ?_) l1 l2 e3 pa pk
            cases kws with
            | nil => rfl
            | cons w ws => exact (h0 w ws ea rfl).elim
          · cases h
    · rename_i b hl
      split at h
      · exact cBi_ok x hf hp hg (bi_arg x (x.gl _ _ hl)) h
      · cases h
    · rename_i t hl
      split at h
      · rename_i b e1
        exact cBi_ok x hf hp hg (ty_arg x e1 (x.gl _ _ hl)) h
      · cases h
    · rename_i C i np hl
      split at h
      · cases h
      · rename_i hc
        have hcold : cc.hot = false := by simpa using hc
        split at h
        · split at h
          · rename_i hnp
            cases e1 : cList f args with
            | none => rw [e1] at h; cases h
            | some es =>
              rw [e1] at h
              cases h
              obtain ⟨n1, l1, pa⟩ := list_ok hf e1
              exact k_make x hcold hp hg hl n1 l1 hnp pa
          · cases h
        · cases h
    · rename_i hl
      split at h
      · rename_i a1 t1
        have hv := x.gl _ _ hl
        split at h
        · rename_i hxi
          cases e1 : excOf cc t1 with
          | none => rw [e1] at h; cases h
          | some c =>
            rw [e1] at h
            cases h
            exact k_excIs x hp hg (by rw [x.mg]; exact hv) hxi e1
        · split at h
          · rename_i q t2 e1 e2
            cases h
            exact k_isi x hp hg (by rw [x.mg]; exact hv) (hf _ _ e1).1 e2 (hf _ _ e1).2
          · cases h
      · cases h
    · cases h
  · cases h
theorem tgt_tup {n : Nat} {tg : Expr} {g : QG} (hg : cTgt cc n tg = some g) : ∀ gs, g = .tp gs → ∃ es j tp, tg = .Tuple es j tp := fun gs e => by
  subst e
  cases n with
  | zero => cases hg
  | succ n =>
    cases tg with
    | Tuple es j tp => exact ⟨es, j, tp, rfl⟩
    | Name y py =>
      have hg : (if cc.as.contains y then match ixOf cc.N y with
        | some i => if cc.xi = some i then none else some (QG.nm i)
        | none => none
        else none) = some (QG.tp gs) := hg
      split at hg
      · split at hg
        · split at hg <;> cases hg
        · cases hg
      · cases hg
    | _ => cases hg
/-- what is walked; that no set display is walked -/
theorem iter_ok (x : XG W cc k ev X E) {f : Expr → Option QE} (hf : ∀ e p, f e = some p → notStar e = true ∧ PE X e (RE W cc a E ev p)) (hset : ∀ e p, f e = some p → notSet e = true) {tg : Expr} {g : QG} (hg : ∀ gs, g = .tp gs → ∃ es j tp, tg = .Tuple es j tp) {e : Expr} {p : QI} (h : cIter cc f g e = some p) : PI X tg e (RI W cc a E ev p) ∧ notSet e = true := by
  have val : ∀ e, (f e).map QI.v = some p → PI X tg e (RI W cc a E ev p) ∧ notSet e = true := fun e h => by
    cases e1 : f e with
    | none => rw [e1] at h; cases h
    | some q =>
      rw [e1] at h
      cases h
      exact ⟨i_v x (hf e q e1).2, hset e q e1⟩
  unfold cIter at h
  split at h
  · rename_i y p1 args kws pos1
    split at h
    · rename_i hpg
      obtain ⟨hp, hgl⟩ := glb_of hpg
      split at h
      · rename_i hl
        obtain ⟨rfl, hm⟩ := x.gl _ _ hl
        split at h
        · rename_i e1
          cases e2 : f e1 with
          | none => rw [e2] at h; cases h
          | some q =>
            rw [e2] at h
            cases h
            exact ⟨i_rng1 x hgl hm (hf _ _ e2).1 (hf _ _ e2).2, rfl⟩
        · rename_i e1 e2
          split at h
          · rename_i q1 q2 h1 h2
            cases h
            exact ⟨i_rng2 x hgl hm (hf _ _ h1).1 (hf _ _ h2).1 (hf _ _ h1).2 (hf _ _ h2).2, rfl⟩
          · cases h
        · cases h
      · rename_i hl
        obtain ⟨rfl, hm⟩ := x.gl _ _ hl
        split at h
        · rename_i e1 e2 gs
          split at h
          · rename_i q1 q2 h1 h2
            cases h
            have ht := hg gs rfl
            obtain ⟨es, j, tp, rfl⟩ := ht
            exact ⟨i_zip x hgl hm (hf _ _ h1).1 (hf _ _ h2).1 (hf _ _ h1).2 (hf _ _ h2).2, rfl⟩
          · cases h
        · cases h
      · rename_i hl
        obtain ⟨rfl, hm⟩ := x.gl _ _ hl
        split at h
        · rename_i e1 gs
          cases e2 : f e1 with
          | none => rw [e2] at h; cases h
          | some q =>
            rw [e2] at h
            cases h
            have ht := hg gs rfl
            obtain ⟨es, j, tp, rfl⟩ := ht
            exact ⟨i_enum x hgl hm (hf _ _ e2).1 (hf _ _ e2).2, rfl⟩
        · cases h
      · exact val _ h
    · cases h
  · cases h
  · exact val _ h
theorem setIt {e : Expr} {env : Env} (h : notSet e = true) (x : Value) : foldedSetIterable e env x = pure x := by
  cases e <;> first | rfl | cases h
def OkE (n : Nat) : Prop := ∀ (cc : CC) (e : Expr) (p : QE), cE n cc e = some p → ∀ (W : WD) (k : Nat) (ev : Ev) (X : Cx) (E : WX) (a : Addr), XG W cc k ev X E → PE X e (RE W cc a E ev p)
def OkT (n : Nat) : Prop := ∀ (cc : CC) (e : Expr) (p : QT), cT n cc e = some p → ∀ (W : WD) (k : Nat) (ev : Ev) (X : Cx) (E : WX) (a : Addr), XG W cc k ev X E → PT X e (RT W cc a E ev p)
theorem lc_parts (n : Nat) (hE : OkE n) (hT : OkT n) (x : XG W cc k ev X E) {elt tg iter : Expr} {ifs : List Expr} {scope : Scope} {own : List (Str × Nat)} {g : QG} {it : QI} {el : QE} {ct : QT} (hg : cTgt (cBlk cc scope own) 4 tg = some g) (hi : cIter cc (cE n cc) g iter = some it) (he : cE n (cBlk cc scope own) elt = some el)
    (hc : (ifs = [] ∧ ct = .yes) ∨ ∃ c, ifs = [c] ∧ cT n (cBlk cc scope own) c = some ct) (hxg : ∀ (s : Shared) (H : Hp) (C : Addr) (cl : List (Str × Addr)) (fp : List Addr), XG W (cBlk cc scope own) k ev (X.blk s H scope (compEnvC scope cl C X.env) fp) F0) :
    (∀ X', XG W (cBlk cc scope own) k ev X' F0 → PE X' elt (RE W (cBlk cc scope own) a F0 ev el)) ∧ (∀ X', XG W (cBlk cc scope own) k ev X' F0 → PTs X' ifs (RT W (cBlk cc scope own) a F0 ev ct)) := by
  refine ⟨fun X' x' => hE _ _ _ he W k ev X' F0 a x', fun X' x' => ?_⟩
  rcases hc with ⟨rfl, rfl⟩ | ⟨c, rfl, h⟩
  · exact ⟨fun pins s σ H Q I ⟨m, h, s', r, sr, xi, z⟩ => pts_nil.run pins s σ H Q I (show Q true H from by
      have z : Sat W.G RB m H (.ok true h) Q _ := z
      exact z.ok r rfl)⟩
  · exact pts_one (hT _ _ _ h W k ev X' F0 a x')
theorem all_ok : ∀ n : Nat, OkE n ∧ OkT n
  | 0 => ⟨fun cc e p h => by simp [cE] at h, fun cc e p h => by simp [cT] at h⟩
  | n + 1 => by
    obtain ⟨hE, hT⟩ := all_ok n
    have main : OkE (n + 1) := fun cc e p h W k ev X E a x => by
      have hf : ∀ e p, cE n cc e = some p → notStar e = true ∧ PE X e (RE W cc a E ev p) := fun e p h => ⟨(cE_kind h).1, hE cc e p h W k ev X E a x⟩
      have hset : ∀ e p, cE n cc e = some p → notSet e = true := fun e p h => (cE_kind h).2.2
      cases e with
      | Constant c j pos =>
        have h : (cConst c).map QE.con = some p := h
        cases e1 : cConst c with
        | none => rw [e1] at h; cases h
        | some d => rw [e1] at h; cases h; exact k_const e1
      | Name y pos => exact k_name x h
      | BinOp a1 op b1 pos =>
        change (match (generalizing := false) cE n cc a1, cE n cc b1 with
          | some p, some q => some (QE.bin op p q)
          | _, _ => none) = some p at h
        split at h
        · rename_i q1 q2 h1 h2
          cases h
          exact k_bin x (hf _ _ h1).2 (hf _ _ h2).2
        · cases h
      | UnaryOp op a1 pos =>
        cases op with
        | USub =>
          have h : (cE n cc a1).map QE.neg = some p := h
          cases e1 : cE n cc a1 with
          | none => rw [e1] at h; cases h
          | some q => rw [e1] at h; cases h; exact k_neg x (hf _ _ e1).2
        | Not =>
          have h : (cE n cc a1).map QE.nott = some p := h
          cases e1 : cE n cc a1 with
          | none => rw [e1] at h; cases h
          | some q => rw [e1] at h; cases h; exact k_nott x (hf _ _ e1).2
        | _ => cases h
      | BoolOp op vs pos =>
        cases op with
        | And => exact foldA_ok x hf h
        | Or => exact foldO_ok x hf h
      | Compare a1 ops bs pos =>
        change (match (generalizing := false) ops, bs with
          | [op], [b] => match cE n cc a1, cE n cc b with
            | some p, some q => some (QE.cmp op p q)
            | _, _ => none
          | [op, op'], [b, c] => match cE n cc a1, cE n cc b, cE n cc c with
            | some p, some q, some r => some (QE.chain op op' p q r)
            | _, _, _ => none
          | _, _ => none) = some p at h
        split at h
        · split at h
          · rename_i h1 h2
            cases h
            exact k_cmp x (cE_kind h2).2.2 (hf _ _ h1).2 (hf _ _ h2).2
          · cases h
        · split at h
          · rename_i h1 h2 h3
            cases h
            exact k_chain x (cE_kind h3).2.2 (hf _ _ h1).2 (hf _ _ h2).2 (hf _ _ h3).2
          · cases h
        · cases h
      | IfExp t1 a1 b1 pos =>
        change (match (generalizing := false) cT n cc t1, cE n cc a1, cE n cc b1 with
          | some t, some p, some q => some (QE.ife t p q)
          | _, _, _ => none) = some p at h
        split at h
        · rename_i h1 h2 h3
          cases h
          exact k_ife x (hT cc _ _ h1 W k ev X E a x) (hf _ _ h2).2 (hf _ _ h3).2
        · cases h
      | Tuple es j pos =>
        have h : (cList (cE n cc) es).map QE.tup = some p := h
        cases e1 : cList (cE n cc) es with
        | none => rw [e1] at h; cases h
        | some q => rw [e1] at h; cases h; exact k_tup (list_ok hf e1).2.2
      | List es pos =>
        have h : (cList (cE n cc) es).map QE.lst = some p := h
        cases e1 : cList (cE n cc) es with
        | none => rw [e1] at h; cases h
        | some q => rw [e1] at h; cases h; exact k_lst (list_ok hf e1).2.2
      | Subscript a1 i1 pos =>
        have idx : (match cE n cc a1, cE n cc i1 with
          | some p, some q => some (QE.idx p q)
          | _, _ => none) = some p → PE X (.Subscript a1 i1 pos) (RE W cc a E ev p) := fun h => by
          split at h
          · rename_i h1 h2
            cases h
            exact k_idx x (cE_kind h2).2.1 (hf _ _ h1).2 (hf _ _ h2).2
          · cases h
        cases i1 with
        | Slice lo hi st pos2 =>
          change (match (generalizing := false) st, cE n cc a1, cOpt (cE n cc) lo, cOpt (cE n cc) hi with
            | none, some p, some l, some u => some (QE.slc p l u)
            | _, _, _, _ => none) = some p at h
          split at h
          · rename_i h1 h2 h3
            cases h
            exact k_slc x (hf _ _ h1).2 (opt_ok hf h2) (opt_ok hf h3)
          · cases h
        | _ => exact idx h
      | Call f args kws cp =>
        cases f with
        | Name y p1 => exact call_ok x hf h
        | Attribute o md ap =>
          change (match (generalizing := false) mthOf md with
            | some k => match (generalizing := false) args, kws with
              | [a], [] => match (generalizing := false) (ap.endLine == cp.line) && notCall o, cE n cc o, cE n cc a with
                | true, some p, some q => some (QE.mth k p (.cons q .nil))
                | _, _, _ => none
              | _, _ => none
            | none => match (generalizing := false) cDget cc (cE n cc) o md ap cp args kws with
              | some p => some p
              | none => cMeth cc (cE n cc) o md ap cp args kws) = some p at h
          split at h
          · rename_i h0
            split at h
            · split at h
              · rename_i h1 h2 h3
                cases h
                rw [Bool.and_eq_true] at h1
                exact k_mth x h0 h1.1 h1.2 (hf _ _ h3).1 (hf _ _ h2).2 (hf _ _ h3).2
              · cases h
            · cases h
          · split at h
            · rename_i h0
              cases h
              exact dget_ok x hf h0
            · exact meth_ok x hf h
        | _ => cases h
      | Attribute o f pos =>
        change (if isXi cc o && xFlds.contains f then some (QE.excF f) else cFld cc (cE n cc) o f) = some p at h
        split at h
        · rename_i h0
          cases h
          rw [Bool.and_eq_true] at h0
          exact k_excF x h0.1 (by simpa using h0.2)
        · exact fld_ok x hf h
      | ListComp elt gs scope pos =>
        change (match (generalizing := false) gs with
          | [⟨tg, it, ifs, as⟩] => match decide (as = 0) && !cc.hot, ownOf cc.N scope.names with
            | true, some own => match blkC cc.N cc.sc scope own with
              | true => match cTgt (cBlk cc scope own) 4 tg with
                | some g => match cIter cc (cE n cc) g it, cE n (cBlk cc scope own) elt with
                  | some i, some el => match ifs with
                    | [] => some (QE.lc el g i (own.map (·.2)) .yes)
                    | [c] => match cT n (cBlk cc scope own) c with
                      | some t => some (QE.lc el g i (own.map (·.2)) t)
                      | none => none
                    | _ => none
                  | _, _ => none
                | none => none
              | false => none
            | _, _ => none
          | _ => none) = some p at h
        split at h
        · rename_i tg it ifs as
          split at h
          · rename_i own h0 hown
            rw [Bool.and_eq_true] at h0
            have has : as = 0 := of_decide_eq_true h0.1
            have hcold : cc.hot = false := by simpa using h0.2
            subst has
            split at h
            · rename_i hb
              split at h
              · rename_i g hg
                split at h
                · rename_i i el hi he
                  obtain ⟨pi, ns⟩ := iter_ok x hf hset (tgt_tup hg) hi
                  have fin : ∀ ct, ((ifs = [] ∧ ct = .yes) ∨ ∃ c, ifs = [c] ∧ cT n (cBlk cc scope own) c = some ct) → p = .lc el g i (own.map (·.2)) ct → PE X (.ListComp elt [⟨tg, it, ifs, 0⟩] scope pos) (RE W cc a E ev p) := fun ct hc ep => by
                    obtain ⟨pe, pt⟩ := lc_parts (a := a) n hE hT x hg hi he hc (xg_blk x hcold hown hb)
                    rw [ep]
                    exact k_lc x hcold hown hb hg pi pe pt (setIt ns)
                  split at h
                  · cases h
                    exact fin _ (.inl ⟨rfl, rfl⟩) rfl
                  · rename_i c
                    split at h
                    · rename_i t ht
                      cases h
                      exact fin _ (.inr ⟨c, rfl, ht⟩) rfl
                    · cases h
                  · cases h
                · cases h
              · cases h
            · cases h
          · cases h
        · cases h
      | _ => cases h
    refine ⟨main, fun cc e p h W k ev X E a x => ?_⟩
    have hf : ∀ e p, cE n cc e = some p → notStar e = true ∧ PE X e (RE W cc a E ev p) := fun e p h => ⟨(cE_kind h).1, hE cc e p h W k ev X E a x⟩
    have ht : ∀ e p, cT n cc e = some p → PT X e (RT W cc a E ev p) := fun e p h => hT cc e p h W k ev X E a x
    have val : ∀ e, (∀ whole, isTrue e X.env whole = (do let v ← whole; standAt e.pos; holding [v] (truthy v))) → (cE n cc e).map QT.v = some p → PT X e (RT W cc a E ev p) := fun e he h => by
      cases e1 : cE n cc e with
      | none => rw [e1] at h; cases h
      | some q =>
        rw [e1] at h
        cases h
        exact t_v x he (hf _ _ e1).2
    cases e with
    | UnaryOp op a1 pos =>
      cases op with
      | Not =>
        have h : (cT n cc a1).map QT.not = some p := h
        cases e1 : cT n cc a1 with
        | none => rw [e1] at h; cases h
        | some q => rw [e1] at h; cases h; exact t_not (ht _ _ e1)
      | _ => exact val _ (fun _ => rfl) h
    | BoolOp op vs pos =>
      cases op with
      | And => exact (foldTA_ok ht h).pt
      | Or => exact (foldTO_ok ht h).pt
    | Compare a1 ops bs pos =>
      have h : (cE n cc (.Compare a1 ops bs pos)).map QT.v = some p := h
      cases e1 : cE n cc (.Compare a1 ops bs pos) with
      | none => rw [e1] at h; cases h
      | some q0 =>
        rw [e1] at h
        cases h
        cases n with
        | zero => cases e1
        | succ n' =>
          have lift : ∀ e p, cE n' cc e = some p → PE X e (RE W cc a E ev p) := fun e p h => (all_ok n').1 cc e p h W k ev X E a x
          have h : (match (generalizing := false) ops, bs with
            | [op], [b] => match cE n' cc a1, cE n' cc b with
              | some p, some q => some (QE.cmp op p q)
              | _, _ => none
            | [op, op'], [b, c] => match cE n' cc a1, cE n' cc b, cE n' cc c with
              | some p, some q, some r => some (QE.chain op op' p q r)
              | _, _, _ => none
            | _, _ => none) = some q0 := e1
          split at h
          · split at h
            · rename_i h1 h2
              cases h
              exact t_cmp x (cE_kind h2).2.2 (lift _ _ h1) (lift _ _ h2)
            · cases h
          · split at h
            · rename_i h1 h2 h3
              cases h
              exact t_chain x (cE_kind h3).2.2 (lift _ _ h1) (lift _ _ h2) (lift _ _ h3)
            · cases h
          · cases h
    | IfExp t1 a1 b1 pos => cases h
    | _ => exact val _ (fun _ => rfl) h
end
end PV
/-! PVJ: statements: what their code says. -/
namespace PV
open PySem PySem.Spec PyProof.Rows L2
/-- a statement's end, asked -/
def SatS (G : GW) (xi : Option Nat) (a : Addr) (m : List Addr) (H : Hp) (o : SOut) (D : Ends) (E : WX) : Prop := match o with
  | .nx s h => ∀ m' H' σ', Step m H m' H' → Rel G m' h H' → SR G m' H' s σ' → XiOk xi a σ' → D.nx σ' H'
  | .bk s h => ∀ m' H' σ', Step m H m' H' → Rel G m' h H' → SR G m' H' s σ' → XiOk xi a σ' → D.bk σ' H'
  | .ct s h => ∀ m' H' σ', Step m H m' H' → Rel G m' h H' → SR G m' H' s σ' → XiOk xi a σ' → D.ct σ' H'
  | .rt d h => ∀ m' H' v, Step m H m' H' → Rel G m' h H' → DR G.K m' H' d v → D.rt v H'
  | .ex e s h => ∀ m' H' σ' cls dx, Step m H m' H' → Rel G m' h H' → SR G m' H' s σ' → XiOk xi a σ' → ExR G m' H' e cls dx → E cls dx σ' H'
  | .no => False
section
variable {G : GW} {xi : Option Nat} {a : Addr} {m m1 : List Addr} {H H1 : Hp} {D : Ends} {E : WX}
theorem SatS.trans {o : SOut} (z : SatS G xi a m H o D E) (t : Step m H m1 H1) : SatS G xi a m1 H1 o D E := by
  cases o with
  | nx s h => exact fun m' H' σ' st => z m' H' σ' (t.trans st)
  | bk s h => exact fun m' H' σ' st => z m' H' σ' (t.trans st)
  | ct s h => exact fun m' H' σ' st => z m' H' σ' (t.trans st)
  | rt d h => exact fun m' H' v st => z m' H' v (t.trans st)
  | ex e s h => exact fun m' H' σ' c d st => z m' H' σ' c d (t.trans st)
  | no => exact z
/-- an expression within a statement -/
theorem SatS.st {α β : Type} {R : List Addr → Hp → α → β → Prop} {o : Out α} {s : Sl} {σ : L2.St} {f : α → Hd → SOut} {Q : β → Hp → Prop} (z : SatS G xi a m H (o.st s f) D E) (sr : SR G m H s σ) (x : XiOk xi a σ)
    (k : ∀ d h1 m1 H1 v, Step m H m1 H1 → Rel G m1 h1 H1 → R m1 H1 d v → SatS G xi a m1 H1 (f d h1) D E → Q v H1) : Sat G R m H o Q (fun c d H' => E c d σ H') := by
  cases o with
  | ok d h => exact fun m1 H1 v t r q => k d h m1 H1 v t r q (SatS.trans (o := f d h) z t)
  | ex e h => exact fun m1 H1 c dx t r q => z m1 H1 σ c dx t r (sr.step t) x q
  | no => exact z
theorem SatS.nx {s : Sl} {h : Hd} {σ : L2.St} (z : SatS G xi a m H (.nx s h) D E) (r : Rel G m h H) (sr : SR G m H s σ) (x : XiOk xi a σ) : D.nx σ H := z m H σ r.step r sr x
end
/-- the reading of a piece of code -/
def rdS (W : WD) (cc : CC) (E : WX) (F : Sl → Hd → SOut) : TS := fun D σ H => ∃ m h s, Rel W.G m h H ∧ SR W.G m H s σ ∧ XiOk cc.xi W.xa σ ∧ SatS W.G cc.xi W.xa m H (F s h) D E
/-- where a statement stands -/
structure XS (W : WD) (cc : CC) (k : Nat) (ev : Ev) (X : Cx) (E : WX) : Prop extends XG W cc k ev X E where
  po : cc.hot = false → PassesOwn (model X.prog X.w) X.A X.env X.xe
  stk : cc.hot = false → X.stack = X.env :: X.outer ∧ X.env.frame = some X.env.locals
  fun_ : cc.sc.kind = .function
theorem PS.imp {X : Cx} {e : Stmt} {t t' : TS} (p : PS X e t) (h : ∀ D σ H, t' D σ H → t D σ H) : PS X e t' := ⟨fun pins s σ H D I q => p.run pins s σ H D I (h D σ H q)⟩
theorem PSs.imp {X : Cx} {e : List Stmt} {t t' : TS} (p : PSs X e t) (h : ∀ D σ H, t' D σ H → t D σ H) : PSs X e t' := ⟨fun pins s σ H D I q => p.run pins s σ H D I (h D σ H q)⟩
section
variable {W : WD} {cc : CC} {k : Nat} {ev : Ev} {X : Cx} {E : WX} {a : Addr}
variable {e e1 e2 e3 : Expr} {p q r : QE} {pos : Pos} {st : Stmt} {sts : List Stmt}
abbrev RSt (W : WD) (cc : CC) (E : WX) (ev : Ev) (c : QS) : TS := rdS W cc E (exS ev c)
abbrev RSs (W : WD) (cc : CC) (E : WX) (ev : Ev) (c : QSs) : TS := rdS W cc E (exSs ev c)
theorem ss_nil : PSs X [] (RSs W cc E ev .nil) := PSs.imp pss_nil fun D σ H ⟨m, h, s, r, sr, xi, z⟩ => by
  have z : SatS W.G cc.xi W.xa m H (.nx s h) D E := z
  exact z.nx r sr xi
theorem ss_cons {c : QS} {cs : QSs} (h1 : PS X st (RSt W cc E ev c)) (h2 : PSs X sts (RSs W cc E ev cs)) : PSs X (st :: sts) (RSs W cc E ev (.cons c cs)) :=
  PSs.imp (pss_cons h1 h2) fun D σ H ⟨m, h, s, r, sr, xi, z⟩ => by
    have z : SatS W.G cc.xi W.xa m H (match exS ev c s h with
      | .nx s1 h1 => exSs ev cs s1 h1
      | o => o) D E := z
    refine ⟨m, h, s, r, sr, xi, ?_⟩
    cases e0 : exS ev c s h with
    | nx s1 h1 =>
      rw [e0] at z
      exact fun m1 H1 σ1 st r1 sr1 x1 => ⟨m1, h1, s1, r1, sr1, x1, SatS.trans (o := exSs ev cs s1 h1) z st⟩
    | bk s1 h1 => rw [e0] at z; exact z
    | ct s1 h1 => rw [e0] at z; exact z
    | rt d h1 => rw [e0] at z; exact z
    | ex ex s1 h1 => rw [e0] at z; exact z
    | no => rw [e0] at z; exact z
theorem s_pass : PS X (.Pass pos) (RSt W cc E ev .pass) := PS.imp ps_pass fun D σ H ⟨m, h, s, r, sr, xi, z⟩ => by
  have z : SatS W.G cc.xi W.xa m H (.nx s h) D E := z
  exact z.nx r sr xi
theorem s_doc {x : Str} {j : Nat} {pos' : Pos} : PS X (.Expr (.Constant (.str x) j pos) pos') (RSt W cc E ev .pass) := PS.imp ps_doc fun D σ H ⟨m, h, s, r, sr, xi, z⟩ => by
  have z : SatS W.G cc.xi W.xa m H (.nx s h) D E := z
  exact z.nx r sr xi
theorem s_brk : PS X (.Break pos) (RSt W cc E ev .brk) := PS.imp ps_break fun D σ H ⟨m, h, s, r, sr, xi, z⟩ => z m H σ r.step r sr xi
theorem s_cnt : PS X (.Continue pos) (RSt W cc E ev .cnt) := PS.imp ps_continue fun D σ H ⟨m, h, s, r, sr, xi, z⟩ => z m H σ r.step r sr xi
theorem s_expr (ha : PE X e (RE W cc a E ev p)) (hs : swapsWith e none pos.line X.env = pure false) : PS X (.Expr e pos) (RSt W cc E ev (.expr p)) :=
  PS.imp (ps_expr ha hs) fun D σ H ⟨m, h, s, r, sr, xi, z⟩ => by
    have z : SatS W.G cc.xi W.xa m H ((evE ev p s h).st s fun _ h1 => .nx s h1) D E := z
    exact ⟨m, h, s, r, sr, xi, z.st sr xi fun d h1 m1 H1 v st r1 dv z1 => z1.nx r1 (sr.step st) xi⟩
theorem s_ret (ha : PE X e (RE W cc a E ev p)) : PS X (.Return (some e) pos) (RSt W cc E ev (.ret p)) :=
  PS.imp (ps_ret ha) fun D σ H ⟨m, h, s, r, sr, xi, z⟩ => by
    have z : SatS W.G cc.xi W.xa m H ((evE ev p s h).st s fun d h1 => .rt d h1) D E := z
    exact ⟨m, h, s, r, sr, xi, z.st sr xi fun d h1 m1 H1 v st r1 dv z1 => z1 m1 H1 v r1.step r1 dv⟩
theorem s_retN : PS X (.Return none pos) (RSt W cc E ev .retN) := PS.imp ps_retN fun D σ H ⟨m, h, s, r, sr, xi, z⟩ => z m H .non r.step r .non
theorem s_if {c : QT} {b1 b2 : List Stmt} {c1 c2 : QSs} (hc : PT X e (RT W cc a E ev c)) (h1 : PSs X b1 (RSs W cc E ev c1)) (h2 : PSs X b2 (RSs W cc E ev c2)) : PS X (.If e b1 b2 pos) (RSt W cc E ev (.ife c c1 c2)) :=
  PS.imp (ps_if hc h1 h2) fun D σ H ⟨m, h, s, r, sr, xi, z⟩ => by
    have z : SatS W.G cc.xi W.xa m H ((evT ev c s h).st s fun k h1 => match k with
      | true => exSs ev c1 s h1
      | false => exSs ev c2 s h1) D E := z
    refine ⟨m, h, s, r, sr, xi, z.st sr xi fun d h1 m1 H1 v st r1 dv z1 => ?_⟩
    have dv : d = v := dv
    subst dv
    cases d with
    | true => exact iteT ⟨m1, h1, s, r1, sr.step st, xi, z1⟩
    | false => exact iteF ⟨m1, h1, s, r1, sr.step st, xi, z1⟩
/-- target = value, when the value is in hand -/
theorem asg_go {g : QG} {m : List Addr} {h : Hd} {H : Hp} {s : Sl} {σ : L2.St} {d : D} {v : V} {D : Ends} (hx : ∀ i ∈ gIx g, cc.xi ≠ some i) (r : Rel W.G m h H) (sr : SR W.G m H s σ) (xi : XiOk cc.xi W.xa σ) (dv : DR W.G.K m H d v) (z : SatS W.G cc.xi W.xa m H (asgO (bindG g d s) h) D E) : rg W.G g v σ H D.nx := by
  cases e0 : bindG g d s with
  | none => rw [e0] at z; exact False.elim z
  | some s2 =>
    rw [e0] at z
    have z : SatS W.G cc.xi W.xa m H (.nx s2 h) D E := z
    exact ⟨m, h, s, d, s2, r, sr, dv, e0, fun σ2 sr2 fr => z.nx r sr2 (xi_fr fr hx xi)⟩
theorem s_asg {tg : Expr} {g : QG} (hx : ∀ i ∈ gIx g, cc.xi ≠ some i) (ha : PE X e (RE W cc a E ev p)) (hg : PG X tg (rg W.G g)) (hs : swapsWithSole [tg] e pos.line X.env = pure false) (hw : swappedStores [tg] e X.env = pure none) (h1 : (assignEach [tg] X.env).map (·.2) = [assign tg X.env]) : PS X (.Assign [tg] e pos) (RSt W cc E ev (.asg g p)) :=
  PS.imp (ps_asg ha hg hs hw h1) fun D σ H ⟨m, h, s, r, sr, xi, z⟩ => by
    have z : SatS W.G cc.xi W.xa m H ((evE ev p s h).st s fun d h1 => asgO (bindG g d s) h1) D E := z
    exact ⟨m, h, s, r, sr, xi, z.st sr xi fun d h1 m1 H1 v st r1 dv z1 => asg_go hx r1 (sr.step st) xi dv z1⟩
/-- .. a comprehension on one line with its name -/
theorem s_asgN {tg : Expr} {i : Nat} (hx : cc.xi ≠ some i) (hp : PS X (.Assign [tg] e pos) (tAsg (RE W cc a E ev p) (gName i))) : PS X (.Assign [tg] e pos) (RSt W cc E ev (.asg (.nm i) p)) :=
  PS.imp hp fun D σ H ⟨m, h, s, r, sr, xi, z⟩ => by
    have z : SatS W.G cc.xi W.xa m H ((evE ev p s h).st s fun d h1 => asgO (bindG (.nm i) d s) h1) D E := z
    refine ⟨m, h, s, r, sr, xi, z.st sr xi fun d h1 m1 H1 v st r1 dv z1 => ?_⟩
    have z1 : SatS W.G cc.xi W.xa m1 H1 (.nx (s.set i (some d)) h1) D E := by simpa [bindG, asgO] using z1
    refine z1.nx r1 ((sr.step st).set dv i) (xi_fr (l := [i]) ⟨by rw [List.length_set], fun j hj => ?_⟩ (fun j hj => ?_) xi)
    · rw [List.getElem?_set_ne fun z => hj (by simp [z])]
    · have : j = i := by simpa using hj
      rw [this]; exact hx
theorem s_par {i j : Nat} {x y : Str} {px py pt : Pos} {kt k2 : Nat} {pt2 : Pos} (xs : XG W cc k ev X E) (hcold : cc.hot = false) (hxi : cc.xi = none) (hi : ixOf cc.N x = some i) (hj : ixOf cc.N y = some j) (hxy : x ≠ y) (lx : cc.sc.names.lookup x = some .local) (ly : cc.sc.names.lookup y = some .local) (s1 : notStar e1 = true) (s2 : notStar e2 = true)
    (ha : PE X e1 (RE W cc a E ev p)) (hb : PE X e2 (RE W cc a E ev q)) (hw : swappedStores [.Tuple [.Name x px, .Name y py] kt pt] (.Tuple [e1, e2] k2 pt2) X.env = pure (some [x, y])) : PS X (.Assign [.Tuple [.Name x px, .Name y py] kt pt] (.Tuple [e1, e2] k2 pt2) pos) (RSt W cc E ev (.par i j p q)) := by
  have gi := ixOf_get hi
  have gj := ixOf_get hj
  have hij : i ≠ j := fun z => by
    rw [z, gj] at gi
    exact hxy (Option.some.inj gi).symm
  refine PS.imp (ps_par (xs.room hcold).1 (by rw [xs.N]; exact xs.nd) (by rw [xs.N]; exact gi) (by rw [xs.N]; exact gj) hij (by rw [xs.sc]; exact lx) (by rw [xs.sc]; exact ly) (as_cons s1 ha (as_cons s2 hb as_nil)) hw) fun D σ H ⟨m, h, s, r, sr, xi, z⟩ => ?_
  have z : SatS W.G cc.xi W.xa m H ((evE ev p s h).st s fun x h1 => (evE ev q s h1).st s fun y h2 => .nx ((s.set i (some x)).set j (some y)) h2) D E := z
  refine ⟨m, h, s, r, sr, xi, ?_⟩
  show Sat W.G (RDs W.G) m H ((evE ev p s h).bind fun x h1 => ((evE ev q s h1).bind fun y h2 => (Out.ok [] h2).bind fun xs h3 => .ok (y :: xs) h3).bind fun xs h2 => .ok (x :: xs) h2) _ _
  cases e0 : evE ev p s h with
  | no => rw [e0] at z; exact False.elim z
  | ex ex h1 => rw [e0] at z; exact fun m1 H1 c dx t r1 q1 => z m1 H1 σ c dx t r1 (sr.step t) xi q1
  | ok d h1 =>
    rw [e0] at z
    have z : SatS W.G cc.xi W.xa m H ((evE ev q s h1).st s fun y h2 => .nx ((s.set i (some d)).set j (some y)) h2) D E := z
    show Sat W.G (RDs W.G) m H (((evE ev q s h1).bind fun y h2 => (Out.ok [] h2).bind fun xs h3 => .ok (y :: xs) h3).bind fun xs h2 => .ok (d :: xs) h2) _ _
    cases e1 : evE ev q s h1 with
    | no => rw [e1] at z; exact False.elim z
    | ex ex h2 => rw [e1] at z; exact fun m1 H1 c dx t r1 q1 => z m1 H1 σ c dx t r1 (sr.step t) xi q1
    | ok d2 h2 =>
      rw [e1] at z
      have z : SatS W.G cc.xi W.xa m H (.nx ((s.set i (some d)).set j (some d2)) h2) D E := z
      intro m1 H1 v st r1 dv
      obtain ⟨v1, v2, rfl, d1, d3⟩ := two_of dv
      exact ⟨v1, v2, rfl, z m1 H1 _ st r1 (((sr.step st).set d1 i).set d3 j) (by rw [hxi]; trivial)⟩
/-- o[i] = d on a list -/
theorem s_sub (x : XG W cc k ev X E) {o i : Expr} {po pi pe : QE} {tp : Pos} (hi : notSlice i = true) (he : PE X e (RE W cc a E ev pe)) (ho : PE X o (RE W cc a E ev po)) (hix : PE X i (RE W cc a E ev pi)) (hs : swapsWithSole [.Subscript o i tp] e pos.line X.env = pure false) : PS X (.Assign [.Subscript o i tp] e pos) (RSt W cc E ev (.sub po pi pe)) := by
  refine PS.imp (ps_asg he (pg_sub ho hix set_list (by intro v; cases i <;> first | rfl | cases hi)) hs (by rfl) (by rfl)) fun D σ H ⟨m, h, s, r, sr, xi, z⟩ => ?_
  have z : SatS W.G cc.xi W.xa m H ((evE ev pe s h).st s fun d h1 => (evE ev po s h1).st s fun x h2 => (evE ev pi s h2).st s fun y h3 => subV x y d s h3) D E := z
  refine ⟨m, h, s, r, sr, xi, z.st (R := RD W.G) sr xi fun d h1 m1 H1 v st r1 dv z1 => ⟨m1, h1, s, r1, sr.step st, xi, z1.st (R := RD W.G) (sr.step st) xi fun d2 h2 m2 H2 v2 st2 r2 dv2 z2 => ⟨m2, h2, s, r2, (sr.step st).step st2, xi, z2.st (R := RD W.G) ((sr.step st).step st2) xi fun d3 h3 m3 H3 v3 st3 r3 dv3 z3 => ?_⟩⟩⟩
  have dv := (dv.step st2).step st3
  have dv2 := dv2.step st3
  have sr3 := ((sr.step st).step st2).step st3
  cases d2 with
  | ref n =>
    cases d3 with
    | int kk =>
      have z3 : SatS W.G cc.xi W.xa m3 H3 (match lstAt h3 n with
        | some xs => match L2.ixN xs.length kk with
          | some j => .nx s (h3.set n (.lst (xs.set j d)))
          | none => .no
        | none => .no) D E := z3
      split at z3
      · rename_i xs e0
        split at z3
        · rename_i j e1
          obtain ⟨b, vs, rfl, eb, hb, dd⟩ := r3.lstV dv2 e0
          cases dv3
          obtain ⟨st4, r4⟩ := lst_set r3 eb hb (dd.set dv j)
          exact ⟨b, vs, kk, j, rfl, rfl, hb, by rw [← dd.length]; exact e1, z3 m3 _ σ st4 r4 (sr3.step st4) xi⟩
        · exact False.elim z3
      · exact False.elim z3
    | _ => exact False.elim z3
  | _ => exact False.elim z3
theorem s_fset (x : XG W cc k ev X E) {o : Expr} {f : Str} {fs : List Str} {po pe : QE} {fp : Pos} (hl : cc.gl.lookup ("." : Str) = some (.flds fs)) (hf : f ∈ fs) (he : PE X e (RE W cc a E ev pe)) (ho : PE X o (RE W cc a E ev po)) (hs : swapsWith e (some (.Attribute o f fp)) pos.line X.env = pure false) : PS X (.Assign [.Attribute o f fp] e pos) (RSt W cc E ev (.fset po f pe)) := by
  refine PS.imp (ps_fld ho he hs) fun D σ H ⟨m, h, s, r, sr, xi, z⟩ => ?_
  have z : SatS W.G cc.xi W.xa m H ((evE ev pe s h).st s fun d h1 => (evE ev po s h1).st s fun x h2 => setF f d s x h2) D E := z
  refine ⟨m, h, s, r, sr, xi, z.st (R := RD W.G) sr xi fun d h1 m1 H1 v st r1 dv z1 => ⟨m1, h1, s, r1, sr.step st, xi, z1.st (R := RD W.G) (sr.step st) xi fun d2 h2 m2 H2 v2 st2 r2 dv2 z2 => ?_⟩⟩
  have dv := dv.step st2
  have sr2 := (sr.step st).step st2
  cases d2 with
  | ref n =>
    have z2 : SatS W.G cc.xi W.xa m2 H2 (match objAt h2 n with
      | some (C, fs) => match decide (fs.length < 1000) with
        | true => .nx s (h2.set n (.obj C (putD f d fs)))
        | false => .no
      | none => .no) D E := z2
    cases e0 : objAt h2 n with
    | none => rw [e0] at z2; exact False.elim z2
    | some c =>
      obtain ⟨C, fs'⟩ := c
      rw [e0] at z2
      have z2 : SatS W.G cc.xi W.xa m2 H2 (match decide (fs'.length < 1000) with
        | true => .nx s (h2.set n (.obj C (putD f d fs')))
        | false => .no) D E := z2
      cases e1 : decide (fs'.length < 1000) with
      | false => rw [e1] at z2; exact False.elim z2
      | true =>
        rw [e1] at z2
        obtain ⟨b, Ca, dx, vs, rfl, eb, oc, hb, fr⟩ := r2.obj dv2 e0
        obtain ⟨c1, c2⟩ := x.gl _ _ hl C Ca oc
        have hw : ∀ b' u, b' ≠ b → H2 b' = some u → upd H2 b (.ins Ca dx (putF f v vs)) b' = some u := fun b' u hne q => by rw [upd_ne hne]; exact q
        have tp : ∀ b' xs, H2 b' = some (.tup xs) → upd H2 b (.ins Ca dx (putF f v vs)) b' = some (.tup xs) := fun b' xs q => hw b' _ (fun z => by rw [z, hb] at q; cases q) q
        have fz : ∀ b' o u, H2 b' = some (.frz o u) → upd H2 b (.ins Ca dx (putF f v vs)) b' = some (.frz o u) := fun b' o u q => hw b' _ (fun z => by rw [z, hb] at q; cases q) q
        obtain ⟨st3, r3⟩ := set_step (o := .ins Ca dx (putF f v vs)) (c := .obj C (putD f d fs')) r2 eb hb (fun _ z => by cases z) (fun _ _ z => by cases z) ⟨Ca, dx, _, oc, upd_same, (fs_put dv fr).mono (fun _ _ e => e) tp fz⟩
        refine ⟨b, Ca, dx, vs, rfl, hb, by rw [x.K]; exact c1, by rw [x.K]; exact c2 f hf, ?_, z2 m2 _ σ st3 r3 (sr2.step st3) xi⟩
        rw [← fs_len fr]
        exact of_decide_eq_true e1
  | _ => exact False.elim z2
theorem s_aug (x : XG W cc k ev X E) {op : Operator} {y : Str} {i : Nat} {py : Pos} (hy : y ∈ cc.as) (hi : ixOf cc.N y = some i) (hx : cc.xi ≠ some i) (ha : PE X e (RE W cc a E ev p)) : PS X (.AugAssign (.Name y py) op e pos) (RSt W cc E ev (.aug i op p)) := by
  obtain ⟨h1, h2⟩ := x.asg y hy
  refine PS.imp (ps_aug (by rw [x.N]; exact x.nd) (by rw [x.N]; exact ixOf_get hi) (by rw [x.sc]; exact h1) ha (aug_ok (G := W.G) op) (by rw [x.sc]; exact h2)) fun D σ H ⟨m, h, s, r, sr, xi, z⟩ => ?_
  have z : SatS W.G cc.xi W.xa m H (match s[i]? with
    | some (some x) => (evE ev p s h).st s fun y h1 => (augV op x y h1).st s fun z h2 => .nx (s.set i (some z)) h2
    | _ => .no) D E := z
  split at z
  · rename_i d0 e0
    obtain ⟨v0, e1, d1⟩ := sr.2 i d0 e0
    refine ⟨v0, e1, m, h, s, r, sr, xi, z.st (R := RD W.G) sr xi fun d h1 m1 H1 v st r1 dv z1 => ⟨m1, h1, d0, d, (fun c d H' => E c d σ H'), r1, d1.step st, dv, z1.st (sr.step st) xi fun d2 h2 m2 H2 v2 st2 r2 dv2 z2 => ?_⟩⟩
    have z2 : SatS W.G cc.xi W.xa m2 H2 (.nx (s.set i (some d2)) h2) D E := z2
    refine z2.nx r2 (((sr.step st).step st2).set dv2 i) (xi_fr (l := [i]) ⟨by rw [List.length_set], fun j hj => ?_⟩ (fun j hj => ?_) xi)
    · rw [List.getElem?_set_ne fun z => hj (by simp [z])]
    · have : j = i := by simpa using hj
      rw [this]; exact hx
  · exact False.elim z
theorem s_while (x : XS W cc k ev X E) (hcold : cc.hot = false) {c : QT} {b : List Stmt} {cb : QSs} (hc : PT X e (RT W cc a E ev c)) (hb : PSs X b (RSs W cc E ev cb)) : PS X (.While e b [] pos) (RSt W cc E ev (.whl c cb)) := by
  refine PS.imp (ps_while (x.po hcold) hc hb) fun D σ H ⟨m, h, s, r, sr, xi, z⟩ => ?_
  have z : SatS W.G cc.xi W.xa m H (loopW (evT ev c) (exSs ev cb) ev.fuel s h) D E := z
  refine ⟨fun n σ H => ∃ m h s, Rel W.G m h H ∧ SR W.G m H s σ ∧ XiOk cc.xi W.xa σ ∧ SatS W.G cc.xi W.xa m H (loopW (evT ev c) (exSs ev cb) n s h) D E, ⟨ev.fuel, m, h, s, r, sr, xi, z⟩, ?_⟩
  rintro n σ H ⟨m, h, s, r, sr, xi, z⟩
  cases n with
  | zero => exact False.elim z
  | succ n =>
    have z : SatS W.G cc.xi W.xa m H ((evT ev c s h).st s fun k h1 => match k with
      | true => match exSs ev cb s h1 with
        | .nx s2 h2 => loopW (evT ev c) (exSs ev cb) n s2 h2
        | .ct s2 h2 => loopW (evT ev c) (exSs ev cb) n s2 h2
        | .bk s2 h2 => .nx s2 h2
        | o => o
      | false => .nx s h1) D E := z
    refine ⟨m, h, s, r, sr, xi, z.st sr xi fun d h1 m1 H1 v st r1 dv z1 => ?_⟩
    have dv : d = v := dv
    subst dv
    cases d with
    | false =>
      have z1 : SatS W.G cc.xi W.xa m1 H1 (.nx s h1) D E := z1
      exact iteF (z1.nx r1 (sr.step st) xi)
    | true =>
      refine iteT ⟨fun σ' H' => ∃ m h s, Rel W.G m h H' ∧ SR W.G m H' s σ' ∧ XiOk cc.xi W.xa σ' ∧ SatS W.G cc.xi W.xa m H' (loopW (evT ev c) (exSs ev cb) n s h) D E, fun σ' H' q => ⟨n, Nat.lt_succ_self n, q⟩, m1, h1, s, r1, sr.step st, xi, ?_⟩
      have z1 : SatS W.G cc.xi W.xa m1 H1 (match exSs ev cb s h1 with
        | .nx s2 h2 => loopW (evT ev c) (exSs ev cb) n s2 h2
        | .ct s2 h2 => loopW (evT ev c) (exSs ev cb) n s2 h2
        | .bk s2 h2 => .nx s2 h2
        | o => o) D E := z1
      cases e0 : exSs ev cb s h1 with
      | nx s2 h2 =>
        rw [e0] at z1
        exact fun m2 H2 σ2 st2 r2 sr2 x2 => ⟨m2, h2, s2, r2, sr2, x2, SatS.trans (o := loopW (evT ev c) (exSs ev cb) n s2 h2) z1 st2⟩
      | ct s2 h2 =>
        rw [e0] at z1
        exact fun m2 H2 σ2 st2 r2 sr2 x2 => ⟨m2, h2, s2, r2, sr2, x2, SatS.trans (o := loopW (evT ev c) (exSs ev cb) n s2 h2) z1 st2⟩
      | bk s2 h2 => rw [e0] at z1; exact z1
      | rt d h2 => rw [e0] at z1; exact z1
      | ex ex s2 h2 => rw [e0] at z1; exact z1
      | no => rw [e0] at z1; exact z1
theorem s_for (x : XS W cc k ev X E) (hcold : cc.hot = false) {tg it : Expr} {g : QG} {i : QI} {b : List Stmt} {cb : QSs} (hx : ∀ i ∈ gIx g, cc.xi ≠ some i) (hi : PI X tg it (RI W cc a E ev i)) (hg : PG X tg (rg W.G g)) (hb : PSs X b (RSs W cc E ev cb)) (hs : ∀ x, foldedSetIterable it X.env x = pure x) : PS X (.For tg it b [] pos) (RSt W cc E ev (.for g i cb)) := by
  refine PS.imp (ps_for (x.po hcold) (x.room hcold).1 hi hg hb hs) fun D σ H ⟨m, h, s, r, sr, xi, z⟩ => ?_
  have z : SatS W.G cc.xi W.xa m H ((evI ev i s h).st s fun w h1 => loopF w.fix (bindG g) (exSs ev cb) w.items s h1) D E := z
  refine ⟨m, h, s, r, sr, xi, z.st sr xi fun w h1 m1 H1 J st r1 wj z1 => ?_⟩
  refine ⟨fun i n σ H => n = w.items.length - i ∧ i ≤ w.items.length ∧ ∃ m h s, Step m1 H1 m H ∧ Rel W.G m h H ∧ SR W.G m H s σ ∧ XiOk cc.xi W.xa σ ∧ SatS W.G cc.xi W.xa m H (loopF w.fix (bindG g) (exSs ev cb) (w.items.drop i) s h) D E, ⟨_, rfl, Nat.zero_le _, m1, h1, s, r1.step, r1, sr.step st, xi, z1⟩, ?_⟩
  rintro i n σ H ⟨rfl, hi, m, h, s, st, r, sr, xi, z⟩
  by_cases hlt : i < w.items.length
  · have eg : w.items[i]? = some w.items[i] := List.getElem?_eq_getElem hlt
    rw [List.drop_eq_getElem_cons hlt] at z
    have z : SatS W.G cc.xi W.xa m H (match fixOk h w.fix, bindG g w.items[i] s with
      | true, some s1 => match exSs ev cb s1 h with
        | .nx s2 h2 => loopF w.fix (bindG g) (exSs ev cb) (w.items.drop (i + 1)) s2 h2
        | .ct s2 h2 => loopF w.fix (bindG g) (exSs ev cb) (w.items.drop (i + 1)) s2 h2
        | .bk s2 h2 => .nx s2 h2
        | o => o
      | _, _ => .no) D E := z
    split at z
    · rename_i s1 fx hb
      obtain ⟨go, yl⟩ := (wj m h H st r fx i).1 _ eg
      refine .inr ⟨go, fun σ' H' => ∃ m h s, Step m1 H1 m H' ∧ Rel W.G m h H' ∧ SR W.G m H' s σ' ∧ XiOk cc.xi W.xa σ' ∧ SatS W.G cc.xi W.xa m H' (loopF w.fix (bindG g) (exSs ev cb) (w.items.drop (i + 1)) s h) D E, fun σ' H' q => ⟨_, by omega, rfl, hlt, q⟩, fun x H' y => ?_⟩
      obtain ⟨r', st', dx⟩ := yl x H' y
      have z := z.trans st'
      refine ⟨m, h, s, w.items[i], s1, r', sr.step st', dx, hb, fun σ2 sr2 fr => ⟨m, h, s1, r', sr2, xi_fr fr hx xi, ?_⟩⟩
      cases e0 : exSs ev cb s1 h with
      | nx s2 h2 =>
        rw [e0] at z
        exact fun m2 H2 σ2 st2 r2 sr2 x2 => ⟨m2, h2, s2, (st.trans st').trans st2, r2, sr2, x2, SatS.trans (o := loopF w.fix (bindG g) (exSs ev cb) (w.items.drop (i + 1)) s2 h2) z st2⟩
      | ct s2 h2 =>
        rw [e0] at z
        exact fun m2 H2 σ2 st2 r2 sr2 x2 => ⟨m2, h2, s2, (st.trans st').trans st2, r2, sr2, x2, SatS.trans (o := loopF w.fix (bindG g) (exSs ev cb) (w.items.drop (i + 1)) s2 h2) z st2⟩
      | bk s2 h2 => rw [e0] at z; exact z
      | rt d h2 => rw [e0] at z; exact z
      | ex ex s2 h2 => rw [e0] at z; exact z
      | no => rw [e0] at z; exact z
    · exact False.elim z
  · have ei : i = w.items.length := by omega
    rw [List.drop_eq_nil_of_le (by omega)] at z
    have z : SatS W.G cc.xi W.xa m H (match fixOk h w.fix with
      | true => .nx s h
      | false => .no) D E := z
    split at z
    · rename_i fx
      exact .inl ⟨(wj m _ H st r fx i).2 (List.getElem?_eq_none (by omega)), z.nx r sr xi⟩
    · exact False.elim z
end
end PV
/-! PVK: raise, try. -/
namespace PV
open PySem PySem.Spec PyProof.Rows L2
section
variable {X : Cx} {C : Addr} {bmB : List Value} {B newId initId : String}
/-- X() of an own exception class without an init -/
theorem pmk0 {x : Str} {p pos : Pos} (F : ExcBaseFacts B newId initId bmB) (q : PySem.W.excIn X.K C bmB newId = true) (gC : X.mg x = some (.ref C)) (kC : PySem.W.keepIn X.K (.ref C) = true) (r : Raises X (.ref C)) (hg : Gl X x)
    (hdb : (x == ("__debug__" : Str)) = false) : PMk X (.Call (.Name x p) [] [] pos) (fun _ H Q => Q (.ref C) none H) := by
  intro pins s σ H Q I h
  refine wpAny_Call_Name_kw (ld_glob I hg gC ?_ hdb)
  refine PySem.W.callWith_K0 (first := []) I.kIn kC ?_
  show wpAny _ _ (call (.ref C) []) _ _ _
  obtain ⟨bm, N, nm, qn, bs, hdct, sn, sub, ab, col, dd, k0, k1, k2, k3, k5, mN, hC, hN, hni, T⟩ := exc_obj I.kIn q
  refine wpAny_call_exc_subT F T hC hN hni (fun h' e hm => ?_) (by show 0 ≤ sizeLine; omega)
  exact mk_of I hm r h (I.hok.gone hm.new)
end
section
variable {W : WD} {cc : CC} {k : Nat} {ev : Ev} {X : Cx} {E : WX} {a : Addr}
variable {e e1 e2 e3 : Expr} {p q r : QE} {pos : Pos} {st : Stmt} {sts : List Stmt}
theorem s_raise0 (x : XG W cc k ev X E) (hcold : cc.hot = false) {y : Str} {c : Nat} {py cp : Pos} (hn : plainName y = true) (hg : glB cc.sc y = true) (hl : cc.gl.lookup y = some (.exc c [])) : PS X (.Raise (some (.Call (.Name y py) [] [] cp)) none pos) (RSt W cc E ev (.raise c [] .nil)) := by
  obtain ⟨n1, n2, n3⟩ := pn1 hn
  obtain ⟨Ca, h1, h2, h3⟩ := x.gl _ _ hl
  have co := x.cls _ _ h2
  refine PS.imp (ps_raise (x.room hcold).1 x.tk (pmk0 PySem.F.excBase_ValueError (by rw [x.K]; exact h3 rfl) (by rw [x.mg]; exact h1) (by rw [x.K]; exact co.kp) (raises_own (by rw [x.K]; exact co.ec.hs) (by rw [x.K]; exact co.ty)) (gl_of x hg) n1)) fun D σ H ⟨m, h, s, r, sr, xi, z⟩ => ?_
  have z : SatS W.G cc.xi W.xa m H (.ex ⟨c, []⟩ s h) D E := z
  exact z m H σ (.ref Ca) none r.step r sr xi ⟨Ca, rfl, h2, .inl ⟨rfl, rfl⟩⟩

/-! ### try -/
theorem XG.tr (x : XG W cc k ev X E) (hcold : cc.hot = false) (pn : List (Addr × Obj)) (xe : Value → Shared → Prop) {E' : WX} (tk : Takes (X.tr pn xe) E') : XG W cc k ev (X.tr pn xe) E' :=
  ⟨x.prog, x.wd, x.K, x.mg, x.base, x.N, x.nd, x.sc, x.asg, x.room, x.units, tk, x.gl, x.cls, fun z => by rw [hcold] at z; cases z⟩
theorem XS.tr (x : XS W cc k ev X E) (hcold : cc.hot = false) (pn : List (Addr × Obj)) (xe : Value → Shared → Prop) {E' : WX} (tk : Takes (X.tr pn xe) E') (po : PassesOwn (model X.prog X.w) X.A X.env xe) : XS W cc k ev (X.tr pn xe) E' :=
  ⟨x.toXG.tr hcold pn xe tk, fun _ => po, x.stk, x.fun_⟩
/-- where the suite stands -/
def WD.sui (W : WD) (a : Addr) (l : List (Addr × List (Str × V))) : WD := { W with xa := a, G := { W.G with pins := l ++ W.G.pins } }
def CC.sui (cc : CC) (xi : Option Nat) : CC := { cc with hot := true, xi := xi }
theorem rel_sui {G : GW} {l : List (Addr × List (Str × V))} {m : List Addr} {h : Hd} {H : Hp} (r : Rel { G with pins := l ++ G.pins } m h H) : Rel G m h H := ⟨r.len, r.nd, r.cell, fun p hp => r.pin p (List.mem_append_right _ hp)⟩
theorem sat_sui {G : GW} {l : List (Addr × List (Str × V))} {α β : Type} {R : List Addr → Hp → α → β → Prop} {m : List Addr} {H : Hp} {o : Out α} {Q : β → Hp → Prop} {E : XKE} (hp : ∀ p ∈ l, H p.1 = some (.xd p.2) ∧ p.1 ∉ m) (z : Sat { G with pins := l ++ G.pins } R m H o Q E) : Sat G R m H o Q E := by
  have up : ∀ {m' H' h'}, Step m H m' H' → Rel G m' h' H' → Rel { G with pins := l ++ G.pins } m' h' H' := fun {m' H' h'} st r => ⟨r.len, r.nd, r.cell, fun p hp' => by
    rcases List.mem_append.mp hp' with z | z
    · obtain ⟨h1, h2⟩ := hp p z
      refine ⟨st.keep _ _ h1 h2, fun q => ?_⟩
      obtain ⟨l', e, n⟩ := st.pre
      rw [e] at q
      rcases List.mem_append.mp q with q | q
      · exact h2 q
      · rw [n _ q] at h1; cases h1
    · exact r.pin p z⟩
  cases o with
  | ok d h => exact fun m' H' v st r q => z m' H' v st (up st r) q
  | ex e h => exact fun m' H' c dx st r q => z m' H' c dx st (up st r) q
  | no => exact z
theorem gv_sui {y : Str} {v : Gv} {l : List (Addr × List (Str × V))} {ex : Option Exn} (g : GvOk W k ev y v) : GvOk (W.sui a l) k { ev with exn := ex } y v := by
  cases v with
  | fn i np shapes =>
    obtain ⟨f, fd, ps, h1, h2, h3, h4, h5⟩ := g
    refine ⟨f, fd, ps, h1, h2, h3, h4.imp fun vs H Q E' ⟨m, h, ds, r, d, ln, z⟩ => ⟨m, h, ds, rel_sui r, d, ln, sat_sui (l := l) (fun p hp => r.pin p (List.mem_append_left _ hp)) z⟩, h5⟩
  | bi b => cases b <;> exact g
  | own C i np =>
    obtain ⟨Ca, f, fd, ps, h1, h2, h3, h4, h5, h6⟩ := g
    exact ⟨Ca, f, fd, ps, h1, h2, h3, h4, h5.imp fun vs H Q E' ⟨m, h, ds, r, d, ln, z⟩ => ⟨m, h, ds, rel_sui r, d, ln, sat_sui (l := l) (fun p hp => r.pin p (List.mem_append_left _ hp)) z⟩, h6⟩
  | met C i np m =>
    obtain ⟨Ca, f, fd, ps, h1, h2, h3, h4, h5, h6⟩ := g
    exact ⟨Ca, f, fd, ps, h1, h2, h3, h4, h5.imp fun vs H Q E' ⟨m, h, ds, r, d, ln, z⟩ => ⟨m, h, ds, rel_sui r, d, ln, sat_sui (l := l) (fun p hp => r.pin p (List.mem_append_left _ hp)) z⟩, h6⟩
  | _ => exact g
theorem cls_sui {c : Nat} {Ca : Addr} {l : List (Addr × List (Str × V))} {ex : Option Exn} (g : ClsOk W ev c Ca) : ClsOk (W.sui a l) { ev with exn := ex } c Ca := ⟨g.kp, g.ec, g.ty, g.exm, g.kit, g.nof⟩
theorem xs_sui (x : XS W cc k ev X E) {oe : Obj} {cls : Value} {d : Option Addr} {pn : List (Addr × Obj)} {ex : Exn} {Ca : Addr} {xi : Option Nat} {l : List (Addr × List (Str × V))} (hz : Zc (.ref Ca) d oe) (hf : ∃ vs, oe.data = .fields vs) (hcl : W.G.cl ex.cls = some Ca)
    (hd : (d = none ∧ ex.fs = []) ∨ ∃ dd fs, d = some dd ∧ (dd, fs) ∈ l ∧ ∀ f x, ex.fs.lookup f = some x → flatD x = true ∧ fs.lookup f = some (toV x)) : XS (W.sui a l) (cc.sui xi) k { ev with exn := some ex } (Cx.suite X a ((a, oe) :: pn)) F0 := by
  refine ⟨⟨x.prog, x.wd, x.K, x.mg, x.base, x.N, x.nd, x.sc, x.asg, (fun z => by cases z), x.units, tk0, fun y v e => gv_sui (x.gl y v e), fun c Ca e => cls_sui (x.cls c Ca e), fun _ => ⟨X, oe, pn, d, ex, Ca, rfl, hz, hf, rfl, hcl, ?_⟩⟩, (fun z => by cases z), (fun z => by cases z), x.fun_⟩
  rcases hd with hd | ⟨dd, fs, h1, h2, h3⟩
  · exact .inl hd
  · exact .inr ⟨dd, fs, h1, List.mem_append_left _ h2, h3⟩
/-- the suite's reading: ex is what was raised -/
def tsui (W : WD) (cc : CC) (ev : Ev) (xi : Option Nat) (su : QSs) (a : Addr) (cls : Value) (d : Option Addr) : TS := fun D σ H => ∃ (ex : Exn) (Ca : Addr) (l : List (Addr × List (Str × V))), cls = .ref Ca ∧ W.G.cl ex.cls = some Ca ∧
  ((d = none ∧ ex.fs = []) ∨ ∃ dd fs, d = some dd ∧ (dd, fs) ∈ l ∧ ∀ f x, ex.fs.lookup f = some x → flatD x = true ∧ fs.lookup f = some (toV x)) ∧ RSs (W.sui a l) (cc.sui xi) F0 { ev with exn := some ex } su D σ H
theorem SR.goS {G : GW} {m : List Addr} {H : Hp} {s : Sl} {σ : L2.St} (r : SR G m H s σ) (xi : Option Nat) (o : Option V) : SR G m H (goS xi s) (match xi with
    | some i => σ.set i o
    | none => σ) := by
  cases xi with
  | none => exact r
  | some i => exact r.unset i o
/-- what the raised one is, for the suite -/
theorem sui_go {xi : Option Nat} {su : QSs} {m : List Addr} {h : Hd} {H : Hp} {s : Sl} {σ : L2.St} {D D' : Ends} {ex : Exn} {cls : Value} {d : Option Addr} {ad : Addr} (hxi : cc.xi = none) (r : Rel W.G m h H) (sr : SR W.G m H s σ) (er : ExR W.G m H ex cls d)
    (dn : ∀ m' s2 σ' H', SR W.G m' H' s2 σ' → (∀ σ'', SR W.G m' H' (goS xi s2) σ'' → D.nx σ'' H') → D'.nx σ' H') (db : ∀ m' s2 σ' H', SR W.G m' H' s2 σ' → (∀ σ'', SR W.G m' H' (goS xi s2) σ'' → D.bk σ'' H') → D'.bk σ' H') (dc : ∀ m' s2 σ' H', SR W.G m' H' s2 σ' → (∀ σ'', SR W.G m' H' (goS xi s2) σ'' → D.ct σ'' H') → D'.ct σ' H') (dr : D'.rt = D.rt)
    (hx : XiOk xi ad σ) (z : SatS W.G cc.xi W.xa m H ((exSs { ev with exn := some ex } su s h).gone xi) D E) : tsui W cc ev xi su ad cls d D' σ H := by
  obtain ⟨Ca, e1, e2, e3⟩ := er
  have key : ∀ l : List (Addr × List (Str × V)), (∀ p ∈ l, H p.1 = some (.xd p.2) ∧ p.1 ∉ m) → RSs (W.sui ad l) (cc.sui xi) F0 { ev with exn := some ex } su D' σ H := fun l hl => by
    refine ⟨m, h, s, ⟨r.len, r.nd, r.cell, fun p hp => ?_⟩, sr, hx, ?_⟩
    · rcases List.mem_append.mp hp with z | z
      · exact hl p z
      · exact r.pin p z
    · cases e0 : exSs { ev with exn := some ex } su s h with
      | nx s2 h2 =>
        rw [e0] at z
        exact fun m' H' σ' st r' sr' x' => dn m' s2 σ' H' sr' fun σ'' sr'' => z m' H' σ'' st (rel_sui (l := l) r') sr'' (by rw [hxi]; trivial)
      | bk s2 h2 =>
        rw [e0] at z
        exact fun m' H' σ' st r' sr' x' => db m' s2 σ' H' sr' fun σ'' sr'' => z m' H' σ'' st (rel_sui (l := l) r') sr'' (by rw [hxi]; trivial)
      | ct s2 h2 =>
        rw [e0] at z
        exact fun m' H' σ' st r' sr' x' => dc m' s2 σ' H' sr' fun σ'' sr'' => z m' H' σ'' st (rel_sui (l := l) r') sr'' (by rw [hxi]; trivial)
      | rt dd h2 =>
        rw [e0] at z
        exact fun m' H' v st r' dv => by
          rw [dr]
          exact z m' H' v st (rel_sui (l := l) r') dv
      | ex ex2 s2 h2 => rw [e0] at z; exact False.elim z
      | no => rw [e0] at z; exact False.elim z
  rcases e3 with ⟨h1, h2⟩ | ⟨dd, vs, h1, h2, h3⟩
  · exact ⟨ex, Ca, [], e1, e2, .inl ⟨h1, h2⟩, key [] fun p hp => by cases hp⟩
  · refine ⟨ex, Ca, [(dd, vs)], e1, e2, .inr ⟨dd, vs, h1, List.mem_singleton.mpr rfl, h3⟩, key _ fun p hp => ?_⟩
    have : p = (dd, vs) := by simpa using hp
    subst this
    refine ⟨h2, fun hm => ?_⟩
    obtain ⟨n, hn, e⟩ := List.getElem_of_mem hm
    have hl : n < h.length := by rw [← r.len]; exact hn
    have c := r.cell n h[n] dd (List.getElem?_eq_getElem hl) (by rw [List.getElem?_eq_getElem hn, e])
    cases q : h[n] with
    | lst xs => rw [q] at c; obtain ⟨_, c, _⟩ := c; rw [h2] at c; cases c
    | obj C fs => rw [q] at c; obtain ⟨_, _, _, _, c, _⟩ := c; rw [h2] at c; cases c
    | dct kvs => rw [q] at c; obtain ⟨_, c, _⟩ := c; rw [h2] at c; cases c
theorem tsui_ok (x : XS W cc k ev X E) {xi : Option Nat} {su : QSs} {b0 : Stmt} {bs : List Stmt} (hsu : ∀ (W' : WD) (ev' : Ev) (X' : Cx), XS W' (cc.sui xi) k ev' X' F0 → PSs X' (b0 :: bs) (RSs W' (cc.sui xi) F0 ev' su))
    (ad : Addr) (oe : Obj) (cls : Value) (d : Option Addr) (pn : List (Addr × Obj)) (hz : Zc cls d oe) (hf : ∃ vs, oe.data = .fields vs) : PSs (X.suite ad ((ad, oe) :: pn)) (b0 :: bs) (tsui W cc ev xi su ad cls d) :=
  ⟨fun pins s σ H D I ⟨ex, Ca, l, e1, e2, e3, q⟩ => by
    subst e1
    exact (hsu (W.sui ad l) _ _ (xs_sui (cls := .ref Ca) x hz hf e2 e3)).run pins s σ H D I q⟩
/-- what the try's ends say -/
theorem try_read {c : Nat} {Da : Addr} {xi : Option Nat} {cb su : QSs} {m : List Addr} {h : Hd} {H : Hp} {s : Sl} {σ : L2.St} {D : Ends} {Wn : WX} (x : XS W cc k ev X E) (hc : W.G.cl c = some Da) (r : Rel W.G m h H) (sr : SR W.G m H s σ)
    (z : SatS W.G cc.xi W.xa m H (match exSs ev cb s h with
      | .ex e s1 h1 => match ev.sub e.cls c with
        | true => match inS xi s1 with
          | true => (exSs { ev with exn := some e } su (goS xi s1) h1).gone xi
          | false => .no
        | false => .ex e s1 h1
      | o => o) D E)
    (hw : ∀ ex s1 h1 m' H' σ' cls dx, Rel W.G m' h1 H' → SR W.G m' H' s1 σ' → ExR W.G m' H' ex cls dx → (∃ b, PySem.W.exmOne X.K cls (.ref Da) = some b ∧ (b = true → inS xi s1 = true ∧ SatS W.G cc.xi W.xa m' H' ((exSs { ev with exn := some ex } su (goS xi s1) h1).gone xi) D E) ∧ (b = false → E cls dx σ' H')) → Wn cls dx σ' H') (hxi : cc.xi = none) :
    RSs W cc Wn ev cb D σ H := by
  refine ⟨m, h, s, r, sr, by rw [hxi]; trivial, ?_⟩
  cases e0 : exSs ev cb s h with
  | nx s2 h2 => rw [e0] at z; exact z
  | bk s2 h2 => rw [e0] at z; exact z
  | ct s2 h2 => rw [e0] at z; exact z
  | rt d h2 => rw [e0] at z; exact z
  | no => rw [e0] at z; exact z
  | ex ex s1 h1 =>
    rw [e0] at z
    intro m' H' σ' cls dx st r' sr' x' er
    obtain ⟨Ca, rfl, hca, er3⟩ := id er
    have em := (x.cls _ _ hca).exm _ _ hc
    refine hw ex s1 h1 m' H' σ' _ dx r' sr' er ⟨ev.sub ex.cls c, by rw [x.K]; exact em, fun hb => ?_, fun hb => ?_⟩
    · have z : SatS W.G cc.xi W.xa m H (match ev.sub ex.cls c with
        | true => match inS xi s1 with
          | true => (exSs { ev with exn := some ex } su (goS xi s1) h1).gone xi
          | false => .no
        | false => .ex ex s1 h1) D E := z
      rw [hb] at z
      have z : SatS W.G cc.xi W.xa m H (match inS xi s1 with
          | true => (exSs { ev with exn := some ex } su (goS xi s1) h1).gone xi
          | false => .no) D E := z
      cases e1 : inS xi s1 with
      | false => rw [e1] at z; exact False.elim z
      | true =>
        rw [e1] at z
        exact ⟨rfl, SatS.trans (o := (exSs { ev with exn := some ex } su (goS xi s1) h1).gone xi) z st⟩
    · have z : SatS W.G cc.xi W.xa m H (match ev.sub ex.cls c with
        | true => match inS xi s1 with
          | true => (exSs { ev with exn := some ex } su (goS xi s1) h1).gone xi
          | false => .no
        | false => .ex ex s1 h1) D E := z
      rw [hb] at z
      exact z m' H' σ' _ dx st r' sr' x' er
theorem names_of (x : XG W cc k ev X E) {y : Str} {c : Nat} {fs : List Str} (hn : plainName y = true) (hg : glB cc.sc y = true) (hl : cc.gl.lookup y = some (.exc c fs)) : ∃ Da, W.G.cl c = some Da ∧ Names X y (.ref Da) := by
  obtain ⟨n1, n2, n3⟩ := pn1 hn
  obtain ⟨Ca, h1, h2, _⟩ := x.gl _ _ hl
  exact ⟨Ca, h2, gl_of x hg, n1, .inl (by rw [x.mg]; exact h1)⟩
theorem s_try_only (x : XS W cc k ev X E) (hcold : cc.hot = false) (hxi : cc.xi = none) {y : Str} {c : Nat} {fs : List Str} {body bs : List Stmt} {b0 : Stmt} {np pos' : Pos} {cb su : QSs} (hn : plainName y = true) (hg : glB cc.sc y = true) (hl : cc.gl.lookup y = some (.exc c fs))
    (hb : ∀ (X' : Cx) (E' : WX), XS W cc k ev X' E' → PSs X' body (RSs W cc E' ev cb)) (hsu : ∀ (W' : WD) (ev' : Ev) (X' : Cx), XS W' (cc.sui none) k ev' X' F0 → PSs X' (b0 :: bs) (RSs W' (cc.sui none) F0 ev' su)) :
    PS X (.Try body [.ExceptHandler (some (.Name y np)) none (b0 :: bs) pos'] [] [] pos) (RSt W cc E ev (.try cb c none su)) := by
  obtain ⟨Da, hc, nm⟩ := names_of x.toXG hn hg hl
  refine PS.imp (ps_try_only (tb := fun W' => RSs W cc W' ev cb) (ts := tsui W cc ev none su) (x.stk hcold).1 (x.stk hcold).2 nm x.tk (fun W' pn xe tk po => hb _ _ (x.tr hcold pn xe tk po)) (fun ad oe cls d pn hz hf => tsui_ok x hsu ad oe cls d pn hz hf)) fun D σ H ⟨m, h, s, r, sr, xi, z⟩ => ?_
  refine try_read (xi := none) (cb := cb) (su := su) x hc r sr z (fun ex s1 h1 m' H' σ' cls dx r' sr' er ⟨b, hb, h1', h2⟩ => ⟨b, hb, fun eb ad ha => ?_, h2⟩) hxi
  obtain ⟨_, z1⟩ := h1' eb
  exact sui_go (D := D) hxi r' sr' er (fun m' s2 σ' H' sr q => q σ' sr) (fun m' s2 σ' H' sr q => q σ' sr) (fun m' s2 σ' H' sr q => q σ' sr) rfl trivial z1
theorem s_try_as (x : XS W cc k ev X E) (hcold : cc.hot = false) (hxi : cc.xi = none) {y n : Str} {i c : Nat} {fs : List Str} {body bs : List Stmt} {b0 : Stmt} {np pos' : Pos} {cb su : QSs} (hn : plainName y = true) (hg : glB cc.sc y = true) (hl : cc.gl.lookup y = some (.exc c fs)) (hi : ixOf cc.N n = some i) (hln : cc.sc.names.lookup n = some .local)
    (hb : ∀ (X' : Cx) (E' : WX), XS W cc k ev X' E' → PSs X' body (RSs W cc E' ev cb)) (hsu : ∀ (W' : WD) (ev' : Ev) (X' : Cx), XS W' (cc.sui (some i)) k ev' X' F0 → PSs X' (b0 :: bs) (RSs W' (cc.sui (some i)) F0 ev' su)) :
    PS X (.Try body [.ExceptHandler (some (.Name y np)) (some n) (b0 :: bs) pos'] [] [] pos) (RSt W cc E ev (.try cb c (some i) su)) := by
  obtain ⟨Da, hc, nm⟩ := names_of x.toXG hn hg hl
  refine PS.imp (ps_try_as (tb := fun W' => RSs W cc W' ev cb) (ts := tsui W cc ev (some i) su) (x.stk hcold).1 (x.stk hcold).2 (by rw [x.N]; exact x.nd) (by rw [x.N]; exact ixOf_get hi) (by show X.env.scope.names.lookup n = _; rw [x.sc]; exact hln) nm x.tk (fun W' pn xe tk po => hb _ _ (x.tr hcold pn xe tk po)) (fun ad oe cls d pn hz hf => tsui_ok x hsu ad oe cls d pn hz hf)) fun D σ H ⟨m, h, s, r, sr, xi, z⟩ => ?_
  refine try_read (xi := some i) (cb := cb) (su := su) x hc r sr z (fun ex s1 h1 m' H' σ' cls dx r' sr' er ⟨b, hb, h1', h2⟩ => ⟨b, hb, fun eb ad ha => ?_, h2⟩) hxi
  obtain ⟨h3, z1⟩ := h1' eb
  have h3 : decide (i < s1.length) = true := h3
  have hlt : i < σ'.length := by rw [← sr'.1]; exact of_decide_eq_true h3
  refine sui_go (D := D) hxi r' (sr'.goS (some i) _) er (fun m' s2 σ' H' sr q => q _ (sr.goS (some i) _)) (fun m' s2 σ' H' sr q => q _ (sr.goS (some i) _)) (fun m' s2 σ' H' sr q => q _ (sr.goS (some i) _)) rfl ?_ z1
  show (σ'.set i _)[i]? = _
  exact List.getElem?_set_self hlt
end
end PV
/-! PVZ: raise C(e, ..): own exceptions with fields that their __init__ sets. -/
namespace PV
open PySem PySem.Spec PyProof.Rows L2
section
variable {W : WD} {cc : CC} {k : Nat} {ev : Ev} {X : Cx} {E : WX} {e : Expr} {pos : Pos}
theorem zipR_lookup {fs : List Str} {xs : List D} (h2 : fs.length ≤ 2) (nd : fs.Nodup) (hl : fs.length = xs.length) (fl : xs.all flatD = true) (f : Str) (x : D) (e : (fs.zip xs).lookup f = some x) : flatD x = true ∧ ((fs.zip (xs.map toV)).reverse).lookup f = some (toV x) := by
  match fs, xs, h2, hl with
  | [], [], _, _ => cases e
  | [g], [y], _, _ =>
    rw [List.zip_cons_cons, List.lookup_cons] at e
    rw [List.all_cons, Bool.and_eq_true] at fl
    cases q : f == g with
    | true =>
      rw [q] at e
      cases e
      refine ⟨fl.1, ?_⟩
      show List.lookup f [(g, toV x)] = _
      rw [List.lookup_cons, q]
    | false => rw [q] at e; cases e
  | [g, g'], [y, y'], _, _ =>
    rw [List.zip_cons_cons, List.lookup_cons] at e
    simp only [List.all_cons, Bool.and_eq_true] at fl
    have ne : g ≠ g' := by
      intro z
      rw [z] at nd
      simp at nd
    show _ ∧ List.lookup f [(g', toV y'), (g, toV y)] = _
    cases q : f == g with
    | true =>
      rw [q] at e
      cases e
      have : (f == g') = false := by
        have := beq_iff_eq.mp q
        subst this
        exact beq_false_of_ne ne
      refine ⟨fl.1, ?_⟩
      rw [List.lookup_cons, this]
      show List.lookup f [(g, toV x)] = _
      rw [List.lookup_cons, q]
    | false =>
      rw [q] at e
      have e : List.lookup f [(g', y')] = some x := e
      rw [List.lookup_cons] at e
      cases q' : f == g' with
      | true =>
        rw [q'] at e
        cases e
        exact ⟨fl.2.1, by rw [List.lookup_cons, q']⟩
      | false => rw [q'] at e; cases e
theorem passes_no : Passes (L2.CX X.prog X.w) X (fun _ _ _ => False) := fun pins σ H s e s' I z => by
  obtain ⟨_, _, _, _, _, _, _, _, _, _, _, _, z⟩ := z
  exact z.elim
theorem s_raiseF (x : XG W cc k ev X E) (hcold : cc.hot = false) {y : Str} {c : Nat} {py cp : Pos} {fs : List Str} {e0 : Expr} {rest : List Expr} {es : QEs} (hn : plainName y = true) (hg : glB cc.sc y = true) (hl : cc.gl.lookup y = some (.exc c fs)) (hi : cc.gl.lookup (mkey y) = some (.xin c fs))
    (hs : (e0 :: rest).all notStar = true) (h2 : fs.length ≤ 2) (nd : fs.Nodup) (hln : es.len = fs.length) (ha : PA X (e0 :: rest) (REs W cc 0 E ev es)) : PS X (.Raise (some (.Call (.Name y py) (e0 :: rest) [] cp)) none pos) (RSt W cc E ev (.raise c fs es)) := by
  obtain ⟨n1, n2, n3⟩ := pn1 hn
  obtain ⟨Ca, h1, hc, _⟩ := x.gl _ _ hl
  obtain ⟨Cb, fI, fd, ps, hcb, T, iC, tI, Fo, B⟩ := x.gl _ _ hi
  rw [hc] at hcb
  cases hcb
  have Fo : FnOk X.prog X.w X.K X.mg X.base (L2.CX X.prog X.w) 1 fI fd ps (spI Ca fs) := by
    rw [x.prog, x.wd, x.K, x.mg, x.base]; exact Fo
  rw [List.all_cons, Bool.and_eq_true] at hs
  refine PS.imp (ps_raise (x.room hcold).1 x.tk (pmk_oex (p := py) (pos := cp) (by rw [x.K]; exact T) (by rw [x.K]; exact iC) (by rw [x.K]; exact tI) Fo ((x.room hcold).2.mono (by omega)) (by rw [x.K]; exact B) .nil passes_no (gl_of x hg) (by rw [x.mg]; exact h1) ha n1 (star1 hs.1) (starAll hs.2 cp))) fun D σ H ⟨m, h, s, r, sr, xi, z⟩ => ?_
  have z : SatS W.G cc.xi W.xa m H ((evEs ev es s h).st s fun xs h1 => match decide (fs.length = xs.length) && xs.all flatD with
    | true => .ex ⟨c, fs.zip xs⟩ s h1
    | false => .no) D E := z
  refine ⟨m, h, s, r, sr, xi, z.st (R := RDs W.G) sr xi fun xs h1 m1 H1 vs st r1 dv z1 => ?_⟩
  cases e1 : decide (fs.length = xs.length) && xs.all flatD with
  | false => rw [e1] at z1; exact False.elim z1
  | true =>
    rw [e1] at z1
    simp only [Bool.and_eq_true, decide_eq_true_eq] at e1
    have ev' : vs = xs.map toV := DRs.flat dv e1.2
    subst ev'
    refine ⟨by rw [List.length_map, ← e1.1]; omega, fun a ha' => ⟨a, xs.map toV, by rw [List.append_nil], by rw [List.length_map, e1.1], upd_same, fun dx hd ne => ⟨rfl, dx, (fs.zip (xs.map toV)).reverse, upd_same, by rw [upd_ne ne, upd_same], ?_, ?_⟩⟩⟩
    · rw [upd_ne ne] at hd
      exact hd
    · have hd1 : H1 dx = none := by rw [upd_ne ne] at hd; exact hd
      have eq : upd (del (upd (upd (upd H1 a (exo a Ca none)) dx (exd dx (fs.zip (xs.map toV)).reverse)) a (exo a Ca (some dx))) a) dx (.xd (fs.zip (xs.map toV)).reverse) = upd H1 dx (.xd (fs.zip (xs.map toV)).reverse) := by
        funext b
        by_cases hb : b = dx
        · subst hb
          rw [upd_same, upd_same]
        · rw [upd_ne hb, upd_ne hb]
          by_cases hb2 : b = a
          · subst hb2
            rw [del_same]
            exact ha'.symm
          · rw [del_ne hb2, upd_ne hb2, upd_ne hb, upd_ne hb2]
      rw [eq]
      obtain ⟨s2, r2⟩ := new_step (o := .xd (fs.zip (xs.map toV)).reverse) r1 hd1
      exact z1 m1 _ σ (.ref Ca) (some dx) s2 r2 ((sr.step st).step s2) xi ⟨Ca, rfl, hc, .inr ⟨dx, _, rfl, upd_same, fun f x' e' => zipR_lookup h2 nd e1.1 e1.2 f x' e'⟩⟩
end
/-! ### the __init__ of such a class: self.f = p, one by one -/
section
variable {P : Program} {w : World} {K : PySem.W.Frag} {mg : Str → Option Value} {base : Heap} {qual s : Str} {params : Arguments} {scope : Scope} {f : Addr} {fd : FuncData} {Ca : Addr}
theorem init1 {y g : Str} {q1 q2 q3 q4 : Pos} (F : FunD K "__init__" qual params [.Assign [.Attribute (.Name s q1) g q2] (.Name y q3) q4] scope [] [] f fd) (S : FnScope [s, y] [s, y] scope) (T : OexC K Ca) (hno : PySem.W.findIn K (.ref Ca) g = some none)
    (v1 : visB scope s = true) (v2 : visB scope y = true) (n1 : plainName s = true) (n2 : plainName y = true) : FnOk P w K mg base (L2.CX P w) 1 f fd [s, y] (spI Ca [g]) := by
  obtain ⟨a1, a2, _⟩ := pn1 n1
  obtain ⟨b1, b2, _⟩ := pn1 n2
  refine F.ok (k := 0) S (fun vs H Q E ⟨a, ws, e, l, _⟩ => by rw [e]; simpa using l) fun cdv A outer s0 H vs Q E hr ⟨a, ws, e, l, ha, q⟩ => ?_
  have p1 : PE (cxOf (L2.CX P w) P w K mg base [s, y] qual scope f cdv A outer s0 H E) (.Name s q1) (tVar 0) := pe_var rfl (vis_of v1) a1 a2
  have p2 : PE (cxOf (L2.CX P w) P w K mg base [s, y] qual scope f cdv A outer s0 H E) (.Name y q3) (tVar 1) := pe_var rfl (vis_of v2) b1 b2
  refine ⟨_, pss_cons (ps_ost p1 p2 rfl) pss_nil, ?_⟩
  match ws, l with
  | [x], _ =>
    subst e
    refine ⟨x, rfl, .ref a, rfl, a, Ca, rfl, T, hno, .inl ⟨ha, fun dx h1 h2 => ?_⟩⟩
    exact q dx h1 h2
theorem init2 {y z g g' : Str} {q1 q2 q3 q4 r1 r2 r3 r4 : Pos} (F : FunD K "__init__" qual params [.Assign [.Attribute (.Name s q1) g q2] (.Name y q3) q4, .Assign [.Attribute (.Name s r1) g' r2] (.Name z r3) r4] scope [] [] f fd) (S : FnScope [s, y, z] [s, y, z] scope) (T : OexC K Ca) (hno : PySem.W.findIn K (.ref Ca) g = some none) (hno' : PySem.W.findIn K (.ref Ca) g' = some none)
    (v1 : visB scope s = true) (v2 : visB scope y = true) (v3 : visB scope z = true) (n1 : plainName s = true) (n2 : plainName y = true) (n3 : plainName z = true) : FnOk P w K mg base (L2.CX P w) 1 f fd [s, y, z] (spI Ca [g, g']) := by
  obtain ⟨a1, a2, _⟩ := pn1 n1
  obtain ⟨b1, b2, _⟩ := pn1 n2
  obtain ⟨c1, c2, _⟩ := pn1 n3
  refine F.ok (k := 0) S (fun vs H Q E ⟨a, ws, e, l, _⟩ => by rw [e]; simpa using l) fun cdv A outer s0 H vs Q E hr ⟨a, ws, e, l, ha, q⟩ => ?_
  have p1 : ∀ q1, PE (cxOf (L2.CX P w) P w K mg base [s, y, z] qual scope f cdv A outer s0 H E) (.Name s q1) (tVar 0) := fun q1 => pe_var rfl (vis_of v1) a1 a2
  have p2 : PE (cxOf (L2.CX P w) P w K mg base [s, y, z] qual scope f cdv A outer s0 H E) (.Name y q3) (tVar 1) := pe_var rfl (vis_of v2) b1 b2
  have p3 : PE (cxOf (L2.CX P w) P w K mg base [s, y, z] qual scope f cdv A outer s0 H E) (.Name z r3) (tVar 2) := pe_var rfl (vis_of v3) c1 c2
  refine ⟨_, pss_cons (ps_ost (p1 q1) p2 rfl) (pss_cons (ps_ost (p1 r1) p3 rfl) pss_nil), ?_⟩
  match ws, l with
  | [x, x'], _ =>
    subst e
    refine ⟨x, rfl, .ref a, rfl, a, Ca, rfl, T, hno, .inl ⟨ha, fun dx h1 h2 => ?_⟩⟩
    refine ⟨x', rfl, .ref a, rfl, a, Ca, rfl, T, hno', .inr ⟨dx, [(g, x)], upd_same, by rw [upd_ne h2, upd_same], by show 1 ≤ 900; decide, ?_⟩⟩
    have eq : upd (upd (upd H dx (exd dx [(g, x)])) a (exo a Ca (some dx))) dx (exd dx [(g', x'), (g, x)]) = upd (upd H dx (exd dx [(g', x'), (g, x)])) a (exo a Ca (some dx)) := by
      funext b
      by_cases hb : b = dx
      · subst hb
        rw [upd_same, upd_ne h2, upd_same]
      · rw [upd_ne hb]
        by_cases hb2 : b = a
        · subst hb2
          rw [upd_same, upd_same]
        · rw [upd_ne hb2, upd_ne hb, upd_ne hb2, upd_ne hb]
    have := q dx h1 h2
    show Q .non _
    rw [eq]
    exact this
end
end PV
/-! PVMt: match on a tuple whose first item is a text. -/
namespace PV
open PySem PySem.Spec PyProof.Rows L2
/-- the names of a case's captures -/
def capNs : List Pattern → List Str
  | .MatchAs _ (some y) _ :: r => y :: capNs r
  | _ => []
def isLoc' (sc : Scope) (x : Str) : Bool := match sc.names.lookup x with
  | some .local => true
  | _ => false
def capIx (cc : CC) : List Pattern → Option (List Nat)
  | [] => some []
  | .MatchAs none (some y) _ :: r => match ixOf cc.N y, isLoc' cc.sc y, capIx cc r with
    | some i, true, some is => some (i :: is)
    | _, _, _ => none
  | _ => none
theorem loc_of' {sc : Scope} {x : Str} (h : isLoc' sc x = true) : sc.names.lookup x = some .local := by
  unfold isLoc' at h
  split at h
  · assumption
  · cases h
theorem cap_inv {cc : CC} : ∀ {ps : List Pattern} {is : List Nat}, capIx cc ps = some is → (ps = [] ∧ is = []) ∨ ∃ y p r i js, ps = .MatchAs none (some y) p :: r ∧ is = i :: js ∧ ixOf cc.N y = some i ∧ cc.sc.names.lookup y = some .local ∧ capIx cc r = some js
  | [], _, h => by cases h; exact .inl ⟨rfl, rfl⟩
  | p :: ps, _, h => by
    unfold capIx at h
    split at h
    · rename_i e; cases e
    · rename_i y p' r e
      cases e
      split at h
      · rename_i i js h1 h2 h3
        cases h
        exact .inr ⟨_, _, _, _, _, rfl, rfl, h1, loc_of' h2, h3⟩
      · cases h
    · cases h
theorem cap_len {cc : CC} {ps : List Pattern} {is : List Nat} (h : capIx cc ps = some is) : is.length = ps.length := by
  induction ps generalizing is with
  | nil => cases h; rfl
  | cons p ps ih =>
    rcases cap_inv h with ⟨e, _⟩ | ⟨y, p', r, i, js, e, rfl, _, _, h'⟩
    · cases e
    · cases e
      simp [ih h']
theorem cap_star {cc : CC} {ps : List Pattern} {is : List Nat} (h : capIx cc ps = some is) : ∀ p ∈ ps, p.isStar = false := by
  induction ps generalizing is with
  | nil => intro p hp; cases hp
  | cons p ps ih =>
    rcases cap_inv h with ⟨e, _⟩ | ⟨y, p', r, i, js, e, rfl, _, _, h'⟩
    · cases e
    · cases e
      intro p hp
      rcases List.mem_cons.mp hp with rfl | hp
      · rfl
      · exact ih h' p hp
/-- what the captures bind -/
def putσ : List Nat → List V → L2.St → L2.St
  | i :: is, v :: vs, σ => putσ is vs (σ.set i (some v))
  | _, _, σ => σ
section
variable {G : GW} {m : List Addr} {H : Hp}
theorem SR.puts : ∀ {is : List Nat} {ds : List D} {vs : List V} {s : Sl} {σ : L2.St}, SR G m H s σ → DRs G.K m H ds vs → SR G m H (putSl is ds s) (putσ is vs σ)
  | [], ds, vs, s, σ, r, d => by cases ds <;> cases vs <;> exact r
  | i :: is, [], vs, s, σ, r, d => by cases d; exact r
  | i :: is, d :: ds, vs, s, σ, r, a => by
    cases a with
    | cons a b => exact SR.puts (is := is) (s := s.set i (some d)) (SR.set r a i) b
end
section
variable {M : Model} {A : Around} {E : Value → Shared → Prop} {s : Shared} {env : Env} {cc : CC}
theorem each_ok {ps : List Pattern} {is : List Nat} {us : List Value} {Q : Option (List (Str × Value)) → Shared → Prop} (h : capIx cc ps = some is) (hl : us.length = ps.length) (q : Q (some ((capNs ps).zip us)) s) : wpAny M A (matchEach ps env us) Q E s := by
  induction ps generalizing is us Q with
  | nil =>
    refine wpAny_matchEach_nil ?_
    simpa [capNs] using q
  | cons p ps ih =>
    rcases cap_inv h with ⟨e, _⟩ | ⟨y, p', r, i, js, e, rfl, _, _, h'⟩
    · cases e
    · cases e
      cases us with
      | nil => simp at hl
      | cons u us =>
        refine wpAny_matchEach_cons (wpAny_matchPattern_Capture ?_) rfl
        exact ih h' (by simpa using hl) q
end
section
variable {W : WD} {cc : CC} {k : Nat} {ev : Ev} {X : Cx} {E : WX} {a : Addr}
/-- the captures are bound -/
theorem caps_ok (x : XG W cc k ev X E) {pins : List (Addr × Obj)} {ps : List Pattern} {is : List Nat} {us : List Value} {vs : List V} {s : Shared} {σ : L2.St} {H : Hp} {Q : Unit → Shared → Prop} (h : capIx cc ps = some is) (hl : us.length = ps.length) (I : Inv X pins σ H s) (r : Vals vs us) (q : ∀ s', Inv X pins (putσ is vs σ) H s' → Q () s') :
    wpAny (model X.prog X.w) X.A (assignInOrder (((capNs ps).zip us).map fun q => bindName X.env q.1) (((capNs ps).zip us).map (·.2))) Q X.xe s := by
  induction ps generalizing is us vs s σ with
  | nil =>
    cases h
    refine assignInOrder_nil ?_
    exact q s (by cases vs <;> exact I)
  | cons p ps ih =>
    rcases cap_inv h with ⟨e, _⟩ | ⟨y, p', r', i, js, e, rfl, hi, hy, h'⟩
    · cases e
    · cases e
      cases r with
      | nil => simp at hl
      | cons r1 r2 =>
        have gi := ixOf_get hi
        refine assignInOrder_cons (wpAny_bindName (store_ok I (by rw [x.N]; exact x.nd) (by rw [x.N]; exact gi) (.inl (by rw [x.sc]; exact hy)) r1 (fun s2 I2 => ?_) (.inr (by rw [x.sc]; exact hy))))
        exact ih h' (by simpa using hl) I2 r2 q
/-- the cases' reading -/
def RCs (W : WD) (cc : CC) (E : WX) (ev : Ev) (cs : QCs) (D : Ends) (σ : L2.St) (H : Hp) (v : V) : Prop := ∃ m h s ds, Rel W.G m h H ∧ SR W.G m H s σ ∧ XiOk cc.xi W.xa σ ∧ DR W.G.K m H (.tup ds) v ∧ SatS W.G cc.xi W.xa m H (exC ev cs ds s h) D E
structure PCs (X : Cx) (cs : List MatchCase) (t : Ends → L2.St → Hp → V → Prop) : Prop where
  run : ∀ (pins : List (Addr × Obj)) (s : Shared) (σ : L2.St) (H : Hp) (D : Ends) (v : V) (u : Value) (first : Bool), Inv X pins σ H s → RelV v u → t D σ H v → wpAny (model X.prog X.w) X.A (matchCases cs X.env u first) (SP X pins D) X.xe s
theorem pcs_nil : PCs X [] (RCs W cc E ev .nil) := ⟨fun pins s σ H D v u first I r ⟨m, h, sl, ds, rl, sr, xi, d, z⟩ => by
  have z : SatS W.G cc.xi W.xa m H (.nx sl h) D E := z
  exact wpAny_matchCases_nil ⟨σ, H, I, z.nx rl sr xi⟩⟩
theorem pcs_cons (x : XG W cc k ev X E) (hcold : cc.hot = false) (hxi : cc.xi = none) {ve : Expr} {vp mp : Pos} {ps : List Pattern} {is : List Nat} {key : Str} {b : List Stmt} {cb : QSs} {rest : List MatchCase} {cr : QCs} (hv : PE X ve (RE W cc a E ev (.con (.str key)))) (hc : capIx cc ps = some is)
    (hb : PSs X b (RSs W cc E ev cb)) (hr : PCs X rest (RCs W cc E ev cr)) : PCs X (⟨.MatchSequence (.MatchValue ve vp :: ps) mp, none, b⟩ :: rest) (RCs W cc E ev (.cons key is cb cr)) :=
  ⟨fun pins s σ H D v u first I r ⟨m, h, sl, ds, rl, sr, xi, d, z⟩ => by
    cases d with
    | tup t dd =>
      rename_i ad vs _
      have hu : u = Value.ref ad := r
      subst hu
      obtain ⟨its, rv, ht, hz⟩ := I.tuple (x.K ▸ t)
      have l1 := dd.length
      have l2 := rv.length
      have hfit : ((its.toArray.size : Nat) : Int) < 2 ^ 63 := by
        have : sizeLine < 2 ^ 63 := by decide
        simp only [List.size_toArray]
        omega
      have hcl := cap_len hc
      have hstar : (Pattern.MatchValue ve vp :: ps).findIdx? (·.isStar) = none := by
        rw [List.findIdx?_eq_none_iff]
        intro p hp
        rcases List.mem_cons.mp hp with rfl | hp
        · rfl
        · simpa using cap_star hc p hp
      have hwild : ((Pattern.MatchValue ve vp :: ps).all fun p => p.isWildcard || (p.isStar && p.names.isEmpty)) = false := by
        simp [Pattern.isWildcard, Pattern.isStar]
      refine wpAny_matchCases_cons ?_
      by_cases hlen : ds.length = ps.length + 1
      · -- as long
        have hn : its.toArray.size = (Pattern.MatchValue ve vp :: ps).length := by simp; omega
        refine matchSeq_tuple_hit ht hfit hn ?_ hstar hwild
        rw [← hn]
        refine unpackItems_tuple (A := X.A) (I.ok.hd (x.room hcold).1) ht fun h' hx => ?_
        have I1 : Inv X pins σ H { s with heap := h', toks := s.toks + 1 + 1 } := I.kept (t' := s.toks + 1 + 1) fun b o e => hx b o (Nat.ne_of_lt (Heap.lt_size e)) e
        cases dd with
        | nil => simp at hlen
        | cons d0 dr =>
          rename_i dx vx dy vy
          cases rv with
          | cons r0 rr =>
            rename_i ux uy
            have hes : dy.length = is.length := by simp at hlen; omega
            have z1 : SatS W.G cc.xi W.xa m H (match decide (dy.length = is.length) with
              | true => match eqV h dx (.str key) with
                | some true => exSs ev cb (putSl is dy sl) h
                | some false => exC ev cr (dx :: dy) sl h
                | none => .no
              | false => exC ev cr (dx :: dy) sl h) D E := z
            rw [decide_eq_true hes] at z1
            refine wpAny_matchEach_cons (wpAny_matchPattern_Value ?_) rfl
            have he : (RE W cc a E ev (.con (.str key))) σ H (fun y H1 => y = .str key ∧ ∃ m1, Step m H m1 H1 ∧ Rel W.G m1 h H1) := ⟨m, h, sl, rl, sr, xi, fun m' H' v' st r' q => by
              cases q
              exact ⟨rfl, m', st, r'⟩⟩
            refine thn (hv.run pins _ σ H _ I1 he) fun v1 s1 ⟨y1, H1, I2, ry, ey, m1, st1, rl1⟩ => ?_
            subst ey
            have dx1 : DR X.K m1 H1 dx vx := x.K ▸ (by assumption : DR W.G.K m H dx vx).step st1
            have rq : rc W.G eqV vx (.str key) H1 (fun y H2 => ∃ kk, y = .bl kk ∧ eqV h dx (.str key) = some kk ∧ ∃ m2, Step m1 H1 m2 H2 ∧ Rel W.G m2 h H2) := by
              refine ⟨m1, h, dx, .str key, fun _ _ _ => False, rl1, x.K ▸ dx1, .str key, ?_⟩
              show Sat W.G (RD W.G) m1 H1 (boolO h (eqV h dx (.str key))) _ _
              cases e0 : eqV h dx (.str key) with
              | none => rw [e0] at z1; exact False.elim z1
              | some kk =>
                intro m2 H2 v2 st2 r2 q2
                cases q2
                exact ⟨kk, rfl, rfl, m2, st2, r2⟩
            refine thn (eq_ok (X := X) x.K x.units pins s1 σ H1 vx (.str key) ux v1 _ I2 r0 ry rq) fun v2 s2 ⟨y2, H2, I3, ry2, kk, ek, e0, m2, st2, rl2⟩ => ?_
            subst ek
            have hv2 : v2 = Value.bool kk := ry2
            subst hv2
            refine wpAny_truthy_bool ?_
            have st := st1.trans st2
            rw [e0] at z1
            cases kk with
            | false =>
              exact hr.run pins s2 σ H2 D (.ref ad) _ false I3 rfl ⟨m2, h, sl, dx :: dy, rl2, sr.step st, xi, (DR.tup t (.cons (by assumption) (by assumption))).step st, SatS.trans (o := exC ev cr (dx :: dy) sl h) z1 st⟩
            | true =>
              refine each_ok hc (by simp at hn; omega) ?_
              refine caps_ok x hc (by simp at hn; omega) I3 rr fun s3 I4 => ?_
              exact hb.run pins s3 _ H2 D I4 ⟨m2, h, putSl is dy sl, rl2, (sr.step st).puts ((by assumption : DRs W.G.K m H dy vy).step st), by rw [hxi]; trivial, SatS.trans (o := exSs ev cb (putSl is dy sl) h) z1 st⟩
      · have hn : its.toArray.size ≠ (Pattern.MatchValue ve vp :: ps).length := by simp; omega
        refine matchSeq_tuple_miss ht hfit hn ?_ hstar hwild
        have I1 : Inv X pins σ H { s with toks := s.toks + 1 + 1 } := I.kept (h' := s.heap) (t' := s.toks + 1 + 1) fun b o e => e
        refine hr.run pins _ σ H D _ _ false I1 r ⟨m, h, sl, ds, rl, sr, xi, .tup t dd, ?_⟩
        cases ds with
        | nil => exact z
        | cons d0 es =>
          have ne : ¬ es.length = is.length := by simp at hlen; omega
          have z1 : SatS W.G cc.xi W.xa m H (match decide (es.length = is.length) with
            | true => match eqV h d0 (.str key) with
              | some true => exSs ev cb (putSl is es sl) h
              | some false => exC ev cr (d0 :: es) sl h
              | none => .no
            | false => exC ev cr (d0 :: es) sl h) D E := z
          rw [decide_eq_false ne] at z1
          exact z1⟩
theorem s_mtch (x : XG W cc k ev X E) {e : Expr} {p : QE} {cs : List MatchCase} {c : QCs} {pos : Pos} (he : PE X e (RE W cc a E ev p)) (hc : PCs X cs (RCs W cc E ev c)) : PS X (.Match e cs pos) (RSt W cc E ev (.mtch p c)) :=
  ⟨fun pins s σ H D I ⟨m, h, sl, rl, sr, xi, z⟩ => by
    have z : SatS W.G cc.xi W.xa m H ((evE ev p sl h).st sl fun d h1 => match d with
      | .tup ds => exC ev c ds sl h1
      | _ => .no) D E := z
    refine wpAny_Match (thn (he.run pins s σ H _ I ⟨m, h, sl, rl, sr, xi, z.st (R := RD W.G) sr xi (Q := fun v H' => RCs W cc E ev c D σ H' v) fun d h1 m1 H1 v st r1 dv z1 => ?_⟩) fun u s1 ⟨v, H1, I1, r1, q1⟩ => hc.run pins s1 σ H1 D v u true I1 r1 q1)
    cases d with
    | tup ds => exact ⟨m1, h1, sl, ds, r1, sr.step st, xi, dv, z1⟩
    | _ => exact False.elim z1⟩
theorem s_bad {st : Stmt} : PS X st (RSt W cc E ev .bad) := PS.imp ps_never fun D σ H ⟨m, h, s, r, sr, xi, z⟩ => z
end
end PV
/-! PVL: every statement that has code. -/
namespace PV
open PySem PySem.Spec PyProof.Rows L2
def notLc : Expr → Bool
  | .ListComp .. => false
  | _ => true
def isTupE : Expr → Bool
  | .Tuple .. => true
  | _ => false
def isLoc (sc : Scope) (x : Str) : Bool := match sc.names.lookup x with
  | some .local => true
  | _ => false
theorem loc_of {sc : Scope} {x : Str} (h : isLoc sc x = true) : sc.names.lookup x = some .local := by
  unfold isLoc at h
  split at h
  · assumption
  · cases h
def noSwap (ts vs : List Expr) : Bool := !(ts.length == 2 || ts.length == 3) || vs.length != ts.length || vs.all (foldedForSure 8)
def cPar (cc : CC) (ts vs : List Expr) : Option QS := match ts, vs with
  | [.Name x px, .Name y py], [a, b] =>
    if !cc.hot && decide (cc.xi = none) && decide (x ≠ y) && isLoc cc.sc x && isLoc cc.sc y && decide (py.line = px.line) && !([a, b].all (foldedForSure 8)) && !([a, b].all (constantsAlone 8)) then
      match ixOf cc.N x, ixOf cc.N y, cE 60 cc a, cE 60 cc b with
      | some i, some j, some p, some q => some (.par i j p q)
      | _, _, _, _ => none
    else none
  | _, _ => none
def cAsg (cc : CC) (tg e : Expr) : Option QS := match tg with
  | .Name y _ => match cTgt cc 4 tg, cE 60 cc e with
    | some (.nm i), some p => some (.asg (.nm i) p)
    | _, _ => none
  | .Tuple ts _ _ => match e with
    | .Tuple vs _ _ => if noSwap ts vs then match cTgt cc 4 tg, cE 60 cc e with
        | some g, some p => some (.asg g p)
        | _, _ => none
      else cPar cc ts vs
    | e => match cTgt cc 4 tg, cE 60 cc e with
      | some g, some p => some (.asg g p)
      | _, _ => none
  | .Subscript o i _ => match cE 60 cc o, cE 60 cc i, cE 60 cc e with
    | some p, some q, some r => some (.sub p q r)
    | _, _, _ => none
  | .Attribute o f _ => match cc.gl.lookup ("." : Str), cE 60 cc o, cE 60 cc e with
    | some (.flds fs), some p, some q => if fs.contains f then some (.fset p f q) else none
    | _, _, _ => none
  | _ => none
def excN (cc : CC) (x : Str) : Option (Nat × List Str) := if plainName x && glB cc.sc x then match cc.gl.lookup x with
  | some (.exc c fs) => some (c, fs)
  | _ => none
  else none
/-- raise x(args) of an own class whose __init__ sets its fields -/
def cRaise (cc : CC) (x : Str) (args : List Expr) : Option QS := match excN cc x, cc.gl.lookup (mkey x) with
  | some (c, fs), some (.xin c' fs') => if c' = c ∧ fs' = fs ∧ fs.length ≤ 2 ∧ fs.Nodup ∧ args.length = fs.length then (cList (cE 60 cc) args).map (.raise c fs) else none
  | _, _ => none
mutual
def cS : Nat → CC → Stmt → Option QS
  | 0, _, _ => none
  | n + 1, cc, st => match st with
    | .Expr e _ => match e with
      | .Constant (.str _) _ _ => some .pass
      | e => if notLc e then (cE 60 cc e).map .expr else none
    | .Assign tgs e _ => match tgs with
      | [tg] => cAsg cc tg e
      | _ => none
    | .AugAssign tg op e _ => match tg with
      | .Name y _ => match cTgt cc 4 tg, cE 60 cc e with
        | some (.nm i), some p => some (.aug i op p)
        | _, _ => none
      | _ => none
    | .Return v _ => match v with
      | some e => (cE 60 cc e).map .ret
      | none => some .retN
    | .If c a b _ => match cT 60 cc c, cSs n cc a, cSs n cc b with
      | some t, some p, some q => some (.ife t p q)
      | _, _, _ => none
    | .While c b el _ => match el, cc.hot, cT 60 cc c, cSs n cc b with
      | [], false, some t, some p => some (.whl t p)
      | _, _, _, _ => none
    | .For tg it b el _ => match el, cc.hot, cTgt cc 4 tg with
      | [], false, some g => match cIter cc (cE 60 cc) g it, cSs n cc b with
        | some i, some p => some (.for g i p)
        | _, _ => none
      | _, _, _ => none
    | .Raise ex ca _ => match ex, ca, cc.hot with
      | some (.Call (.Name x _) args [] _), none, false => match args with
        | [] => match excN cc x with
          | some (c, []) => some (.raise c [] .nil)
          | _ => none
        | a :: r => cRaise cc x (a :: r)
      | _, _, _ => none
    | .Try b hs el fi _ => match hs, el, fi, cc.hot, cc.xi with
      | [.ExceptHandler (some (.Name x _)) nm (s0 :: ss) _], [], [], false, none => match excN cc x with
        | some (c, fs) => match nm with
          | none => match cSs n cc b, cSs n (cc.sui none) (s0 :: ss) with
            | some p, some q => some (.try p c none q)
            | _, _ => none
          | some y => match ixOf cc.N y with
            | some i => match isLoc cc.sc y, cSs n cc b, cSs n (cc.sui (some i)) (s0 :: ss) with
              | true, some p, some q => some (.try p c (some i) q)
              | _, _, _ => none
            | none => none
        | none => none
      | _, _, _, _, _ => none
    | .Pass _ => some .pass
    | .Break _ => some .brk
    | .Continue _ => some .cnt
    | .Match e cs _ => match cc.hot, cc.xi, cE 60 cc e, cCs n cc cs with
      | false, none, some p, some q => some (.mtch p q)
      | _, _, _, _ => none
    | _ => none
/-- a statement without code may stand where it is never reached -/
def cSs : Nat → CC → List Stmt → Option QSs
  | 0, _, _ => none
  | n + 1, cc, sts => match sts with
    | [] => some .nil
    | a :: r => match cSs n cc r with
      | some q => some (.cons ((cS n cc a).getD .bad) q)
      | none => none
def cCs : Nat → CC → List MatchCase → Option QCs
  | 0, _, _ => none
  | n + 1, cc, cs => match cs with
    | [] => some .nil
    | ⟨.MatchSequence (.MatchValue ve _ :: ps) _, none, b⟩ :: r => match cE 60 cc ve, capIx cc ps, cSs n cc b, cCs n cc r with
      | some (.con (.str k)), some is, some p, some q => some (.cons k is p q)
      | _, _, _, _ => none
    | _ => none
end
section
variable {W : WD} {cc : CC} {k : Nat} {ev : Ev} {X : Cx} {E : WX} {e : Expr} {p : QE} {pos : Pos} {n : Nat}
theorem lc_inv {elt : Expr} {gs : List Comprehension} {scope : Scope} (h : cE (n + 1) cc (.ListComp elt gs scope pos) = some p) : ∃ tg it ifs own g i el ct, gs = [⟨tg, it, ifs, 0⟩] ∧ cc.hot = false ∧ ownOf cc.N scope.names = some own ∧ blkC cc.N cc.sc scope own = true ∧ cTgt (cBlk cc scope own) 4 tg = some g ∧
    cIter cc (cE n cc) g it = some i ∧ cE n (cBlk cc scope own) elt = some el ∧ ((ifs = [] ∧ ct = .yes) ∨ ∃ c, ifs = [c] ∧ cT n (cBlk cc scope own) c = some ct) ∧ p = .lc el g i (own.map (·.2)) ct := by
  change (match (generalizing := false) gs with
    | [⟨tg, it, ifs, as⟩] => match decide (as = 0) && !cc.hot, ownOf cc.N scope.names with
      | true, some own => match blkC cc.N cc.sc scope own with
        | true => match cTgt (cBlk cc scope own) 4 tg with
          | some g => match cIter cc (cE n cc) g it, cE n (cBlk cc scope own) elt with
            | some i, some el => match ifs with
              | [] => some (QE.lc el g i (own.map (·.2)) .yes)
              | [c] => match cT n (cBlk cc scope own) c with
                | some t => some (QE.lc el g i (own.map (·.2)) t)
                | none => none
              | _ => none
            | _, _ => none
          | none => none
        | false => none
      | _, _ => none
    | _ => none) = some p at h
  split at h
  · rename_i tg it ifs as
    split at h
    · rename_i own h0 hown
      rw [Bool.and_eq_true] at h0
      have has : as = 0 := of_decide_eq_true h0.1
      have hcold : cc.hot = false := by simpa using h0.2
      subst has
      split at h
      · rename_i hb
        split at h
        · rename_i g hg
          split at h
          · rename_i i el hi he
            split at h
            · cases h
              exact ⟨tg, it, [], own, g, i, el, .yes, rfl, hcold, hown, hb, hg, hi, he, .inl ⟨rfl, rfl⟩, rfl⟩
            · rename_i c
              split at h
              · rename_i t ht
                cases h
                exact ⟨tg, it, [c], own, g, i, el, t, rfl, hcold, hown, hb, hg, hi, he, .inr ⟨c, rfl, ht⟩, rfl⟩
              · cases h
            · cases h
          · cases h
        · cases h
      · cases h
    · cases h
  · cases h
/-- no other comprehension has code -/
theorem sw_none {tg : Option Expr} {l : Nat} {env : Env} (h : cE n cc e = some p) (hl : notLc e = true) : swapsWith e tg l env = pure false := by
  cases n with
  | zero => cases h
  | succ n => cases e <;> first | rfl | cases h | cases hl
theorem sw_some {tg : Expr} {l : Nat} {env : Env} (h : cE n cc e = some p) (ht : ∀ y py, tg ≠ .Name y py) : swapsWith e (some tg) l env = pure false := by
  cases n with
  | zero => cases h
  | succ n =>
    cases e with
    | ListComp elt gs scope pos => cases tg <;> first | rfl | exact absurd rfl (ht _ _)
    | _ => first | rfl | cases h
theorem blockK {env : Env} (hk : env.scope.kind = .function) : env.blockKind = .function := by
  unfold Env.blockKind
  rw [hk]
  rfl
theorem sw_name {y : Str} {py : Pos} {l : Nat} {env : Env} (hk : env.scope.kind = .function) (h : cE n cc e = some p) : swapsWith e (some (.Name y py)) l env = pure false ∨ (∃ elt gs scope pos, e = .ListComp elt gs scope pos ∧ env.scope.names.lookup y = some .local ∧ swapsWith e (some (.Name y py)) l env = pure true) := by
  cases n with
  | zero => cases h
  | succ n =>
    cases e with
    | ListComp elt gs scope pos =>
      have hb := blockK hk
      by_cases h1 : env.scope.names.lookup y = some .local
      · by_cases h2 : (py.line == pos.line && !(scope.names.any fun (n, k) => n == y && (k == .local || k == .cell))) = true
        · refine .inr ⟨elt, gs, scope, pos, rfl, h1, ?_⟩
          rw [Bool.and_eq_true] at h2
          exact sw_true hk h1 h2.1 (by simpa using h2.2)
        · refine .inl ?_
          have h2 : (py.line == pos.line && !(scope.names.any fun (n, k) => n == y && (k == .local || k == .cell))) = false := (Bool.not_eq_true _).mp h2
          have ky : env.kindOf y = some .local := h1
          show (pure (env.blockKind == .function && env.kindOf y == some .local && py.line == pos.line && !(scope.names.any fun (n, k) => n == y && (k == .local || k == .cell))) : Sem Bool) = pure false
          rw [Bool.and_assoc, h2, Bool.and_false]
      · refine .inl ?_
        have ky : (env.kindOf y == some NameKind.local) = false := by
          show (env.scope.names.lookup y == some NameKind.local) = false
          cases q : env.scope.names.lookup y == some NameKind.local with
          | false => rfl
          | true => exact absurd (beq_iff_eq.mp q) h1
        show (pure (env.blockKind == .function && env.kindOf y == some .local && py.line == pos.line && !(scope.names.any fun (n, k) => n == y && (k == .local || k == .cell))) : Sem Bool) = pure false
        rw [ky, Bool.and_false, Bool.false_and, Bool.false_and]
    | _ => first | exact .inl rfl | cases h
theorem ss_notup {tg e : Expr} {env : Env} (h : isTupE e = false) : swappedStores [tg] e env = pure none := by
  cases e <;> cases tg <;> first | rfl | cases h
theorem ss_noname {tg e : Expr} {env : Env} (h : isTupE tg = false) (hl : ∀ ts p, tg ≠ .List ts p) : swappedStores [tg] e env = pure none := by
  cases tg with
  | Tuple _ _ _ => cases h
  | List ts p => exact absurd rfl (hl ts p)
  | _ => cases e <;> rfl
theorem ss_folded {ts vs : List Expr} {k1 k2 : Nat} {p1 p2 : Pos} {env : Env} (h : noSwap ts vs = true) : swappedStores [.Tuple ts k1 p1] (.Tuple vs k2 p2) env = pure none := by
  unfold noSwap at h
  show (if (!(ts.length == 2 || ts.length == 3) || vs.length != ts.length || env.blockKind != .function) = true then pure none else _) = _
  by_cases h1 : (!(ts.length == 2 || ts.length == 3) || vs.length != ts.length || env.blockKind != .function) = true
  · rw [if_pos h1]
  · rw [if_neg h1]
    have h2 : vs.all (foldedForSure 8) = true := by
      simp only [Bool.or_eq_true, not_or] at h1 h
      rcases h with (h | h) | h
      · exact absurd h h1.1.1
      · exact absurd h h1.1.2
      · exact h
    rw [h2]
    split
    · rfl
    · dsimp only
      split <;> rfl
theorem anyStar {a b : Expr} (s1 : notStar a = true) (s2 : notStar b = true) : ([a, b].any fun | .Starred .. => true | _ => false) = false := by
  have one : ∀ e : Expr, notStar e = true → (match e with | .Starred .. => true | _ => false) = false := fun e h => by
    cases e <;> first | rfl | cases h
  rw [List.any_cons, List.any_cons, one a s1, one b s2]
  rfl
theorem ss_par {x y : Str} {px py : Pos} {a b : Expr} {k1 k2 : Nat} {p1 p2 : Pos} {env : Env} (hk : env.scope.kind = .function) (hx : env.scope.names.lookup x = some .local) (hy : env.scope.names.lookup y = some .local) (hxy : x ≠ y) (hl : py.line = px.line) (s1 : notStar a = true) (s2 : notStar b = true)
    (h1 : [a, b].all (foldedForSure 8) = false) (h2 : [a, b].all (constantsAlone 8) = false) : swappedStores [.Tuple [.Name x px, .Name y py] k1 p1] (.Tuple [a, b] k2 p2) env = pure (some [x, y]) := by
  have hb := blockK hk
  have kx : env.kindOf x = some .local := hx
  have ky : env.kindOf y = some .local := hy
  have hst := anyStar s1 s2
  have nm : ([Expr.Name x px, Expr.Name y py].filterMap fun
    | .Name id pos => if env.kindOf id == some .local && pos.line == px.line then some id else none
    | _ => none) = [x, y] := by
    simp [kx, ky, hl]
  have hd : ([x, y] : List Str).eraseDups.length = 2 := by
    simp [List.eraseDups_cons, hxy, Ne.symm hxy]
  show (if (!(2 == 2 || 2 == 3) || (2 : Nat) != 2 || env.blockKind != .function) = true then pure none else _) = _
  rw [hb]
  rw [if_neg (by decide)]
  show (if ([a, b].any fun | .Starred .. => true | _ => false) = true then pure none else _) = _
  rw [hst, if_neg (by decide)]
  show (if ((([Expr.Name x px, Expr.Name y py].filterMap fun
    | .Name id pos => if env.kindOf id == some .local && pos.line == px.line then some id else none
    | _ => none).length != 2) || ((([Expr.Name x px, Expr.Name y py].filterMap fun
    | .Name id pos => if env.kindOf id == some .local && pos.line == px.line then some id else none
    | _ => none).eraseDups.length != ([Expr.Name x px, Expr.Name y py].filterMap fun
    | .Name id pos => if env.kindOf id == some .local && pos.line == px.line then some id else none
    | _ => none).length))) = true then pure none else if [a, b].all (foldedForSure 8) = true then pure none else _) = _
  rw [nm, hd, if_neg (by simp), h1, if_neg (by decide)]
  show (if [a, b].all (constantsAlone 8) = true then _ else _) = _
  rw [h2, if_neg (by decide)]
  exact congrArg (fun l => (pure (some l) : Sem (Option (List Str)))) nm
theorem tgt1 (h : cTgt cc n e = some (.nm i)) : ∃ y py, e = .Name y py ∧ y ∈ cc.as ∧ ixOf cc.N y = some i ∧ cc.xi ≠ some i := by
  cases n with
  | zero => cases h
  | succ n =>
    cases e with
    | Name y py =>
      have h : (if cc.as.contains y then match ixOf cc.N y with
        | some i => if cc.xi = some i then none else some (QG.nm i)
        | none => none
        else none) = some (QG.nm i) := h
      split at h
      · rename_i hy
        split at h
        · rename_i j hj
          split at h
          · cases h
          · rename_i hx
            cases h
            exact ⟨y, py, rfl, by simpa using hy, hj, hx⟩
        · cases h
      · cases h
    | Tuple es kk py =>
      have h : (if cc.hot then none else (cTgts (cTgt cc n) es).map QG.tp) = some (QG.nm i) := h
      split at h
      · cases h
      · cases e1 : cTgts (cTgt cc n) es with
        | none => rw [e1] at h; cases h
        | some gs => rw [e1] at h; cases h
    | _ => cases h
theorem tgt_hx {g : QG} (h : cTgt cc n e = some g) : ∀ i ∈ gIx g, cc.xi ≠ some i := tgt_ix (fun i => cc.xi ≠ some i) (fun _ _ _ _ h => h) n h
theorem assign1 {tg : Expr} (h : notStar tg = true) (env : Env) : (assignEach [tg] env).map (·.2) = [assign tg env] := by
  rw [assignEach1 h]
  rfl
theorem ok_e (x : XG W cc k ev X E) (h : cE n cc e = some p) : PE X e (RE W cc 0 E ev p) := (all_ok n).1 cc e p h W k ev X E 0 x
theorem ok_t (x : XG W cc k ev X E) {t : QT} (h : cT n cc e = some t) : PT X e (RT W cc 0 E ev t) := (all_ok n).2 cc e t h W k ev X E 0 x
theorem asg_name (x : XS W cc k ev X E) {y : Str} {py : Pos} {i : Nat} (hy : y ∈ cc.as) (hi : ixOf cc.N y = some i) (hx : cc.xi ≠ some i) (h : cE (n + 1) cc e = some p) : PS X (.Assign [.Name y py] e pos) (RSt W cc E ev (.asg (.nm i) p)) := by
  have hxi : ∀ j ∈ gIx (.nm i), cc.xi ≠ some j := fun j hj => by
    have : j = i := by simpa [gIx] using hj
    rw [this]
    exact hx
  have hk : X.env.scope.kind = .function := by rw [x.sc]; exact x.fun_
  rcases sw_name (y := y) (py := py) (l := pos.line) hk h with sw | ⟨elt, gs, scope, pos', rfl, hl, sw⟩
  · exact s_asg hxi (ok_e x.toXG h) (g_name x.toXG hy hi) sw (ss_noname rfl fun _ _ z => by cases z) rfl
  · obtain ⟨tg, it, ifs, own, g, ii, el, ct, rfl, hcold, hown, hb, hg, hit, he, hc, rfl⟩ := lc_inv h
    have hf : ∀ e p, cE n cc e = some p → notStar e = true ∧ PE X e (RE W cc 0 E ev p) := fun e p h => ⟨(cE_kind h).1, ok_e x.toXG h⟩
    obtain ⟨pi, ns⟩ := iter_ok x.toXG hf (fun e p h => (cE_kind h).2.2) (tgt_tup hg) hit
    obtain ⟨pe, pt⟩ := lc_parts (a := 0) n (all_ok n).1 (all_ok n).2 x.toXG hg hit he hc (xg_blk x.toXG hcold hown hb)
    exact s_asgN hx (k_setLc x.toXG hcold (ixOf_get hi) (by rw [← x.sc]; exact hl) sw hown hb hg pi pe pt (setIt ns))
end
end PV
/-! PVM: every block that has code. -/
namespace PV
open PySem PySem.Spec PyProof.Rows L2
def OkS (n : Nat) : Prop := ∀ (cc : CC) (st : Stmt) (c : QS), cS n cc st = some c → ∀ (W : WD) (k : Nat) (ev : Ev) (X : Cx) (E : WX), XS W cc k ev X E → PS X st (RSt W cc E ev c)
def OkB (n : Nat) : Prop := ∀ (cc : CC) (sts : List Stmt) (c : QSs), cSs n cc sts = some c → ∀ (W : WD) (k : Nat) (ev : Ev) (X : Cx) (E : WX), XS W cc k ev X E → PSs X sts (RSs W cc E ev c)
def OkC (n : Nat) : Prop := ∀ (cc : CC) (cs : List MatchCase) (c : QCs), cCs n cc cs = some c → cc.hot = false → cc.xi = none → ∀ (W : WD) (k : Nat) (ev : Ev) (X : Cx) (E : WX), XS W cc k ev X E → PCs X cs (RCs W cc E ev c)
section
variable {W : WD} {cc : CC} {k : Nat} {ev : Ev} {X : Cx} {E : WX} {e : Expr} {p : QE} {pos : Pos} {n : Nat}
theorem exc_of {x : Str} {c : Nat} {fs : List Str} (h : excN cc x = some (c, fs)) : plainName x = true ∧ glB cc.sc x = true ∧ cc.gl.lookup x = some (.exc c fs) := by
  unfold excN at h
  split at h
  · rename_i hp
    rw [Bool.and_eq_true] at hp
    split at h
    · rename_i e0
      cases h
      exact ⟨hp.1, hp.2, e0⟩
    · cases h
  · cases h
theorem asg_ok (x : XS W cc k ev X E) {tg : Expr} {c : QS} (h : cAsg cc tg e = some c) : PS X (.Assign [tg] e pos) (RSt W cc E ev c) := by
  have hk : X.env.scope.kind = .function := by rw [x.sc]; exact x.fun_
  have plain : ∀ {g : QG} {p : QE}, (∀ y py, tg ≠ .Name y py) → swappedStores [tg] e X.env = pure none → cTgt cc 4 tg = some g → cE 60 cc e = some p → PS X (.Assign [tg] e pos) (RSt W cc E ev (.asg g p)) := fun {g p} hn hw h1 h2 =>
    s_asg (tgt_hx h1) (ok_e x.toXG h2) (g_all x.toXG 4 h1) (sw_some h2 hn) hw (assign1 (tgt_notStar h1) _)
  unfold cAsg at h
  split at h
  · rename_i y py
    split at h
    · rename_i i p h1 h2
      cases h
      obtain ⟨y', py', e1, hy, hi, hx⟩ := tgt1 h1
      cases e1
      exact asg_name x hy hi hx h2
    · cases h
  · rename_i ts kt pt
    split at h
    · rename_i vs k2 p2
      split at h
      · rename_i hno
        split at h
        · rename_i g p h1 h2
          cases h
          exact plain (fun _ _ z => by cases z) (ss_folded hno) h1 h2
        · cases h
      · unfold cPar at h
        split at h
        · rename_i xx px yy py a b
          split at h
          · rename_i hc
            simp only [Bool.and_eq_true, Bool.not_eq_true', decide_eq_true_eq] at hc
            obtain ⟨⟨⟨⟨⟨⟨⟨c1, c2⟩, c3⟩, c4⟩, c5⟩, c6⟩, c7⟩, c8⟩ := hc
            split at h
            · rename_i i j p q h1 h2 h3 h4
              cases h
              have lx := loc_of c4
              have ly := loc_of c5
              have s1 := (cE_kind h3).1
              have s2 := (cE_kind h4).1
              exact s_par x.toXG c1 c2 h1 h2 c3 lx ly s1 s2 (ok_e x.toXG h3) (ok_e x.toXG h4) (ss_par hk (by rw [x.sc]; exact lx) (by rw [x.sc]; exact ly) c3 c6 s1 s2 c7 c8)
            · cases h
          · cases h
        · cases h
    · rename_i hne
      split at h
      · rename_i g p h1 h2
        cases h
        refine plain (fun _ _ z => by cases z) (ss_notup ?_) h1 h2
        cases e <;> first | rfl | exact absurd rfl (hne _ _ _)
      · cases h
  · rename_i o i tp
    split at h
    · rename_i p q r h1 h2 h3
      cases h
      exact s_sub x.toXG (cE_kind h2).2.1 (ok_e x.toXG h3) (ok_e x.toXG h1) (ok_e x.toXG h2) (sw_some (tg := .Subscript o i tp) (l := pos.line) (env := X.env) h3 fun _ _ z => by cases z)
    · cases h
  · rename_i o f tp
    split at h
    · rename_i fs p q h1 h2 h3
      split at h
      · rename_i hf
        cases h
        exact s_fset x.toXG h1 (by simpa using hf) (ok_e x.toXG h3) (ok_e x.toXG h2) (sw_some (tg := .Attribute o f tp) (l := pos.line) (env := X.env) h3 fun _ _ z => by cases z)
      · cases h
    · cases h
  · cases h
theorem raise_ok (x : XS W cc k ev X E) (hcold : cc.hot = false) {y : Str} {py cp : Pos} {a1 : Expr} {r1 : List Expr} {c : QS} (h : cRaise cc y (a1 :: r1) = some c) : PS X (.Raise (some (.Call (.Name y py) (a1 :: r1) [] cp)) none pos) (RSt W cc E ev c) := by
  unfold cRaise at h
  split at h
  · rename_i c0 fs c' fs' h1 h2
    split at h
    · rename_i hc
      obtain ⟨rfl, rfl, l2, nd, ln⟩ := hc
      cases e1 : cList (cE 60 cc) (a1 :: r1) with
      | none => rw [e1] at h; cases h
      | some es =>
        rw [e1] at h
        cases h
        obtain ⟨n1, n2, n3⟩ := exc_of h1
        have hf : ∀ e p, cE 60 cc e = some p → notStar e = true ∧ PE X e (RE W cc 0 E ev p) := fun e p h => ⟨(cE_kind h).1, ok_e x.toXG h⟩
        obtain ⟨m1, l1, pa⟩ := list_ok hf e1
        exact s_raiseF x.toXG hcold n1 n2 n3 h2 m1 l2 nd (by rw [l1, ln]) pa
    · cases h
  · cases h
theorem blocks3 : ∀ n : Nat, OkS n ∧ OkB n ∧ OkC n
  | 0 => ⟨fun cc st c h => by simp [cS] at h, fun cc st c h => by simp [cSs] at h, fun cc st c h => by simp [cCs] at h⟩
  | n + 1 => by
    obtain ⟨hS, hB, hC⟩ := blocks3 n
    refine ⟨fun cc st c h W k ev X E x => ?_, fun cc sts c h W k ev X E x => ?_, fun cc cs c h hot hxi W k ev X E x => ?_⟩
    · have bl : ∀ {sts : List Stmt} {c : QSs}, cSs n cc sts = some c → PSs X sts (RSs W cc E ev c) := fun {sts c} h => hB cc sts c h W k ev X E x
      cases st with
      | Expr e pos =>
        have gen : ∀ e, notLc e = true → (cE 60 cc e).map QS.expr = some c → PS X (.Expr e pos) (RSt W cc E ev c) := fun e hl h => by
          cases e1 : cE 60 cc e with
          | none => rw [e1] at h; cases h
          | some p =>
            rw [e1] at h
            cases h
            exact s_expr (ok_e x.toXG e1) (sw_none e1 hl)
        change (match (generalizing := false) e with
          | .Constant (.str _) _ _ => some QS.pass
          | e => if notLc e then (cE 60 cc e).map .expr else none) = some c at h
        split at h
        · cases h
          exact s_doc
        · split at h
          · rename_i hl
            exact gen _ hl h
          · cases h
      | Assign tgs e pos =>
        change (match (generalizing := false) tgs with
          | [tg] => cAsg cc tg e
          | _ => none) = some c at h
        split at h
        · exact asg_ok x h
        · cases h
      | AugAssign tg op e pos =>
        change (match (generalizing := false) tg with
          | .Name y _ => match cTgt cc 4 tg, cE 60 cc e with
            | some (.nm i), some p => some (QS.aug i op p)
            | _, _ => none
          | _ => none) = some c at h
        split at h
        · split at h
          · rename_i i p h1 h2
            cases h
            obtain ⟨y', py', e1, hy, hi, hx⟩ := tgt1 h1
            cases e1
            exact s_aug x.toXG hy hi hx (ok_e x.toXG h2)
          · cases h
        · cases h
      | Return v pos =>
        cases v with
        | none =>
          have h : some QS.retN = some c := h
          cases h
          exact s_retN
        | some e =>
          have h : (cE 60 cc e).map QS.ret = some c := h
          cases e1 : cE 60 cc e with
          | none => rw [e1] at h; cases h
          | some p =>
            rw [e1] at h
            cases h
            exact s_ret (ok_e x.toXG e1)
      | If cond b1 b2 pos =>
        change (match (generalizing := false) cT 60 cc cond, cSs n cc b1, cSs n cc b2 with
          | some t, some p, some q => some (QS.ife t p q)
          | _, _, _ => none) = some c at h
        split at h
        · rename_i h1 h2 h3
          cases h
          exact s_if (ok_t x.toXG h1) (bl h2) (bl h3)
        · cases h
      | While cond b el pos =>
        change (match (generalizing := false) el, cc.hot, cT 60 cc cond, cSs n cc b with
          | [], false, some t, some p => some (QS.whl t p)
          | _, _, _, _ => none) = some c at h
        split at h
        · rename_i h0 h1 h2
          cases h
          exact s_while x h0 (ok_t x.toXG h1) (bl h2)
        · cases h
      | For tg it b el pos =>
        change (match (generalizing := false) el, cc.hot, cTgt cc 4 tg with
          | [], false, some g => match cIter cc (cE 60 cc) g it, cSs n cc b with
            | some i, some p => some (QS.for g i p)
            | _, _ => none
          | _, _, _ => none) = some c at h
        split at h
        · rename_i g h0 h1
          split at h
          · rename_i i p h2 h3
            cases h
            obtain ⟨pi, ns⟩ := iter_ok (a := 0) x.toXG (fun e p h => ⟨(cE_kind h).1, ok_e x.toXG h⟩) (fun e p h => (cE_kind h).2.2) (tgt_tup h1) h2
            exact s_for x h0 (tgt_hx h1) pi (g_all x.toXG 4 h1) (bl h3) (setIt ns)
          · cases h
        · cases h
      | Raise ex ca pos =>
        change (match (generalizing := false) ex, ca, cc.hot with
          | some (.Call (.Name x _) args [] _), none, false => match (generalizing := false) args with
            | [] => match (generalizing := false) excN cc x with
              | some (c, []) => some (QS.raise c [] .nil)
              | _ => none
            | a :: r => cRaise cc x (a :: r)
          | _, _, _ => none) = some c at h
        split at h
        · rename_i h0
          split at h
          · split at h
            · rename_i h1
              cases h
              obtain ⟨n1, n2, n3⟩ := exc_of h1
              exact s_raise0 x.toXG h0 n1 n2 n3
            · cases h
          · rename_i a1 r1
            exact raise_ok x h0 h
        · cases h
      | Try b hs el fi pos =>
        change (match (generalizing := false) hs, el, fi, cc.hot, cc.xi with
          | [.ExceptHandler (some (.Name x _)) nm (s0 :: ss) _], [], [], false, none => match excN cc x with
            | some (c, fs) => match nm with
              | none => match cSs n cc b, cSs n (cc.sui none) (s0 :: ss) with
                | some p, some q => some (QS.try p c none q)
                | _, _ => none
              | some y => match ixOf cc.N y with
                | some i => match isLoc cc.sc y, cSs n cc b, cSs n (cc.sui (some i)) (s0 :: ss) with
                  | true, some p, some q => some (QS.try p c (some i) q)
                  | _, _, _ => none
                | none => none
            | none => none
          | _, _, _, _, _ => none) = some c at h
        split at h
        · rename_i h0 hxi
          split at h
          · rename_i cx fs h1
            obtain ⟨n1, n2, n3⟩ := exc_of h1
            split at h
            · split at h
              · rename_i p q h2 h3
                cases h
                exact s_try_only x h0 hxi n1 n2 n3 (fun X' E' x' => hB cc _ _ h2 W k ev X' E' x') (fun W' ev' X' x' => hB _ _ _ h3 W' k ev' X' F0 x')
              · cases h
            · split at h
              · rename_i i hi
                split at h
                · rename_i p q hl h2 h3
                  cases h
                  exact s_try_as x h0 hxi n1 n2 n3 hi (loc_of hl) (fun X' E' x' => hB cc _ _ h2 W k ev X' E' x') (fun W' ev' X' x' => hB _ _ _ h3 W' k ev' X' F0 x')
                · cases h
              · cases h
          · cases h
        · cases h
      | Pass pos =>
        have h : some QS.pass = some c := h
        cases h
        exact s_pass
      | Break pos =>
        have h : some QS.brk = some c := h
        cases h
        exact s_brk
      | Continue pos =>
        have h : some QS.cnt = some c := h
        cases h
        exact s_cnt
      | Match e cs pos =>
        change (match (generalizing := false) cc.hot, cc.xi, cE 60 cc e, cCs n cc cs with
          | false, none, some p, some q => some (QS.mtch p q)
          | _, _, _, _ => none) = some c at h
        split at h
        · rename_i p q h0 hxi h1 h2
          cases h
          exact s_mtch x.toXG (ok_e x.toXG h1) (hC cc cs q h2 h0 hxi W k ev X E x)
        · cases h
      | _ => cases h
    · cases sts with
      | nil =>
        have h : some QSs.nil = some c := h
        cases h
        exact ss_nil
      | cons st sts =>
        change (match (generalizing := false) cSs n cc sts with
          | some q => some (QSs.cons ((cS n cc st).getD .bad) q)
          | none => none) = some c at h
        split at h
        · rename_i q h2
          cases h
          cases h1 : cS n cc st with
          | none => exact ss_cons s_bad (hB cc sts q h2 W k ev X E x)
          | some p => exact ss_cons (hS cc st p h1 W k ev X E x) (hB cc sts q h2 W k ev X E x)
        · cases h
    · cases cs with
      | nil =>
        have h : some QCs.nil = some c := h
        cases h
        exact pcs_nil
      | cons mc r =>
        change (match (generalizing := false) mc :: r with
          | [] => some QCs.nil
          | ⟨.MatchSequence (.MatchValue ve _ :: ps) _, none, b⟩ :: r => match cE 60 cc ve, capIx cc ps, cSs n cc b, cCs n cc r with
            | some (.con (.str k)), some is, some p, some q => some (QCs.cons k is p q)
            | _, _, _, _ => none
          | _ => none) = some c at h
        split at h
        · rename_i e0
          cases e0
        · rename_i e0
          cases e0
          split at h
          · rename_i h1 h2 h3 h4
            cases h
            exact pcs_cons x.toXG hot hxi (ok_e x.toXG h1) h2 (hB cc _ _ h3 W k ev X E x) (hC cc _ _ h4 hot hxi W k ev X E x)
          · cases h
        · cases h
theorem blocks (n : Nat) : OkS n ∧ OkB n := ⟨(blocks3 n).1, (blocks3 n).2.1⟩
end
end PV
/-! PVN: a def keeps its promise; all defs, level by level. -/
namespace PV
open PySem PySem.Spec PyProof.Rows L2
/-! ### what a def leaves -/
section
variable {G : GW} {m l : List Addr} {H : Hp} {a : Addr}
theorem fs_lt {K : PySem.W.Frag} : ∀ {fs : List (Str × D)} {vs : List (Str × V)}, FsR K m H fs vs → fsLt m.length fs = true
  | _, _, .nil => rfl
  | _, _, .cons a r => by
    unfold fsLt
    rw [a.2.lt, fs_lt r]
    rfl
theorem kv_lt {K : PySem.W.Frag} : ∀ {fs : List (L2.Key × D)} {vs : List (L2.Key × V)}, KvR K m H fs vs → kvLt m.length fs = true
  | _, _, .nil => rfl
  | _, _, .cons a r => by
    unfold kvLt
    rw [a.2.lt, kv_lt r]
    rfl
theorem cell_lt {c : Cell} (r : CellR G m H a c) : Cell.lt m.length c = true := by
  cases c with
  | lst ds => obtain ⟨vs, _, d⟩ := r; exact d.lts
  | obj C fs => obtain ⟨_, _, _, _, _, d⟩ := r; exact fs_lt d
  | dct kvs => obtain ⟨_, _, d⟩ := r; exact kv_lt d
theorem fs_cut {K : PySem.W.Frag} : ∀ {fs : List (Str × D)} {vs : List (Str × V)}, FsR K (m ++ l) H fs vs → fsLt m.length fs = true → FsR K m H fs vs
  | _, _, .nil, _ => .nil
  | _, _, .cons a r, h => by
    unfold fsLt at h
    rw [Bool.and_eq_true] at h
    exact .cons ⟨a.1, a.2.cut h.1⟩ (fs_cut r h.2)
theorem kv_cut {K : PySem.W.Frag} : ∀ {fs : List (L2.Key × D)} {vs : List (L2.Key × V)}, KvR K (m ++ l) H fs vs → kvLt m.length fs = true → KvR K m H fs vs
  | _, _, .nil, _ => .nil
  | _, _, .cons a r, h => by
    unfold kvLt at h
    rw [Bool.and_eq_true] at h
    exact .cons ⟨a.1, a.2.cut h.1⟩ (kv_cut r h.2)
theorem cell_cut {c : Cell} (r : CellR G (m ++ l) H a c) (h : Cell.lt m.length c = true) : CellR G m H a c := by
  cases c with
  | lst ds => obtain ⟨vs, e, d⟩ := r; exact ⟨vs, e, d.cut h⟩
  | obj C fs => obtain ⟨Ca, dx, vs, e1, e2, d⟩ := r; exact ⟨Ca, dx, vs, e1, e2, fs_cut d h⟩
  | dct kvs => obtain ⟨vs, e, d⟩ := r; exact ⟨vs, e, kv_cut d h⟩
end
theorem keeps_get {n : Nat} : ∀ {h h' : Hd} {i : Nat} {c : Cell}, keepsCells n h h' = true → i < h.length → h'[i]? = some c → h[i]? = some c ∨ Cell.lt n c = true
  | [], _, _, _, _, hi, _ => by cases hi
  | a :: r, [], _, _, k, _, _ => by cases k
  | a :: r, b :: s, 0, c, k, _, e => by
    unfold keepsCells at k
    rw [Bool.and_eq_true, Bool.or_eq_true] at k
    have e : b = c := by simpa using e
    subst e
    rcases k.1 with k | k
    · exact .inl (by rw [Cell.eq_of_beq a b k]; rfl)
    · exact .inr k
  | a :: r, b :: s, i + 1, c, k, hi, e => by
    unfold keepsCells at k
    rw [Bool.and_eq_true] at k
    exact keeps_get (i := i) k.2 (by simpa using hi) (by simpa using e)
theorem gc_step {G : GW} {m m' : List Addr} {h h' : Hd} {H H' : Hp} (r : Rel G m h H) (st : Step m H m' H') (r' : Rel G m' h' H') (g : gcOk h h' = true) : Step m H m H' ∧ Rel G m (h'.take h.length) H' := by
  obtain ⟨l, e, n⟩ := st.pre
  have hl : h.length ≤ h'.length := by rw [← r.len, ← r'.len, e, List.length_append]; omega
  refine ⟨⟨⟨[], by simp, fun _ z => by cases z⟩, fun a ha => st.live a (by rw [e]; exact List.mem_append_left _ ha), st.keep, st.tups, st.frzs⟩, ⟨by rw [List.length_take, Nat.min_eq_left hl]; exact r.len, r.nd, fun i c a e1 e2 => ?_, fun p hp => ⟨(r'.pin p hp).1, fun z => (r'.pin p hp).2 (by rw [e]; exact List.mem_append_left _ z)⟩⟩⟩
  have hi : i < h.length := by
    rw [← r.len]
    exact (List.getElem?_eq_some_iff.mp e2).1
  have e1 : h'[i]? = some c := by rwa [List.getElem?_take_of_lt hi] at e1
  have c1 := r'.cell i c a e1 (st.get i a e2)
  rw [e] at c1
  refine cell_cut c1 ?_
  rcases keeps_get g hi e1 with k | k
  · exact cell_lt (r.cell i c a k e2)
  · rw [r.len]
    exact k
theorem gc_ok {G : GW} {m m' : List Addr} {h h' : Hd} {H H' : Hp} {d : D} {v : V} {Q : VK} {E : XKE} (r : Rel G m h H) (z : Sat G (RD G) m H (gc h d h') Q E) (st : Step m H m' H') (r' : Rel G m' h' H') (dv : DR G.K m' H' d v) : Q v H' := by
  unfold gc at z
  split at z
  · rename_i g
    rw [Bool.and_eq_true] at g
    obtain ⟨st2, r2⟩ := gc_step r st r' g.1
    obtain ⟨l, e, _⟩ := st.pre
    rw [e] at dv
    exact z m H' v st2 r2 (dv.cut (by rw [r.len]; exact g.2))
  · exact z m' H' v st r' dv
theorem gcE_ok {G : GW} {m m' : List Addr} {h h' : Hd} {H H' : Hp} {e : Exn} {cls : Value} {dx : Option Addr} {Q : VK} {E : XKE} (r : Rel G m h H) (z : Sat G (RD G) m H (gcE h e h') Q E) (st : Step m H m' H') (r' : Rel G m' h' H') (er : ExR G m' H' e cls dx) : E cls dx H' := by
  unfold gcE at z
  split at z
  · rename_i g
    rw [Bool.and_eq_true] at g
    obtain ⟨st2, r2⟩ := gc_step r st r' g.1
    exact z m H' cls dx st2 r2 er
  · exact z m' H' cls dx st r' er
/-- the slots at the entry -/
theorem start_rel {G : GW} {m : List Addr} {H : Hp} {N : List Str} {ds : List D} {vs : List V} (d : DRs G.K m H ds vs) : SR G m H (startD N.length ds) (L2.start N vs) := by
  refine ⟨by simp [startD, L2.start, d.length], fun i x e => ?_⟩
  unfold startD at e
  by_cases hi : i < ds.length
  · rw [List.getElem?_append_left (by simpa using hi), List.getElem?_map] at e
    cases q : ds[i]? with
    | none => rw [q] at e; cases e
    | some y =>
      rw [q] at e
      cases e
      obtain ⟨v, e1, dv⟩ := d.get q
      refine ⟨v, ?_, dv⟩
      unfold L2.start
      rw [List.getElem?_append_left (by rw [List.length_map, ← d.length]; exact hi), List.getElem?_map, e1]
      rfl
  · rw [List.getElem?_append_right (by simpa using hi)] at e
    rw [List.getElem?_replicate] at e
    split at e <;> cases e
def asOf (l : List (Str × NameKind)) : List Str := l.filterMap fun p => match p.2 with
  | .local => some p.1
  | .cell => some p.1
  | _ => none
/-- the names that a def may store -/
def asOk (sc : Scope) : Bool := (asOf sc.names).all fun x => match sc.names.lookup x with
  | some .local => true
  | some .cell => true
  | _ => false
theorem asOk_loc {sc : Scope} (h : asOk sc = true) {x : Str} (hx : x ∈ asOf sc.names) : Loc sc x := by
  have := List.all_eq_true.mp h x hx
  split at this
  · exact .inl (by assumption)
  · exact .inr (by assumption)
  · cases this
/-- what is known of a def without regard to its level -/
structure FnSt (W : WD) (gl : List (Str × Gv)) (fns : List FnC) (x : Str) (i np : Nat) (shapes : List (Nat × List Str × Arr)) : Prop where
  ex : ∃ (f : Addr) (fd : FuncData) (ps N : List Str) (y qual : Str) (params : Arguments) (body : List Stmt) (scope : Scope) (dvs : List V) (kws : List (Str × V)) (code : QSs), W.mg x = some (.ref f) ∧ ps.length = np ∧ FunD W.G.K y qual params body scope dvs kws f fd ∧ FnScope N ps scope ∧ asOk scope = true ∧
    fns[i]? = some ⟨np, N.length, code⟩ ∧ cSs 40 ⟨N, scope, asOf scope.names, gl, false, none⟩ body = some code ∧ ∀ n ks arr, (n, ks, arr) ∈ shapes → arr.length = np ∧ arrFlat arr = true ∧ ∃ g, KBn W.G.K fd ps n ks g (arrV arr)
/-- a def by its address -/
structure FnS0 (W : WD) (gl : List (Str × Gv)) (fns : List FnC) (f : Addr) (fd : FuncData) (ps : List Str) (i np : Nat) : Prop where
  ex : ∃ (N : List Str) (y qual : Str) (params : Arguments) (body : List Stmt) (scope : Scope) (dvs : List V) (kws : List (Str × V)) (code : QSs), ps.length = np ∧ FunD W.G.K y qual params body scope dvs kws f fd ∧ FnScope N ps scope ∧ asOk scope = true ∧
    fns[i]? = some ⟨np, N.length, code⟩ ∧ cSs 40 ⟨N, scope, asOf scope.names, gl, false, none⟩ body = some code
/-- what is known of a global name without regard to the level -/
def GvSt (W : WD) (gl : List (Str × Gv)) (fns : List FnC) (x : Str) : Gv → Prop
  | .fn i np shapes => FnSt W gl fns x i np shapes
  | .own C i np => ∃ Ca f fd ps, W.mg x = some (.ref Ca) ∧ W.G.oc C = some Ca ∧ Mk W.G.K Ca f ∧ Binds W.G.K fd ps [] ∧ FnS0 W gl fns f fd ps i np
  | .met C i np m => ∃ Ca f fd ps, W.G.oc C = some Ca ∧ Cls W.G.K Ca ∧ Meth W.G.K Ca m f ∧ Binds W.G.K fd ps [] ∧ FnS0 W gl fns f fd ps i np
  | v => GvOk W 0 ⟨fun _ _ _ => .no, 0, none, fun _ _ => false⟩ x v
def evk (fns : List FnC) (sub : Nat → Nat → Bool) (fuel k : Nat) : Ev := ⟨callI fns sub fuel k, fuel, none, sub⟩
theorem fn_body {W : WD} {gl : List (Str × Gv)} {fns : List FnC} {sub : Nat → Nat → Bool} {fuel k : Nat} (hg : ∀ x v, gl.lookup x = some v → GvOk W k (evk fns sub fuel k) x v) (hc : ∀ c Ca, W.G.cl c = some Ca → ClsOk W (evk fns sub fuel k) c Ca) {i np : Nat} {f : Addr} {fd : FuncData} {ps N : List Str} {y qual : Str} {params : Arguments} {body : List Stmt} {scope : Scope} {dvs : List V} {kws : List (Str × V)} {code : QSs}
    (h2 : ps.length = np) (FD : FunD W.G.K y qual params body scope dvs kws f fd) (S : FnScope N ps scope) (ha : asOk scope = true) (hf : fns[i]? = some ⟨np, N.length, code⟩) (hcd : cSs 40 ⟨N, scope, asOf scope.names, gl, false, none⟩ body = some code) :
    FnOk W.P W.w W.G.K W.mg W.base (L2.CX W.P W.w) (3 * (k + 1)) f fd ps (spF W.G np (callI fns sub fuel (k + 1) i)) := by
  refine FD.ok (k := 3 * k + 2) S (fun vs H Q E ⟨m, h, ds, r, d, l, z⟩ => by rw [← d.length, l, h2]) fun cdv A outer s H vs Q E hr hsp => ?_
  have r2 : Room (3 * k + 2) (A.deeper (envOfC qual scope s.heap.objs.size f cdv)) := hr.mono (by omega)
  have xs : XS W ⟨N, scope, asOf scope.names, gl, false, none⟩ k (evk fns sub fuel k) (cxOf (L2.CX W.P W.w) W.P W.w W.G.K W.mg W.base N qual scope f cdv A outer s H E) (fun c d _ H => E c d H) := by
    refine ⟨⟨rfl, rfl, rfl, rfl, rfl, rfl, S.nd, rfl, fun y hy => ⟨asOk_loc ha hy, .inl rfl⟩, fun _ => ⟨rfl, r2⟩, ?_, takes_of rfl rfl rfl rfl, hg, hc, fun z => by cases z⟩, fun _ => passes_of rfl, fun _ => ⟨rfl, rfl⟩, S.kind⟩
    have := r2.un
    show (A.deeper (envOfC qual scope s.heap.objs.size f cdv)).units + 64 < cLine
    omega
  refine ⟨_, (blocks 40).2 _ _ _ hcd W k _ _ _ xs, ?_⟩
  obtain ⟨m, h, ds, r, d, l, z⟩ := hsp
  have z : Sat W.G (RD W.G) m H (match fns[i]? with
    | none => .no
    | some fn => match decide (ds.length = fn.np) with
      | false => .no
      | true => match exSs (evk fns sub fuel k) fn.code (startD fn.nn ds) h with
        | .rt d h' => gc h d h'
        | .nx _ h' => gc h .non h'
        | .ex e _ h' => gcE h e h'
        | _ => .no) Q E := z
  rw [hf] at z
  have z : Sat W.G (RD W.G) m H (match decide (ds.length = np) with
      | false => .no
      | true => match exSs (evk fns sub fuel k) code (startD N.length ds) h with
        | .rt d h' => gc h d h'
        | .nx _ h' => gc h .non h'
        | .ex e _ h' => gcE h e h'
        | _ => .no) Q E := z
  rw [decide_eq_true l] at z
  have z : Sat W.G (RD W.G) m H (match exSs (evk fns sub fuel k) code (startD N.length ds) h with
        | .rt d h' => gc h d h'
        | .nx _ h' => gc h .non h'
        | .ex e _ h' => gcE h e h'
        | _ => .no) Q E := z
  refine ⟨m, h, startD N.length ds, r, start_rel d, trivial, ?_⟩
  cases e0 : exSs (evk fns sub fuel k) code (startD N.length ds) h with
  | nx s2 h2 =>
    rw [e0] at z
    exact fun m' H' σ' st r' _ _ => gc_ok r z st r' .non
  | rt d2 h2 =>
    rw [e0] at z
    exact fun m' H' v st r' dv => gc_ok r z st r' dv
  | ex e s2 h2 =>
    rw [e0] at z
    exact fun m' H' σ' cls dx st r' _ _ er => gcE_ok r z st r' er
  | bk s2 h2 => rw [e0] at z; exact False.elim z
  | ct s2 h2 => rw [e0] at z; exact False.elim z
  | no => rw [e0] at z; exact False.elim z
theorem fn_level {W : WD} {gl : List (Str × Gv)} {fns : List FnC} {sub : Nat → Nat → Bool} {fuel k : Nat} (hg : ∀ x v, gl.lookup x = some v → GvOk W k (evk fns sub fuel k) x v) (hc : ∀ c Ca, W.G.cl c = some Ca → ClsOk W (evk fns sub fuel k) c Ca) {x : Str} {i np : Nat} {shapes : List (Nat × List Str × Arr)} (F : FnSt W gl fns x i np shapes) : GvOk W (k + 1) (evk fns sub fuel (k + 1)) x (.fn i np shapes) := by
  obtain ⟨f, fd, ps, N, y, qual, params, body, scope, dvs, kws, code, h1, h2, FD, S, ha, hf, hcd, hsh⟩ := F.ex
  exact ⟨f, fd, ps, h1, FD.kp, h2, fn_body hg hc h2 FD S ha hf hcd, hsh⟩
theorem fn_zero {W : WD} {gl : List (Str × Gv)} {fns : List FnC} {sub : Nat → Nat → Bool} {fuel : Nat} {x : Str} {i np : Nat} {shapes : List (Nat × List Str × Arr)} (F : FnSt W gl fns x i np shapes) : GvOk W 0 (evk fns sub fuel 0) x (.fn i np shapes) := by
  obtain ⟨f, fd, ps, N, y, qual, params, body, scope, dvs, kws, code, h1, h2, FD, S, ha, hf, hcd, hsh⟩ := F.ex
  exact ⟨f, fd, ps, h1, FD.kp, h2, ⟨fun vs H Q E ⟨m, h, ds, r, d, l, z⟩ => by rw [← d.length, l, h2], fun A outer s H args us vs Q E hr e0 hb hv ⟨m, h, ds, r, d, l, z⟩ => False.elim z⟩, hsh⟩
theorem s0_level {W : WD} {gl : List (Str × Gv)} {fns : List FnC} {sub : Nat → Nat → Bool} {fuel k : Nat} (hg : ∀ x v, gl.lookup x = some v → GvOk W k (evk fns sub fuel k) x v) (hc : ∀ c Ca, W.G.cl c = some Ca → ClsOk W (evk fns sub fuel k) c Ca) {f : Addr} {fd : FuncData} {ps : List Str} {i np : Nat} (F : FnS0 W gl fns f fd ps i np) :
    ps.length = np ∧ FnOk W.P W.w W.G.K W.mg W.base (L2.CX W.P W.w) (3 * (k + 1)) f fd ps (spF W.G np (callI fns sub fuel (k + 1) i)) := by
  obtain ⟨N, y, qual, params, body, scope, dvs, kws, code, h2, FD, S, ha, hf, hcd⟩ := F.ex
  exact ⟨h2, fn_body hg hc h2 FD S ha hf hcd⟩
theorem s0_zero {W : WD} {gl : List (Str × Gv)} {fns : List FnC} {sub : Nat → Nat → Bool} {fuel : Nat} {f : Addr} {fd : FuncData} {ps : List Str} {i np : Nat} (F : FnS0 W gl fns f fd ps i np) :
    ps.length = np ∧ FnOk W.P W.w W.G.K W.mg W.base (L2.CX W.P W.w) (3 * 0) f fd ps (spF W.G np (callI fns sub fuel 0 i)) := by
  obtain ⟨N, y, qual, params, body, scope, dvs, kws, code, h2, FD, S, ha, hf, hcd⟩ := F.ex
  exact ⟨h2, ⟨fun vs H Q E ⟨m, h, ds, r, d, l, z⟩ => by rw [← d.length, l, h2], fun A outer s H args us vs Q E hr e0 hb hv ⟨m, h, ds, r, d, l, z⟩ => False.elim z⟩⟩
theorem levels {W : WD} {gl : List (Str × Gv)} {fns : List FnC} {sub : Nat → Nat → Bool} {fuel : Nat} (hs : ∀ x v, gl.lookup x = some v → GvSt W gl fns x v) (hc : ∀ k c Ca, W.G.cl c = some Ca → ClsOk W (evk fns sub fuel k) c Ca) : ∀ k x v, gl.lookup x = some v → GvOk W k (evk fns sub fuel k) x v
  | 0, x, v, e => by
    have h := hs x v e
    cases v with
    | fn i np shapes => exact fn_zero h
    | own C i np =>
      obtain ⟨Ca, f, fd, ps, h1, h2, h3, h4, h5⟩ := h
      obtain ⟨a1, a2⟩ := s0_zero (sub := sub) (fuel := fuel) h5
      exact ⟨Ca, f, fd, ps, h1, h2, h3, a1, a2, h4⟩
    | met C i np m =>
      obtain ⟨Ca, f, fd, ps, h1, h2, h3, h4, h5⟩ := h
      obtain ⟨a1, a2⟩ := s0_zero (sub := sub) (fuel := fuel) h5
      exact ⟨Ca, f, fd, ps, h1, h2, h3, a1, a2, h4⟩
    | _ => exact h
  | k + 1, x, v, e => by
    have h := hs x v e
    cases v with
    | fn i np shapes => exact fn_level (levels hs hc k) (hc k) h
    | own C i np =>
      obtain ⟨Ca, f, fd, ps, h1, h2, h3, h4, h5⟩ := h
      obtain ⟨a1, a2⟩ := s0_level (levels hs hc k) (hc k) h5
      exact ⟨Ca, f, fd, ps, h1, h2, h3, a1, a2, h4⟩
    | met C i np m =>
      obtain ⟨Ca, f, fd, ps, h1, h2, h3, h4, h5⟩ := h
      obtain ⟨a1, a2⟩ := s0_level (levels hs hc k) (hc k) h5
      exact ⟨Ca, f, fd, ps, h1, h2, h3, a1, a2, h4⟩
    | _ => exact h
end PV
/-! PVO: the head's facts, the end. -/
namespace PV
open PySem PySem.Spec PyProof.Rows L2
theorem fnScope_by {N P : List Str} {sc : Scope} (h : C8.scC N P sc = true) : FnScope N P sc := C8.fnScope_by h
/-! ### how a call is bound -/
abbrev ArrN := List (Sum (Sum Nat Nat) Nat)
def arrU (its : List Value) (arr : ArrN) (us ws : List Value) : List Value := arr.map fun a => match a with
  | .inl (.inl i) => us.getD i .none
  | .inl (.inr i) => ws.getD i .none
  | .inr j => its.getD j .none
def arrOf (dd : List D) (arr : ArrN) : Arr := arr.map fun a => match a with
  | .inl i => .inl i
  | .inr j => .inr (dd.getD j .non)
theorem vals_getD {vs : List V} {us : List Value} (r : Vals vs us) : ∀ i, RelV (vs.getD i .non) (us.getD i .none) := by
  induction r with
  | nil => intro i; cases i <;> rfl
  | cons a _ ih =>
    intro i
    cases i with
    | zero => exact a
    | succ i => simpa using ih i
theorem arr_vals {dd : List D} {dvs : List V} {its : List Value} (hd : dvs = dd.map toV) (r0 : Vals dvs its) {vs : List V} {us : List Value} {zs : List V} {ws : List Value} (r1 : Vals vs us) (r2 : Vals zs ws) : ∀ arr : ArrN, Vals (arrV (arrOf dd arr) vs zs) (arrU its arr us ws)
  | [] => .nil
  | a :: r => by
    refine .cons ?_ (arr_vals hd r0 r1 r2 r)
    match a with
    | .inl (.inl i) => exact vals_getD r1 i
    | .inl (.inr i) => exact vals_getD r2 i
    | .inr j =>
      have h := vals_getD r0 j
      rw [hd] at h
      have e : (dd.map toV).getD j .non = toV (dd.getD j .non) := by
        rw [List.getD_eq_getElem?_getD, List.getD_eq_getElem?_getD, List.getElem?_map]
        cases dd[j]? <;> rfl
      rw [e] at h
      exact h
section
variable {K : PySem.W.Frag} {x qual : Str} {params : Arguments} {body : List Stmt} {scope : Scope} {dvs : List V} {kws : List (Str × V)} {f : Addr} {fd : FuncData} {ps : List Str}
theorem kb_A (F : FunD K x qual params body scope [] kws f fd) {n : Nat} {ks : List Str} (arr : ArrN) (h : ∀ (kV doc pm : Value) (an : Option Addr) (cdv ct : Value) (us ws : List Value), us.length = n → ws.length = ks.length → bindArgs (PySem.W.fnOf x qual params body scope .none kV doc pm an cdv ct) ⟨us, ks.zip ws⟩ = pure (ps.zip (arrU [] arr us ws))) : ∃ g, KBn K fd ps n ks g (arrV (arrOf [] arr)) := by
  obtain ⟨oc, od, dV, kV, doc, pm, an, cdv, ct, osl, rfl, lk, hcd, hD, hK⟩ := F.ex
  rcases hD with ⟨_, rfl⟩ | ⟨e, _⟩
  · exact ⟨_, fun s us ws X l1 l2 => .of_eq (h kV doc pm an cdv ct us ws l1 l2), fun r1 r2 => arr_vals rfl .nil r1 r2 arr⟩
  · exact absurd rfl e
theorem kb_B (F : FunD K x qual params body scope dvs kws f fd) {n : Nat} {ks : List Str} (dd : List D) (arr : ArrN) (hne : dd ≠ []) (hd : dvs = dd.map toV) (h : ∀ (T : Addr) (kV doc pm : Value) (an : Option Addr) (cdv ct : Value) (us ws its : List Value), us.length = n → ws.length = ks.length → its.length = dd.length →
      ∃ k, bindArgs (PySem.W.fnOf x qual params body scope (.ref T) kV doc pm an cdv ct) ⟨us, ks.zip ws⟩ = seqItems? (.ref T) >>= k ∧ k (some its.toArray) = pure (ps.zip (arrU its arr us ws))) : ∃ g, KBn K fd ps n ks g (arrV (arrOf dd arr)) := by
  obtain ⟨oc, od, dV, kV, doc, pm, an, cdv, ct, osl, rfl, lk, hcd, hD, hK⟩ := F.ex
  rcases hD with ⟨e, _⟩ | ⟨_, T, o, its, m, rfl, lT, oT, rT⟩
  · rw [hd] at e
    exact absurd (List.map_eq_nil_iff.mp e) hne
  · refine ⟨_, fun s us ws X l1 l2 => ?_, fun r1 r2 => arr_vals hd rT r1 r2 arr⟩
    obtain ⟨k, e1, e2⟩ := h T kV doc pm an cdv ct us ws its l1 l2 (by rw [← rT.length, hd, List.length_map])
    refine BindsTo.of_looks fun M => ?_
    rw [e1]
    exact looks_items X lT oT (.of_pure e2)
/-- keyword-only parameters; ms: those that lack (no positional defaults) -/
theorem kb_K (F : FunD K x qual params body scope [] kws f fd) {n : Nat} {ks : List Str} (ms : List (Str × D)) (arr : ArrN) (hk : kws ≠ []) (hms : ∀ q ∈ ms.map (fun q => (q.1, toV q.2)), q ∈ kws) (h : ∀ (T : Addr) (doc pm : Value) (an : Option Addr) (cdv ct : Value) (us ws mv : List Value), us.length = n → ws.length = ks.length → mv.length = ms.length →
      KwChain T ((ms.map (·.1)).zip mv) (bindArgs (PySem.W.fnOf x qual params body scope .none (.ref T) doc pm an cdv ct) ⟨us, ks.zip ws⟩) (ps.zip (arrU mv arr us ws))) : ∃ g, KBn K fd ps n ks g (arrV (arrOf (ms.map (·.2)) arr)) := by
  obtain ⟨oc, od, dV, kV, doc, pm, an, cdv, ct, osl, rfl, lk, hcd, hD, hK⟩ := F.ex
  rcases hD with ⟨_, rfl⟩ | ⟨e, _⟩
  · rcases hK with e | ⟨T, rfl, hq⟩
    · exact absurd e hk
    · obtain ⟨mv, hl, rk, hks⟩ := kwd_vals (ms := ms.map (fun q => (q.1, toV q.2))) fun q hm => hq q (hms q hm)
      rw [List.length_map] at hl
      have e1 : (ms.map (fun q => (q.1, toV q.2))).map (·.1) = ms.map (·.1) := by rw [List.map_map]; rfl
      have e2 : (ms.map (fun q => (q.1, toV q.2))).map (·.2) = (ms.map (·.2)).map toV := by rw [List.map_map, List.map_map]; rfl
      rw [e1] at hks
      exact ⟨_, fun s us ws X l1 l2 => BindsTo.of_looks fun M => KwChain.looks X hks (h T doc pm an cdv ct us ws mv l1 l2 hl), fun r1 r2 => arr_vals e2 rk r1 r2 arr⟩
  · exact absurd rfl e
end
/-! ### the law's data -/
structure LawD where
  gl : List (Str × Gv)
  fns : List FnC
  sub : Nat → Nat → Bool
  cls : List Str
  dd : List He.DefD
  own : List Str := []
  dct : List (Str × List (Str × D)) := []
/-- the module's dicts, for the head -/
def tabsOf (L : LawD) : List He.Tab := L.dct.map fun q => ((fun K => He.ga K q.1), q.2.map (·.1))
def gwOf (cls own : List Str) (K : PySem.W.Frag) : GW := ⟨K, fun c => (cls[c]?).map fun x => He.ga K x, fun c => (own[c]?).map fun x => He.ga K x, []⟩
def wdOf (L : LawD) (P : Program) (w : World) (K : PySem.W.Frag) (mg : Str → Option Value) (base : Heap) : WD := ⟨P, w, mg, base, gwOf L.cls L.own K, 0⟩
/-- what is said of a def -/
structure DefOk (L : LawD) (d : He.DefD) (i np : Nat) (shapes : List (Nat × List Str × Arr)) : Prop where
  ex : ∃ (ps N : List Str) (code : QSs), ps.length = np ∧ FnScope N ps d.scope ∧ asOk d.scope = true ∧ L.fns[i]? = some ⟨np, N.length, code⟩ ∧ cSs 40 ⟨N, d.scope, asOf d.scope.names, L.gl, false, none⟩ d.body = some code ∧
    ∀ (K : PySem.W.Frag) (f : Addr) (fd : FuncData), FunD K d.name d.qual d.params d.body d.scope (d.dvs K) (d.kws K) f fd → ∀ n ks arr, (n, ks, arr) ∈ shapes → arr.length = np ∧ arrFlat arr = true ∧ ∃ g, KBn K fd ps n ks g (arrV arr)
/-- what is said of a method: all its parameters are given -/
structure MetOk (L : LawD) (d : He.DefD) (i np : Nat) : Prop where
  ex : ∃ (ps N : List Str) (code : QSs), ps.length = np ∧ FnScope N ps d.scope ∧ asOk d.scope = true ∧ L.fns[i]? = some ⟨np, N.length, code⟩ ∧ cSs 40 ⟨N, d.scope, asOf d.scope.names, L.gl, false, none⟩ d.body = some code ∧
    ∀ (K : PySem.W.Frag) (f : Addr) (fd : FuncData), FunD K d.name d.qual d.params d.body d.scope (d.dvs K) (d.kws K) f fd → Binds K fd ps []
/-- what is said of the __init__ of an own exception -/
structure InitOk (d : He.DefD) (fs : List Str) : Prop where
  ex : ∀ (P : Program) (w : World) (K : PySem.W.Frag) (mg : Str → Option Value) (base : Heap) (Ca f : Addr) (fd : FuncData), FunD K d.name d.qual d.params d.body d.scope (d.dvs K) (d.kws K) f fd → OexC K Ca → (∀ g ∈ fs, PySem.W.findIn K (.ref Ca) g = some none) →
    ∃ ps, FnOk P w K mg base (L2.CX P w) 1 f fd ps (spI Ca fs) ∧ Binds K fd ps []
def GvT (L : LawD) (x : Str) : Gv → Prop
  | .xin c fs => ∃ d y, d ∈ L.dd ∧ L.cls[c]? = some y ∧ d.at_ = (y, some ("__init__" : Str)) ∧ InitOk d fs
  | .dct kvs => (x, kvs) ∈ L.dct
  | .fn i np shapes => ∃ d, L.dd[i]? = some d ∧ d.at_ = (x, none) ∧ DefOk L d i np shapes
  | .own C i np => ∃ d, L.dd[i]? = some d ∧ d.at_ = (x, some ("__init__" : Str)) ∧ MetOk L d i np
  | .met C i np m => ∃ d y, L.dd[i]? = some d ∧ L.own[C]? = some y ∧ d.at_ = (y, some m) ∧ MetOk L d i np
  | _ => True
def AllT (L : LawD) : List (Str × Gv) → Prop
  | [] => True
  | p :: r => GvT L p.1 p.2 ∧ AllT L r
theorem allT_mem {L : LawD} : ∀ {l : List (Str × Gv)} {x : Str} {v : Gv}, AllT L l → l.lookup x = some v → GvT L x v
  | [], _, _, _, e => by cases e
  | (y, u) :: r, x, v, h, e => by
    rw [List.lookup_cons] at e
    split at e
    · rename_i q
      cases e
      rw [beq_iff_eq.mp q]
      exact h.1
    · exact allT_mem h.2 e
mutual
def dB (K : PySem.W.Frag) : D → Value → Bool
  | .non, .none => true
  | .bl a, .bool b => a == b
  | .int i, .int j _ => decide (i = j)
  | .str x, .str y _ => decide (x = y)
  | .tup ds, .ref T => match K.lookup T with
    | some ⟨.type c, _, .seq its _, _⟩ => decide (c = "tuple") && (decide (its.size ≤ sizeLine) && dBs K ds its.toList)
    | _ => false
  | _, _ => false
def dBs (K : PySem.W.Frag) : List D → List Value → Bool
  | [], [] => true
  | d :: ds, u :: us => dB K d u && dBs K ds us
  | _, _ => false
end
mutual
theorem dB_ok {K : PySem.W.Frag} : ∀ {d : D} {u : Value}, dB K d u = true → ∃ v, RelV v u ∧ ∀ m H, DR K m H d v
  | .non, u, h => by cases u <;> first | exact ⟨.non, rfl, fun _ _ => .non⟩ | simp [dB] at h
  | .bl a, u, h => by
    cases u with
    | bool b =>
      have e : a = b := by simpa [dB] using h
      exact ⟨.bl a, by rw [e]; rfl, fun _ _ => .bl a⟩
    | _ => simp [dB] at h
  | .int i, u, h => by
    cases u with
    | int j t =>
      have e : i = j := by simpa [dB] using h
      exact ⟨.int i, ⟨t, by rw [e]⟩, fun _ _ => .int i⟩
    | _ => simp [dB] at h
  | .str i, u, h => by
    cases u with
    | str j t =>
      have e : i = j := by simpa [dB] using h
      exact ⟨.str i, ⟨t, by rw [e]⟩, fun _ _ => .str i⟩
    | _ => simp [dB] at h
  | .tup ds, u, h => by
    cases u with
    | ref T =>
      unfold dB at h
      split at h
      · rename_i c dx its n sl q
        simp only [Bool.and_eq_true, decide_eq_true_eq] at h
        obtain ⟨vs, rv, rd⟩ := dBs_ok h.2.2
        exact ⟨.ref T, rfl, fun m H => .tup (.inr ⟨_, its, n, q, congrArg Value.type h.1, rfl, h.2.1, rv⟩) (rd m H)⟩
      · cases h
    | _ => simp [dB] at h
  | .fl _, u, h => by cases u <;> simp [dB] at h
  | .ref _, u, h => by cases u <;> simp [dB] at h
theorem dBs_ok {K : PySem.W.Frag} : ∀ {ds : List D} {us : List Value}, dBs K ds us = true → ∃ vs, Vals vs us ∧ ∀ m H, DRs K m H ds vs
  | [], [], _ => ⟨[], .nil, fun _ _ => .nil⟩
  | [], _ :: _, h => by simp [dBs] at h
  | _ :: _, [], h => by simp [dBs] at h
  | d :: ds, u :: us, h => by
    unfold dBs at h
    rw [Bool.and_eq_true] at h
    obtain ⟨v, r1, d1⟩ := dB_ok h.1
    obtain ⟨vs, r2, d2⟩ := dBs_ok h.2
    exact ⟨v :: vs, .cons r1 r2, fun m H => .cons (d1 m H) (d2 m H)⟩
end
def freeB (K : PySem.W.Frag) (x : Str) : Bool := He.eqO (PySem.W.nsIn K mainGlobals x) (some none)
def globB (K : PySem.W.Frag) (x : Str) : Bool := He.eqO (PySem.W.nsIn K mainGlobals x) (some (some (.ref (He.ga K x))))
/-- what is asked of an own class -/
def clsO (K : PySem.W.Frag) (C : Addr) : Bool := PySem.W.plainGet K C Str.empty && (PySem.W.hasDictIn K C && (PySem.W.plainOver K C && He.eqO (PySem.W.findIn K (.ref C) "__setattr__") (some (some (.builtin "object.__setattr__")))))
def metB (K : PySem.W.Frag) (C : Addr) (m : Str) : Bool := He.eqO (PySem.W.findIn K (.ref C) m) (some (some (.ref (He.ma K C m)))) && (PySem.W.isFn K (.ref (He.ma K C m)) && PySem.W.keepIn K (.ref (He.ma K C m)))
def mkB (K : PySem.W.Frag) (C : Addr) : Bool := PySem.W.makesIn K C && (PySem.W.keepIn K (.ref C) && metB K C "__init__")
/-- an own exception class with its own __init__ -/
def oexB1 (K : PySem.W.Frag) (C : Addr) : Bool := match K.lookup C with
  | some ⟨.type "type", _, .cls cd, sl⟩ => (match cd.mro, sl.toList with
    | .ref C' :: bm, [_, _, _, _, some (.builtin n), _] => C' == C && n == "ValueError.__new__" && !cd.hasDel && cd.hasDict && PySem.HandSPX.refsVE bm
    | _, _ => false)
  | _ => false
def oexB (K : PySem.W.Frag) (C : Addr) : Bool := oexB1 K C && (He.eqO (PySem.W.findIn K (.ref C) "__setattr__") (some (some (.builtin "object.__setattr__"))) && (decide (PySem.W.subIn K (.ref C) (.type "BaseException") = some true) && (decide (PySem.W.typeIn K (.ref C) = some (.type "type")) && PySem.W.keepIn K (.ref C))))
def xinB (K : PySem.W.Frag) (C : Addr) (fs : List Str) : Bool := oexB K C && (He.eqO (PySem.W.findIn K (.ref C) "__init__") (some (some (.ref (He.ma K C "__init__")))) && (decide (PySem.W.typeIn K (.ref (He.ma K C "__init__")) = some (.type "function")) && fs.all fun f => He.eqO (PySem.W.findIn K (.ref C) f) (some none)))
def keyN (e : DictEntry) : Option Str := match e.key with
  | .str x _ => some x
  | _ => none
def dctB (K : PySem.W.Frag) (a : Addr) (kvs : List (Str × D)) : Bool := (match K.lookup a with
  | some ⟨_, _, .dict es _, _⟩ => decide (es.toList.map keyN = kvs.map fun q => some q.1)
  | _ => false) && kvs.all fun q => flatD q.2 && (match PySem.W.nsIn K a q.1 with
    | some (some u) => dB K q.2 u
    | _ => false)
def gvB (cls own : List Str) (K : PySem.W.Frag) (x : Str) : Gv → Bool
  | .con d => match PySem.W.nsIn K mainGlobals x with
    | some (some u) => dB K d u
    | _ => false
  | .fn _ _ _ => globB K x
  | .bi .gcd => He.eqO (PySem.W.nsIn K mainGlobals x) (some (some (.builtin "math.gcd")))
  | .exc c fs => decide (cls[c]? = some x) && globB K x && (!fs.isEmpty || PySem.W.excIn K (He.ga K x) He.veBase "ValueError.__new__")
  | .own C _ _ => decide (own[C]? = some x) && (globB K x && mkB K (He.ga K x))
  | .met C _ _ m => (match own[C]? with
    | some y => clsO K (He.ga K y) && metB K (He.ga K y) m
    | none => false)
  | .dct kvs => globB K x && dctB K (He.ga K x) kvs
  | .xin c fs => (match cls[c]? with
    | some y => xinB K (He.ga K y) fs
    | none => false)
  | .flds fs => own.all fun y => clsO K (He.ga K y) && fs.all fun f => He.eqO (PySem.W.findIn K (.ref (He.ga K y)) f) (some none)
  | _ => freeB K x
def bootB (x : Str) : Gv → Bool
  | .bi .gcd => true
  | .bi b => He.eqO (some (bootBuiltins x)) (some (some b.val))
  | .ty t => He.eqO (some (bootBuiltins x)) (some (some (.type t.nm)))
  | .isi => He.eqO (some (bootBuiltins x)) (some (some (.builtin "isinstance")))
  | .rng => decide (x = "range")
  | .zip => decide (x = "zip")
  | .enum => decide (x = "enumerate")
  | _ => true
def clsB1 (K : PySem.W.Frag) (C : Addr) : Bool := PySem.W.keepIn K (.ref C) && (He.eqO (PySem.W.findIn K (.ref C) "__getattribute__") (some (some (.builtin "BaseException.__getattribute__"))) && (He.eqO (PySem.W.findIn K (.ref C) "__getattr__") (some none) && (decide (PySem.W.subIn K (.ref C) (.type "BaseException") = some true) &&
  (PySem.W.hasDictIn K C && (He.eqO (PySem.W.findIn K (.ref C) "__class__") (some (some (.builtin "object.__class__"))) && (He.eqO (PySem.W.specialIn K (.builtin "object.__class__") "__get__") (some (some (.builtin "getset_descriptor.__get__"))) && (decide (PySem.W.takesIn K (.builtin "object.__class__") = some true) &&
  (decide (PySem.W.mroIn K C (.type "object") = some true) && (decide (PySem.W.typeIn K (.ref C) = some (.type "type")) && xFlds.all fun f => He.eqO (PySem.W.findIn K (.ref C) f) (some none))))))))))
/-- pairs of classes, numbered -/
def clsB2 (K : PySem.W.Frag) (sub : Nat → Nat → Bool) (cls : List Str) (c : Nat) (C : Addr) : Bool := (List.range cls.length).all fun d => match cls[d]? with
  | some y => decide (PySem.W.exmOne K (.ref C) (.ref (He.ga K y)) = some (sub c d)) && decide (PySem.W.kitOne K (.ref C) (.ref (He.ga K y)) = some (sub c d))
  | none => false
def clsB (K : PySem.W.Frag) (sub : Nat → Nat → Bool) (cls : List Str) : Bool := (List.range cls.length).all fun c => match cls[c]? with
  | some x => clsB1 K (He.ga K x) && clsB2 K sub cls c (He.ga K x)
  | none => false
/-- what the head's run is to tell -/
def exB (L : LawD) (K : PySem.W.Frag) : Bool := (L.gl.all fun p => gvB L.cls L.own K p.1 p.2) && clsB K L.sub L.cls
section
variable {L : LawD} {P : Program} {w : World} {K : PySem.W.Frag} {mg : Str → Option Value} {base : Heap}
theorem cls_ok (h : clsB K L.sub L.cls = true) (ev : Ev) (hs : ev.sub = L.sub) (c : Nat) (Ca : Addr) (e : (gwOf L.cls L.own K).cl c = some Ca) : ClsOk (wdOf L P w K mg base) ev c Ca := by
  have e : ((L.cls[c]?).map fun x => He.ga K x) = some Ca := e
  cases e1 : L.cls[c]? with
  | none => rw [e1] at e; cases e
  | some x =>
    rw [e1] at e
    cases e
    have hc : c ∈ List.range L.cls.length := List.mem_range.mpr (List.getElem?_eq_some_iff.mp e1).1
    have h1 := List.all_eq_true.mp h c hc
    rw [e1] at h1
    have h1 : (clsB1 K (He.ga K x) && clsB2 K L.sub L.cls c (He.ga K x)) = true := h1
    rw [Bool.and_eq_true] at h1
    obtain ⟨h2, h3⟩ := h1
    unfold clsB1 at h2
    simp only [Bool.and_eq_true, decide_eq_true_eq] at h2
    obtain ⟨a1, a2, a3, a4, a5, a6, a7, a8, a9, a10, a11⟩ := h2
    have pair : ∀ d Da, (gwOf L.cls L.own K).cl d = some Da → PySem.W.exmOne K (.ref (He.ga K x)) (.ref Da) = some (L.sub c d) ∧ PySem.W.kitOne K (.ref (He.ga K x)) (.ref Da) = some (L.sub c d) := fun d Da ed => by
      have ed : ((L.cls[d]?).map fun x => He.ga K x) = some Da := ed
      cases e2 : L.cls[d]? with
      | none => rw [e2] at ed; cases ed
      | some y =>
        rw [e2] at ed
        cases ed
        have hd : d ∈ List.range L.cls.length := List.mem_range.mpr (List.getElem?_eq_some_iff.mp e2).1
        have h4 := List.all_eq_true.mp h3 d hd
        rw [e2] at h4
        simpa using h4
    exact ⟨a1, ⟨He.eqO_ok a2, He.eqO_ok a3, a4, a5, He.eqO_ok a6, He.eqO_ok a7, a8, a9⟩, a10, fun d Da ed => by rw [hs]; exact (pair d Da ed).1, fun d Da ed => by rw [hs]; exact (pair d Da ed).2, fun f hf => He.eqO_ok (List.all_eq_true.mp a11 f hf)⟩
theorem free_of {h : Heap} (X : K.In h) (G : h.Ns mainGlobals mg) {x : Str} (c : freeB K x = true) : mg x = none := PySem.W.mg_none_of X G (He.eqO_ok c)
theorem glob_of {h : Heap} (X : K.In h) (G : h.Ns mainGlobals mg) {x : Str} (c : globB K x = true) : mg x = some (.ref (He.ga K x)) := PySem.W.mg_of X G (He.eqO_ok c)
theorem boot_of {x : Str} {u : Value} (h : He.eqO (some (bootBuiltins x)) (some (some u)) = true) : bootBuiltins x = some u := Option.some.inj (He.eqO_ok h)
theorem clsO_ok {C : Addr} (h : clsO K C = true) : Cls K C := by
  unfold clsO at h
  simp only [Bool.and_eq_true] at h
  exact ⟨h.1, h.2.1, h.2.2.1, He.eqO_ok h.2.2.2⟩
theorem metB_ok {C : Addr} {m : Str} (h : metB K C m = true) : Meth K C m (He.ma K C m) := by
  unfold metB at h
  simp only [Bool.and_eq_true] at h
  exact ⟨He.eqO_ok h.1, h.2.1, h.2.2⟩
theorem oexB1_ok {C : Addr} (h : oexB1 K C = true) : ∃ nm q N bs bm sn sub ab col dd k0 k1 k2 k3 k5, K.lookup C = some (excClassObj nm q C N bs bm true sn sub ab col dd k0 k1 k2 k3 k5 "ValueError.__new__") ∧ PySem.HandSPX.refsVE bm = true := by
  unfold oexB1 at h
  split at h
  · rename_i dd cd sl ho
    split at h
    · rename_i C' bm k0 k1 k2 k3 n k5 hm hs
      simp only [Bool.and_eq_true, beq_iff_eq, Bool.not_eq_true'] at h
      obtain ⟨⟨⟨⟨rfl, rfl⟩, del⟩, dict⟩, tail⟩ := h
      obtain ⟨nm, bs, mro, ns, qn, hd, sn, sub, ab, col, dl⟩ := cd
      dsimp only at hm del dict
      subst hm del dict
      obtain ⟨l⟩ := sl
      simp only at hs
      subst hs
      exact ⟨nm, qn, ns, bs, bm, sn, sub, ab, col, dd, k0, k1, k2, k3, k5, ho, tail⟩
    · cases h
  · cases h
theorem oexB_ok {C : Addr} (h : oexB K C = true) : OexC K C := by
  unfold oexB at h
  simp only [Bool.and_eq_true, decide_eq_true_eq] at h
  exact ⟨oexB1_ok h.1, He.eqO_ok h.2.1, h.2.2.1, h.2.2.2.1, h.2.2.2.2⟩
theorem keys_find {z : Str} : ∀ {l : List DictEntry} {ks : List Str}, l.map keyN = ks.map some → z ∉ ks → l.find? (·.key.isStr z) = none ∧ l.any (·.refKey) = false
  | [], _, _, _ => ⟨rfl, rfl⟩
  | e :: r, [], h, _ => by cases h
  | e :: r, k :: ks, h, hz => by
    have h1 : keyN e :: r.map keyN = some k :: ks.map some := h
    injection h1 with h2 h3
    obtain ⟨i1, i2⟩ := keys_find h3 fun m => hz (List.mem_cons_of_mem _ m)
    unfold keyN at h2
    split at h2
    · rename_i y t q
      cases h2
      have ne : (k == z) = false := beq_false_of_ne fun w => hz (by rw [w]; exact List.mem_cons_self)
      refine ⟨?_, ?_⟩
      · rw [List.find?_cons, q]
        show (match (k == z) with
          | true => some e
          | false => r.find? fun x => x.key.isStr z) = none
        rw [ne]
        exact i1
      · rw [List.any_cons, i2, Bool.or_false]
        unfold DictEntry.refKey
        rw [q]
    · cases h2
theorem lookup_none {z : Str} : ∀ {kvs : List (Str × D)}, kvs.lookup z = none → z ∉ kvs.map (·.1)
  | [], _ => by simp
  | (k, d) :: r, h => by
    rw [List.lookup_cons] at h
    cases q : z == k with
    | true => rw [q] at h; cases h
    | false =>
      rw [q] at h
      have := lookup_none h
      intro m
      rcases List.mem_cons.mp m with rfl | m
      · simp at q
      · exact this m
theorem dct_ok {a : Addr} {es : Array DictEntry} {n : Nat} {kvs : List (Str × D)} (kd : KDict K w a es n) (h : dctB K a kvs = true) (z : Str) : match kvs.lookup z with
    | some d => flatD d = true ∧ ∃ u, PySem.W.nsIn K a z = some (some u) ∧ RelV (toV d) u
    | none => PySem.W.nsIn K a z = some none := by
  unfold dctB at h
  rw [Bool.and_eq_true] at h
  obtain ⟨h1, h2⟩ := h
  rw [kd.at_] at h1
  have h1 : es.toList.map keyN = kvs.map fun q => some q.1 := of_decide_eq_true h1
  cases e : kvs.lookup z with
  | none =>
    show PySem.W.nsIn K a z = some none
    have h1 : es.toList.map keyN = (kvs.map (·.1)).map some := by rw [h1, List.map_map]; rfl
    obtain ⟨f1, f2⟩ := keys_find h1 (lookup_none e)
    unfold PySem.W.nsIn
    rw [kd.at_]
    show (match es.toList.find? (·.key.isStr z) with
      | some e => some (some e.val)
      | none => if es.toList.any (·.refKey) then none else some none) = some none
    rw [f1, f2]
    rfl
  | some d =>
    have b := List.all_eq_true.mp h2 _ (PySem.mem_of_lookup e)
    rw [Bool.and_eq_true] at b
    refine ⟨b.1, ?_⟩
    have b2 := b.2
    split at b2
    · rename_i u e2
      obtain ⟨v, r1, r2⟩ := dB_ok b2
      have := (r2 [] (fun _ => none)).flat b.1
      subst this
      exact ⟨u, e2, r1⟩
    · cases b2
theorem gv_ok {h : Heap} (X : K.In h) (G : h.Ns mainGlobals mg) {x : Str} {v : Gv} (b : gvB L.cls L.own K x v = true) (bb : bootB x v = true) (t : GvT L x v) (defs : ∀ d ∈ L.dd, ∃ fd, FunD K d.name d.qual d.params d.body d.scope (d.dvs K) (d.kws K) (He.fAd K d.at_) fd) (tabs : ∀ q ∈ L.dct, ∃ es n, KDict K w (He.ga K q.1) es n) : GvSt (wdOf L P w K mg base) L.gl L.fns x v := by
  cases v with
  | con d =>
    change (match (generalizing := false) PySem.W.nsIn K mainGlobals x with
      | some (some u) => dB K d u
      | _ => false) = true at b
    split at b
    · rename_i u e
      obtain ⟨v, r1, r2⟩ := dB_ok b
      exact ⟨u, v, PySem.W.mg_of X G e, r1, r2⟩
    · cases b
  | fn i np shapes =>
    obtain ⟨d, e1, e2, ok⟩ := t
    obtain ⟨ps, N, code, o1, o2, o3, o4, o5, o6⟩ := ok.ex
    obtain ⟨fd, FD⟩ := defs d (List.mem_of_getElem? e1)
    have e3 : He.fAd K d.at_ = He.ga K x := by rw [e2]; rfl
    rw [e3] at FD
    exact ⟨He.ga K x, fd, ps, N, d.name, d.qual, d.params, d.body, d.scope, d.dvs K, d.kws K, code, glob_of X G b, o1, FD, o2, o3, o4, o5, o6 K _ fd FD⟩
  | bi bi =>
    cases bi with
    | gcd => exact PySem.W.mg_of X G (He.eqO_ok b)
    | _ => exact ⟨free_of X G b, boot_of bb⟩
  | ty t => exact ⟨free_of X G b, boot_of bb⟩
  | isi => exact ⟨free_of X G b, boot_of bb⟩
  | rng => exact ⟨of_decide_eq_true bb, free_of X G b⟩
  | zip => exact ⟨of_decide_eq_true bb, free_of X G b⟩
  | enum => exact ⟨of_decide_eq_true bb, free_of X G b⟩
  | dct kvs =>
    have b : (globB K x && dctB K (He.ga K x) kvs) = true := b
    rw [Bool.and_eq_true] at b
    obtain ⟨es, n, kd⟩ := tabs _ t
    exact ⟨He.ga K x, es, n, glob_of X G b.1, kd, fun z => dct_ok kd b.2 z⟩
  | xin c fs =>
    obtain ⟨d, y, e1, ey, e2, ok⟩ := t
    obtain ⟨fd, FD⟩ := defs d e1
    have e3 : He.fAd K d.at_ = He.ma K (He.ga K y) "__init__" := by rw [e2]; rfl
    rw [e3] at FD
    have b : (match L.cls[c]? with
      | some y => xinB K (He.ga K y) fs
      | none => false) = true := b
    rw [ey] at b
    have b : xinB K (He.ga K y) fs = true := b
    unfold xinB at b
    simp only [Bool.and_eq_true, decide_eq_true_eq] at b
    have T := oexB_ok b.1
    obtain ⟨ps, F1, B⟩ := ok.ex P w K mg base (He.ga K y) _ fd FD T fun g hg => He.eqO_ok (List.all_eq_true.mp b.2.2.2 g hg)
    refine ⟨He.ga K y, He.ma K (He.ga K y) "__init__", fd, ps, ?_, T, He.eqO_ok b.2.1, b.2.2.1, F1, B⟩
    show ((L.cls[c]?).map fun x => He.ga K x) = _
    rw [ey]
    rfl
  | own C i np =>
    obtain ⟨d, e1, e2, ok⟩ := t
    obtain ⟨ps, N, code, o1, o2, o3, o4, o5, o6⟩ := ok.ex
    obtain ⟨fd, FD⟩ := defs d (List.mem_of_getElem? e1)
    have e3 : He.fAd K d.at_ = He.ma K (He.ga K x) "__init__" := by rw [e2]; rfl
    rw [e3] at FD
    have b : (decide (L.own[C]? = some x) && (globB K x && mkB K (He.ga K x))) = true := b
    simp only [Bool.and_eq_true, decide_eq_true_eq] at b
    have b2 := b.2.2
    unfold mkB at b2
    simp only [Bool.and_eq_true] at b2
    have me := metB_ok b2.2.2
    refine ⟨He.ga K x, He.ma K (He.ga K x) "__init__", fd, ps, glob_of X G b.2.1, ?_, ⟨b2.1, me.at_, me.fn, b2.2.1⟩, o6 K _ fd FD, ⟨N, d.name, d.qual, d.params, d.body, d.scope, d.dvs K, d.kws K, code, o1, FD, o2, o3, o4, o5⟩⟩
    show ((L.own[C]?).map fun x => He.ga K x) = _
    rw [b.1]
    rfl
  | met C i np m =>
    obtain ⟨d, y, e1, ey, e2, ok⟩ := t
    obtain ⟨ps, N, code, o1, o2, o3, o4, o5, o6⟩ := ok.ex
    obtain ⟨fd, FD⟩ := defs d (List.mem_of_getElem? e1)
    have e3 : He.fAd K d.at_ = He.ma K (He.ga K y) m := by rw [e2]; rfl
    rw [e3] at FD
    have b : (match L.own[C]? with
      | some y => clsO K (He.ga K y) && metB K (He.ga K y) m
      | none => false) = true := b
    rw [ey] at b
    have b : (clsO K (He.ga K y) && metB K (He.ga K y) m) = true := b
    rw [Bool.and_eq_true] at b
    refine ⟨He.ga K y, He.ma K (He.ga K y) m, fd, ps, ?_, clsO_ok b.1, metB_ok b.2, o6 K _ fd FD, ⟨N, d.name, d.qual, d.params, d.body, d.scope, d.dvs K, d.kws K, code, o1, FD, o2, o3, o4, o5⟩⟩
    show ((L.own[C]?).map fun x => He.ga K x) = _
    rw [ey]
    rfl
  | flds fs =>
    intro C Ca e
    have e : ((L.own[C]?).map fun x => He.ga K x) = some Ca := e
    cases e1 : L.own[C]? with
    | none => rw [e1] at e; cases e
    | some y =>
      rw [e1] at e
      cases e
      have b := List.all_eq_true.mp b y (List.mem_of_getElem? e1)
      rw [Bool.and_eq_true] at b
      exact ⟨clsO_ok b.1, fun f hf => He.eqO_ok (List.all_eq_true.mp b.2 f hf)⟩
  | exc c fs =>
    have b : (decide (L.cls[c]? = some x) && globB K x && (!fs.isEmpty || PySem.W.excIn K (He.ga K x) He.veBase "ValueError.__new__")) = true := b
    simp only [Bool.and_eq_true, decide_eq_true_eq] at b
    refine ⟨He.ga K x, glob_of X G b.1.2, ?_, fun e => ?_⟩
    · show ((L.cls[c]?).map fun x => He.ga K x) = _
      rw [b.1.1]
      rfl
    · have := b.2
      rw [e] at this
      have this : (!true || PySem.W.excIn K (He.ga K x) He.veBase "ValueError.__new__") = true := this
      have this : PySem.W.excIn K (He.ga K x) He.veBase "ValueError.__new__" = true := by simpa using this
      exact this
/-- the law's def, at every level -/
theorem law_fn {h : Heap} (X : K.In h) (G : h.Ns mainGlobals mg) (b : exB L K = true) (bb : (L.gl.all fun p => bootB p.1 p.2) = true) (t : AllT L L.gl) (defs : ∀ d ∈ L.dd, ∃ fd, FunD K d.name d.qual d.params d.body d.scope (d.dvs K) (d.kws K) (He.fAd K d.at_) fd) (tabs : ∀ q ∈ L.dct, ∃ es n, KDict K w (He.ga K q.1) es n) (fuel k : Nat) (x : Str) (v : Gv) (e : L.gl.lookup x = some v) :
    GvOk (wdOf L P w K mg base) k (evk L.fns L.sub fuel k) x v := by
  have hb : (L.gl.all fun p => gvB L.cls L.own K p.1 p.2) = true ∧ clsB K L.sub L.cls = true := by
    unfold exB at b
    rwa [Bool.and_eq_true] at b
  refine levels (fun x v e => ?_) (fun k c Ca ec => cls_ok hb.2 _ rfl c Ca ec) k x v e
  have hm := PySem.mem_of_lookup e
  exact gv_ok X G (List.all_eq_true.mp hb.1 _ hm) (List.all_eq_true.mp bb _ hm) (allT_mem t e) defs tabs
/-- the script, read-only -/
theorem frl_of {H : Hp} {a : Addr} {vs : List V} (o : Only H) (h : SqL K H a vs) : FrL K H a vs := by
  rcases h with (h | h) | h
  · rcases o a with z | ⟨ob, xs, z⟩
    · rw [z] at h; cases h
    · rw [z] at h; cases h
  · exact .inl h
  · exact .inr fun H' => .inr h
theorem ints_rel {m : List Addr} {H : Hp} : ∀ ns : List Int, DRs K m H (ns.map D.int) (ns.map V.int)
  | [] => .nil
  | n :: ns => .cons (.int n) (ints_rel ns)
/-- THE END: what the plain law says is what the law's row asks -/
theorem pv_walk {l : PySem.W.OpenLaw} {q : Program} {loose : List Str} {XP : (Str → Option Value) → Heap → Prop} {d : DefRec} {n nn fuel k i : Nat} {fa : List He.Fa} {x : Str} {N : List Str} {code : QSs} {dL : He.DefD}
    (hn : l.most = some n) (hn2 : n ≤ sizeLine) (hdf : d.params.defaults = []) (hnm : d.name = "law") (hr : Room (3 * (k + 1)) callerA) (bb : (L.gl.all fun p => bootB p.1 p.2) = true) (t : AllT L L.gl)
    (d1 : L.dd[i]? = some dL) (d2 : dL.at_ = (("law" : Str), none)) (d3 : dL.dfl = []) (S : FnScope N [x] dL.scope) (ha : asOk dL.scope = true) (hf : L.fns[i]? = some ⟨1, N.length, code⟩) (hcd : cSs 40 ⟨N, dL.scope, asOf dL.scope.names, L.gl, false, none⟩ dL.body = some code) (hgl : ∃ s, L.gl.lookup ("law" : Str) = some (.fn i 1 s))
    (hb : ∀ (kV doc pm : Value) (an : Option Addr) (cdv ct : Value) (us : List Value), us.length = 1 → bindArgs (PySem.W.fnOf dL.name dL.qual dL.params dL.body dL.scope .none kV doc pm an cdv ct) ⟨us, []⟩ = pure (([x] : List Str).zip us))
    (plain : ∀ ns : List Int, ns.length ≤ n → (∀ z ∈ ns, Builtin.Int.intBits z ≤ 1048576) → ∃ h', callI L.fns L.sub fuel (k + 1) i [.fl (ns.map D.int)] [] = .ok (.bl true) h') :
    PySem.W.WalkO q loose XP (He.hookX nn fa L.dd (tabsOf L) [] (exB L)).says l.row.toRowW d [] (fun f vs => PySem.call f vs) := by
  refine Att.attach_callB hn hdf fun w s₀ s₁ mg mb fa' o pm cd doc a vs ns G Y ho hd hcd' hmg hobj hints hlen hbits hg => ?_
  obtain ⟨K, KX, c⟩ := Y
  have defs : ∀ d ∈ L.dd, ∃ fd, FunD K d.name d.qual d.params d.body d.scope (d.dvs K) (d.kws K) (He.fAd K d.at_) fd := fun d hd => c.t.d.defs hd
  obtain ⟨fd, FD⟩ := defs dL (List.mem_of_getElem? d1)
  have tabs : ∀ q ∈ L.dct, ∃ es n, KDict K w (He.ga K q.1) es n := fun q hq => by
    obtain ⟨i, hi, e⟩ := List.getElem_of_mem hq
    have e1 : (tabsOf L)[i]? = some ((fun K => He.ga K q.1), q.2.map (·.1)) := by
      unfold tabsOf
      rw [List.getElem?_map, List.getElem?_eq_getElem hi, e]
      rfl
    exact c.t.tab i e1
  obtain ⟨sh, hgl⟩ := hgl
  have eB := c.more
  have eB2 : (L.gl.all fun p => gvB L.cls L.own K p.1 p.2) = true ∧ clsB K L.sub L.cls = true := by
    have eB := eB
    unfold exB at eB
    rwa [Bool.and_eq_true] at eB
  have glo : globB K "law" = true := List.all_eq_true.mp eB2.1 _ (PySem.mem_of_lookup hgl)
  have e3 : He.fAd K dL.at_ = fa' := by
    rw [d2]
    have h1 := glob_of KX G.T.g glo
    rw [hnm] at hmg
    have h2 := h1.symm.trans hmg
    exact Value.ref.inj (Option.some.inj h2)
  have e4 : dL.dvs K = [] := by
    unfold He.DefD.dvs
    rw [d3]
    rfl
  rw [e3, e4] at FD
  refine law_call (x := x) (CX := L2.CX l.prog w) (sp := spF (gwOf L.cls L.own K) 1 (callI L.fns L.sub fuel (k + 1) i)) KX G.T.g G.T.b G.T.builtins G.T.nolimit hg hobj hints (Nat.le_trans hlen hn2) hr (fun base Kb Gb => ?_) (fun s u => FD.bindsA (ps := [x]) hb s [u] rfl) (fun H hO hS => ?_) fun H e s' z => ?_
  · exact fn_body (W := wdOf L l.prog w K mg base) (law_fn KX G.T.g eB bb t defs tabs fuel k) (fun c Ca ec => cls_ok eB2.2 _ rfl c Ca ec) rfl FD S ha hf hcd
  · obtain ⟨h', e⟩ := plain ns hlen hbits
    refine ⟨[], [], [.fl (ns.map D.int)], ⟨rfl, List.nodup_nil, fun n c a e => by simp at e, fun p hp => by cases hp⟩, .cons (.fl (frl_of hO hS) (ints_rel ns)) .nil, rfl, ?_⟩
    rw [e]
    intro m' H' v st r dv
    cases dv
    rfl
  · exact cx_none z
where
  cx_none {P : Program} {w : World} {H : Hp} {s : Shared} {e : Value} {s' : Shared} : ¬ L2.CX P w [] H s (fun _ _ _ => False) e s' := fun z => by
    obtain ⟨_, _, _, _, _, _, _, _, _, _, _, _, z⟩ := z
    exact z
end
/-- the parameters of a def without defaults, all given -/
theorem bindM {K : PySem.W.Frag} {x qual : Str} {params : Arguments} {body : List Stmt} {scope : Scope} {f : Addr} {fd : FuncData} {ps : List Str} (F : FunD K x qual params body scope [] [] f fd)
    (h : ∀ (kV doc pm : Value) (an : Option Addr) (cdv ct : Value) (us : List Value), us.length = ps.length → bindArgs (PySem.W.fnOf x qual params body scope .none kV doc pm an cdv ct) ⟨us, []⟩ = pure (ps.zip us)) : Binds K fd ps [] := fun s us X l => by
  rw [List.append_nil] at l ⊢
  exact F.bindsA h s us l
end PV
/-! the data of this law: globals, codes, the head (printed by gen.py) -/
namespace K40
open PySem PySem.Spec PyProof.Rows L2 PV
def top (i : Nat) : Stmt := PySem.Challenge.pw_kinkatlas_k40_pieces.main.body.getD i (.Pass ⟨0, 0, 0, 0⟩)
def inCls (i j : Nat) : Stmt := match top i with
  | .ClassDef _ _ _ b _ _ _ _ _ _ _ => b.getD j (.Pass ⟨0, 0, 0, 0⟩)
  | s => s
def gl : List (Str × Gv) :=
  ("int", .ty .int) ::
  ("abs", .bi .abs) ::
  ("len", .bi .len) ::
  ("tuple", .ty .tuple) ::
  ("list", .ty .list) ::
  ("all", .bi .all) ::
  ("str", .ty .str) ::
  ("isinstance", .isi) ::
  ("range", .rng) ::
  ("zip", .zip) ::
  ("enumerate", .enum) ::
  ("bool", .ty .bool) ::
  ("gcd", .bi .gcd) ::
  ("MOST_INPUTS", .con (.int (1000))) ::
  ("ZERO", .con (.tup [(.int (0)), (.int (1))])) ::
  ("ONE", .con (.tup [(.int (1)), (.int (1))])) ::
  ("KinkError", .exc 0 []) ::
  ("ByZero", .exc 1 []) ::
  ("BadNetwork", .exc 2 ["layer", "reason"]) ::
  ("BadPoint", .exc 3 []) ::
  (".", .flds ["size", "phases", "bending", "outputs"]) ::
  (".BadNetwork", .xin 2 ["layer", "reason"]) ::
  ("Piece", .own 0 48 3) ::
  (".weighted", .met 0 49 4 "weighted") ::
  (".bent", .met 0 50 2 "bent") ::
  ("is_integer", .fn 0 1 [(1, [], arrOf [] [.inl (.inl 0)])]) ::
  ("is_ratio", .fn 1 1 [(1, [], arrOf [] [.inl (.inl 0)])]) ::
  ("make", .fn 2 2 [(2, [], arrOf [(.int (1))] [.inl (.inl 0), .inl (.inl 1)])]) ::
  ("add", .fn 3 2 [(2, [], arrOf [] [.inl (.inl 0), .inl (.inl 1)])]) ::
  ("multiply", .fn 4 2 [(2, [], arrOf [] [.inl (.inl 0), .inl (.inl 1)])]) ::
  ("negative", .fn 5 1 [(1, [], arrOf [] [.inl (.inl 0)])]) ::
  ("less", .fn 6 2 [(2, [], arrOf [] [.inl (.inl 0), .inl (.inl 1)])]) ::
  ("greatest", .fn 7 1 [(1, [], arrOf [] [.inl (.inl 0)])]) ::
  ("is_vector", .fn 8 2 [(1, ["size"], arrOf [] [.inl (.inl 0), .inl (.inr 0)]), (1, [], arrOf [.non] [.inl (.inl 0), .inr 0])]) ::
  ("is_matrix", .fn 9 3 [(1, [], arrOf [.non, .non] [.inl (.inl 0), .inr 0, .inr 1])]) ::
  ("zero", .fn 10 1 [(1, [], arrOf [] [.inl (.inl 0)])]) ::
  ("unit", .fn 11 2 [(2, [], arrOf [] [.inl (.inl 0), .inl (.inl 1)])]) ::
  ("dot", .fn 12 2 [(2, [], arrOf [] [.inl (.inl 0), .inl (.inl 1)])]) ::
  ("added", .fn 13 2 [(2, [], arrOf [] [.inl (.inl 0), .inl (.inl 1)])]) ::
  ("scaled", .fn 14 2 [(2, [], arrOf [] [.inl (.inl 0), .inl (.inl 1)])]) ::
  ("opposite", .fn 15 1 [(1, [], arrOf [] [.inl (.inl 0)])]) ::
  ("applied", .fn 16 2 [(2, [], arrOf [] [.inl (.inl 0), .inl (.inl 1)])]) ::
  ("is_group", .fn 17 1 [(1, [], arrOf [] [.inl (.inl 0)])]) ::
  ("is_step", .fn 18 1 [(1, [], arrOf [] [.inl (.inl 0)])]) ::
  ("has_form", .fn 19 1 [(1, [], arrOf [] [.inl (.inl 0)])]) ::
  ("fits", .fn 20 2 [(2, [], arrOf [] [.inl (.inl 0), .inl (.inl 1)])]) ::
  ("given_size", .fn 21 2 [(2, [], arrOf [] [.inl (.inl 0), .inl (.inl 1)])]) ::
  ("sizes", .fn 22 1 [(1, [], arrOf [] [.inl (.inl 0)])]) ::
  ("check", .fn 23 1 [(1, [], arrOf [] [.inl (.inl 0)])]) ::
  ("passed", .fn 24 2 [(2, [], arrOf [] [.inl (.inl 0), .inl (.inl 1)])]) ::
  ("trail", .fn 25 2 [(2, [], arrOf [] [.inl (.inl 0), .inl (.inl 1)])]) ::
  ("rows_of", .fn 26 1 [(1, [], arrOf [] [.inl (.inl 0)])]) ::
  ("pattern", .fn 27 2 [(2, [], arrOf [] [.inl (.inl 0), .inl (.inl 1)])]) ::
  ("piece_rows", .fn 28 3 [(3, [], arrOf [] [.inl (.inl 0), .inl (.inl 1), .inl (.inl 2)])]) ::
  ("piece_form", .fn 29 2 [(2, [], arrOf [] [.inl (.inl 0), .inl (.inl 1)])]) ::
  ("_law_cell", .fn 30 2 [(2, [], arrOf [] [.inl (.inl 0), .inl (.inl 1)])]) ::
  ("_law_rich", .fn 31 2 [(2, [], arrOf [] [.inl (.inl 0), .inl (.inl 1)])]) ::
  ("_law_make", .fn 32 2 [(2, [], arrOf [] [.inl (.inl 0), .inl (.inl 1)])]) ::
  ("_law_add", .fn 33 2 [(2, [], arrOf [] [.inl (.inl 0), .inl (.inl 1)])]) ::
  ("_law_mul", .fn 34 2 [(2, [], arrOf [] [.inl (.inl 0), .inl (.inl 1)])]) ::
  ("_law_less", .fn 35 2 [(2, [], arrOf [] [.inl (.inl 0), .inl (.inl 1)])]) ::
  ("_law_ratio", .fn 36 1 []) ::
  ("_law_dot", .fn 37 2 [(2, [], arrOf [] [.inl (.inl 0), .inl (.inl 1)])]) ::
  ("_law_sums", .fn 38 3 [(3, [], arrOf [] [.inl (.inl 0), .inl (.inl 1), .inl (.inl 2)])]) ::
  ("_law_network", .fn 39 3 [(3, [], arrOf [] [.inl (.inl 0), .inl (.inl 1), .inl (.inl 2)])]) ::
  ("_law_units", .fn 40 1 [(1, [], arrOf [] [.inl (.inl 0)])]) ::
  ("_law_values", .fn 41 2 [(2, [], arrOf [] [.inl (.inl 0), .inl (.inl 1)])]) ::
  ("_law_region", .fn 42 2 [(2, [], arrOf [] [.inl (.inl 0), .inl (.inl 1)])]) ::
  ("_law_in", .fn 43 2 [(2, [], arrOf [] [.inl (.inl 0), .inl (.inl 1)])]) ::
  ("_law_points", .fn 44 3 [(3, [], arrOf [] [.inl (.inl 0), .inl (.inl 1), .inl (.inl 2)])]) ::
  ("_law_keeps", .fn 45 2 [(2, [], arrOf [] [.inl (.inl 0), .inl (.inl 1)])]) ::
  ("_law_linear", .fn 46 3 [(3, [], arrOf [] [.inl (.inl 0), .inl (.inl 1), .inl (.inl 2)])]) ::
  ("law", .fn 47 1 [(1, [], arrOf [] [.inl (.inl 0)])]) :: []
def n_is_integer : List Str := ["value"]
def c_is_integer : QSs := (.cons (.ret (.andv (.isi (.var 0) .int) (.nott (.isi (.var 0) .bool))))
  .nil)
def n_is_ratio : List Str := ["value"]
def c_is_ratio : QSs := (.cons (.ife (.or (.not (.v (.isi (.var 0) .tuple))) (.v (.cmp .NotEq (.bi .len (.cons (.var 0) .nil)) (.con (.int (2)))))) (.cons (.ret (.con (.bl false)))
  .nil) .nil)
  (.cons (.ife (.or (.not (.v (.call 0 (.cons (.idx (.var 0) (.con (.int (0)))) .nil) .nil [.inl (.inl 0)]))) (.not (.v (.call 0 (.cons (.idx (.var 0) (.con (.int (1)))) .nil) .nil [.inl (.inl 0)])))) (.cons (.ret (.con (.bl false)))
  .nil) .nil)
  (.cons (.ret (.andv (.cmp .Gt (.idx (.var 0) (.con (.int (1)))) (.con (.int (0)))) (.cmp .Eq (.bi .gcd (.cons (.idx (.var 0) (.con (.int (0)))) (.cons (.idx (.var 0) (.con (.int (1)))) .nil))) (.con (.int (1))))))
  .nil)))
def n_make : List Str := ["above", "below", "common"]
def c_make : QSs := (.cons (.ife (.v (.cmp .Eq (.var 1) (.con (.int (0))))) (.cons (.raise 1 [] .nil)
  .nil) .nil)
  (.cons (.asg (.nm 2) (.bi .gcd (.cons (.var 0) (.cons (.var 1) .nil))))
  (.cons (.ife (.v (.cmp .Lt (.var 1) (.con (.int (0))))) (.cons (.asg (.nm 2) (.neg (.var 2)))
  .nil) .nil)
  (.cons (.ret (.tup (.cons (.bin .FloorDiv (.var 0) (.var 2)) (.cons (.bin .FloorDiv (.var 1) (.var 2)) .nil))))
  .nil))))
def n_add : List Str := ["one", "other"]
def c_add : QSs := (.cons (.ret (.call 2 (.cons (.bin .Add (.bin .Mult (.idx (.var 0) (.con (.int (0)))) (.idx (.var 1) (.con (.int (1))))) (.bin .Mult (.idx (.var 1) (.con (.int (0)))) (.idx (.var 0) (.con (.int (1)))))) (.cons (.bin .Mult (.idx (.var 0) (.con (.int (1)))) (.idx (.var 1) (.con (.int (1))))) .nil)) .nil [.inl (.inl 0), .inl (.inl 1)]))
  .nil)
def n_multiply : List Str := ["one", "other"]
def c_multiply : QSs := (.cons (.ret (.call 2 (.cons (.bin .Mult (.idx (.var 0) (.con (.int (0)))) (.idx (.var 1) (.con (.int (0))))) (.cons (.bin .Mult (.idx (.var 0) (.con (.int (1)))) (.idx (.var 1) (.con (.int (1))))) .nil)) .nil [.inl (.inl 0), .inl (.inl 1)]))
  .nil)
def n_negative : List Str := ["ratio"]
def c_negative : QSs := (.cons (.ret (.tup (.cons (.neg (.idx (.var 0) (.con (.int (0))))) (.cons (.idx (.var 0) (.con (.int (1)))) .nil))))
  .nil)
def n_less : List Str := ["one", "other"]
def c_less : QSs := (.cons (.ret (.cmp .Lt (.bin .Mult (.idx (.var 0) (.con (.int (0)))) (.idx (.var 1) (.con (.int (1))))) (.bin .Mult (.idx (.var 1) (.con (.int (0)))) (.idx (.var 0) (.con (.int (1)))))))
  .nil)
def n_greatest : List Str := ["ratios", "found", "ratio"]
def c_greatest : QSs := (.cons (.asg (.nm 1) (.idx (.var 0) (.con (.int (0)))))
  (.cons (.for (.nm 2) (.v (.slc (.var 0) (.some (.con (.int (1)))) .none)) (.cons (.ife (.v (.call 6 (.cons (.var 1) (.cons (.var 2) .nil)) .nil [.inl (.inl 0), .inl (.inl 1)])) (.cons (.asg (.nm 1) (.var 2))
  .nil) .nil)
  .nil))
  (.cons (.ret (.var 1))
  .nil)))
def n_is_vector : List Str := ["value", "size", "item"]
def c_is_vector : QSs := (.cons (.ife (.or (.not (.v (.isi (.var 0) .tuple))) (.and (.v (.cmp .IsNot (.var 1) (.con .non))) (.v (.cmp .NotEq (.bi .len (.cons (.var 0) .nil)) (.var 1))))) (.cons (.ret (.con (.bl false)))
  .nil) .nil)
  (.cons (.ret (.bi .all (.cons (.lc (.call 1 (.cons (.var 2) .nil) .nil [.inl (.inl 0)]) (.nm 2) (.v (.var 0)) [2] .yes) .nil)))
  .nil))
def n_is_matrix : List Str := ["value", "rows", "columns", "size", "row"]
def c_is_matrix : QSs := (.cons (.ife (.or (.not (.v (.isi (.var 0) .tuple))) (.or (.v (.cmp .Eq (.var 0) (.tup .nil))) (.and (.v (.cmp .IsNot (.var 1) (.con .non))) (.v (.cmp .NotEq (.bi .len (.cons (.var 0) .nil)) (.var 1)))))) (.cons (.ret (.con (.bl false)))
  .nil) .nil)
  (.cons (.ife (.not (.v (.isi (.idx (.var 0) (.con (.int (0)))) .tuple))) (.cons (.ret (.con (.bl false)))
  .nil) .nil)
  (.cons (.asg (.nm 3) (.ife (.v (.cmp .Is (.var 2) (.con .non))) (.bi .len (.cons (.idx (.var 0) (.con (.int (0)))) .nil)) (.var 2)))
  (.cons (.ret (.bi .all (.cons (.lc (.call 8 (.cons (.var 4) .nil) (.cons (.var 3) .nil) [.inl (.inl 0), .inl (.inr 0)]) (.nm 4) (.v (.var 0)) [4] .yes) .nil)))
  .nil))))
def n_zero : List Str := ["size"]
def c_zero : QSs := (.cons (.ret (.bin .Mult (.tup (.cons (.con (.tup [(.int (0)), (.int (1))])) .nil)) (.var 0)))
  .nil)
def n_unit : List Str := ["size", "index"]
def c_unit : QSs := (.cons (.ret (.bin .Add (.bin .Add (.call 10 (.cons (.var 1) .nil) .nil [.inl (.inl 0)]) (.tup (.cons (.con (.tup [(.int (1)), (.int (1))])) .nil))) (.call 10 (.cons (.bin .Sub (.bin .Sub (.var 0) (.var 1)) (.con (.int (1)))) .nil) .nil [.inl (.inl 0)])))
  .nil)
def n_dot : List Str := ["one", "other", "above", "below", "left", "right", "scale"]
def c_dot : QSs := (.cons (.asg (.nm 2) (.con (.int (0))))
  (.cons (.asg (.nm 3) (.con (.int (1))))
  (.cons (.for (.tp [(.nm 4), (.nm 5)]) (.zip (.var 0) (.var 1)) (.cons (.ife (.and (.v (.cmp .NotEq (.idx (.var 4) (.con (.int (0)))) (.con (.int (0))))) (.v (.cmp .NotEq (.idx (.var 5) (.con (.int (0)))) (.con (.int (0)))))) (.cons (.asg (.nm 6) (.bin .Mult (.idx (.var 4) (.con (.int (1)))) (.idx (.var 5) (.con (.int (1))))))
  (.cons (.asg (.nm 2) (.bin .Add (.bin .Mult (.var 2) (.var 6)) (.bin .Mult (.bin .Mult (.idx (.var 4) (.con (.int (0)))) (.idx (.var 5) (.con (.int (0))))) (.var 3))))
  (.cons (.asg (.nm 3) (.bin .Mult (.var 3) (.var 6)))
  .nil))) .nil)
  .nil))
  (.cons (.ret (.call 2 (.cons (.var 2) (.cons (.var 3) .nil)) .nil [.inl (.inl 0), .inl (.inl 1)]))
  .nil))))
def n_added : List Str := ["one", "other", "left", "right"]
def c_added : QSs := (.cons (.ret (.bi .tuple (.cons (.lc (.call 3 (.cons (.var 2) (.cons (.var 3) .nil)) .nil [.inl (.inl 0), .inl (.inl 1)]) (.tp [(.nm 2), (.nm 3)]) (.zip (.var 0) (.var 1)) [2, 3] .yes) .nil)))
  .nil)
def n_scaled : List Str := ["factor", "vector", "item"]
def c_scaled : QSs := (.cons (.ret (.bi .tuple (.cons (.lc (.call 4 (.cons (.var 0) (.cons (.var 2) .nil)) .nil [.inl (.inl 0), .inl (.inl 1)]) (.nm 2) (.v (.var 1)) [2] .yes) .nil)))
  .nil)
def n_opposite : List Str := ["vector", "item"]
def c_opposite : QSs := (.cons (.ret (.bi .tuple (.cons (.lc (.call 5 (.cons (.var 1) .nil) .nil [.inl (.inl 0)]) (.nm 1) (.v (.var 0)) [1] .yes) .nil)))
  .nil)
def n_applied : List Str := ["matrix", "vector", "row"]
def c_applied : QSs := (.cons (.ret (.bi .tuple (.cons (.lc (.call 12 (.cons (.var 2) (.cons (.var 1) .nil)) .nil [.inl (.inl 0), .inl (.inl 1)]) (.nm 2) (.v (.var 0)) [2] .yes) .nil)))
  .nil)
def n_is_group : List Str := ["value", "item", "one", "other"]
def c_is_group : QSs := (.cons (.ife (.or (.not (.v (.isi (.var 0) .tuple))) (.or (.v (.cmp .Eq (.var 0) (.tup .nil))) (.not (.v (.bi .all (.cons (.lc (.call 0 (.cons (.var 1) .nil) .nil [.inl (.inl 0)]) (.nm 1) (.v (.var 0)) [1] .yes) .nil)))))) (.cons (.ret (.con (.bl false)))
  .nil) .nil)
  (.cons (.ret (.andv (.cmp .GtE (.idx (.var 0) (.con (.int (0)))) (.con (.int (0)))) (.bi .all (.cons (.lc (.cmp .Lt (.var 2) (.var 3)) (.tp [(.nm 2), (.nm 3)]) (.zip (.var 0) (.slc (.var 0) (.some (.con (.int (1)))) .none)) [2, 3] .yes) .nil))))
  .nil))
def n_is_step : List Str := ["value"]
def c_is_step : QSs := (.cons (.ret (.andv (.call 0 (.cons (.var 0) .nil) .nil [.inl (.inl 0)]) (.andv (.cmp .GtE (.var 0) (.con (.int (1)))) (.cmp .LtE (.var 0) (.con (.int (1000)))))))
  .nil)
def n_has_form : List Str := ["layer", "matrix", "offsets", "flags", "flag", "groups", "group", "step", "weights", "offset"]
def c_has_form : QSs := (.cons (.ife (.or (.not (.v (.isi (.var 0) .tuple))) (.or (.v (.cmp .Eq (.var 0) (.tup .nil))) (.not (.v (.isi (.idx (.var 0) (.con (.int (0)))) .str))))) (.cons (.ret (.con (.bl false)))
  .nil) .nil)
  (.cons (.mtch (.var 0) (.cons "sums" [1, 2] (.cons (.ret (.andv (.call 9 (.cons (.var 1) .nil) .nil [.inl (.inl 0), .inr .non, .inr .non]) (.call 8 (.cons (.var 2) .nil) .nil [.inl (.inl 0), .inr .non])))
  .nil)
  (.cons "bends" [3] (.cons (.ret (.andv (.isi (.var 3) .tuple) (.bi .all (.cons (.lc (.isi (.var 4) .bool) (.nm 4) (.v (.var 3)) [4] .yes) .nil))))
  .nil)
  (.cons "greatest" [5] (.cons (.ret (.andv (.isi (.var 5) .tuple) (.andv (.cmp .NotEq (.var 5) (.tup .nil)) (.bi .all (.cons (.lc (.call 17 (.cons (.var 6) .nil) .nil [.inl (.inl 0)]) (.nm 6) (.v (.var 5)) [6] .yes) .nil)))))
  .nil)
  (.cons "window" [7, 8, 9] (.cons (.ret (.andv (.call 18 (.cons (.var 7) .nil) .nil [.inl (.inl 0)]) (.andv (.call 8 (.cons (.var 8) .nil) .nil [.inl (.inl 0), .inr .non]) (.andv (.cmp .NotEq (.var 8) (.tup .nil)) (.call 1 (.cons (.var 9) .nil) .nil [.inl (.inl 0)])))))
  .nil)
  .nil)))))
  (.cons (.ret (.con (.bl false)))
  .nil)))
def n_fits : List Str := ["size", "layer", "group"]
def c_fits : QSs := (.cons (.ife (.v (.cmp .Eq (.idx (.var 1) (.con (.int (0)))) (.con (.str "sums")))) (.cons (.ret (.andv (.cmp .Eq (.bi .len (.cons (.idx (.idx (.var 1) (.con (.int (1)))) (.con (.int (0)))) .nil)) (.var 0)) (.cmp .Eq (.bi .len (.cons (.idx (.var 1) (.con (.int (2)))) .nil)) (.bi .len (.cons (.idx (.var 1) (.con (.int (1)))) .nil)))))
  .nil) .nil)
  (.cons (.ife (.v (.cmp .Eq (.idx (.var 1) (.con (.int (0)))) (.con (.str "bends")))) (.cons (.ret (.cmp .Eq (.bi .len (.cons (.idx (.var 1) (.con (.int (1)))) .nil)) (.var 0)))
  .nil) .nil)
  (.cons (.ife (.v (.cmp .Eq (.idx (.var 1) (.con (.int (0)))) (.con (.str "greatest")))) (.cons (.ret (.bi .all (.cons (.lc (.cmp .Lt (.idx (.var 2) (.neg (.con (.int (1))))) (.var 0)) (.nm 2) (.v (.idx (.var 1) (.con (.int (1))))) [2] .yes) .nil)))
  .nil) .nil)
  (.cons (.ret (.cmp .LtE (.bi .len (.cons (.idx (.var 1) (.con (.int (2)))) .nil)) (.var 0)))
  .nil))))
def n_given_size : List Str := ["size", "layer"]
def c_given_size : QSs := (.cons (.ife (.v (.cmp .Eq (.idx (.var 1) (.con (.int (0)))) (.con (.str "bends")))) (.cons (.ret (.var 0))
  .nil) .nil)
  (.cons (.ife (.v (.cmp .Eq (.idx (.var 1) (.con (.int (0)))) (.con (.str "window")))) (.cons (.ret (.bin .Add (.bin .FloorDiv (.bin .Sub (.var 0) (.bi .len (.cons (.idx (.var 1) (.con (.int (2)))) .nil))) (.idx (.var 1) (.con (.int (1))))) (.con (.int (1)))))
  .nil) .nil)
  (.cons (.ret (.bi .len (.cons (.idx (.var 1) (.con (.int (1)))) .nil)))
  .nil)))
def n_sizes : List Str := ["network", "found", "index", "layer"]
def c_sizes : QSs := (.cons (.ife (.or (.not (.v (.isi (.var 0) .tuple))) (.or (.v (.cmp .NotEq (.bi .len (.cons (.var 0) .nil)) (.con (.int (2))))) (.not (.v (.isi (.idx (.var 0) (.con (.int (1)))) .tuple))))) (.cons (.raise 2 ["layer", "reason"] (.cons (.neg (.con (.int (1)))) (.cons (.con (.str "form")) .nil)))
  .nil) .nil)
  (.cons (.ife (.not (.v (.call 0 (.cons (.idx (.var 0) (.con (.int (0)))) .nil) .nil [.inl (.inl 0)]))) (.cons (.raise 2 ["layer", "reason"] (.cons (.neg (.con (.int (1)))) (.cons (.con (.str "form")) .nil)))
  .nil) .nil)
  (.cons (.ife (.or (.v (.cmp .Lt (.idx (.var 0) (.con (.int (0)))) (.con (.int (1))))) (.v (.cmp .Gt (.idx (.var 0) (.con (.int (0)))) (.con (.int (1000)))))) (.cons (.raise 2 ["layer", "reason"] (.cons (.neg (.con (.int (1)))) (.cons (.con (.str "inputs")) .nil)))
  .nil) .nil)
  (.cons (.asg (.nm 1) (.lst (.cons (.idx (.var 0) (.con (.int (0)))) .nil)))
  (.cons (.for (.tp [(.nm 2), (.nm 3)]) (.enum (.idx (.var 0) (.con (.int (1))))) (.cons (.ife (.not (.v (.call 19 (.cons (.var 3) .nil) .nil [.inl (.inl 0)]))) (.cons (.raise 2 ["layer", "reason"] (.cons (.var 2) (.cons (.con (.str "form")) .nil)))
  .nil) .nil)
  (.cons (.ife (.not (.v (.call 20 (.cons (.idx (.var 1) (.neg (.con (.int (1))))) (.cons (.var 3) .nil)) .nil [.inl (.inl 0), .inl (.inl 1)]))) (.cons (.raise 2 ["layer", "reason"] (.cons (.var 2) (.cons (.con (.str "size")) .nil)))
  .nil) .nil)
  (.cons (.expr (.mth 0 (.var 1) (.cons (.call 21 (.cons (.idx (.var 1) (.neg (.con (.int (1))))) (.cons (.var 3) .nil)) .nil [.inl (.inl 0), .inl (.inl 1)]) .nil)))
  .nil))))
  (.cons (.ret (.bi .tuple (.cons (.var 1) .nil)))
  .nil))))))
def n_check : List Str := ["network"]
def c_check : QSs := (.cons (.expr (.call 22 (.cons (.var 0) .nil) .nil [.inl (.inl 0)]))
  .nil)
def n_passed : List Str := ["layer", "vector", "matrix", "offsets", "flags", "flag", "item", "groups", "index", "group", "width", "starts", "start"]
def c_passed : QSs := (.cons (.mtch (.var 0) (.cons "sums" [2, 3] (.cons (.ret (.call 13 (.cons (.call 16 (.cons (.var 2) (.cons (.var 1) .nil)) .nil [.inl (.inl 0), .inl (.inl 1)]) (.cons (.var 3) .nil)) .nil [.inl (.inl 0), .inl (.inl 1)]))
  .nil)
  (.cons "bends" [4] (.cons (.ret (.bi .tuple (.cons (.lc (.ife (.and (.v (.var 5)) (.v (.call 6 (.cons (.var 6) (.cons (.con (.tup [(.int (0)), (.int (1))])) .nil)) .nil [.inl (.inl 0), .inl (.inl 1)]))) (.con (.tup [(.int (0)), (.int (1))])) (.var 6)) (.tp [(.nm 5), (.nm 6)]) (.zip (.var 4) (.var 1)) [5, 6] .yes) .nil)))
  .nil)
  (.cons "greatest" [7] (.cons (.ret (.bi .tuple (.cons (.lc (.call 7 (.cons (.lc (.idx (.var 1) (.var 8)) (.nm 8) (.v (.var 9)) [8] .yes) .nil) .nil [.inl (.inl 0)]) (.nm 9) (.v (.var 7)) [9] .yes) .nil)))
  .nil)
  .nil))))
  (.cons (.asg (.nm 10) (.bi .len (.cons (.idx (.var 0) (.con (.int (2)))) .nil)))
  (.cons .bad
  (.cons (.ret (.bi .tuple (.cons (.lc (.call 3 (.cons (.call 12 (.cons (.idx (.var 0) (.con (.int (2)))) (.cons (.slc (.var 1) (.some (.var 12)) (.some (.bin .Add (.var 12) (.var 10)))) .nil)) .nil [.inl (.inl 0), .inl (.inl 1)]) (.cons (.idx (.var 0) (.con (.int (3)))) .nil)) .nil [.inl (.inl 0), .inl (.inl 1)]) (.nm 12) (.v (.var 11)) [12] .yes) .nil)))
  .nil))))
def n_trail : List Str := ["network", "point", "found", "layer"]
def c_trail : QSs := (.cons (.expr (.call 23 (.cons (.var 0) .nil) .nil [.inl (.inl 0)]))
  (.cons (.ife (.not (.v (.call 8 (.cons (.var 1) .nil) (.cons (.idx (.var 0) (.con (.int (0)))) .nil) [.inl (.inl 0), .inl (.inr 0)]))) (.cons (.raise 3 [] .nil)
  .nil) .nil)
  (.cons (.asg (.nm 2) (.lst (.cons (.var 1) .nil)))
  (.cons (.for (.nm 3) (.v (.idx (.var 0) (.con (.int (1))))) (.cons (.expr (.mth 0 (.var 2) (.cons (.call 24 (.cons (.var 3) (.cons (.idx (.var 2) (.neg (.con (.int (1))))) .nil)) .nil [.inl (.inl 0), .inl (.inl 1)]) .nil)))
  .nil))
  (.cons (.ret (.bi .tuple (.cons (.var 2) .nil)))
  .nil)))))
def n_rows_of : List Str := ["region", "lows", "highs", "bounds", "size", "rows", "index"]
def c_rows_of : QSs := (.cons (.asg (.tp [(.nm 1), (.nm 2), (.nm 3)]) (.var 0))
  (.cons (.asg (.nm 4) (.bi .len (.cons (.var 1) .nil)))
  (.cons (.asg (.nm 5) (.lst .nil))
  (.cons (.for (.nm 6) (.rng1 (.var 4)) (.cons (.expr (.mth 0 (.var 5) (.cons (.tup (.cons (.call 11 (.cons (.var 4) (.cons (.var 6) .nil)) .nil [.inl (.inl 0), .inl (.inl 1)]) (.cons (.idx (.var 2) (.var 6)) .nil))) .nil)))
  (.cons (.expr (.mth 0 (.var 5) (.cons (.tup (.cons (.call 15 (.cons (.call 11 (.cons (.var 4) (.cons (.var 6) .nil)) .nil [.inl (.inl 0), .inl (.inl 1)]) .nil) .nil [.inl (.inl 0)]) (.cons (.idx (.call 15 (.cons (.tup (.cons (.idx (.var 1) (.var 6)) .nil)) .nil) .nil [.inl (.inl 0)]) (.con (.int (0)))) .nil))) .nil)))
  .nil)))
  (.cons (.ret (.bin .Add (.bi .tuple (.cons (.var 5) .nil)) (.var 3)))
  .nil)))))
def n_pattern : List Str := ["network", "point", "found", "passed", "layer", "values", "flag", "value"]
def c_pattern : QSs := (.cons (.asg (.nm 2) (.lst .nil))
  (.cons (.asg (.nm 3) (.call 25 (.cons (.var 0) (.cons (.var 1) .nil)) .nil [.inl (.inl 0), .inl (.inl 1)]))
  (.cons (.for (.tp [(.nm 4), (.nm 5)]) (.zip (.idx (.var 0) (.con (.int (1)))) (.var 3)) (.cons (.ife (.v (.cmp .Eq (.idx (.var 4) (.con (.int (0)))) (.con (.str "bends")))) (.cons (.expr (.mth 1 (.var 2) (.cons (.lc (.cmp .Gt (.idx (.var 7) (.con (.int (0)))) (.con (.int (0)))) (.tp [(.nm 6), (.nm 7)]) (.zip (.idx (.var 4) (.con (.int (1)))) (.var 5)) [6, 7] (.v (.var 6))) .nil)))
  .nil) .nil)
  .nil))
  (.cons (.ret (.bi .tuple (.cons (.var 2) .nil)))
  .nil))))
def n_piece_rows : List Str := ["network", "region", "phases", "rows", "form", "phase"]
def c_piece_rows : QSs := (.cons (.asg (.nm 3) (.lst .nil))
  (.cons (.for (.tp [(.nm 4), (.nm 5)]) (.zip (.fld (.make 0 48 (.cons (.var 0) (.cons (.var 2) .nil))) "bending") (.var 2)) (.cons (.ife (.v (.var 5)) (.cons (.expr (.mth 0 (.var 3) (.cons (.tup (.cons (.call 15 (.cons (.idx (.var 4) (.con (.int (0)))) .nil) .nil [.inl (.inl 0)]) (.cons (.idx (.var 4) (.con (.int (1)))) .nil))) .nil)))
  .nil) (.cons (.expr (.mth 0 (.var 3) (.cons (.tup (.cons (.idx (.var 4) (.con (.int (0)))) (.cons (.call 5 (.cons (.idx (.var 4) (.con (.int (1)))) .nil) .nil [.inl (.inl 0)]) .nil))) .nil)))
  .nil))
  .nil))
  (.cons (.ret (.bin .Add (.call 26 (.cons (.var 1) .nil) .nil [.inl (.inl 0)]) (.bi .tuple (.cons (.var 3) .nil))))
  .nil)))
def n_piece_form : List Str := ["network", "phases", "outputs", "form"]
def c_piece_form : QSs := (.cons (.asg (.nm 2) (.fld (.make 0 48 (.cons (.var 0) (.cons (.var 1) .nil))) "outputs"))
  (.cons (.ret (.tup (.cons (.bi .tuple (.cons (.lc (.idx (.var 3) (.con (.int (0)))) (.nm 3) (.v (.var 2)) [3] .yes) .nil)) (.cons (.bi .tuple (.cons (.lc (.idx (.var 3) (.con (.int (1)))) (.nm 3) (.v (.var 2)) [3] .yes) .nil)) .nil))))
  .nil))
def n__law_cell : List Str := ["script", "k"]
def c__law_cell : QSs := (.cons (.ife (.v (.cmp .Lt (.var 1) (.bi .len (.cons (.var 0) .nil)))) (.cons (.ret (.bi .int (.cons (.idx (.var 0) (.var 1)) .nil)))
  .nil) .nil)
  (.cons (.ret (.con (.int (0))))
  .nil))
def n__law_rich : List Str := ["cell", "k", "mixed"]
def c__law_rich : QSs := (.cons (.ife (.v (.cmp .GtE (.var 0) (.bin .Pow (.con (.int (10))) (.con (.int (18)))))) (.cons (.ret (.bi .int (.cons (.var 0) .nil)))
  .nil) .nil)
  (.cons (.asg (.nm 2) (.bin .Mod (.bi .int (.cons (.bin .Add (.bin .Add (.bin .Mult (.var 0) (.con (.int (48271)))) (.bin .Mult (.var 1) (.con (.int (69621))))) (.con (.int (11)))) .nil)) (.con (.int (2147483647)))))
  (.cons (.ret (.bin .Add (.bin .Mult (.var 2) (.con (.int (2147483629)))) (.bin .Mod (.bi .int (.cons (.bin .Add (.bin .Mult (.var 2) (.con (.int (16807)))) (.var 0)) .nil)) (.con (.int (2147483629))))))
  .nil)))
def n__law_make : List Str := ["above", "below", "one", "other"]
def c__law_make : QSs := (.cons (.par 2 3 (.bi .abs (.cons (.var 0) .nil)) (.bi .abs (.cons (.var 1) .nil)))
  (.cons (.whl (.v (.cmp .Gt (.var 3) (.con (.int (0))))) (.cons (.par 2 3 (.var 3) (.bin .Sub (.var 2) (.bin .Mult (.bin .FloorDiv (.var 2) (.var 3)) (.var 3))))
  .nil))
  (.cons (.ife (.v (.cmp .Lt (.var 1) (.con (.int (0))))) (.cons (.asg (.nm 2) (.neg (.var 2)))
  .nil) .nil)
  (.cons (.ret (.tup (.cons (.bin .FloorDiv (.var 0) (.var 2)) (.cons (.bin .FloorDiv (.var 1) (.var 2)) .nil))))
  .nil))))
def n__law_add : List Str := ["one", "other"]
def c__law_add : QSs := (.cons (.ret (.call 32 (.cons (.bin .Add (.bin .Mult (.idx (.var 0) (.con (.int (0)))) (.idx (.var 1) (.con (.int (1))))) (.bin .Mult (.idx (.var 1) (.con (.int (0)))) (.idx (.var 0) (.con (.int (1)))))) (.cons (.bin .Mult (.idx (.var 0) (.con (.int (1)))) (.idx (.var 1) (.con (.int (1))))) .nil)) .nil [.inl (.inl 0), .inl (.inl 1)]))
  .nil)
def n__law_mul : List Str := ["one", "other"]
def c__law_mul : QSs := (.cons (.ret (.call 32 (.cons (.bin .Mult (.idx (.var 0) (.con (.int (0)))) (.idx (.var 1) (.con (.int (0))))) (.cons (.bin .Mult (.idx (.var 0) (.con (.int (1)))) (.idx (.var 1) (.con (.int (1))))) .nil)) .nil [.inl (.inl 0), .inl (.inl 1)]))
  .nil)
def n__law_less : List Str := ["one", "other"]
def c__law_less : QSs := (.cons (.ret (.cmp .Lt (.bin .Mult (.idx (.var 0) (.con (.int (0)))) (.idx (.var 1) (.con (.int (1))))) (.bin .Mult (.idx (.var 1) (.con (.int (0)))) (.idx (.var 0) (.con (.int (1)))))))
  .nil)
def n__law_ratio : List Str := ["rich", "above"]
def c__law_ratio : QSs := (.cons (.asg (.nm 1) (.bin .Sub (.bin .Mod (.var 0) (.con (.int (13)))) (.con (.int (6)))))
  (.cons (.ife (.v (.cmp .Eq (.bin .Mod (.bin .FloorDiv (.var 0) (.con (.int (13)))) (.con (.int (5)))) (.con (.int (0))))) (.cons (.asg (.nm 1) (.bin .Sub (.bin .Mod (.bin .FloorDiv (.var 0) (.con (.int (65)))) (.con (.int (201)))) (.con (.int (100)))))
  .nil) .nil)
  (.cons (.ret (.call 32 (.cons (.var 1) (.cons (.idx (.lst (.cons (.con (.int (1))) (.cons (.con (.int (1))) (.cons (.con (.int (1))) (.cons (.con (.int (2))) (.cons (.con (.int (3))) (.cons (.con (.int (4))) (.cons (.con (.int (7))) .nil)))))))) (.bin .Mod (.bin .FloorDiv (.var 0) (.con (.int (13065)))) (.con (.int (7))))) .nil)) .nil [.inl (.inl 0), .inl (.inl 1)]))
  .nil)))
def n__law_dot : List Str := ["one", "other", "found", "k"]
def c__law_dot : QSs := (.cons (.asg (.nm 2) (.tup (.cons (.con (.int (0))) (.cons (.con (.int (1))) .nil))))
  (.cons (.for (.nm 3) (.rng1 (.bi .len (.cons (.var 0) .nil))) (.cons (.asg (.nm 2) (.call 33 (.cons (.var 2) (.cons (.call 34 (.cons (.idx (.var 0) (.var 3)) (.cons (.idx (.var 1) (.var 3)) .nil)) .nil [.inl (.inl 0), .inl (.inl 1)]) .nil)) .nil [.inl (.inl 0), .inl (.inl 1)]))
  .nil))
  (.cons (.ret (.var 2))
  .nil)))
def n__law_sums : List Str := ["rich", "size", "count", "matrix", "k", "row", "j", "part", "offsets"]
def c__law_sums : QSs := (.cons (.asg (.nm 3) (.lst .nil))
  (.cons (.for (.nm 4) (.rng1 (.var 2)) (.cons (.asg (.nm 5) (.lst .nil))
  (.cons (.for (.nm 6) (.rng1 (.var 1)) (.cons (.asg (.nm 7) (.bin .FloorDiv (.var 0) (.bin .Add (.bin .Add (.con (.int (3))) (.bin .Mult (.con (.int (5))) (.var 4))) (.bin .Mult (.con (.int (11))) (.var 6)))))
  (.cons (.expr (.mth 0 (.var 5) (.cons (.ife (.v (.cmp .Eq (.bin .Mod (.var 7) (.con (.int (4)))) (.con (.int (0))))) (.tup (.cons (.con (.int (0))) (.cons (.con (.int (1))) .nil))) (.call 32 (.cons (.bin .Sub (.bin .Mod (.bin .FloorDiv (.var 7) (.con (.int (4)))) (.con (.int (9)))) (.con (.int (4)))) (.cons (.idx (.lst (.cons (.con (.int (1))) (.cons (.con (.int (1))) (.cons (.con (.int (2))) (.cons (.con (.int (3))) .nil))))) (.bin .Mod (.bin .FloorDiv (.var 7) (.con (.int (36)))) (.con (.int (4))))) .nil)) .nil [.inl (.inl 0), .inl (.inl 1)])) .nil)))
  .nil)))
  (.cons (.expr (.mth 0 (.var 3) (.cons (.bi .tuple (.cons (.var 5) .nil)) .nil)))
  .nil))))
  (.cons (.asg (.nm 8) (.bi .tuple (.cons (.lc (.call 32 (.cons (.bin .Sub (.bin .Mod (.bin .FloorDiv (.var 0) (.bin .Add (.con (.int (7))) (.bin .Mult (.con (.int (13))) (.var 4)))) (.con (.int (11)))) (.con (.int (5)))) (.cons (.idx (.lst (.cons (.con (.int (1))) (.cons (.con (.int (1))) (.cons (.con (.int (2))) .nil)))) (.bin .Mod (.bin .FloorDiv (.var 0) (.bin .Add (.con (.int (9))) (.var 4))) (.con (.int (3))))) .nil)) .nil [.inl (.inl 0), .inl (.inl 1)]) (.nm 4) (.rng1 (.var 2)) [4] .yes) .nil)))
  (.cons (.ret (.tup (.cons (.con (.str "sums")) (.cons (.bi .tuple (.cons (.var 3) .nil)) (.cons (.var 8) .nil)))))
  .nil))))
def n__law_network : List Str := ["script", "most", "wide", "size", "layers", "now", "count", "k", "rich", "width", "j"]
def c__law_network : QSs := (.cons (.asg (.nm 3) (.bin .Add (.con (.int (1))) (.bin .Mod (.call 30 (.cons (.var 0) (.cons (.con (.int (20))) .nil)) .nil [.inl (.inl 0), .inl (.inl 1)]) (.var 1))))
  (.cons (.asg (.nm 4) (.lst .nil))
  (.cons (.asg (.nm 5) (.var 3))
  (.cons (.asg (.nm 6) (.bin .Mod (.bin .FloorDiv (.call 30 (.cons (.var 0) (.cons (.con (.int (20))) .nil)) .nil [.inl (.inl 0), .inl (.inl 1)]) (.con (.int (12)))) (.con (.int (3)))))
  (.cons (.for (.nm 7) (.rng1 (.var 6)) (.cons (.asg (.nm 8) (.call 31 (.cons (.call 30 (.cons (.var 0) (.cons (.bin .Add (.con (.int (21))) (.var 7)) .nil)) .nil [.inl (.inl 0), .inl (.inl 1)]) (.cons (.bin .Add (.con (.int (60))) (.var 7)) .nil)) .nil [.inl (.inl 0), .inl (.inl 1)]))
  (.cons (.asg (.nm 9) (.bin .Add (.con (.int (1))) (.bin .Mod (.var 8) (.var 2))))
  (.cons (.expr (.mth 0 (.var 4) (.cons (.call 38 (.cons (.bin .FloorDiv (.var 8) (.con (.int (5)))) (.cons (.var 5) (.cons (.var 9) .nil))) .nil [.inl (.inl 0), .inl (.inl 1), .inl (.inl 2)]) .nil)))
  (.cons (.expr (.mth 0 (.var 4) (.cons (.tup (.cons (.con (.str "bends")) (.cons (.bi .tuple (.cons (.lc (.cmp .Gt (.bin .Mod (.bin .FloorDiv (.var 8) (.bin .Add (.con (.int (11))) (.var 10))) (.con (.int (5)))) (.con (.int (0)))) (.nm 10) (.rng1 (.var 9)) [10] .yes) .nil)) .nil))) .nil)))
  (.cons (.asg (.nm 5) (.var 9))
  .nil))))))
  (.cons (.asg (.nm 8) (.call 31 (.cons (.call 30 (.cons (.var 0) (.cons (.con (.int (25))) .nil)) .nil [.inl (.inl 0), .inl (.inl 1)]) (.cons (.con (.int (66))) .nil)) .nil [.inl (.inl 0), .inl (.inl 1)]))
  (.cons (.expr (.mth 0 (.var 4) (.cons (.call 38 (.cons (.bin .FloorDiv (.var 8) (.con (.int (3)))) (.cons (.var 5) (.cons (.bin .Add (.con (.int (1))) (.bin .Mod (.var 8) (.con (.int (2))))) .nil))) .nil [.inl (.inl 0), .inl (.inl 1), .inl (.inl 2)]) .nil)))
  (.cons (.ret (.tup (.cons (.var 3) (.cons (.bi .tuple (.cons (.var 4) .nil)) .nil))))
  .nil))))))))
def n__law_units : List Str := ["network", "count", "layer", "flag"]
def c__law_units : QSs := (.cons (.asg (.nm 1) (.con (.int (0))))
  (.cons (.for (.nm 2) (.v (.idx (.var 0) (.con (.int (1))))) (.cons (.ife (.v (.cmp .Eq (.idx (.var 2) (.con (.int (0)))) (.con (.str "bends")))) (.cons (.asg (.nm 1) (.bin .Add (.var 1) (.bi .len (.cons (.lc (.var 3) (.nm 3) (.v (.idx (.var 2) (.con (.int (1))))) [3] (.v (.var 3))) .nil))))
  .nil) .nil)
  .nil))
  (.cons (.ret (.var 1))
  .nil)))
def n__law_values : List Str := ["network", "point", "values", "vector", "layer", "k"]
def c__law_values : QSs := (.cons (.asg (.nm 2) (.lst .nil))
  (.cons (.asg (.nm 3) (.bi .list (.cons (.var 1) .nil)))
  (.cons (.for (.nm 4) (.v (.idx (.var 0) (.con (.int (1))))) (.cons (.ife (.v (.cmp .Eq (.idx (.var 4) (.con (.int (0)))) (.con (.str "sums")))) (.cons (.asg (.nm 3) (.lc (.call 33 (.cons (.call 37 (.cons (.idx (.idx (.var 4) (.con (.int (1)))) (.var 5)) (.cons (.var 3) .nil)) .nil [.inl (.inl 0), .inl (.inl 1)]) (.cons (.idx (.idx (.var 4) (.con (.int (2)))) (.var 5)) .nil)) .nil [.inl (.inl 0), .inl (.inl 1)]) (.nm 5) (.rng1 (.bi .len (.cons (.idx (.var 4) (.con (.int (1)))) .nil))) [5] .yes))
  .nil) (.cons (.for (.nm 5) (.rng1 (.bi .len (.cons (.var 3) .nil))) (.cons (.ife (.v (.idx (.idx (.var 4) (.con (.int (1)))) (.var 5))) (.cons (.expr (.mth 0 (.var 2) (.cons (.idx (.var 3) (.var 5)) .nil)))
  (.cons (.ife (.v (.cmp .Lt (.idx (.idx (.var 3) (.var 5)) (.con (.int (0)))) (.con (.int (0))))) (.cons (.sub (.var 3) (.var 5) (.tup (.cons (.con (.int (0))) (.cons (.con (.int (1))) .nil))))
  .nil) .nil)
  .nil)) .nil)
  .nil))
  .nil))
  .nil))
  (.cons (.ret (.tup (.cons (.var 2) (.cons (.bi .tuple (.cons (.var 3) .nil)) .nil))))
  .nil))))
def n__law_region : List Str := ["script", "size", "lows", "highs", "k", "rich", "low", "bounds", "j", "vector"]
def c__law_region : QSs := (.cons (.asg (.nm 2) (.lst .nil))
  (.cons (.asg (.nm 3) (.lst .nil))
  (.cons (.for (.nm 4) (.rng1 (.var 1)) (.cons (.asg (.nm 5) (.call 31 (.cons (.call 30 (.cons (.var 0) (.cons (.con (.int (26))) .nil)) .nil [.inl (.inl 0), .inl (.inl 1)]) (.cons (.bin .Add (.con (.int (70))) (.var 4)) .nil)) .nil [.inl (.inl 0), .inl (.inl 1)]))
  (.cons (.asg (.nm 6) (.call 32 (.cons (.bin .Sub (.bin .Mod (.var 5) (.con (.int (9)))) (.con (.int (6)))) (.cons (.idx (.lst (.cons (.con (.int (1))) (.cons (.con (.int (1))) (.cons (.con (.int (2))) .nil)))) (.bin .Mod (.bin .FloorDiv (.var 5) (.con (.int (9)))) (.con (.int (3))))) .nil)) .nil [.inl (.inl 0), .inl (.inl 1)]))
  (.cons (.expr (.mth 0 (.var 2) (.cons (.var 6) .nil)))
  (.cons (.expr (.mth 0 (.var 3) (.cons (.call 33 (.cons (.var 6) (.cons (.call 32 (.cons (.idx (.lst (.cons (.con (.int (3))) (.cons (.con (.int (1))) (.cons (.con (.int (2))) (.cons (.con (.int (5))) (.cons (.con (.int (0))) (.cons (.neg (.con (.int (1)))) .nil))))))) (.bin .Mod (.bin .FloorDiv (.var 5) (.con (.int (27)))) (.con (.int (6))))) (.cons (.idx (.lst (.cons (.con (.int (1))) (.cons (.con (.int (2))) .nil))) (.bin .Mod (.bin .FloorDiv (.var 5) (.con (.int (162)))) (.con (.int (2))))) .nil)) .nil [.inl (.inl 0), .inl (.inl 1)]) .nil)) .nil [.inl (.inl 0), .inl (.inl 1)]) .nil)))
  (.cons (.ife (.and (.v (.cmp .Gt (.bin .Mod (.bin .FloorDiv (.var 5) (.con (.int (324)))) (.con (.int (4)))) (.con (.int (0))))) (.v (.cmp .Eq (.bin .Mod (.bin .FloorDiv (.var 5) (.con (.int (27)))) (.con (.int (6)))) (.con (.int (5)))))) (.cons (.sub (.var 3) (.var 4) (.call 33 (.cons (.var 6) (.cons (.tup (.cons (.con (.int (2))) (.cons (.con (.int (1))) .nil))) .nil)) .nil [.inl (.inl 0), .inl (.inl 1)]))
  .nil) .nil)
  .nil))))))
  (.cons (.asg (.nm 7) (.lst .nil))
  (.cons (.for (.nm 4) (.rng1 (.bin .Mod (.bin .FloorDiv (.call 30 (.cons (.var 0) (.cons (.con (.int (26))) .nil)) .nil [.inl (.inl 0), .inl (.inl 1)]) (.con (.int (7)))) (.con (.int (3))))) (.cons (.asg (.nm 5) (.call 31 (.cons (.call 30 (.cons (.var 0) (.cons (.con (.int (27))) .nil)) .nil [.inl (.inl 0), .inl (.inl 1)]) (.cons (.bin .Add (.con (.int (80))) (.var 4)) .nil)) .nil [.inl (.inl 0), .inl (.inl 1)]))
  (.cons (.asg (.nm 9) (.bi .tuple (.cons (.lc (.call 32 (.cons (.bin .Sub (.bin .Mod (.bin .FloorDiv (.var 5) (.bin .Add (.con (.int (3))) (.bin .Mult (.con (.int (4))) (.var 8)))) (.con (.int (5)))) (.con (.int (2)))) (.cons (.idx (.lst (.cons (.con (.int (1))) (.cons (.con (.int (1))) (.cons (.con (.int (2))) (.cons (.con (.int (3))) .nil))))) (.bin .Mod (.bin .FloorDiv (.var 5) (.bin .Add (.con (.int (37))) (.var 8))) (.con (.int (4))))) .nil)) .nil [.inl (.inl 0), .inl (.inl 1)]) (.nm 8) (.rng1 (.var 1)) [8] .yes) .nil)))
  (.cons (.expr (.mth 0 (.var 7) (.cons (.tup (.cons (.var 9) (.cons (.call 32 (.cons (.bin .Sub (.bin .Mod (.bin .FloorDiv (.var 5) (.con (.int (35)))) (.con (.int (15)))) (.con (.int (5)))) (.cons (.idx (.lst (.cons (.con (.int (1))) (.cons (.con (.int (2))) .nil))) (.bin .Mod (.bin .FloorDiv (.var 5) (.con (.int (105)))) (.con (.int (2))))) .nil)) .nil [.inl (.inl 0), .inl (.inl 1)]) .nil))) .nil)))
  .nil))))
  (.cons (.ret (.tup (.cons (.bi .tuple (.cons (.var 2) .nil)) (.cons (.bi .tuple (.cons (.var 3) .nil)) (.cons (.bi .tuple (.cons (.var 7) .nil)) .nil)))))
  .nil))))))
def n__law_in : List Str := ["region", "point", "lows", "highs", "bounds", "k", "vector", "limit"]
def c__law_in : QSs := (.cons (.asg (.tp [(.nm 2), (.nm 3), (.nm 4)]) (.var 0))
  (.cons (.for (.nm 5) (.rng1 (.bi .len (.cons (.var 2) .nil))) (.cons (.ife (.or (.v (.call 35 (.cons (.idx (.var 1) (.var 5)) (.cons (.idx (.var 2) (.var 5)) .nil)) .nil [.inl (.inl 0), .inl (.inl 1)])) (.v (.call 35 (.cons (.idx (.var 3) (.var 5)) (.cons (.idx (.var 1) (.var 5)) .nil)) .nil [.inl (.inl 0), .inl (.inl 1)]))) (.cons (.ret (.con (.bl false)))
  .nil) .nil)
  .nil))
  (.cons (.ret (.bi .all (.cons (.lc (.nott (.call 35 (.cons (.var 7) (.cons (.call 37 (.cons (.var 6) (.cons (.var 1) .nil)) .nil [.inl (.inl 0), .inl (.inl 1)]) .nil)) .nil [.inl (.inl 0), .inl (.inl 1)])) (.tp [(.nm 6), (.nm 7)]) (.v (.var 4)) [6, 7] .yes) .nil)))
  .nil)))
def n__law_points : List Str := ["region", "rich", "count", "lows", "highs", "bounds", "points", "k", "point", "j", "part", "other"]
def c__law_points : QSs := (.cons (.asg (.tp [(.nm 3), (.nm 4), (.nm 5)]) (.var 0))
  (.cons (.asg (.nm 6) (.lst .nil))
  (.cons (.for (.nm 7) (.rng1 (.var 2)) (.cons (.asg (.nm 8) (.lst .nil))
  (.cons (.for (.nm 9) (.rng1 (.bi .len (.cons (.var 3) .nil))) (.cons (.asg (.nm 10) (.call 32 (.cons (.bin .Mod (.bin .FloorDiv (.var 1) (.bin .Add (.bin .Add (.con (.int (3))) (.bin .Mult (.con (.int (5))) (.var 7))) (.var 9))) (.con (.int (7)))) (.cons (.con (.int (6))) .nil)) .nil [.inl (.inl 0), .inl (.inl 1)]))
  (.cons (.ife (.v (.cmp .Eq (.bin .Mod (.bin .FloorDiv (.var 1) (.bin .Add (.con (.int (11))) (.var 7))) (.con (.int (3)))) (.con (.int (0))))) (.cons (.asg (.nm 10) (.idx (.lst (.cons (.tup (.cons (.con (.int (0))) (.cons (.con (.int (1))) .nil))) (.cons (.tup (.cons (.con (.int (1))) (.cons (.con (.int (1))) .nil))) .nil))) (.bin .Mod (.bin .FloorDiv (.var 1) (.bin .Add (.bin .Add (.con (.int (7))) (.var 7)) (.bin .Mult (.con (.int (3))) (.var 9)))) (.con (.int (2))))))
  .nil) .nil)
  (.cons (.asg (.nm 11) (.call 33 (.cons (.tup (.cons (.con (.int (1))) (.cons (.con (.int (1))) .nil))) (.cons (.tup (.cons (.neg (.idx (.var 10) (.con (.int (0))))) (.cons (.idx (.var 10) (.con (.int (1)))) .nil))) .nil)) .nil [.inl (.inl 0), .inl (.inl 1)]))
  (.cons (.expr (.mth 0 (.var 8) (.cons (.call 33 (.cons (.call 34 (.cons (.var 11) (.cons (.idx (.var 3) (.var 9)) .nil)) .nil [.inl (.inl 0), .inl (.inl 1)]) (.cons (.call 34 (.cons (.var 10) (.cons (.idx (.var 4) (.var 9)) .nil)) .nil [.inl (.inl 0), .inl (.inl 1)]) .nil)) .nil [.inl (.inl 0), .inl (.inl 1)]) .nil)))
  .nil)))))
  (.cons (.expr (.mth 0 (.var 6) (.cons (.bi .tuple (.cons (.var 8) .nil)) .nil)))
  .nil))))
  (.cons (.ret (.lc (.var 8) (.nm 8) (.v (.var 6)) [8] (.v (.call 43 (.cons (.var 0) (.cons (.var 8) .nil)) .nil [.inl (.inl 0), .inl (.inl 1)]))))
  .nil))))
def n__law_keeps : List Str := ["bound", "point"]
def c__law_keeps : QSs := (.cons (.ret (.nott (.call 35 (.cons (.idx (.var 0) (.con (.int (1)))) (.cons (.call 37 (.cons (.idx (.var 0) (.con (.int (0)))) (.cons (.var 1) .nil)) .nil [.inl (.inl 0), .inl (.inl 1)]) .nil)) .nil [.inl (.inl 0), .inl (.inl 1)])))
  .nil)
def n__law_linear : List Str := ["network", "phases", "point", "vector", "values", "layer", "k"]
def c__law_linear : QSs := (.cons (.asg (.nm 3) (.bi .list (.cons (.var 2) .nil)))
  (.cons (.asg (.nm 4) (.lst .nil))
  (.cons (.for (.nm 5) (.v (.idx (.var 0) (.con (.int (1))))) (.cons (.ife (.v (.cmp .Eq (.idx (.var 5) (.con (.int (0)))) (.con (.str "sums")))) (.cons (.asg (.nm 3) (.lc (.call 33 (.cons (.call 37 (.cons (.idx (.idx (.var 5) (.con (.int (1)))) (.var 6)) (.cons (.var 3) .nil)) .nil [.inl (.inl 0), .inl (.inl 1)]) (.cons (.idx (.idx (.var 5) (.con (.int (2)))) (.var 6)) .nil)) .nil [.inl (.inl 0), .inl (.inl 1)]) (.nm 6) (.rng1 (.bi .len (.cons (.idx (.var 5) (.con (.int (1)))) .nil))) [6] .yes))
  .nil) (.cons (.for (.nm 6) (.rng1 (.bi .len (.cons (.var 3) .nil))) (.cons (.ife (.v (.idx (.idx (.var 5) (.con (.int (1)))) (.var 6))) (.cons (.expr (.mth 0 (.var 4) (.cons (.idx (.var 3) (.var 6)) .nil)))
  (.cons (.ife (.not (.v (.idx (.var 1) (.bin .Sub (.bi .len (.cons (.var 4) .nil)) (.con (.int (1))))))) (.cons (.sub (.var 3) (.var 6) (.tup (.cons (.con (.int (0))) (.cons (.con (.int (1))) .nil))))
  .nil) .nil)
  .nil)) .nil)
  .nil))
  .nil))
  .nil))
  (.cons (.ret (.tup (.cons (.var 4) (.cons (.bi .tuple (.cons (.var 3) .nil)) .nil))))
  .nil))))
def n_law : List Str := ["script", "network", "region", "rich", "count", "first", "point", "values", "outputs", "value", "due", "k", "turned", "drawn", "phases", "rows", "matrix", "offsets", "linear", "given", "fits_v"]
def c_law : QSs := (.cons (.asg (.nm 1) (.call 39 (.cons (.var 0) (.cons (.con (.int (3))) (.cons (.con (.int (3))) .nil))) .nil [.inl (.inl 0), .inl (.inl 1), .inl (.inl 2)]))
  (.cons (.asg (.nm 2) (.call 42 (.cons (.var 0) (.cons (.idx (.var 1) (.con (.int (0)))) .nil)) .nil [.inl (.inl 0), .inl (.inl 1)]))
  (.cons (.asg (.nm 3) (.call 31 (.cons (.call 30 (.cons (.var 0) (.cons (.con (.int (28))) .nil)) .nil [.inl (.inl 0), .inl (.inl 1)]) (.cons (.con (.int (96))) .nil)) .nil [.inl (.inl 0), .inl (.inl 1)]))
  (.cons (.asg (.nm 4) (.call 40 (.cons (.var 1) .nil) .nil [.inl (.inl 0)]))
  (.cons (.asg (.nm 5) (.bin .Add (.bin .Mult (.con (.int (2))) (.idx (.var 1) (.con (.int (0))))) (.bi .len (.cons (.idx (.var 2) (.con (.int (2)))) .nil))))
  (.cons (.for (.nm 6) (.v (.bin .Add (.call 44 (.cons (.var 2) (.cons (.var 3) (.cons (.con (.int (5))) .nil))) .nil [.inl (.inl 0), .inl (.inl 1), .inl (.inl 2)]) (.lst (.cons (.idx (.var 2) (.con (.int (0)))) .nil)))) (.cons (.asg (.tp [(.nm 7), (.nm 8)]) (.call 41 (.cons (.var 1) (.cons (.var 6) .nil)) .nil [.inl (.inl 0), .inl (.inl 1)]))
  (.cons (.asg (.nm 10) (.bi .tuple (.cons (.lc (.cmp .Gt (.idx (.var 9) (.con (.int (0)))) (.con (.int (0)))) (.nm 9) (.v (.var 7)) [9] .yes) .nil)))
  (.cons (.ife (.v (.cmp .NotEq (.call 27 (.cons (.var 1) (.cons (.var 6) .nil)) .nil [.inl (.inl 0), .inl (.inl 1)]) (.var 10))) (.cons (.ret (.con (.bl false)))
  .nil) .nil)
  (.cons (.asg (.nm 12) (.bi .tuple (.cons (.lc (.orv (.idx (.var 10) (.var 11)) (.andv (.cmp .Eq (.idx (.idx (.var 7) (.var 11)) (.con (.int (0)))) (.con (.int (0)))) (.cmp .Eq (.bin .Mod (.bin .FloorDiv (.var 3) (.bin .Add (.con (.int (3))) (.var 11))) (.con (.int (2)))) (.con (.int (0)))))) (.nm 11) (.rng1 (.var 4)) [11] .yes) .nil)))
  (.cons (.asg (.nm 13) (.bi .tuple (.cons (.lc (.cmp .Eq (.bin .Mod (.bin .FloorDiv (.var 3) (.bin .Add (.con (.int (5))) (.var 11))) (.con (.int (2)))) (.con (.int (0)))) (.nm 11) (.rng1 (.var 4)) [11] .yes) .nil)))
  (.cons (.for (.nm 14) (.v (.lst (.cons (.var 10) (.cons (.var 12) (.cons (.var 13) .nil))))) (.cons (.asg (.nm 15) (.call 28 (.cons (.var 1) (.cons (.var 2) (.cons (.var 14) .nil))) .nil [.inl (.inl 0), .inl (.inl 1), .inl (.inl 2)]))
  (.cons (.asg (.tp [(.nm 16), (.nm 17)]) (.call 29 (.cons (.var 1) (.cons (.var 14) .nil)) .nil [.inl (.inl 0), .inl (.inl 1)]))
  (.cons (.asg (.tp [(.nm 18), (.nm 19)]) (.call 46 (.cons (.var 1) (.cons (.var 14) (.cons (.var 6) .nil))) .nil [.inl (.inl 0), .inl (.inl 1), .inl (.inl 2)]))
  (.cons (.ife (.v (.cmp .NotEq (.bi .len (.cons (.var 15) .nil)) (.bin .Add (.var 5) (.var 4)))) (.cons (.ret (.con (.bl false)))
  .nil) .nil)
  (.cons (.ife (.v (.cmp .NotEq (.bi .all (.cons (.lc (.call 45 (.cons (.idx (.var 15) (.var 11)) (.cons (.var 6) .nil)) .nil [.inl (.inl 0), .inl (.inl 1)]) (.nm 11) (.rng1 (.var 5)) [11] .yes) .nil)) (.call 43 (.cons (.var 2) (.cons (.var 6) .nil)) .nil [.inl (.inl 0), .inl (.inl 1)]))) (.cons (.ret (.con (.bl false)))
  .nil) .nil)
  (.cons (.for (.nm 11) (.rng1 (.var 4)) (.cons (.asg (.nm 20) (.ife (.v (.idx (.var 14) (.var 11))) (.cmp .GtE (.idx (.idx (.var 18) (.var 11)) (.con (.int (0)))) (.con (.int (0)))) (.cmp .LtE (.idx (.idx (.var 18) (.var 11)) (.con (.int (0)))) (.con (.int (0))))))
  (.cons (.ife (.v (.cmp .NotEq (.call 45 (.cons (.idx (.var 15) (.bin .Add (.var 5) (.var 11))) (.cons (.var 6) .nil)) .nil [.inl (.inl 0), .inl (.inl 1)]) (.var 20))) (.cons (.ret (.con (.bl false)))
  .nil) .nil)
  .nil)))
  (.cons (.ife (.v (.cmp .NotEq (.bi .tuple (.cons (.lc (.call 33 (.cons (.call 37 (.cons (.idx (.var 16) (.var 11)) (.cons (.var 6) .nil)) .nil [.inl (.inl 0), .inl (.inl 1)]) (.cons (.idx (.var 17) (.var 11)) .nil)) .nil [.inl (.inl 0), .inl (.inl 1)]) (.nm 11) (.rng1 (.bi .len (.cons (.var 17) .nil))) [11] .yes) .nil)) (.var 19))) (.cons (.ret (.con (.bl false)))
  .nil) .nil)
  (.cons (.ife (.and (.v (.cmp .NotEq (.var 14) (.var 13))) (.v (.cmp .NotEq (.var 19) (.var 8)))) (.cons (.ret (.con (.bl false)))
  .nil) .nil)
  .nil)))))))))
  .nil)))))))
  (.cons (.ret (.con (.bl true)))
  .nil)))))))
def n_Piece__init : List Str := ["self", "network", "phases", "index", "forms", "layer", "row", "offset", "flag", "form"]
def c_Piece__init : QSs := (.cons (.fset (.var 0) "size" (.idx (.var 1) (.con (.int (0)))))
  (.cons (.fset (.var 0) "phases" (.var 2))
  (.cons (.fset (.var 0) "bending" (.lst .nil))
  (.cons (.asg (.nm 4) (.lc (.tup (.cons (.call 11 (.cons (.fld (.var 0) "size") (.cons (.var 3) .nil)) .nil [.inl (.inl 0), .inl (.inl 1)]) (.cons (.con (.tup [(.int (0)), (.int (1))])) .nil))) (.nm 3) (.rng1 (.fld (.var 0) "size")) [3] .yes))
  (.cons (.for (.nm 5) (.v (.idx (.var 1) (.con (.int (1))))) (.cons (.ife (.v (.cmp .Eq (.idx (.var 5) (.con (.int (0)))) (.con (.str "sums")))) (.cons (.asg (.nm 4) (.lc (.mcall 0 49 "weighted" (.var 0) (.cons (.var 6) (.cons (.var 7) (.cons (.var 4) .nil)))) (.tp [(.nm 6), (.nm 7)]) (.zip (.idx (.var 5) (.con (.int (1)))) (.idx (.var 5) (.con (.int (2))))) [6, 7] .yes))
  .nil) (.cons (.asg (.nm 4) (.lc (.ife (.v (.var 8)) (.mcall 0 50 "bent" (.var 0) (.cons (.var 9) .nil)) (.var 9)) (.tp [(.nm 8), (.nm 9)]) (.zip (.idx (.var 5) (.con (.int (1)))) (.var 4)) [8, 9] .yes))
  .nil))
  .nil))
  (.cons (.fset (.var 0) "outputs" (.var 4))
  .nil))))))
def n_Piece__weighted : List Str := ["self", "row", "offset", "forms", "vector", "constant", "weight", "form"]
def c_Piece__weighted : QSs := (.cons (.asg (.nm 4) (.call 10 (.cons (.fld (.var 0) "size") .nil) .nil [.inl (.inl 0)]))
  (.cons (.asg (.nm 5) (.var 2))
  (.cons (.for (.tp [(.nm 6), (.nm 7)]) (.zip (.var 1) (.var 3)) (.cons (.ife (.v (.cmp .NotEq (.var 6) (.con (.tup [(.int (0)), (.int (1))])))) (.cons (.asg (.nm 4) (.call 13 (.cons (.var 4) (.cons (.call 14 (.cons (.var 6) (.cons (.idx (.var 7) (.con (.int (0)))) .nil)) .nil [.inl (.inl 0), .inl (.inl 1)]) .nil)) .nil [.inl (.inl 0), .inl (.inl 1)]))
  (.cons (.asg (.nm 5) (.call 3 (.cons (.var 5) (.cons (.call 4 (.cons (.var 6) (.cons (.idx (.var 7) (.con (.int (1)))) .nil)) .nil [.inl (.inl 0), .inl (.inl 1)]) .nil)) .nil [.inl (.inl 0), .inl (.inl 1)]))
  .nil)) .nil)
  .nil))
  (.cons (.ret (.tup (.cons (.var 4) (.cons (.var 5) .nil))))
  .nil))))
def n_Piece__bent : List Str := ["self", "form"]
def c_Piece__bent : QSs := (.cons (.expr (.mth 0 (.fld (.var 0) "bending") (.cons (.var 1) .nil)))
  (.cons (.ife (.v (.idx (.fld (.var 0) "phases") (.bin .Sub (.bi .len (.cons (.fld (.var 0) "bending") .nil)) (.con (.int (1)))))) (.cons (.ret (.var 1))
  .nil) .nil)
  (.cons (.ret (.tup (.cons (.call 10 (.cons (.fld (.var 0) "size") .nil) .nil [.inl (.inl 0)]) (.cons (.con (.tup [(.int (0)), (.int (1))])) .nil))))
  .nil)))
def fns : List FnC := ⟨1, 1, c_is_integer⟩ :: ⟨1, 1, c_is_ratio⟩ :: ⟨2, 3, c_make⟩ :: ⟨2, 2, c_add⟩ :: ⟨2, 2, c_multiply⟩ :: ⟨1, 1, c_negative⟩ :: ⟨2, 2, c_less⟩ :: ⟨1, 3, c_greatest⟩ :: ⟨2, 3, c_is_vector⟩ :: ⟨3, 5, c_is_matrix⟩ :: ⟨1, 1, c_zero⟩ :: ⟨2, 2, c_unit⟩ :: ⟨2, 7, c_dot⟩ :: ⟨2, 4, c_added⟩ :: ⟨2, 3, c_scaled⟩ :: ⟨1, 2, c_opposite⟩ :: ⟨2, 3, c_applied⟩ :: ⟨1, 4, c_is_group⟩ :: ⟨1, 1, c_is_step⟩ :: ⟨1, 10, c_has_form⟩ :: ⟨2, 3, c_fits⟩ :: ⟨2, 2, c_given_size⟩ :: ⟨1, 4, c_sizes⟩ :: ⟨1, 1, c_check⟩ :: ⟨2, 13, c_passed⟩ :: ⟨2, 4, c_trail⟩ :: ⟨1, 7, c_rows_of⟩ :: ⟨2, 8, c_pattern⟩ :: ⟨3, 6, c_piece_rows⟩ :: ⟨2, 4, c_piece_form⟩ :: ⟨2, 2, c__law_cell⟩ :: ⟨2, 3, c__law_rich⟩ :: ⟨2, 4, c__law_make⟩ :: ⟨2, 2, c__law_add⟩ :: ⟨2, 2, c__law_mul⟩ :: ⟨2, 2, c__law_less⟩ :: ⟨1, 2, c__law_ratio⟩ :: ⟨2, 4, c__law_dot⟩ :: ⟨3, 9, c__law_sums⟩ :: ⟨3, 11, c__law_network⟩ :: ⟨1, 4, c__law_units⟩ :: ⟨2, 6, c__law_values⟩ :: ⟨2, 10, c__law_region⟩ :: ⟨2, 8, c__law_in⟩ :: ⟨3, 12, c__law_points⟩ :: ⟨2, 2, c__law_keeps⟩ :: ⟨3, 7, c__law_linear⟩ :: ⟨1, 21, c_law⟩ :: ⟨3, 10, c_Piece__init⟩ :: ⟨4, 8, c_Piece__weighted⟩ :: ⟨2, 2, c_Piece__bent⟩ :: []
def sub (a b : Nat) : Bool := [(0, 0), (1, 0), (1, 1), (2, 0), (2, 2), (3, 0), (3, 3)].contains (a, b)
abbrev s_is_integer : Stmt := top 10
def d_is_integer : He.DefD := ⟨("is_integer", none), "is_integer", "is_integer", defArgs s_is_integer, defBody s_is_integer, defScope s_is_integer, [], []⟩
abbrev s_is_ratio : Stmt := top 11
def d_is_ratio : He.DefD := ⟨("is_ratio", none), "is_ratio", "is_ratio", defArgs s_is_ratio, defBody s_is_ratio, defScope s_is_ratio, [], []⟩
abbrev s_make : Stmt := top 12
def d_make : He.DefD := ⟨("make", none), "make", "make", defArgs s_make, defBody s_make, defScope s_make, [.int (1)], []⟩
abbrev s_add : Stmt := top 13
def d_add : He.DefD := ⟨("add", none), "add", "add", defArgs s_add, defBody s_add, defScope s_add, [], []⟩
abbrev s_multiply : Stmt := top 14
def d_multiply : He.DefD := ⟨("multiply", none), "multiply", "multiply", defArgs s_multiply, defBody s_multiply, defScope s_multiply, [], []⟩
abbrev s_negative : Stmt := top 15
def d_negative : He.DefD := ⟨("negative", none), "negative", "negative", defArgs s_negative, defBody s_negative, defScope s_negative, [], []⟩
abbrev s_less : Stmt := top 16
def d_less : He.DefD := ⟨("less", none), "less", "less", defArgs s_less, defBody s_less, defScope s_less, [], []⟩
abbrev s_greatest : Stmt := top 17
def d_greatest : He.DefD := ⟨("greatest", none), "greatest", "greatest", defArgs s_greatest, defBody s_greatest, defScope s_greatest, [], []⟩
abbrev s_is_vector : Stmt := top 19
def d_is_vector : He.DefD := ⟨("is_vector", none), "is_vector", "is_vector", defArgs s_is_vector, defBody s_is_vector, defScope s_is_vector, [], [("size", .non)]⟩
abbrev s_is_matrix : Stmt := top 20
def d_is_matrix : He.DefD := ⟨("is_matrix", none), "is_matrix", "is_matrix", defArgs s_is_matrix, defBody s_is_matrix, defScope s_is_matrix, [], [("rows", .non), ("columns", .non)]⟩
abbrev s_zero : Stmt := top 21
def d_zero : He.DefD := ⟨("zero", none), "zero", "zero", defArgs s_zero, defBody s_zero, defScope s_zero, [], []⟩
abbrev s_unit : Stmt := top 22
def d_unit : He.DefD := ⟨("unit", none), "unit", "unit", defArgs s_unit, defBody s_unit, defScope s_unit, [], []⟩
abbrev s_dot : Stmt := top 23
def d_dot : He.DefD := ⟨("dot", none), "dot", "dot", defArgs s_dot, defBody s_dot, defScope s_dot, [], []⟩
abbrev s_added : Stmt := top 24
def d_added : He.DefD := ⟨("added", none), "added", "added", defArgs s_added, defBody s_added, defScope s_added, [], []⟩
abbrev s_scaled : Stmt := top 25
def d_scaled : He.DefD := ⟨("scaled", none), "scaled", "scaled", defArgs s_scaled, defBody s_scaled, defScope s_scaled, [], []⟩
abbrev s_opposite : Stmt := top 26
def d_opposite : He.DefD := ⟨("opposite", none), "opposite", "opposite", defArgs s_opposite, defBody s_opposite, defScope s_opposite, [], []⟩
abbrev s_applied : Stmt := top 27
def d_applied : He.DefD := ⟨("applied", none), "applied", "applied", defArgs s_applied, defBody s_applied, defScope s_applied, [], []⟩
abbrev s_is_group : Stmt := top 29
def d_is_group : He.DefD := ⟨("is_group", none), "is_group", "is_group", defArgs s_is_group, defBody s_is_group, defScope s_is_group, [], []⟩
abbrev s_is_step : Stmt := top 30
def d_is_step : He.DefD := ⟨("is_step", none), "is_step", "is_step", defArgs s_is_step, defBody s_is_step, defScope s_is_step, [], []⟩
abbrev s_has_form : Stmt := top 31
def d_has_form : He.DefD := ⟨("has_form", none), "has_form", "has_form", defArgs s_has_form, defBody s_has_form, defScope s_has_form, [], []⟩
abbrev s_fits : Stmt := top 32
def d_fits : He.DefD := ⟨("fits", none), "fits", "fits", defArgs s_fits, defBody s_fits, defScope s_fits, [], []⟩
abbrev s_given_size : Stmt := top 33
def d_given_size : He.DefD := ⟨("given_size", none), "given_size", "given_size", defArgs s_given_size, defBody s_given_size, defScope s_given_size, [], []⟩
abbrev s_sizes : Stmt := top 34
def d_sizes : He.DefD := ⟨("sizes", none), "sizes", "sizes", defArgs s_sizes, defBody s_sizes, defScope s_sizes, [], []⟩
abbrev s_check : Stmt := top 35
def d_check : He.DefD := ⟨("check", none), "check", "check", defArgs s_check, defBody s_check, defScope s_check, [], []⟩
abbrev s_passed : Stmt := top 36
def d_passed : He.DefD := ⟨("passed", none), "passed", "passed", defArgs s_passed, defBody s_passed, defScope s_passed, [], []⟩
abbrev s_trail : Stmt := top 37
def d_trail : He.DefD := ⟨("trail", none), "trail", "trail", defArgs s_trail, defBody s_trail, defScope s_trail, [], []⟩
abbrev s_rows_of : Stmt := top 39
def d_rows_of : He.DefD := ⟨("rows_of", none), "rows_of", "rows_of", defArgs s_rows_of, defBody s_rows_of, defScope s_rows_of, [], []⟩
abbrev s_pattern : Stmt := top 41
def d_pattern : He.DefD := ⟨("pattern", none), "pattern", "pattern", defArgs s_pattern, defBody s_pattern, defScope s_pattern, [], []⟩
abbrev s_piece_rows : Stmt := top 43
def d_piece_rows : He.DefD := ⟨("piece_rows", none), "piece_rows", "piece_rows", defArgs s_piece_rows, defBody s_piece_rows, defScope s_piece_rows, [], []⟩
abbrev s_piece_form : Stmt := top 44
def d_piece_form : He.DefD := ⟨("piece_form", none), "piece_form", "piece_form", defArgs s_piece_form, defBody s_piece_form, defScope s_piece_form, [], []⟩
abbrev s__law_cell : Stmt := top 46
def d__law_cell : He.DefD := ⟨("_law_cell", none), "_law_cell", "_law_cell", defArgs s__law_cell, defBody s__law_cell, defScope s__law_cell, [], []⟩
abbrev s__law_rich : Stmt := top 47
def d__law_rich : He.DefD := ⟨("_law_rich", none), "_law_rich", "_law_rich", defArgs s__law_rich, defBody s__law_rich, defScope s__law_rich, [], []⟩
abbrev s__law_make : Stmt := top 48
def d__law_make : He.DefD := ⟨("_law_make", none), "_law_make", "_law_make", defArgs s__law_make, defBody s__law_make, defScope s__law_make, [], []⟩
abbrev s__law_add : Stmt := top 49
def d__law_add : He.DefD := ⟨("_law_add", none), "_law_add", "_law_add", defArgs s__law_add, defBody s__law_add, defScope s__law_add, [], []⟩
abbrev s__law_mul : Stmt := top 50
def d__law_mul : He.DefD := ⟨("_law_mul", none), "_law_mul", "_law_mul", defArgs s__law_mul, defBody s__law_mul, defScope s__law_mul, [], []⟩
abbrev s__law_less : Stmt := top 51
def d__law_less : He.DefD := ⟨("_law_less", none), "_law_less", "_law_less", defArgs s__law_less, defBody s__law_less, defScope s__law_less, [], []⟩
abbrev s__law_ratio : Stmt := top 52
def d__law_ratio : He.DefD := ⟨("_law_ratio", none), "_law_ratio", "_law_ratio", defArgs s__law_ratio, defBody s__law_ratio, defScope s__law_ratio, [], []⟩
abbrev s__law_dot : Stmt := top 53
def d__law_dot : He.DefD := ⟨("_law_dot", none), "_law_dot", "_law_dot", defArgs s__law_dot, defBody s__law_dot, defScope s__law_dot, [], []⟩
abbrev s__law_sums : Stmt := top 54
def d__law_sums : He.DefD := ⟨("_law_sums", none), "_law_sums", "_law_sums", defArgs s__law_sums, defBody s__law_sums, defScope s__law_sums, [], []⟩
abbrev s__law_network : Stmt := top 55
def d__law_network : He.DefD := ⟨("_law_network", none), "_law_network", "_law_network", defArgs s__law_network, defBody s__law_network, defScope s__law_network, [], []⟩
abbrev s__law_units : Stmt := top 56
def d__law_units : He.DefD := ⟨("_law_units", none), "_law_units", "_law_units", defArgs s__law_units, defBody s__law_units, defScope s__law_units, [], []⟩
abbrev s__law_values : Stmt := top 57
def d__law_values : He.DefD := ⟨("_law_values", none), "_law_values", "_law_values", defArgs s__law_values, defBody s__law_values, defScope s__law_values, [], []⟩
abbrev s__law_region : Stmt := top 58
def d__law_region : He.DefD := ⟨("_law_region", none), "_law_region", "_law_region", defArgs s__law_region, defBody s__law_region, defScope s__law_region, [], []⟩
abbrev s__law_in : Stmt := top 59
def d__law_in : He.DefD := ⟨("_law_in", none), "_law_in", "_law_in", defArgs s__law_in, defBody s__law_in, defScope s__law_in, [], []⟩
abbrev s__law_points : Stmt := top 60
def d__law_points : He.DefD := ⟨("_law_points", none), "_law_points", "_law_points", defArgs s__law_points, defBody s__law_points, defScope s__law_points, [], []⟩
abbrev s__law_keeps : Stmt := top 61
def d__law_keeps : He.DefD := ⟨("_law_keeps", none), "_law_keeps", "_law_keeps", defArgs s__law_keeps, defBody s__law_keeps, defScope s__law_keeps, [], []⟩
abbrev s__law_linear : Stmt := top 62
def d__law_linear : He.DefD := ⟨("_law_linear", none), "_law_linear", "_law_linear", defArgs s__law_linear, defBody s__law_linear, defScope s__law_linear, [], []⟩
abbrev s_law : Stmt := top 63
def d_law : He.DefD := ⟨("law", none), "law", "law", defArgs s_law, defBody s_law, defScope s_law, [], []⟩
abbrev s_Piece__init : Stmt := inCls 42 0
def d_Piece__init : He.DefD := ⟨("Piece", some "__init__"), "__init__", "Piece.__init__", defArgs s_Piece__init, defBody s_Piece__init, defScope s_Piece__init, [], []⟩
abbrev s_Piece__weighted : Stmt := inCls 42 1
def d_Piece__weighted : He.DefD := ⟨("Piece", some "weighted"), "weighted", "Piece.weighted", defArgs s_Piece__weighted, defBody s_Piece__weighted, defScope s_Piece__weighted, [], []⟩
abbrev s_Piece__bent : Stmt := inCls 42 2
def d_Piece__bent : He.DefD := ⟨("Piece", some "bent"), "bent", "Piece.bent", defArgs s_Piece__bent, defBody s_Piece__bent, defScope s_Piece__bent, [], []⟩
abbrev s_BadNetwork__init : Stmt := inCls 4 0
def d_BadNetwork__init : He.DefD := ⟨("BadNetwork", some "__init__"), "__init__", "BadNetwork.__init__", defArgs s_BadNetwork__init, defBody s_BadNetwork__init, defScope s_BadNetwork__init, [], []⟩
def dd : List He.DefD := d_is_integer :: d_is_ratio :: d_make :: d_add :: d_multiply :: d_negative :: d_less :: d_greatest :: d_is_vector :: d_is_matrix :: d_zero :: d_unit :: d_dot :: d_added :: d_scaled :: d_opposite :: d_applied :: d_is_group :: d_is_step :: d_has_form :: d_fits :: d_given_size :: d_sizes :: d_check :: d_passed :: d_trail :: d_rows_of :: d_pattern :: d_piece_rows :: d_piece_form :: d__law_cell :: d__law_rich :: d__law_make :: d__law_add :: d__law_mul :: d__law_less :: d__law_ratio :: d__law_dot :: d__law_sums :: d__law_network :: d__law_units :: d__law_values :: d__law_region :: d__law_in :: d__law_points :: d__law_keeps :: d__law_linear :: d_law :: d_Piece__init :: d_Piece__weighted :: d_Piece__bent :: d_BadNetwork__init :: []
def L : LawD := ⟨gl, fns, sub, ["KinkError", "ByZero", "BadNetwork", "BadPoint"], dd, ["Piece"], []⟩
theorem cs_Piece__init : cSs 40 ⟨n_Piece__init, (d_Piece__init).scope, asOf (d_Piece__init).scope.names, L.gl, false, none⟩ (d_Piece__init).body = some c_Piece__init := by kernel_rfl
theorem sc_Piece__init : FnScope n_Piece__init ["self", "network", "phases"] (d_Piece__init).scope := fnScope_by (by kernel_rfl)
theorem as_Piece__init : asOk (d_Piece__init).scope = true := by kernel_rfl
theorem ok_Piece__init : MetOk L d_Piece__init 48 3 := ⟨["self", "network", "phases"], n_Piece__init, c_Piece__init, rfl, sc_Piece__init, as_Piece__init, rfl, cs_Piece__init, fun K f fd FD => bindM FD fun _ _ _ _ _ _ us h => match us, h with | [_, _, _], _ => rfl⟩
theorem cs_Piece__weighted : cSs 40 ⟨n_Piece__weighted, (d_Piece__weighted).scope, asOf (d_Piece__weighted).scope.names, L.gl, false, none⟩ (d_Piece__weighted).body = some c_Piece__weighted := by kernel_rfl
theorem sc_Piece__weighted : FnScope n_Piece__weighted ["self", "row", "offset", "forms"] (d_Piece__weighted).scope := fnScope_by (by kernel_rfl)
theorem as_Piece__weighted : asOk (d_Piece__weighted).scope = true := by kernel_rfl
theorem ok_Piece__weighted : MetOk L d_Piece__weighted 49 4 := ⟨["self", "row", "offset", "forms"], n_Piece__weighted, c_Piece__weighted, rfl, sc_Piece__weighted, as_Piece__weighted, rfl, cs_Piece__weighted, fun K f fd FD => bindM FD fun _ _ _ _ _ _ us h => match us, h with | [_, _, _, _], _ => rfl⟩
theorem cs_Piece__bent : cSs 40 ⟨n_Piece__bent, (d_Piece__bent).scope, asOf (d_Piece__bent).scope.names, L.gl, false, none⟩ (d_Piece__bent).body = some c_Piece__bent := by kernel_rfl
theorem sc_Piece__bent : FnScope n_Piece__bent ["self", "form"] (d_Piece__bent).scope := fnScope_by (by kernel_rfl)
theorem as_Piece__bent : asOk (d_Piece__bent).scope = true := by kernel_rfl
theorem ok_Piece__bent : MetOk L d_Piece__bent 50 2 := ⟨["self", "form"], n_Piece__bent, c_Piece__bent, rfl, sc_Piece__bent, as_Piece__bent, rfl, cs_Piece__bent, fun K f fd FD => bindM FD fun _ _ _ _ _ _ us h => match us, h with | [_, _], _ => rfl⟩
theorem sci_BadNetwork : FnScope ["self", "layer", "reason"] ["self", "layer", "reason"] (d_BadNetwork__init).scope := fnScope_by (by kernel_rfl)
theorem iok_BadNetwork : InitOk d_BadNetwork__init ["layer", "reason"] := ⟨fun P w K mg base Ca f fd FD T h => ⟨["self", "layer", "reason"], init2 FD sci_BadNetwork T (h _ (by simp)) (h _ (by simp)) (by kernel_rfl) (by kernel_rfl) (by kernel_rfl) (by kernel_rfl) (by kernel_rfl) (by kernel_rfl), bindM FD fun _ _ _ _ _ _ us h => match us, h with | [_, _, _], _ => rfl⟩⟩
theorem cs_is_integer : cSs 40 ⟨n_is_integer, (d_is_integer).scope, asOf (d_is_integer).scope.names, L.gl, false, none⟩ (d_is_integer).body = some c_is_integer := by kernel_rfl
theorem sc_is_integer : FnScope n_is_integer ["value"] (d_is_integer).scope := fnScope_by (by kernel_rfl)
theorem as_is_integer : asOk (d_is_integer).scope = true := by kernel_rfl
theorem ok_is_integer : DefOk L d_is_integer 0 1 [(1, [], arrOf [] [.inl (.inl 0)])] := ⟨["value"], n_is_integer, c_is_integer, rfl, sc_is_integer, as_is_integer, rfl, cs_is_integer, fun K f fd FD n ks arr hm => by
  simp only [List.mem_cons, List.not_mem_nil, or_false, Prod.mk.injEq] at hm
  obtain ⟨rfl, rfl, rfl⟩ := hm
  exact ⟨rfl, rfl, kb_A FD [.inl (.inl 0)] fun _ _ _ _ _ _ us ws h1 h2 => match us, ws, h1, h2 with | [_], [], _, _ => rfl⟩⟩
theorem cs_is_ratio : cSs 40 ⟨n_is_ratio, (d_is_ratio).scope, asOf (d_is_ratio).scope.names, L.gl, false, none⟩ (d_is_ratio).body = some c_is_ratio := by kernel_rfl
theorem sc_is_ratio : FnScope n_is_ratio ["value"] (d_is_ratio).scope := fnScope_by (by kernel_rfl)
theorem as_is_ratio : asOk (d_is_ratio).scope = true := by kernel_rfl
theorem ok_is_ratio : DefOk L d_is_ratio 1 1 [(1, [], arrOf [] [.inl (.inl 0)])] := ⟨["value"], n_is_ratio, c_is_ratio, rfl, sc_is_ratio, as_is_ratio, rfl, cs_is_ratio, fun K f fd FD n ks arr hm => by
  simp only [List.mem_cons, List.not_mem_nil, or_false, Prod.mk.injEq] at hm
  obtain ⟨rfl, rfl, rfl⟩ := hm
  exact ⟨rfl, rfl, kb_A FD [.inl (.inl 0)] fun _ _ _ _ _ _ us ws h1 h2 => match us, ws, h1, h2 with | [_], [], _, _ => rfl⟩⟩
theorem cs_make : cSs 40 ⟨n_make, (d_make).scope, asOf (d_make).scope.names, L.gl, false, none⟩ (d_make).body = some c_make := by kernel_rfl
theorem sc_make : FnScope n_make ["above", "below"] (d_make).scope := fnScope_by (by kernel_rfl)
theorem as_make : asOk (d_make).scope = true := by kernel_rfl
theorem ok_make : DefOk L d_make 2 2 [(2, [], arrOf [(.int (1))] [.inl (.inl 0), .inl (.inl 1)])] := ⟨["above", "below"], n_make, c_make, rfl, sc_make, as_make, rfl, cs_make, fun K f fd FD n ks arr hm => by
  simp only [List.mem_cons, List.not_mem_nil, or_false, Prod.mk.injEq] at hm
  obtain ⟨rfl, rfl, rfl⟩ := hm
  exact ⟨rfl, rfl, kb_B FD [(.int (1))] [.inl (.inl 0), .inl (.inl 1)] (fun z => by cases z) rfl fun _ _ _ _ _ _ _ us ws its h1 h2 h3 => match us, ws, its, h1, h2, h3 with | [_, _], [], [_], _, _, _ => ⟨_, rfl, rfl⟩⟩⟩
theorem cs_add : cSs 40 ⟨n_add, (d_add).scope, asOf (d_add).scope.names, L.gl, false, none⟩ (d_add).body = some c_add := by kernel_rfl
theorem sc_add : FnScope n_add ["one", "other"] (d_add).scope := fnScope_by (by kernel_rfl)
theorem as_add : asOk (d_add).scope = true := by kernel_rfl
theorem ok_add : DefOk L d_add 3 2 [(2, [], arrOf [] [.inl (.inl 0), .inl (.inl 1)])] := ⟨["one", "other"], n_add, c_add, rfl, sc_add, as_add, rfl, cs_add, fun K f fd FD n ks arr hm => by
  simp only [List.mem_cons, List.not_mem_nil, or_false, Prod.mk.injEq] at hm
  obtain ⟨rfl, rfl, rfl⟩ := hm
  exact ⟨rfl, rfl, kb_A FD [.inl (.inl 0), .inl (.inl 1)] fun _ _ _ _ _ _ us ws h1 h2 => match us, ws, h1, h2 with | [_, _], [], _, _ => rfl⟩⟩
theorem cs_multiply : cSs 40 ⟨n_multiply, (d_multiply).scope, asOf (d_multiply).scope.names, L.gl, false, none⟩ (d_multiply).body = some c_multiply := by kernel_rfl
theorem sc_multiply : FnScope n_multiply ["one", "other"] (d_multiply).scope := fnScope_by (by kernel_rfl)
theorem as_multiply : asOk (d_multiply).scope = true := by kernel_rfl
theorem ok_multiply : DefOk L d_multiply 4 2 [(2, [], arrOf [] [.inl (.inl 0), .inl (.inl 1)])] := ⟨["one", "other"], n_multiply, c_multiply, rfl, sc_multiply, as_multiply, rfl, cs_multiply, fun K f fd FD n ks arr hm => by
  simp only [List.mem_cons, List.not_mem_nil, or_false, Prod.mk.injEq] at hm
  obtain ⟨rfl, rfl, rfl⟩ := hm
  exact ⟨rfl, rfl, kb_A FD [.inl (.inl 0), .inl (.inl 1)] fun _ _ _ _ _ _ us ws h1 h2 => match us, ws, h1, h2 with | [_, _], [], _, _ => rfl⟩⟩
theorem cs_negative : cSs 40 ⟨n_negative, (d_negative).scope, asOf (d_negative).scope.names, L.gl, false, none⟩ (d_negative).body = some c_negative := by kernel_rfl
theorem sc_negative : FnScope n_negative ["ratio"] (d_negative).scope := fnScope_by (by kernel_rfl)
theorem as_negative : asOk (d_negative).scope = true := by kernel_rfl
theorem ok_negative : DefOk L d_negative 5 1 [(1, [], arrOf [] [.inl (.inl 0)])] := ⟨["ratio"], n_negative, c_negative, rfl, sc_negative, as_negative, rfl, cs_negative, fun K f fd FD n ks arr hm => by
  simp only [List.mem_cons, List.not_mem_nil, or_false, Prod.mk.injEq] at hm
  obtain ⟨rfl, rfl, rfl⟩ := hm
  exact ⟨rfl, rfl, kb_A FD [.inl (.inl 0)] fun _ _ _ _ _ _ us ws h1 h2 => match us, ws, h1, h2 with | [_], [], _, _ => rfl⟩⟩
theorem cs_less : cSs 40 ⟨n_less, (d_less).scope, asOf (d_less).scope.names, L.gl, false, none⟩ (d_less).body = some c_less := by kernel_rfl
theorem sc_less : FnScope n_less ["one", "other"] (d_less).scope := fnScope_by (by kernel_rfl)
theorem as_less : asOk (d_less).scope = true := by kernel_rfl
theorem ok_less : DefOk L d_less 6 2 [(2, [], arrOf [] [.inl (.inl 0), .inl (.inl 1)])] := ⟨["one", "other"], n_less, c_less, rfl, sc_less, as_less, rfl, cs_less, fun K f fd FD n ks arr hm => by
  simp only [List.mem_cons, List.not_mem_nil, or_false, Prod.mk.injEq] at hm
  obtain ⟨rfl, rfl, rfl⟩ := hm
  exact ⟨rfl, rfl, kb_A FD [.inl (.inl 0), .inl (.inl 1)] fun _ _ _ _ _ _ us ws h1 h2 => match us, ws, h1, h2 with | [_, _], [], _, _ => rfl⟩⟩
theorem cs_greatest : cSs 40 ⟨n_greatest, (d_greatest).scope, asOf (d_greatest).scope.names, L.gl, false, none⟩ (d_greatest).body = some c_greatest := by kernel_rfl
theorem sc_greatest : FnScope n_greatest ["ratios"] (d_greatest).scope := fnScope_by (by kernel_rfl)
theorem as_greatest : asOk (d_greatest).scope = true := by kernel_rfl
theorem ok_greatest : DefOk L d_greatest 7 1 [(1, [], arrOf [] [.inl (.inl 0)])] := ⟨["ratios"], n_greatest, c_greatest, rfl, sc_greatest, as_greatest, rfl, cs_greatest, fun K f fd FD n ks arr hm => by
  simp only [List.mem_cons, List.not_mem_nil, or_false, Prod.mk.injEq] at hm
  obtain ⟨rfl, rfl, rfl⟩ := hm
  exact ⟨rfl, rfl, kb_A FD [.inl (.inl 0)] fun _ _ _ _ _ _ us ws h1 h2 => match us, ws, h1, h2 with | [_], [], _, _ => rfl⟩⟩
theorem cs_is_vector : cSs 40 ⟨n_is_vector, (d_is_vector).scope, asOf (d_is_vector).scope.names, L.gl, false, none⟩ (d_is_vector).body = some c_is_vector := by kernel_rfl
theorem sc_is_vector : FnScope n_is_vector ["value", "size"] (d_is_vector).scope := fnScope_by (by kernel_rfl)
theorem as_is_vector : asOk (d_is_vector).scope = true := by kernel_rfl
theorem ok_is_vector : DefOk L d_is_vector 8 2 [(1, ["size"], arrOf [] [.inl (.inl 0), .inl (.inr 0)]), (1, [], arrOf [.non] [.inl (.inl 0), .inr 0])] := ⟨["value", "size"], n_is_vector, c_is_vector, rfl, sc_is_vector, as_is_vector, rfl, cs_is_vector, fun K f fd FD n ks arr hm => by
  simp only [List.mem_cons, List.not_mem_nil, or_false, Prod.mk.injEq] at hm
  rcases hm with ⟨rfl, rfl, rfl⟩ | ⟨rfl, rfl, rfl⟩
  · exact ⟨rfl, rfl, kb_A FD [.inl (.inl 0), .inl (.inr 0)] fun _ _ _ _ _ _ us ws h1 h2 => match us, ws, h1, h2 with | [_], [_], _, _ => rfl⟩
  · exact ⟨rfl, rfl, kb_K FD [("size", .non)] [.inl (.inl 0), .inr 0] (fun z => by cases z) (by simp [d_is_vector, He.DefD.kws, He.Dv.v, toV]) fun _ _ _ _ _ _ us ws mv h1 h2 h3 => match us, ws, mv, h1, h2, h3 with | [_], [], [_], _, _, _ => ⟨_, _, _, _, _, _, rfl, rfl, rfl⟩⟩⟩
theorem cs_is_matrix : cSs 40 ⟨n_is_matrix, (d_is_matrix).scope, asOf (d_is_matrix).scope.names, L.gl, false, none⟩ (d_is_matrix).body = some c_is_matrix := by kernel_rfl
theorem sc_is_matrix : FnScope n_is_matrix ["value", "rows", "columns"] (d_is_matrix).scope := fnScope_by (by kernel_rfl)
theorem as_is_matrix : asOk (d_is_matrix).scope = true := by kernel_rfl
theorem ok_is_matrix : DefOk L d_is_matrix 9 3 [(1, [], arrOf [.non, .non] [.inl (.inl 0), .inr 0, .inr 1])] := ⟨["value", "rows", "columns"], n_is_matrix, c_is_matrix, rfl, sc_is_matrix, as_is_matrix, rfl, cs_is_matrix, fun K f fd FD n ks arr hm => by
  simp only [List.mem_cons, List.not_mem_nil, or_false, Prod.mk.injEq] at hm
  obtain ⟨rfl, rfl, rfl⟩ := hm
  exact ⟨rfl, rfl, kb_K FD [("rows", .non), ("columns", .non)] [.inl (.inl 0), .inr 0, .inr 1] (fun z => by cases z) (by simp [d_is_matrix, He.DefD.kws, He.Dv.v, toV]) fun _ _ _ _ _ _ us ws mv h1 h2 h3 => match us, ws, mv, h1, h2, h3 with | [_], [], [_, _], _, _, _ => ⟨_, _, _, _, _, _, rfl, rfl, ⟨_, _, _, _, _, _, rfl, rfl, rfl⟩⟩⟩⟩
theorem cs_zero : cSs 40 ⟨n_zero, (d_zero).scope, asOf (d_zero).scope.names, L.gl, false, none⟩ (d_zero).body = some c_zero := by kernel_rfl
theorem sc_zero : FnScope n_zero ["size"] (d_zero).scope := fnScope_by (by kernel_rfl)
theorem as_zero : asOk (d_zero).scope = true := by kernel_rfl
theorem ok_zero : DefOk L d_zero 10 1 [(1, [], arrOf [] [.inl (.inl 0)])] := ⟨["size"], n_zero, c_zero, rfl, sc_zero, as_zero, rfl, cs_zero, fun K f fd FD n ks arr hm => by
  simp only [List.mem_cons, List.not_mem_nil, or_false, Prod.mk.injEq] at hm
  obtain ⟨rfl, rfl, rfl⟩ := hm
  exact ⟨rfl, rfl, kb_A FD [.inl (.inl 0)] fun _ _ _ _ _ _ us ws h1 h2 => match us, ws, h1, h2 with | [_], [], _, _ => rfl⟩⟩
theorem cs_unit : cSs 40 ⟨n_unit, (d_unit).scope, asOf (d_unit).scope.names, L.gl, false, none⟩ (d_unit).body = some c_unit := by kernel_rfl
theorem sc_unit : FnScope n_unit ["size", "index"] (d_unit).scope := fnScope_by (by kernel_rfl)
theorem as_unit : asOk (d_unit).scope = true := by kernel_rfl
theorem ok_unit : DefOk L d_unit 11 2 [(2, [], arrOf [] [.inl (.inl 0), .inl (.inl 1)])] := ⟨["size", "index"], n_unit, c_unit, rfl, sc_unit, as_unit, rfl, cs_unit, fun K f fd FD n ks arr hm => by
  simp only [List.mem_cons, List.not_mem_nil, or_false, Prod.mk.injEq] at hm
  obtain ⟨rfl, rfl, rfl⟩ := hm
  exact ⟨rfl, rfl, kb_A FD [.inl (.inl 0), .inl (.inl 1)] fun _ _ _ _ _ _ us ws h1 h2 => match us, ws, h1, h2 with | [_, _], [], _, _ => rfl⟩⟩
theorem cs_dot : cSs 40 ⟨n_dot, (d_dot).scope, asOf (d_dot).scope.names, L.gl, false, none⟩ (d_dot).body = some c_dot := by kernel_rfl
theorem sc_dot : FnScope n_dot ["one", "other"] (d_dot).scope := fnScope_by (by kernel_rfl)
theorem as_dot : asOk (d_dot).scope = true := by kernel_rfl
theorem ok_dot : DefOk L d_dot 12 2 [(2, [], arrOf [] [.inl (.inl 0), .inl (.inl 1)])] := ⟨["one", "other"], n_dot, c_dot, rfl, sc_dot, as_dot, rfl, cs_dot, fun K f fd FD n ks arr hm => by
  simp only [List.mem_cons, List.not_mem_nil, or_false, Prod.mk.injEq] at hm
  obtain ⟨rfl, rfl, rfl⟩ := hm
  exact ⟨rfl, rfl, kb_A FD [.inl (.inl 0), .inl (.inl 1)] fun _ _ _ _ _ _ us ws h1 h2 => match us, ws, h1, h2 with | [_, _], [], _, _ => rfl⟩⟩
theorem cs_added : cSs 40 ⟨n_added, (d_added).scope, asOf (d_added).scope.names, L.gl, false, none⟩ (d_added).body = some c_added := by kernel_rfl
theorem sc_added : FnScope n_added ["one", "other"] (d_added).scope := fnScope_by (by kernel_rfl)
theorem as_added : asOk (d_added).scope = true := by kernel_rfl
theorem ok_added : DefOk L d_added 13 2 [(2, [], arrOf [] [.inl (.inl 0), .inl (.inl 1)])] := ⟨["one", "other"], n_added, c_added, rfl, sc_added, as_added, rfl, cs_added, fun K f fd FD n ks arr hm => by
  simp only [List.mem_cons, List.not_mem_nil, or_false, Prod.mk.injEq] at hm
  obtain ⟨rfl, rfl, rfl⟩ := hm
  exact ⟨rfl, rfl, kb_A FD [.inl (.inl 0), .inl (.inl 1)] fun _ _ _ _ _ _ us ws h1 h2 => match us, ws, h1, h2 with | [_, _], [], _, _ => rfl⟩⟩
theorem cs_scaled : cSs 40 ⟨n_scaled, (d_scaled).scope, asOf (d_scaled).scope.names, L.gl, false, none⟩ (d_scaled).body = some c_scaled := by kernel_rfl
theorem sc_scaled : FnScope n_scaled ["factor", "vector"] (d_scaled).scope := fnScope_by (by kernel_rfl)
theorem as_scaled : asOk (d_scaled).scope = true := by kernel_rfl
theorem ok_scaled : DefOk L d_scaled 14 2 [(2, [], arrOf [] [.inl (.inl 0), .inl (.inl 1)])] := ⟨["factor", "vector"], n_scaled, c_scaled, rfl, sc_scaled, as_scaled, rfl, cs_scaled, fun K f fd FD n ks arr hm => by
  simp only [List.mem_cons, List.not_mem_nil, or_false, Prod.mk.injEq] at hm
  obtain ⟨rfl, rfl, rfl⟩ := hm
  exact ⟨rfl, rfl, kb_A FD [.inl (.inl 0), .inl (.inl 1)] fun _ _ _ _ _ _ us ws h1 h2 => match us, ws, h1, h2 with | [_, _], [], _, _ => rfl⟩⟩
theorem cs_opposite : cSs 40 ⟨n_opposite, (d_opposite).scope, asOf (d_opposite).scope.names, L.gl, false, none⟩ (d_opposite).body = some c_opposite := by kernel_rfl
theorem sc_opposite : FnScope n_opposite ["vector"] (d_opposite).scope := fnScope_by (by kernel_rfl)
theorem as_opposite : asOk (d_opposite).scope = true := by kernel_rfl
theorem ok_opposite : DefOk L d_opposite 15 1 [(1, [], arrOf [] [.inl (.inl 0)])] := ⟨["vector"], n_opposite, c_opposite, rfl, sc_opposite, as_opposite, rfl, cs_opposite, fun K f fd FD n ks arr hm => by
  simp only [List.mem_cons, List.not_mem_nil, or_false, Prod.mk.injEq] at hm
  obtain ⟨rfl, rfl, rfl⟩ := hm
  exact ⟨rfl, rfl, kb_A FD [.inl (.inl 0)] fun _ _ _ _ _ _ us ws h1 h2 => match us, ws, h1, h2 with | [_], [], _, _ => rfl⟩⟩
theorem cs_applied : cSs 40 ⟨n_applied, (d_applied).scope, asOf (d_applied).scope.names, L.gl, false, none⟩ (d_applied).body = some c_applied := by kernel_rfl
theorem sc_applied : FnScope n_applied ["matrix", "vector"] (d_applied).scope := fnScope_by (by kernel_rfl)
theorem as_applied : asOk (d_applied).scope = true := by kernel_rfl
theorem ok_applied : DefOk L d_applied 16 2 [(2, [], arrOf [] [.inl (.inl 0), .inl (.inl 1)])] := ⟨["matrix", "vector"], n_applied, c_applied, rfl, sc_applied, as_applied, rfl, cs_applied, fun K f fd FD n ks arr hm => by
  simp only [List.mem_cons, List.not_mem_nil, or_false, Prod.mk.injEq] at hm
  obtain ⟨rfl, rfl, rfl⟩ := hm
  exact ⟨rfl, rfl, kb_A FD [.inl (.inl 0), .inl (.inl 1)] fun _ _ _ _ _ _ us ws h1 h2 => match us, ws, h1, h2 with | [_, _], [], _, _ => rfl⟩⟩
theorem cs_is_group : cSs 40 ⟨n_is_group, (d_is_group).scope, asOf (d_is_group).scope.names, L.gl, false, none⟩ (d_is_group).body = some c_is_group := by kernel_rfl
theorem sc_is_group : FnScope n_is_group ["value"] (d_is_group).scope := fnScope_by (by kernel_rfl)
theorem as_is_group : asOk (d_is_group).scope = true := by kernel_rfl
theorem ok_is_group : DefOk L d_is_group 17 1 [(1, [], arrOf [] [.inl (.inl 0)])] := ⟨["value"], n_is_group, c_is_group, rfl, sc_is_group, as_is_group, rfl, cs_is_group, fun K f fd FD n ks arr hm => by
  simp only [List.mem_cons, List.not_mem_nil, or_false, Prod.mk.injEq] at hm
  obtain ⟨rfl, rfl, rfl⟩ := hm
  exact ⟨rfl, rfl, kb_A FD [.inl (.inl 0)] fun _ _ _ _ _ _ us ws h1 h2 => match us, ws, h1, h2 with | [_], [], _, _ => rfl⟩⟩
theorem cs_is_step : cSs 40 ⟨n_is_step, (d_is_step).scope, asOf (d_is_step).scope.names, L.gl, false, none⟩ (d_is_step).body = some c_is_step := by kernel_rfl
theorem sc_is_step : FnScope n_is_step ["value"] (d_is_step).scope := fnScope_by (by kernel_rfl)
theorem as_is_step : asOk (d_is_step).scope = true := by kernel_rfl
theorem ok_is_step : DefOk L d_is_step 18 1 [(1, [], arrOf [] [.inl (.inl 0)])] := ⟨["value"], n_is_step, c_is_step, rfl, sc_is_step, as_is_step, rfl, cs_is_step, fun K f fd FD n ks arr hm => by
  simp only [List.mem_cons, List.not_mem_nil, or_false, Prod.mk.injEq] at hm
  obtain ⟨rfl, rfl, rfl⟩ := hm
  exact ⟨rfl, rfl, kb_A FD [.inl (.inl 0)] fun _ _ _ _ _ _ us ws h1 h2 => match us, ws, h1, h2 with | [_], [], _, _ => rfl⟩⟩
theorem cs_has_form : cSs 40 ⟨n_has_form, (d_has_form).scope, asOf (d_has_form).scope.names, L.gl, false, none⟩ (d_has_form).body = some c_has_form := by kernel_rfl
theorem sc_has_form : FnScope n_has_form ["layer"] (d_has_form).scope := fnScope_by (by kernel_rfl)
theorem as_has_form : asOk (d_has_form).scope = true := by kernel_rfl
theorem ok_has_form : DefOk L d_has_form 19 1 [(1, [], arrOf [] [.inl (.inl 0)])] := ⟨["layer"], n_has_form, c_has_form, rfl, sc_has_form, as_has_form, rfl, cs_has_form, fun K f fd FD n ks arr hm => by
  simp only [List.mem_cons, List.not_mem_nil, or_false, Prod.mk.injEq] at hm
  obtain ⟨rfl, rfl, rfl⟩ := hm
  exact ⟨rfl, rfl, kb_A FD [.inl (.inl 0)] fun _ _ _ _ _ _ us ws h1 h2 => match us, ws, h1, h2 with | [_], [], _, _ => rfl⟩⟩
theorem cs_fits : cSs 40 ⟨n_fits, (d_fits).scope, asOf (d_fits).scope.names, L.gl, false, none⟩ (d_fits).body = some c_fits := by kernel_rfl
theorem sc_fits : FnScope n_fits ["size", "layer"] (d_fits).scope := fnScope_by (by kernel_rfl)
theorem as_fits : asOk (d_fits).scope = true := by kernel_rfl
theorem ok_fits : DefOk L d_fits 20 2 [(2, [], arrOf [] [.inl (.inl 0), .inl (.inl 1)])] := ⟨["size", "layer"], n_fits, c_fits, rfl, sc_fits, as_fits, rfl, cs_fits, fun K f fd FD n ks arr hm => by
  simp only [List.mem_cons, List.not_mem_nil, or_false, Prod.mk.injEq] at hm
  obtain ⟨rfl, rfl, rfl⟩ := hm
  exact ⟨rfl, rfl, kb_A FD [.inl (.inl 0), .inl (.inl 1)] fun _ _ _ _ _ _ us ws h1 h2 => match us, ws, h1, h2 with | [_, _], [], _, _ => rfl⟩⟩
theorem cs_given_size : cSs 40 ⟨n_given_size, (d_given_size).scope, asOf (d_given_size).scope.names, L.gl, false, none⟩ (d_given_size).body = some c_given_size := by kernel_rfl
theorem sc_given_size : FnScope n_given_size ["size", "layer"] (d_given_size).scope := fnScope_by (by kernel_rfl)
theorem as_given_size : asOk (d_given_size).scope = true := by kernel_rfl
theorem ok_given_size : DefOk L d_given_size 21 2 [(2, [], arrOf [] [.inl (.inl 0), .inl (.inl 1)])] := ⟨["size", "layer"], n_given_size, c_given_size, rfl, sc_given_size, as_given_size, rfl, cs_given_size, fun K f fd FD n ks arr hm => by
  simp only [List.mem_cons, List.not_mem_nil, or_false, Prod.mk.injEq] at hm
  obtain ⟨rfl, rfl, rfl⟩ := hm
  exact ⟨rfl, rfl, kb_A FD [.inl (.inl 0), .inl (.inl 1)] fun _ _ _ _ _ _ us ws h1 h2 => match us, ws, h1, h2 with | [_, _], [], _, _ => rfl⟩⟩
theorem cs_sizes : cSs 40 ⟨n_sizes, (d_sizes).scope, asOf (d_sizes).scope.names, L.gl, false, none⟩ (d_sizes).body = some c_sizes := by kernel_rfl
theorem sc_sizes : FnScope n_sizes ["network"] (d_sizes).scope := fnScope_by (by kernel_rfl)
theorem as_sizes : asOk (d_sizes).scope = true := by kernel_rfl
theorem ok_sizes : DefOk L d_sizes 22 1 [(1, [], arrOf [] [.inl (.inl 0)])] := ⟨["network"], n_sizes, c_sizes, rfl, sc_sizes, as_sizes, rfl, cs_sizes, fun K f fd FD n ks arr hm => by
  simp only [List.mem_cons, List.not_mem_nil, or_false, Prod.mk.injEq] at hm
  obtain ⟨rfl, rfl, rfl⟩ := hm
  exact ⟨rfl, rfl, kb_A FD [.inl (.inl 0)] fun _ _ _ _ _ _ us ws h1 h2 => match us, ws, h1, h2 with | [_], [], _, _ => rfl⟩⟩
theorem cs_check : cSs 40 ⟨n_check, (d_check).scope, asOf (d_check).scope.names, L.gl, false, none⟩ (d_check).body = some c_check := by kernel_rfl
theorem sc_check : FnScope n_check ["network"] (d_check).scope := fnScope_by (by kernel_rfl)
theorem as_check : asOk (d_check).scope = true := by kernel_rfl
theorem ok_check : DefOk L d_check 23 1 [(1, [], arrOf [] [.inl (.inl 0)])] := ⟨["network"], n_check, c_check, rfl, sc_check, as_check, rfl, cs_check, fun K f fd FD n ks arr hm => by
  simp only [List.mem_cons, List.not_mem_nil, or_false, Prod.mk.injEq] at hm
  obtain ⟨rfl, rfl, rfl⟩ := hm
  exact ⟨rfl, rfl, kb_A FD [.inl (.inl 0)] fun _ _ _ _ _ _ us ws h1 h2 => match us, ws, h1, h2 with | [_], [], _, _ => rfl⟩⟩
theorem cs_passed : cSs 40 ⟨n_passed, (d_passed).scope, asOf (d_passed).scope.names, L.gl, false, none⟩ (d_passed).body = some c_passed := by kernel_rfl
theorem sc_passed : FnScope n_passed ["layer", "vector"] (d_passed).scope := fnScope_by (by kernel_rfl)
theorem as_passed : asOk (d_passed).scope = true := by kernel_rfl
theorem ok_passed : DefOk L d_passed 24 2 [(2, [], arrOf [] [.inl (.inl 0), .inl (.inl 1)])] := ⟨["layer", "vector"], n_passed, c_passed, rfl, sc_passed, as_passed, rfl, cs_passed, fun K f fd FD n ks arr hm => by
  simp only [List.mem_cons, List.not_mem_nil, or_false, Prod.mk.injEq] at hm
  obtain ⟨rfl, rfl, rfl⟩ := hm
  exact ⟨rfl, rfl, kb_A FD [.inl (.inl 0), .inl (.inl 1)] fun _ _ _ _ _ _ us ws h1 h2 => match us, ws, h1, h2 with | [_, _], [], _, _ => rfl⟩⟩
theorem cs_trail : cSs 40 ⟨n_trail, (d_trail).scope, asOf (d_trail).scope.names, L.gl, false, none⟩ (d_trail).body = some c_trail := by kernel_rfl
theorem sc_trail : FnScope n_trail ["network", "point"] (d_trail).scope := fnScope_by (by kernel_rfl)
theorem as_trail : asOk (d_trail).scope = true := by kernel_rfl
theorem ok_trail : DefOk L d_trail 25 2 [(2, [], arrOf [] [.inl (.inl 0), .inl (.inl 1)])] := ⟨["network", "point"], n_trail, c_trail, rfl, sc_trail, as_trail, rfl, cs_trail, fun K f fd FD n ks arr hm => by
  simp only [List.mem_cons, List.not_mem_nil, or_false, Prod.mk.injEq] at hm
  obtain ⟨rfl, rfl, rfl⟩ := hm
  exact ⟨rfl, rfl, kb_A FD [.inl (.inl 0), .inl (.inl 1)] fun _ _ _ _ _ _ us ws h1 h2 => match us, ws, h1, h2 with | [_, _], [], _, _ => rfl⟩⟩
theorem cs_rows_of : cSs 40 ⟨n_rows_of, (d_rows_of).scope, asOf (d_rows_of).scope.names, L.gl, false, none⟩ (d_rows_of).body = some c_rows_of := by kernel_rfl
theorem sc_rows_of : FnScope n_rows_of ["region"] (d_rows_of).scope := fnScope_by (by kernel_rfl)
theorem as_rows_of : asOk (d_rows_of).scope = true := by kernel_rfl
theorem ok_rows_of : DefOk L d_rows_of 26 1 [(1, [], arrOf [] [.inl (.inl 0)])] := ⟨["region"], n_rows_of, c_rows_of, rfl, sc_rows_of, as_rows_of, rfl, cs_rows_of, fun K f fd FD n ks arr hm => by
  simp only [List.mem_cons, List.not_mem_nil, or_false, Prod.mk.injEq] at hm
  obtain ⟨rfl, rfl, rfl⟩ := hm
  exact ⟨rfl, rfl, kb_A FD [.inl (.inl 0)] fun _ _ _ _ _ _ us ws h1 h2 => match us, ws, h1, h2 with | [_], [], _, _ => rfl⟩⟩
theorem cs_pattern : cSs 40 ⟨n_pattern, (d_pattern).scope, asOf (d_pattern).scope.names, L.gl, false, none⟩ (d_pattern).body = some c_pattern := by kernel_rfl
theorem sc_pattern : FnScope n_pattern ["network", "point"] (d_pattern).scope := fnScope_by (by kernel_rfl)
theorem as_pattern : asOk (d_pattern).scope = true := by kernel_rfl
theorem ok_pattern : DefOk L d_pattern 27 2 [(2, [], arrOf [] [.inl (.inl 0), .inl (.inl 1)])] := ⟨["network", "point"], n_pattern, c_pattern, rfl, sc_pattern, as_pattern, rfl, cs_pattern, fun K f fd FD n ks arr hm => by
  simp only [List.mem_cons, List.not_mem_nil, or_false, Prod.mk.injEq] at hm
  obtain ⟨rfl, rfl, rfl⟩ := hm
  exact ⟨rfl, rfl, kb_A FD [.inl (.inl 0), .inl (.inl 1)] fun _ _ _ _ _ _ us ws h1 h2 => match us, ws, h1, h2 with | [_, _], [], _, _ => rfl⟩⟩
theorem cs_piece_rows : cSs 40 ⟨n_piece_rows, (d_piece_rows).scope, asOf (d_piece_rows).scope.names, L.gl, false, none⟩ (d_piece_rows).body = some c_piece_rows := by kernel_rfl
theorem sc_piece_rows : FnScope n_piece_rows ["network", "region", "phases"] (d_piece_rows).scope := fnScope_by (by kernel_rfl)
theorem as_piece_rows : asOk (d_piece_rows).scope = true := by kernel_rfl
theorem ok_piece_rows : DefOk L d_piece_rows 28 3 [(3, [], arrOf [] [.inl (.inl 0), .inl (.inl 1), .inl (.inl 2)])] := ⟨["network", "region", "phases"], n_piece_rows, c_piece_rows, rfl, sc_piece_rows, as_piece_rows, rfl, cs_piece_rows, fun K f fd FD n ks arr hm => by
  simp only [List.mem_cons, List.not_mem_nil, or_false, Prod.mk.injEq] at hm
  obtain ⟨rfl, rfl, rfl⟩ := hm
  exact ⟨rfl, rfl, kb_A FD [.inl (.inl 0), .inl (.inl 1), .inl (.inl 2)] fun _ _ _ _ _ _ us ws h1 h2 => match us, ws, h1, h2 with | [_, _, _], [], _, _ => rfl⟩⟩
theorem cs_piece_form : cSs 40 ⟨n_piece_form, (d_piece_form).scope, asOf (d_piece_form).scope.names, L.gl, false, none⟩ (d_piece_form).body = some c_piece_form := by kernel_rfl
theorem sc_piece_form : FnScope n_piece_form ["network", "phases"] (d_piece_form).scope := fnScope_by (by kernel_rfl)
theorem as_piece_form : asOk (d_piece_form).scope = true := by kernel_rfl
theorem ok_piece_form : DefOk L d_piece_form 29 2 [(2, [], arrOf [] [.inl (.inl 0), .inl (.inl 1)])] := ⟨["network", "phases"], n_piece_form, c_piece_form, rfl, sc_piece_form, as_piece_form, rfl, cs_piece_form, fun K f fd FD n ks arr hm => by
  simp only [List.mem_cons, List.not_mem_nil, or_false, Prod.mk.injEq] at hm
  obtain ⟨rfl, rfl, rfl⟩ := hm
  exact ⟨rfl, rfl, kb_A FD [.inl (.inl 0), .inl (.inl 1)] fun _ _ _ _ _ _ us ws h1 h2 => match us, ws, h1, h2 with | [_, _], [], _, _ => rfl⟩⟩
theorem cs__law_cell : cSs 40 ⟨n__law_cell, (d__law_cell).scope, asOf (d__law_cell).scope.names, L.gl, false, none⟩ (d__law_cell).body = some c__law_cell := by kernel_rfl
theorem sc__law_cell : FnScope n__law_cell ["script", "k"] (d__law_cell).scope := fnScope_by (by kernel_rfl)
theorem as__law_cell : asOk (d__law_cell).scope = true := by kernel_rfl
theorem ok__law_cell : DefOk L d__law_cell 30 2 [(2, [], arrOf [] [.inl (.inl 0), .inl (.inl 1)])] := ⟨["script", "k"], n__law_cell, c__law_cell, rfl, sc__law_cell, as__law_cell, rfl, cs__law_cell, fun K f fd FD n ks arr hm => by
  simp only [List.mem_cons, List.not_mem_nil, or_false, Prod.mk.injEq] at hm
  obtain ⟨rfl, rfl, rfl⟩ := hm
  exact ⟨rfl, rfl, kb_A FD [.inl (.inl 0), .inl (.inl 1)] fun _ _ _ _ _ _ us ws h1 h2 => match us, ws, h1, h2 with | [_, _], [], _, _ => rfl⟩⟩
theorem cs__law_rich : cSs 40 ⟨n__law_rich, (d__law_rich).scope, asOf (d__law_rich).scope.names, L.gl, false, none⟩ (d__law_rich).body = some c__law_rich := by kernel_rfl
theorem sc__law_rich : FnScope n__law_rich ["cell", "k"] (d__law_rich).scope := fnScope_by (by kernel_rfl)
theorem as__law_rich : asOk (d__law_rich).scope = true := by kernel_rfl
theorem ok__law_rich : DefOk L d__law_rich 31 2 [(2, [], arrOf [] [.inl (.inl 0), .inl (.inl 1)])] := ⟨["cell", "k"], n__law_rich, c__law_rich, rfl, sc__law_rich, as__law_rich, rfl, cs__law_rich, fun K f fd FD n ks arr hm => by
  simp only [List.mem_cons, List.not_mem_nil, or_false, Prod.mk.injEq] at hm
  obtain ⟨rfl, rfl, rfl⟩ := hm
  exact ⟨rfl, rfl, kb_A FD [.inl (.inl 0), .inl (.inl 1)] fun _ _ _ _ _ _ us ws h1 h2 => match us, ws, h1, h2 with | [_, _], [], _, _ => rfl⟩⟩
theorem cs__law_make : cSs 40 ⟨n__law_make, (d__law_make).scope, asOf (d__law_make).scope.names, L.gl, false, none⟩ (d__law_make).body = some c__law_make := by kernel_rfl
theorem sc__law_make : FnScope n__law_make ["above", "below"] (d__law_make).scope := fnScope_by (by kernel_rfl)
theorem as__law_make : asOk (d__law_make).scope = true := by kernel_rfl
theorem ok__law_make : DefOk L d__law_make 32 2 [(2, [], arrOf [] [.inl (.inl 0), .inl (.inl 1)])] := ⟨["above", "below"], n__law_make, c__law_make, rfl, sc__law_make, as__law_make, rfl, cs__law_make, fun K f fd FD n ks arr hm => by
  simp only [List.mem_cons, List.not_mem_nil, or_false, Prod.mk.injEq] at hm
  obtain ⟨rfl, rfl, rfl⟩ := hm
  exact ⟨rfl, rfl, kb_A FD [.inl (.inl 0), .inl (.inl 1)] fun _ _ _ _ _ _ us ws h1 h2 => match us, ws, h1, h2 with | [_, _], [], _, _ => rfl⟩⟩
theorem cs__law_add : cSs 40 ⟨n__law_add, (d__law_add).scope, asOf (d__law_add).scope.names, L.gl, false, none⟩ (d__law_add).body = some c__law_add := by kernel_rfl
theorem sc__law_add : FnScope n__law_add ["one", "other"] (d__law_add).scope := fnScope_by (by kernel_rfl)
theorem as__law_add : asOk (d__law_add).scope = true := by kernel_rfl
theorem ok__law_add : DefOk L d__law_add 33 2 [(2, [], arrOf [] [.inl (.inl 0), .inl (.inl 1)])] := ⟨["one", "other"], n__law_add, c__law_add, rfl, sc__law_add, as__law_add, rfl, cs__law_add, fun K f fd FD n ks arr hm => by
  simp only [List.mem_cons, List.not_mem_nil, or_false, Prod.mk.injEq] at hm
  obtain ⟨rfl, rfl, rfl⟩ := hm
  exact ⟨rfl, rfl, kb_A FD [.inl (.inl 0), .inl (.inl 1)] fun _ _ _ _ _ _ us ws h1 h2 => match us, ws, h1, h2 with | [_, _], [], _, _ => rfl⟩⟩
theorem cs__law_mul : cSs 40 ⟨n__law_mul, (d__law_mul).scope, asOf (d__law_mul).scope.names, L.gl, false, none⟩ (d__law_mul).body = some c__law_mul := by kernel_rfl
theorem sc__law_mul : FnScope n__law_mul ["one", "other"] (d__law_mul).scope := fnScope_by (by kernel_rfl)
theorem as__law_mul : asOk (d__law_mul).scope = true := by kernel_rfl
theorem ok__law_mul : DefOk L d__law_mul 34 2 [(2, [], arrOf [] [.inl (.inl 0), .inl (.inl 1)])] := ⟨["one", "other"], n__law_mul, c__law_mul, rfl, sc__law_mul, as__law_mul, rfl, cs__law_mul, fun K f fd FD n ks arr hm => by
  simp only [List.mem_cons, List.not_mem_nil, or_false, Prod.mk.injEq] at hm
  obtain ⟨rfl, rfl, rfl⟩ := hm
  exact ⟨rfl, rfl, kb_A FD [.inl (.inl 0), .inl (.inl 1)] fun _ _ _ _ _ _ us ws h1 h2 => match us, ws, h1, h2 with | [_, _], [], _, _ => rfl⟩⟩
theorem cs__law_less : cSs 40 ⟨n__law_less, (d__law_less).scope, asOf (d__law_less).scope.names, L.gl, false, none⟩ (d__law_less).body = some c__law_less := by kernel_rfl
theorem sc__law_less : FnScope n__law_less ["one", "other"] (d__law_less).scope := fnScope_by (by kernel_rfl)
theorem as__law_less : asOk (d__law_less).scope = true := by kernel_rfl
theorem ok__law_less : DefOk L d__law_less 35 2 [(2, [], arrOf [] [.inl (.inl 0), .inl (.inl 1)])] := ⟨["one", "other"], n__law_less, c__law_less, rfl, sc__law_less, as__law_less, rfl, cs__law_less, fun K f fd FD n ks arr hm => by
  simp only [List.mem_cons, List.not_mem_nil, or_false, Prod.mk.injEq] at hm
  obtain ⟨rfl, rfl, rfl⟩ := hm
  exact ⟨rfl, rfl, kb_A FD [.inl (.inl 0), .inl (.inl 1)] fun _ _ _ _ _ _ us ws h1 h2 => match us, ws, h1, h2 with | [_, _], [], _, _ => rfl⟩⟩
theorem cs__law_ratio : cSs 40 ⟨n__law_ratio, (d__law_ratio).scope, asOf (d__law_ratio).scope.names, L.gl, false, none⟩ (d__law_ratio).body = some c__law_ratio := by kernel_rfl
theorem sc__law_ratio : FnScope n__law_ratio ["rich"] (d__law_ratio).scope := fnScope_by (by kernel_rfl)
theorem as__law_ratio : asOk (d__law_ratio).scope = true := by kernel_rfl
theorem ok__law_ratio : DefOk L d__law_ratio 36 1 [] := ⟨["rich"], n__law_ratio, c__law_ratio, rfl, sc__law_ratio, as__law_ratio, rfl, cs__law_ratio, fun K f fd FD n ks arr hm => by
  cases hm⟩
theorem cs__law_dot : cSs 40 ⟨n__law_dot, (d__law_dot).scope, asOf (d__law_dot).scope.names, L.gl, false, none⟩ (d__law_dot).body = some c__law_dot := by kernel_rfl
theorem sc__law_dot : FnScope n__law_dot ["one", "other"] (d__law_dot).scope := fnScope_by (by kernel_rfl)
theorem as__law_dot : asOk (d__law_dot).scope = true := by kernel_rfl
theorem ok__law_dot : DefOk L d__law_dot 37 2 [(2, [], arrOf [] [.inl (.inl 0), .inl (.inl 1)])] := ⟨["one", "other"], n__law_dot, c__law_dot, rfl, sc__law_dot, as__law_dot, rfl, cs__law_dot, fun K f fd FD n ks arr hm => by
  simp only [List.mem_cons, List.not_mem_nil, or_false, Prod.mk.injEq] at hm
  obtain ⟨rfl, rfl, rfl⟩ := hm
  exact ⟨rfl, rfl, kb_A FD [.inl (.inl 0), .inl (.inl 1)] fun _ _ _ _ _ _ us ws h1 h2 => match us, ws, h1, h2 with | [_, _], [], _, _ => rfl⟩⟩
theorem cs__law_sums : cSs 40 ⟨n__law_sums, (d__law_sums).scope, asOf (d__law_sums).scope.names, L.gl, false, none⟩ (d__law_sums).body = some c__law_sums := by kernel_rfl
theorem sc__law_sums : FnScope n__law_sums ["rich", "size", "count"] (d__law_sums).scope := fnScope_by (by kernel_rfl)
theorem as__law_sums : asOk (d__law_sums).scope = true := by kernel_rfl
theorem ok__law_sums : DefOk L d__law_sums 38 3 [(3, [], arrOf [] [.inl (.inl 0), .inl (.inl 1), .inl (.inl 2)])] := ⟨["rich", "size", "count"], n__law_sums, c__law_sums, rfl, sc__law_sums, as__law_sums, rfl, cs__law_sums, fun K f fd FD n ks arr hm => by
  simp only [List.mem_cons, List.not_mem_nil, or_false, Prod.mk.injEq] at hm
  obtain ⟨rfl, rfl, rfl⟩ := hm
  exact ⟨rfl, rfl, kb_A FD [.inl (.inl 0), .inl (.inl 1), .inl (.inl 2)] fun _ _ _ _ _ _ us ws h1 h2 => match us, ws, h1, h2 with | [_, _, _], [], _, _ => rfl⟩⟩
theorem cs__law_network : cSs 40 ⟨n__law_network, (d__law_network).scope, asOf (d__law_network).scope.names, L.gl, false, none⟩ (d__law_network).body = some c__law_network := by kernel_rfl
theorem sc__law_network : FnScope n__law_network ["script", "most", "wide"] (d__law_network).scope := fnScope_by (by kernel_rfl)
theorem as__law_network : asOk (d__law_network).scope = true := by kernel_rfl
theorem ok__law_network : DefOk L d__law_network 39 3 [(3, [], arrOf [] [.inl (.inl 0), .inl (.inl 1), .inl (.inl 2)])] := ⟨["script", "most", "wide"], n__law_network, c__law_network, rfl, sc__law_network, as__law_network, rfl, cs__law_network, fun K f fd FD n ks arr hm => by
  simp only [List.mem_cons, List.not_mem_nil, or_false, Prod.mk.injEq] at hm
  obtain ⟨rfl, rfl, rfl⟩ := hm
  exact ⟨rfl, rfl, kb_A FD [.inl (.inl 0), .inl (.inl 1), .inl (.inl 2)] fun _ _ _ _ _ _ us ws h1 h2 => match us, ws, h1, h2 with | [_, _, _], [], _, _ => rfl⟩⟩
theorem cs__law_units : cSs 40 ⟨n__law_units, (d__law_units).scope, asOf (d__law_units).scope.names, L.gl, false, none⟩ (d__law_units).body = some c__law_units := by kernel_rfl
theorem sc__law_units : FnScope n__law_units ["network"] (d__law_units).scope := fnScope_by (by kernel_rfl)
theorem as__law_units : asOk (d__law_units).scope = true := by kernel_rfl
theorem ok__law_units : DefOk L d__law_units 40 1 [(1, [], arrOf [] [.inl (.inl 0)])] := ⟨["network"], n__law_units, c__law_units, rfl, sc__law_units, as__law_units, rfl, cs__law_units, fun K f fd FD n ks arr hm => by
  simp only [List.mem_cons, List.not_mem_nil, or_false, Prod.mk.injEq] at hm
  obtain ⟨rfl, rfl, rfl⟩ := hm
  exact ⟨rfl, rfl, kb_A FD [.inl (.inl 0)] fun _ _ _ _ _ _ us ws h1 h2 => match us, ws, h1, h2 with | [_], [], _, _ => rfl⟩⟩
theorem cs__law_values : cSs 40 ⟨n__law_values, (d__law_values).scope, asOf (d__law_values).scope.names, L.gl, false, none⟩ (d__law_values).body = some c__law_values := by kernel_rfl
theorem sc__law_values : FnScope n__law_values ["network", "point"] (d__law_values).scope := fnScope_by (by kernel_rfl)
theorem as__law_values : asOk (d__law_values).scope = true := by kernel_rfl
theorem ok__law_values : DefOk L d__law_values 41 2 [(2, [], arrOf [] [.inl (.inl 0), .inl (.inl 1)])] := ⟨["network", "point"], n__law_values, c__law_values, rfl, sc__law_values, as__law_values, rfl, cs__law_values, fun K f fd FD n ks arr hm => by
  simp only [List.mem_cons, List.not_mem_nil, or_false, Prod.mk.injEq] at hm
  obtain ⟨rfl, rfl, rfl⟩ := hm
  exact ⟨rfl, rfl, kb_A FD [.inl (.inl 0), .inl (.inl 1)] fun _ _ _ _ _ _ us ws h1 h2 => match us, ws, h1, h2 with | [_, _], [], _, _ => rfl⟩⟩
theorem cs__law_region : cSs 40 ⟨n__law_region, (d__law_region).scope, asOf (d__law_region).scope.names, L.gl, false, none⟩ (d__law_region).body = some c__law_region := by kernel_rfl
theorem sc__law_region : FnScope n__law_region ["script", "size"] (d__law_region).scope := fnScope_by (by kernel_rfl)
theorem as__law_region : asOk (d__law_region).scope = true := by kernel_rfl
theorem ok__law_region : DefOk L d__law_region 42 2 [(2, [], arrOf [] [.inl (.inl 0), .inl (.inl 1)])] := ⟨["script", "size"], n__law_region, c__law_region, rfl, sc__law_region, as__law_region, rfl, cs__law_region, fun K f fd FD n ks arr hm => by
  simp only [List.mem_cons, List.not_mem_nil, or_false, Prod.mk.injEq] at hm
  obtain ⟨rfl, rfl, rfl⟩ := hm
  exact ⟨rfl, rfl, kb_A FD [.inl (.inl 0), .inl (.inl 1)] fun _ _ _ _ _ _ us ws h1 h2 => match us, ws, h1, h2 with | [_, _], [], _, _ => rfl⟩⟩
theorem cs__law_in : cSs 40 ⟨n__law_in, (d__law_in).scope, asOf (d__law_in).scope.names, L.gl, false, none⟩ (d__law_in).body = some c__law_in := by kernel_rfl
theorem sc__law_in : FnScope n__law_in ["region", "point"] (d__law_in).scope := fnScope_by (by kernel_rfl)
theorem as__law_in : asOk (d__law_in).scope = true := by kernel_rfl
theorem ok__law_in : DefOk L d__law_in 43 2 [(2, [], arrOf [] [.inl (.inl 0), .inl (.inl 1)])] := ⟨["region", "point"], n__law_in, c__law_in, rfl, sc__law_in, as__law_in, rfl, cs__law_in, fun K f fd FD n ks arr hm => by
  simp only [List.mem_cons, List.not_mem_nil, or_false, Prod.mk.injEq] at hm
  obtain ⟨rfl, rfl, rfl⟩ := hm
  exact ⟨rfl, rfl, kb_A FD [.inl (.inl 0), .inl (.inl 1)] fun _ _ _ _ _ _ us ws h1 h2 => match us, ws, h1, h2 with | [_, _], [], _, _ => rfl⟩⟩
theorem cs__law_points : cSs 40 ⟨n__law_points, (d__law_points).scope, asOf (d__law_points).scope.names, L.gl, false, none⟩ (d__law_points).body = some c__law_points := by kernel_rfl
theorem sc__law_points : FnScope n__law_points ["region", "rich", "count"] (d__law_points).scope := fnScope_by (by kernel_rfl)
theorem as__law_points : asOk (d__law_points).scope = true := by kernel_rfl
theorem ok__law_points : DefOk L d__law_points 44 3 [(3, [], arrOf [] [.inl (.inl 0), .inl (.inl 1), .inl (.inl 2)])] := ⟨["region", "rich", "count"], n__law_points, c__law_points, rfl, sc__law_points, as__law_points, rfl, cs__law_points, fun K f fd FD n ks arr hm => by
  simp only [List.mem_cons, List.not_mem_nil, or_false, Prod.mk.injEq] at hm
  obtain ⟨rfl, rfl, rfl⟩ := hm
  exact ⟨rfl, rfl, kb_A FD [.inl (.inl 0), .inl (.inl 1), .inl (.inl 2)] fun _ _ _ _ _ _ us ws h1 h2 => match us, ws, h1, h2 with | [_, _, _], [], _, _ => rfl⟩⟩
theorem cs__law_keeps : cSs 40 ⟨n__law_keeps, (d__law_keeps).scope, asOf (d__law_keeps).scope.names, L.gl, false, none⟩ (d__law_keeps).body = some c__law_keeps := by kernel_rfl
theorem sc__law_keeps : FnScope n__law_keeps ["bound", "point"] (d__law_keeps).scope := fnScope_by (by kernel_rfl)
theorem as__law_keeps : asOk (d__law_keeps).scope = true := by kernel_rfl
theorem ok__law_keeps : DefOk L d__law_keeps 45 2 [(2, [], arrOf [] [.inl (.inl 0), .inl (.inl 1)])] := ⟨["bound", "point"], n__law_keeps, c__law_keeps, rfl, sc__law_keeps, as__law_keeps, rfl, cs__law_keeps, fun K f fd FD n ks arr hm => by
  simp only [List.mem_cons, List.not_mem_nil, or_false, Prod.mk.injEq] at hm
  obtain ⟨rfl, rfl, rfl⟩ := hm
  exact ⟨rfl, rfl, kb_A FD [.inl (.inl 0), .inl (.inl 1)] fun _ _ _ _ _ _ us ws h1 h2 => match us, ws, h1, h2 with | [_, _], [], _, _ => rfl⟩⟩
theorem cs__law_linear : cSs 40 ⟨n__law_linear, (d__law_linear).scope, asOf (d__law_linear).scope.names, L.gl, false, none⟩ (d__law_linear).body = some c__law_linear := by kernel_rfl
theorem sc__law_linear : FnScope n__law_linear ["network", "phases", "point"] (d__law_linear).scope := fnScope_by (by kernel_rfl)
theorem as__law_linear : asOk (d__law_linear).scope = true := by kernel_rfl
theorem ok__law_linear : DefOk L d__law_linear 46 3 [(3, [], arrOf [] [.inl (.inl 0), .inl (.inl 1), .inl (.inl 2)])] := ⟨["network", "phases", "point"], n__law_linear, c__law_linear, rfl, sc__law_linear, as__law_linear, rfl, cs__law_linear, fun K f fd FD n ks arr hm => by
  simp only [List.mem_cons, List.not_mem_nil, or_false, Prod.mk.injEq] at hm
  obtain ⟨rfl, rfl, rfl⟩ := hm
  exact ⟨rfl, rfl, kb_A FD [.inl (.inl 0), .inl (.inl 1), .inl (.inl 2)] fun _ _ _ _ _ _ us ws h1 h2 => match us, ws, h1, h2 with | [_, _, _], [], _, _ => rfl⟩⟩
theorem cs_law : cSs 40 ⟨n_law, (d_law).scope, asOf (d_law).scope.names, L.gl, false, none⟩ (d_law).body = some c_law := by kernel_rfl
theorem sc_law : FnScope n_law ["script"] (d_law).scope := fnScope_by (by kernel_rfl)
theorem as_law : asOk (d_law).scope = true := by kernel_rfl
theorem ok_law : DefOk L d_law 47 1 [(1, [], arrOf [] [.inl (.inl 0)])] := ⟨["script"], n_law, c_law, rfl, sc_law, as_law, rfl, cs_law, fun K f fd FD n ks arr hm => by
  simp only [List.mem_cons, List.not_mem_nil, or_false, Prod.mk.injEq] at hm
  obtain ⟨rfl, rfl, rfl⟩ := hm
  exact ⟨rfl, rfl, kb_A FD [.inl (.inl 0)] fun _ _ _ _ _ _ us ws h1 h2 => match us, ws, h1, h2 with | [_], [], _, _ => rfl⟩⟩
theorem allT : AllT L L.gl := ⟨trivial, trivial, trivial, trivial, trivial, trivial, trivial, trivial, trivial, trivial, trivial, trivial, trivial, trivial, trivial, trivial, trivial, trivial, trivial, trivial, trivial, ⟨d_BadNetwork__init, "BadNetwork", List.mem_of_getElem? (i := 51) rfl, rfl, rfl, iok_BadNetwork⟩, ⟨d_Piece__init, rfl, rfl, ok_Piece__init⟩, ⟨d_Piece__weighted, "Piece", rfl, rfl, rfl, ok_Piece__weighted⟩, ⟨d_Piece__bent, "Piece", rfl, rfl, rfl, ok_Piece__bent⟩, ⟨d_is_integer, rfl, rfl, ok_is_integer⟩, ⟨d_is_ratio, rfl, rfl, ok_is_ratio⟩, ⟨d_make, rfl, rfl, ok_make⟩, ⟨d_add, rfl, rfl, ok_add⟩, ⟨d_multiply, rfl, rfl, ok_multiply⟩, ⟨d_negative, rfl, rfl, ok_negative⟩, ⟨d_less, rfl, rfl, ok_less⟩, ⟨d_greatest, rfl, rfl, ok_greatest⟩, ⟨d_is_vector, rfl, rfl, ok_is_vector⟩, ⟨d_is_matrix, rfl, rfl, ok_is_matrix⟩, ⟨d_zero, rfl, rfl, ok_zero⟩, ⟨d_unit, rfl, rfl, ok_unit⟩, ⟨d_dot, rfl, rfl, ok_dot⟩, ⟨d_added, rfl, rfl, ok_added⟩, ⟨d_scaled, rfl, rfl, ok_scaled⟩, ⟨d_opposite, rfl, rfl, ok_opposite⟩, ⟨d_applied, rfl, rfl, ok_applied⟩, ⟨d_is_group, rfl, rfl, ok_is_group⟩, ⟨d_is_step, rfl, rfl, ok_is_step⟩, ⟨d_has_form, rfl, rfl, ok_has_form⟩, ⟨d_fits, rfl, rfl, ok_fits⟩, ⟨d_given_size, rfl, rfl, ok_given_size⟩, ⟨d_sizes, rfl, rfl, ok_sizes⟩, ⟨d_check, rfl, rfl, ok_check⟩, ⟨d_passed, rfl, rfl, ok_passed⟩, ⟨d_trail, rfl, rfl, ok_trail⟩, ⟨d_rows_of, rfl, rfl, ok_rows_of⟩, ⟨d_pattern, rfl, rfl, ok_pattern⟩, ⟨d_piece_rows, rfl, rfl, ok_piece_rows⟩, ⟨d_piece_form, rfl, rfl, ok_piece_form⟩, ⟨d__law_cell, rfl, rfl, ok__law_cell⟩, ⟨d__law_rich, rfl, rfl, ok__law_rich⟩, ⟨d__law_make, rfl, rfl, ok__law_make⟩, ⟨d__law_add, rfl, rfl, ok__law_add⟩, ⟨d__law_mul, rfl, rfl, ok__law_mul⟩, ⟨d__law_less, rfl, rfl, ok__law_less⟩, ⟨d__law_ratio, rfl, rfl, ok__law_ratio⟩, ⟨d__law_dot, rfl, rfl, ok__law_dot⟩, ⟨d__law_sums, rfl, rfl, ok__law_sums⟩, ⟨d__law_network, rfl, rfl, ok__law_network⟩, ⟨d__law_units, rfl, rfl, ok__law_units⟩, ⟨d__law_values, rfl, rfl, ok__law_values⟩, ⟨d__law_region, rfl, rfl, ok__law_region⟩, ⟨d__law_in, rfl, rfl, ok__law_in⟩, ⟨d__law_points, rfl, rfl, ok__law_points⟩, ⟨d__law_keeps, rfl, rfl, ok__law_keeps⟩, ⟨d__law_linear, rfl, rfl, ok__law_linear⟩, ⟨d_law, rfl, rfl, ok_law⟩, trivial⟩
theorem boots : (L.gl.all fun p => bootB p.1 p.2) = true := by kernel_rfl
abbrev R : PySem.W.OpenRow := PySem.W.OpenLaw.row PySem.Challenge.rw_kinkatlas_k40_pieces
abbrev hk : PySem.W.Hook := He.hookX 6 [] L.dd (tabsOf L) [] (exB L)
def ob (s : PySem.W.SharedT) : He.AlX := He.obsX 6 [] L.dd (tabsOf L) [] (exB L) (HandSHeadRun.getT s)
theorem ob_eq (s : PySem.W.SharedT) : ob s = hk.obs s.abs := He.obsX_eq (HandSHeadRun.getT_eq s)
def loose0 : List PySem.Str := ["__name__", "KinkError", "ByZero", "BadNetwork", "BadPoint", "MOST_INPUTS", "ZERO", "ONE", "is_integer", "is_ratio", "make", "add", "multiply", "negative", "less", "greatest", "is_vector", "is_matrix", "zero", "unit", "dot", "added", "scaled", "opposite", "applied", "is_group", "is_step", "has_form", "fits", "given_size"]
def loose1 : List PySem.Str := ["sizes", "check", "passed", "trail", "rows_of", "pattern", "Piece", "piece_rows", "piece_form", "_law_cell", "_law_rich", "_law_make", "_law_add", "_law_mul", "_law_less", "_law_ratio", "_law_dot", "_law_sums", "_law_network", "_law_units", "_law_values", "_law_region", "_law_in", "_law_points", "_law_keeps", "_law_linear"]
abbrev loose : List PySem.Str := loose0 ++ loose1
theorem run0 (w : World) : HandSHeadRun.RunEqI R (PySem.W.view R.prog [0, 63]) hk ob 9840 loose (w.withFollow "special-get-raises" false) := by
  unfold HandSHeadRun.RunEqI
  kernel_rfl
theorem run1 (w : World) : HandSHeadRun.RunEqI R (PySem.W.view R.prog [0, 63]) hk ob 9840 loose (w.withFollow "special-get-raises" true) := by
  unfold HandSHeadRun.RunEqI
  kernel_rfl
theorem run (w : World) : HandSHeadRun.RunEqI R (PySem.W.view R.prog [0, 63]) hk ob 9840 loose w := PySem.W.byRow2 "special-get-raises" (P := fun w => HandSHeadRun.RunEqI R (PySem.W.view R.prog [0, 63]) hk ob 9840 loose w) run0 run1 w
end K40
open PySem PySem.W PySem.Calls PyProof.Rows in
theorem K40.done {fuel k : Nat} (hr : L2.Room (3 * (k + 1)) callerA) (plain : ∀ ns : List Int, ns.length ≤ 63 → (∀ z ∈ ns, Builtin.Int.intBits z ≤ 1048576) → ∃ h, PV.callI K40.fns K40.sub fuel (k + 1) 47 [.fl (ns.map PV.D.int)] [] = .ok (.bl true) h) : PySem.Challenge.rw_kinkatlas_k40_pieces.Holds := by
  w_on; o_law
  refine HandSHeadRun.head_imp (r := OpenLaw.row PySem.Challenge.rw_kinkatlas_k40_pieces) (q := view (OpenLaw.row PySem.Challenge.rw_kinkatlas_k40_pieces).prog [0, 63]) (H := K40.hk) (ob := K40.ob) (M := 9840) (loose := K40.loose) (d := HandSHeadRun.topDef (OpenLaw.row PySem.Challenge.rw_kinkatlas_k40_pieces).prog 63) (kwd := []) K40.ob_eq
    K40.run (by kernel_rfl) (by kernel_rfl) (by kernel_rfl) (by rfl) (by first | assumption | decide +kernel) (by decide +kernel) ⟨rfl, rfl, rfl, rfl, rfl, by decide +kernel⟩ ?hw ?hc
  case hw => w_witness2
  case hc =>
    exact PV.pv_walk (L := K40.L) (l := PySem.Challenge.rw_kinkatlas_k40_pieces) (n := 63) (fuel := fuel) (k := k) (i := 47) (x := "script") (N := K40.n_law) (code := K40.c_law) (dL := K40.d_law) rfl (by decide) (by kernel_rfl) (by kernel_rfl) hr K40.boots K40.allT rfl rfl rfl K40.sc_law K40.as_law rfl K40.cs_law ⟨_, by exact rfl⟩
      (fun _ _ _ _ _ _ us h => match us, h with | [_], _ => rfl) plain
/-! PVS: the plain side: steps of the pure evaluator. -/
namespace PV
open PySem
/-! ### a def's end -/
theorem keeps_pre : ∀ (n : Nat) (h l : Hd), keepsCells n h (h ++ l) = true
  | _, [], _ => rfl
  | n, c :: h, l => by
    show ((Cell.beq c c || Cell.lt n c) && keepsCells n h (h ++ l)) = true
    rw [Cell.beq_refl, keeps_pre n h l]
    rfl
/-- what was made on the way is dropped -/
theorem gc_app {h l : Hd} {d : D} (hd : D.lt h.length d = true) : gc h d (h ++ l) = .ok d h := by
  unfold gc gcOk
  rw [keeps_pre, hd]
  simp
theorem gc_same {h : Hd} {d : D} : gc h d h = .ok d h := by
  unfold gc
  split
  · simp
  · rfl
theorem gcE_app {h l : Hd} {e : Exn} (hd : fsLt h.length e.fs = true) : gcE h e (h ++ l) = .ex e h := by
  unfold gcE gcOk
  rw [keeps_pre, hd]
  simp
theorem gcE_same {h : Hd} {e : Exn} : gcE h e h = .ex e h := by
  unfold gcE
  split
  · simp
  · rfl
/-- how a def ends -/
def fin (h : Hd) : SOut → Out D
  | .rt d h' => gc h d h'
  | .nx _ h' => gc h .non h'
  | .ex e _ h' => gcE h e h'
  | _ => .no
@[simp] theorem fin_rt {h : Hd} {d : D} : fin h (.rt d h) = .ok d h := gc_same
@[simp] theorem fin_nx {h : Hd} {s : Sl} : fin h (.nx s h) = .ok .non h := gc_same
@[simp] theorem fin_ex {h : Hd} {s : Sl} {e : Exn} : fin h (.ex e s h) = .ex e h := gcE_same
abbrev evL (fns : List FnC) (sub : Nat → Nat → Bool) (fuel k : Nat) : Ev := ⟨callI fns sub fuel k, fuel, none, sub⟩
theorem call_eq {fns : List FnC} {sub : Nat → Nat → Bool} {fuel k f np nn : Nat} {code : QSs} {ds : List D} {h : Hd} (hf : fns[f]? = some ⟨np, nn, code⟩) (hl : ds.length = np) : callI fns sub fuel (k + 1) f ds h = fin h (exSs (evL fns sub fuel k) code (startD nn ds) h) := by
  unfold callI
  rw [hf]
  show (match decide (ds.length = np) with
    | false => Out.no
    | true => match exSs ⟨callI fns sub fuel k, fuel, none, sub⟩ code (startD nn ds) h with
      | .rt d h' => gc h d h'
      | .nx _ h' => gc h .non h'
      | .ex e _ h' => gcE h e h'
      | _ => .no) = _
  rw [decide_eq_true hl]
  cases exSs (evL fns sub fuel k) code (startD nn ds) h <;> rfl
/-! ### values -/
@[simp] theorem eqV_int (h : Hd) (a b : Int) : eqV h (.int a) (.int b) = some (decide (a = b)) := by
  simp [eqV, toPyT, toPyF, SeqAt.shaped, PyData.eqv, PyData.canLay0, PyData.depth]
  rfl
@[simp] theorem eqV_bl (h : Hd) (a b : Bool) : eqV h (.bl a) (.bl b) = some (a == b) := by
  simp [eqV, toPyT, toPyF, SeqAt.shaped, PyData.eqv, PyData.canLay0, PyData.depth]
@[simp] theorem bind_ok {α β : Type} (a : α) (h : Hd) (f : α → Hd → Out β) : (Out.ok a h).bind f = f a h := rfl
@[simp] theorem bind_ex {α β : Type} (e : Exn) (h : Hd) (f : α → Hd → Out β) : (Out.ex e h : Out α).bind f = .ex e h := rfl
@[simp] theorem st_ok {α : Type} (a : α) (h : Hd) (s : Sl) (f : α → Hd → SOut) : (Out.ok a h).st s f = f a h := rfl
@[simp] theorem st_ex {α : Type} (e : Exn) (h : Hd) (s : Sl) (f : α → Hd → SOut) : (Out.ex e h : Out α).st s f = .ex e s h := rfl
@[simp] theorem evL_call (fns : List FnC) (sub : Nat → Nat → Bool) (fuel k f : Nat) (ds : List D) (h : Hd) : (evL fns sub fuel k).call f ds h = callI fns sub fuel k f ds h := rfl
@[simp] theorem ret_true {α : Type} (a : α) (h : Hd) : ret true a h = .ok a h := rfl
/-! ### the code's rows, each wholly applied; what comes behind is named, so simp leaves it alone until it is its turn -/
section
variable (ev : Ev) (s : Sl) (h : Hd)
@[simp] theorem x_var (i : Nat) : evE ev (.var i) s h = (match s[i]? with
    | some (some d) => .ok d h
    | _ => .no) := rfl
@[simp] theorem x_con (d : D) : evE ev (.con d) s h = .ok d h := rfl
def y_bin2 (op : Operator) (x : D) : D → Hd → Out D := fun y h => binV op x y h
def y_bin (ev : Ev) (op : Operator) (b : QE) (s : Sl) : D → Hd → Out D := fun x h => (evE ev b s h).bind (y_bin2 op x)
@[simp] theorem y_bin_ (op : Operator) (b : QE) (x : D) : y_bin ev op b s x h = (evE ev b s h).bind (y_bin2 op x) := rfl
@[simp] theorem y_bin2_ (op : Operator) (x y : D) : y_bin2 op x y h = binV op x y h := rfl
@[simp] theorem x_bin (op : Operator) (a b : QE) : evE ev (.bin op a b) s h = (evE ev a s h).bind (y_bin ev op b s) := rfl
@[simp] theorem x_neg (a : QE) : evE ev (.neg a) s h = (evE ev a s h).bind negV := rfl
def notO (h : Hd) : Option Bool → Out D
  | some k => .ok (.bl (!k)) h
  | none => .no
@[simp] theorem notO_some (b : Bool) : notO h (some b) = .ok (.bl (!b)) h := rfl
def y_not (x : D) (h : Hd) : Out D := notO h (truthD h x)
@[simp] theorem y_not_ (x : D) : y_not x h = notO h (truthD h x) := rfl
@[simp] theorem x_nott (a : QE) : evE ev (.nott a) s h = (evE ev a s h).bind y_not := by
  show (evE ev a s h).bind _ = _
  congr 1
  all_goals
    funext x h1
    show _ = notO h1 (truthD h1 x)
    cases truthD h1 x <;> rfl
def a_and (ev : Ev) (b : QE) (s : Sl) (x : D) (h : Hd) : Option Bool → Out D
  | some true => evE ev b s h
  | some false => .ok x h
  | none => .no
@[simp] theorem a_and_t (b : QE) (x : D) : a_and ev b s x h (some true) = evE ev b s h := rfl
@[simp] theorem a_and_f (b : QE) (x : D) : a_and ev b s x h (some false) = .ok x h := rfl
def y_and (ev : Ev) (b : QE) (s : Sl) (x : D) (h : Hd) : Out D := a_and ev b s x h (truthD h x)
@[simp] theorem y_and_ (b : QE) (x : D) : y_and ev b s x h = a_and ev b s x h (truthD h x) := rfl
@[simp] theorem x_andv (a b : QE) : evE ev (.andv a b) s h = (evE ev a s h).bind (y_and ev b s) := by
  show (evE ev a s h).bind _ = _
  congr 1
  all_goals
    funext x h1
    show _ = a_and ev b s x h1 (truthD h1 x)
    cases truthD h1 x with
    | none => rfl
    | some b => cases b <;> rfl
def a_or (ev : Ev) (b : QE) (s : Sl) (x : D) (h : Hd) : Option Bool → Out D
  | some true => .ok x h
  | some false => evE ev b s h
  | none => .no
@[simp] theorem a_or_t (b : QE) (x : D) : a_or ev b s x h (some true) = .ok x h := rfl
@[simp] theorem a_or_f (b : QE) (x : D) : a_or ev b s x h (some false) = evE ev b s h := rfl
def y_or (ev : Ev) (b : QE) (s : Sl) (x : D) (h : Hd) : Out D := a_or ev b s x h (truthD h x)
@[simp] theorem y_or_ (b : QE) (x : D) : y_or ev b s x h = a_or ev b s x h (truthD h x) := rfl
@[simp] theorem x_orv (a b : QE) : evE ev (.orv a b) s h = (evE ev a s h).bind (y_or ev b s) := by
  show (evE ev a s h).bind _ = _
  congr 1
  all_goals
    funext x h1
    show _ = a_or ev b s x h1 (truthD h1 x)
    cases truthD h1 x with
    | none => rfl
    | some b => cases b <;> rfl
def y_cmp2 (op : CmpOp) (x : D) : D → Hd → Out D := fun y h => boolO h (cmpV op h x y)
def y_cmp (ev : Ev) (op : CmpOp) (b : QE) (s : Sl) : D → Hd → Out D := fun x h => (evE ev b s h).bind (y_cmp2 op x)
@[simp] theorem y_cmp_ (op : CmpOp) (b : QE) (x : D) : y_cmp ev op b s x h = (evE ev b s h).bind (y_cmp2 op x) := rfl
@[simp] theorem y_cmp2_ (op : CmpOp) (x y : D) : y_cmp2 op x y h = boolO h (cmpV op h x y) := rfl
@[simp] theorem x_cmp (op : CmpOp) (a b : QE) : evE ev (.cmp op a b) s h = (evE ev a s h).bind (y_cmp ev op b s) := rfl
def a_chain (ev : Ev) (op' : CmpOp) (c : QE) (s : Sl) (y : D) (h : Hd) : Option Bool → Out D
  | some true => (evE ev c s h).bind (y_cmp2 op' y)
  | some false => .ok (.bl false) h
  | none => .no
@[simp] theorem a_chain_t (op' : CmpOp) (c : QE) (y : D) : a_chain ev op' c s y h (some true) = (evE ev c s h).bind (y_cmp2 op' y) := rfl
@[simp] theorem a_chain_f (op' : CmpOp) (c : QE) (y : D) : a_chain ev op' c s y h (some false) = .ok (.bl false) h := rfl
def y_chain2 (ev : Ev) (op op' : CmpOp) (c : QE) (s : Sl) (x : D) : D → Hd → Out D := fun y h => a_chain ev op' c s y h (cmpV op h x y)
@[simp] theorem y_chain2_ (op op' : CmpOp) (c : QE) (x y : D) : y_chain2 ev op op' c s x y h = a_chain ev op' c s y h (cmpV op h x y) := rfl
def y_chain (ev : Ev) (op op' : CmpOp) (b c : QE) (s : Sl) : D → Hd → Out D := fun x h => (evE ev b s h).bind (y_chain2 ev op op' c s x)
@[simp] theorem y_chain_ (op op' : CmpOp) (b c : QE) (x : D) : y_chain ev op op' b c s x h = (evE ev b s h).bind (y_chain2 ev op op' c s x) := rfl
@[simp] theorem x_chain (op op' : CmpOp) (a b c : QE) : evE ev (.chain op op' a b c) s h = (evE ev a s h).bind (y_chain ev op op' b c s) := by
  show (evE ev a s h).bind _ = _
  congr 1
  all_goals
    funext x h1
    show (evE ev b s h1).bind _ = (evE ev b s h1).bind _
    congr 1
    funext y h2
    show _ = a_chain ev op' c s y h2 (cmpV op h2 x y)
    cases cmpV op h2 x y with
    | none => rfl
    | some b => cases b <;> rfl
def y_ife (ev : Ev) (a b : QE) (s : Sl) : Bool → Hd → Out D
  | true, h => evE ev a s h
  | false, h => evE ev b s h
@[simp] theorem y_ife_t (a b : QE) : y_ife ev a b s true h = evE ev a s h := rfl
@[simp] theorem y_ife_f (a b : QE) : y_ife ev a b s false h = evE ev b s h := rfl
@[simp] theorem x_ife (t : QT) (a b : QE) : evE ev (.ife t a b) s h = (evT ev t s h).bind (y_ife ev a b s) := by
  show (evT ev t s h).bind _ = _
  congr 1
  all_goals
    funext x h1
    cases x <;> rfl
def y_tup : List D → Hd → Out D := fun xs h => ret (decide (xs.length ≤ line)) (.tup xs) h
@[simp] theorem y_tup_ (xs : List D) : y_tup xs h = ret (decide (xs.length ≤ line)) (.tup xs) h := rfl
@[simp] theorem x_tup (es : QEs) : evE ev (.tup es) s h = (evEs ev es s h).bind y_tup := rfl
def y_lst : List D → Hd → Out D := fun xs h => newLc (decide (xs.length ≤ line)) xs h
@[simp] theorem y_lst_ (xs : List D) : y_lst xs h = newLc (decide (xs.length ≤ line)) xs h := rfl
@[simp] theorem x_lst (es : QEs) : evE ev (.lst es) s h = (evEs ev es s h).bind y_lst := rfl
def y_idx (ev : Ev) (i : QE) (s : Sl) : D → Hd → Out D := fun x h => (evE ev i s h).bind (idxV x)
@[simp] theorem y_idx_ (i : QE) (x : D) : y_idx ev i s x h = (evE ev i s h).bind (idxV x) := rfl
@[simp] theorem x_idx (a i : QE) : evE ev (.idx a i) s h = (evE ev a s h).bind (y_idx ev i s) := rfl
def y_slc2 (ev : Ev) (hi : QO) (s : Sl) (x : D) : Option Int → Hd → Out D := fun l h => (evO ev hi s h).bind (slV x l)
@[simp] theorem y_slc2_ (hi : QO) (x : D) (l : Option Int) : y_slc2 ev hi s x l h = (evO ev hi s h).bind (slV x l) := rfl
def y_slc (ev : Ev) (lo hi : QO) (s : Sl) : D → Hd → Out D := fun x h => (evO ev lo s h).bind (y_slc2 ev hi s x)
@[simp] theorem y_slc_ (lo hi : QO) (x : D) : y_slc ev lo hi s x h = (evO ev lo s h).bind (y_slc2 ev hi s x) := rfl
@[simp] theorem x_slc (a : QE) (lo hi : QO) : evE ev (.slc a lo hi) s h = (evE ev a s h).bind (y_slc ev lo hi s) := rfl
def y_call2 (ev : Ev) (f : Nat) (arr : List (Sum (Sum Nat Nat) D)) (xs : List D) : List D → Hd → Out D := fun ys h => ev.call f (arrD arr xs ys) h
@[simp] theorem y_call2_ (f : Nat) (arr : List (Sum (Sum Nat Nat) D)) (xs ys : List D) : y_call2 ev f arr xs ys h = ev.call f (arrD arr xs ys) h := rfl
def y_call (ev : Ev) (f : Nat) (kes : QEs) (arr : List (Sum (Sum Nat Nat) D)) (s : Sl) : List D → Hd → Out D := fun xs h => (evEs ev kes s h).bind (y_call2 ev f arr xs)
@[simp] theorem y_call_ (f : Nat) (kes : QEs) (arr : List (Sum (Sum Nat Nat) D)) (xs : List D) : y_call ev f kes arr s xs h = (evEs ev kes s h).bind (y_call2 ev f arr xs) := rfl
@[simp] theorem x_call (f : Nat) (es kes : QEs) (arr : List (Sum (Sum Nat Nat) D)) : evE ev (.call f es kes arr) s h = (evEs ev es s h).bind (y_call ev f kes arr s) := rfl
@[simp] theorem x_bi (b : BI) (es : QEs) : evE ev (.bi b es) s h = (evEs ev es s h).bind (biV b) := rfl
def y_isi (t : Ty) : D → Hd → Out D := fun x h => boolO h (isiV x t h)
@[simp] theorem y_isi_ (t : Ty) (x : D) : y_isi t x h = boolO h (isiV x t h) := rfl
@[simp] theorem x_isi (a : QE) (t : Ty) : evE ev (.isi a t) s h = (evE ev a s h).bind (y_isi t) := rfl
def y_lc (ev : Ev) (elt : QE) (g : QG) (own : List Nat) (cond : QT) (s : Sl) : Walk → Hd → Out D := fun w h => (noEx (loopC w.fix (fun d => bindG g d (wipeD s own)) (evT ev cond) (evE ev elt) w.items [] h)).bind newL
@[simp] theorem y_lc_ (elt : QE) (g : QG) (own : List Nat) (cond : QT) (w : Walk) : y_lc ev elt g own cond s w h = (noEx (loopC w.fix (fun d => bindG g d (wipeD s own)) (evT ev cond) (evE ev elt) w.items [] h)).bind newL := rfl
@[simp] theorem x_lc (elt : QE) (g : QG) (it : QI) (own : List Nat) (cond : QT) : evE ev (.lc elt g it own cond) s h = (evI ev it s h).bind (y_lc ev elt g own cond s) := rfl
def a_mth (ev : Ev) (m : Nat) (es : QEs) (s : Sl) (x : D) (h : Hd) : Bool → Out D
  | true => (evEs ev es s h).bind (mthV m x)
  | false => .no
@[simp] theorem a_mth_t (m : Nat) (es : QEs) (x : D) : a_mth ev m es s x h true = (evEs ev es s h).bind (mthV m x) := rfl
def y_mth (ev : Ev) (m : Nat) (es : QEs) (s : Sl) : D → Hd → Out D := fun x h => a_mth ev m es s x h (isLst h x)
@[simp] theorem y_mth_ (m : Nat) (es : QEs) (x : D) : y_mth ev m es s x h = a_mth ev m es s x h (isLst h x) := rfl
@[simp] theorem x_mth (m : Nat) (o : QE) (es : QEs) : evE ev (.mth m o es) s h = (evE ev o s h).bind (y_mth ev m es s) := by
  show (evE ev o s h).bind _ = _
  congr 1
  all_goals
    funext x h1
    show _ = a_mth ev m es s x h1 (isLst h1 x)
    cases isLst h1 x <;> rfl
@[simp] theorem x_excIs (c : Nat) : evE ev (.excIs c) s h = (match ev.exn with
    | some e => .ok (.bl (ev.sub e.cls c)) h
    | none => .no) := rfl
@[simp] theorem x_excF (f : Str) : evE ev (.excF f) s h = (match ev.exn with
    | some e => match e.fs.lookup f with
      | some d => .ok d h
      | none => .no
    | none => .no) := rfl
def y_fld (f : Str) : D → Hd → Out D := fun x h => fldV f x h
@[simp] theorem y_fld_ (f : Str) (x : D) : y_fld f x h = fldV f x h := rfl
@[simp] theorem x_fld (a : QE) (f : Str) : evE ev (.fld a f) s h = (evE ev a s h).bind (y_fld f) := rfl
def y_make (ev : Ev) (C i : Nat) : List D → Hd → Out D := fun xs h => mkO h.length (ev.call i (.ref h.length :: xs) (h ++ [.obj C []]))
@[simp] theorem y_make_ (C i : Nat) (xs : List D) : y_make ev C i xs h = mkO h.length (ev.call i (.ref h.length :: xs) (h ++ [.obj C []])) := rfl
@[simp] theorem x_make (C i : Nat) (es : QEs) : evE ev (.make C i es) s h = (evEs ev es s h).bind (y_make ev C i) := rfl
@[simp] theorem mkO_ok (n : Nat) : mkO n (.ok .non h) = .ok (.ref n) h := rfl
def y_mcall2 (ev : Ev) (i : Nat) (x : D) : List D → Hd → Out D := fun xs h => ev.call i (x :: xs) h
@[simp] theorem y_mcall2_ (i : Nat) (x : D) (xs : List D) : y_mcall2 ev i x xs h = ev.call i (x :: xs) h := rfl
def a_mcall (ev : Ev) (i : Nat) (es : QEs) (s : Sl) (x : D) (h : Hd) : Bool → Out D
  | true => (evEs ev es s h).bind (y_mcall2 ev i x)
  | false => .no
@[simp] theorem a_mcall_t (i : Nat) (es : QEs) (x : D) : a_mcall ev i es s x h true = (evEs ev es s h).bind (y_mcall2 ev i x) := rfl
def y_mcall (ev : Ev) (C i : Nat) (m : Str) (es : QEs) (s : Sl) : D → Hd → Out D := fun x h => a_mcall ev i es s x h (isObj C m h x)
@[simp] theorem y_mcall_ (C i : Nat) (m : Str) (es : QEs) (x : D) : y_mcall ev C i m es s x h = a_mcall ev i es s x h (isObj C m h x) := rfl
@[simp] theorem x_mcall (C i : Nat) (m : Str) (o : QE) (es : QEs) : evE ev (.mcall C i m o es) s h = (evE ev o s h).bind (y_mcall ev C i m es s) := by
  show (evE ev o s h).bind _ = _
  congr 1
  all_goals
    funext x h1
    show _ = a_mcall ev i es s x h1 (isObj C m h1 x)
    cases isObj C m h1 x <;> rfl
def y_dget (kvs : List (Str × D)) : D → Hd → Out D := fun x h => dgetV kvs x h
@[simp] theorem y_dget_ (kvs : List (Str × D)) (x : D) : y_dget kvs x h = dgetV kvs x h := rfl
@[simp] theorem x_dget (kvs : List (Str × D)) (a : QE) : evE ev (.dget kvs a) s h = (evE ev a s h).bind (y_dget kvs) := rfl
@[simp] theorem dget_str (kvs : List (Str × D)) (z : Str) : dgetV kvs (.str z) h = .ok ((kvs.lookup z).getD .non) h := rfl
@[simp] theorem xs_nil : evEs ev .nil s h = .ok [] h := rfl
def y_es2 (x : D) : List D → Hd → Out (List D) := fun xs h => .ok (x :: xs) h
@[simp] theorem y_es2_ (x : D) (xs : List D) : y_es2 x xs h = .ok (x :: xs) h := rfl
def y_es (ev : Ev) (es : QEs) (s : Sl) : D → Hd → Out (List D) := fun x h => (evEs ev es s h).bind (y_es2 x)
@[simp] theorem y_es_ (es : QEs) (x : D) : y_es ev es s x h = (evEs ev es s h).bind (y_es2 x) := rfl
@[simp] theorem xs_cons (e : QE) (es : QEs) : evEs ev (.cons e es) s h = (evE ev e s h).bind (y_es ev es s) := rfl
@[simp] theorem xo_none : evO ev .none s h = .ok none h := rfl
@[simp] theorem xo_some (e : QE) : evO ev (.some e) s h = (evE ev e s h).bind toI := rfl
def y_v : D → Hd → Out Bool := fun x h => testO h (truthD h x)
@[simp] theorem y_v_ (x : D) : y_v x h = testO h (truthD h x) := rfl
@[simp] theorem xt_v (e : QE) : evT ev (.v e) s h = (evE ev e s h).bind y_v := rfl
def y_tnot : Bool → Hd → Out Bool := fun k h => .ok (!k) h
@[simp] theorem y_tnot_ (k : Bool) : y_tnot k h = .ok (!k) h := rfl
@[simp] theorem xt_not (t : QT) : evT ev (.not t) s h = (evT ev t s h).bind y_tnot := rfl
def y_tand (ev : Ev) (b : QT) (s : Sl) : Bool → Hd → Out Bool
  | true, h => evT ev b s h
  | false, h => .ok false h
@[simp] theorem y_tand_t (b : QT) : y_tand ev b s true h = evT ev b s h := rfl
@[simp] theorem y_tand_f (b : QT) : y_tand ev b s false h = .ok false h := rfl
@[simp] theorem xt_and (a b : QT) : evT ev (.and a b) s h = (evT ev a s h).bind (y_tand ev b s) := by
  show (evT ev a s h).bind _ = _
  congr 1
  all_goals
    funext x h1
    cases x <;> rfl
def y_tor (ev : Ev) (b : QT) (s : Sl) : Bool → Hd → Out Bool
  | true, h => .ok true h
  | false, h => evT ev b s h
@[simp] theorem y_tor_t (b : QT) : y_tor ev b s true h = .ok true h := rfl
@[simp] theorem y_tor_f (b : QT) : y_tor ev b s false h = evT ev b s h := rfl
@[simp] theorem xt_or (a b : QT) : evT ev (.or a b) s h = (evT ev a s h).bind (y_tor ev b s) := by
  show (evT ev a s h).bind _ = _
  congr 1
  all_goals
    funext x h1
    cases x <;> rfl
@[simp] theorem xt_yes : evT ev .yes s h = .ok true h := rfl
@[simp] theorem xi_v (e : QE) : evI ev (.v e) s h = (evE ev e s h).bind walkV := rfl
def y_r1 : D → Hd → Out Walk := fun x h => rngV [x] h
@[simp] theorem y_r1_ (x : D) : y_r1 x h = rngV [x] h := rfl
@[simp] theorem xi_r1 (a : QE) : evI ev (.rng1 a) s h = (evE ev a s h).bind y_r1 := rfl
def y_r2b (x : D) : D → Hd → Out Walk := fun y h => rngV [x, y] h
@[simp] theorem y_r2b_ (x y : D) : y_r2b x y h = rngV [x, y] h := rfl
def y_r2 (ev : Ev) (b : QE) (s : Sl) : D → Hd → Out Walk := fun x h => (evE ev b s h).bind (y_r2b x)
@[simp] theorem y_r2_ (b : QE) (x : D) : y_r2 ev b s x h = (evE ev b s h).bind (y_r2b x) := rfl
@[simp] theorem xi_r2 (a b : QE) : evI ev (.rng2 a b) s h = (evE ev a s h).bind (y_r2 ev b s) := rfl
def y_r3c (x y : D) : D → Hd → Out Walk := fun z h => rngV [x, y, z] h
@[simp] theorem y_r3c_ (x y z : D) : y_r3c x y z h = rngV [x, y, z] h := rfl
def y_r3b (ev : Ev) (c : QE) (s : Sl) (x : D) : D → Hd → Out Walk := fun y h => (evE ev c s h).bind (y_r3c x y)
@[simp] theorem y_r3b_ (c : QE) (x y : D) : y_r3b ev c s x y h = (evE ev c s h).bind (y_r3c x y) := rfl
def y_r3 (ev : Ev) (b c : QE) (s : Sl) : D → Hd → Out Walk := fun x h => (evE ev b s h).bind (y_r3b ev c s x)
@[simp] theorem y_r3_ (b c : QE) (x : D) : y_r3 ev b c s x h = (evE ev b s h).bind (y_r3b ev c s x) := rfl
@[simp] theorem xi_r3 (a b c : QE) : evI ev (.rng3 a b c) s h = (evE ev a s h).bind (y_r3 ev b c s) := rfl
def y_zip (ev : Ev) (b : QE) (s : Sl) : D → Hd → Out Walk := fun x h => (evE ev b s h).bind (zipV x)
@[simp] theorem y_zip_ (b : QE) (x : D) : y_zip ev b s x h = (evE ev b s h).bind (zipV x) := rfl
@[simp] theorem xi_zip (a b : QE) : evI ev (.zip a b) s h = (evE ev a s h).bind (y_zip ev b s) := rfl
@[simp] theorem xi_enum (a : QE) : evI ev (.enum a) s h = (evE ev a s h).bind enumV := rfl
/-- one statement behind another -/
def andS (f : Sl → Hd → SOut) : SOut → SOut
  | .nx s h => f s h
  | .rt d h => .rt d h
  | .bk s h => .bk s h
  | .ct s h => .ct s h
  | .ex e s h => .ex e s h
  | .no => .no
@[simp] theorem andS_nx (f : Sl → Hd → SOut) : andS f (.nx s h) = f s h := rfl
@[simp] theorem andS_rt (f : Sl → Hd → SOut) (d : D) : andS f (.rt d h) = .rt d h := rfl
@[simp] theorem andS_ex (f : Sl → Hd → SOut) (e : Exn) : andS f (.ex e s h) = .ex e s h := rfl
@[simp] theorem andS_bk (f : Sl → Hd → SOut) : andS f (.bk s h) = .bk s h := rfl
@[simp] theorem andS_ct (f : Sl → Hd → SOut) : andS f (.ct s h) = .ct s h := rfl
@[simp] theorem ss_nil' : exSs ev .nil s h = .nx s h := rfl
@[simp] theorem ss_cons' (a : QS) (r : QSs) : exSs ev (.cons a r) s h = andS (exSs ev r) (exS ev a s h) := by
  show (match exS ev a s h with
    | .nx s1 h1 => exSs ev r s1 h1
    | o => o) = _
  cases exS ev a s h <;> rfl
def y_expr (s : Sl) : D → Hd → SOut := fun _ h => .nx s h
@[simp] theorem y_expr_ (d : D) : y_expr s d h = .nx s h := rfl
@[simp] theorem s_expr' (e : QE) : exS ev (.expr e) s h = (evE ev e s h).st s (y_expr s) := rfl
def y_asg (g : QG) (s : Sl) : D → Hd → SOut := fun d h => asgO (bindG g d s) h
@[simp] theorem y_asg_ (g : QG) (d : D) : y_asg g s d h = asgO (bindG g d s) h := rfl
@[simp] theorem s_asg' (g : QG) (e : QE) : exS ev (.asg g e) s h = (evE ev e s h).st s (y_asg g s) := rfl
def y_sub3 (s : Sl) (d x : D) : D → Hd → SOut := fun y h => subV x y d s h
@[simp] theorem y_sub3_ (d x y : D) : y_sub3 s d x y h = subV x y d s h := rfl
def y_sub2 (ev : Ev) (i : QE) (s : Sl) (d : D) : D → Hd → SOut := fun x h => (evE ev i s h).st s (y_sub3 s d x)
@[simp] theorem y_sub2_ (i : QE) (d x : D) : y_sub2 ev i s d x h = (evE ev i s h).st s (y_sub3 s d x) := rfl
def y_sub (ev : Ev) (o i : QE) (s : Sl) : D → Hd → SOut := fun d h => (evE ev o s h).st s (y_sub2 ev i s d)
@[simp] theorem y_sub_ (o i : QE) (d : D) : y_sub ev o i s d h = (evE ev o s h).st s (y_sub2 ev i s d) := rfl
@[simp] theorem s_sub' (o i e : QE) : exS ev (.sub o i e) s h = (evE ev e s h).st s (y_sub ev o i s) := rfl
def y_par2 (i j : Nat) (s : Sl) (x : D) : D → Hd → SOut := fun y h => .nx ((s.set i (some x)).set j (some y)) h
@[simp] theorem y_par2_ (i j : Nat) (x y : D) : y_par2 i j s x y h = .nx ((s.set i (some x)).set j (some y)) h := rfl
def y_par (ev : Ev) (i j : Nat) (b : QE) (s : Sl) : D → Hd → SOut := fun x h => (evE ev b s h).st s (y_par2 i j s x)
@[simp] theorem y_par_ (i j : Nat) (b : QE) (x : D) : y_par ev i j b s x h = (evE ev b s h).st s (y_par2 i j s x) := rfl
@[simp] theorem s_par' (i j : Nat) (a b : QE) : exS ev (.par i j a b) s h = (evE ev a s h).st s (y_par ev i j b s) := rfl
def y_aug2 (i : Nat) (s : Sl) : D → Hd → SOut := fun z h => .nx (s.set i (some z)) h
@[simp] theorem y_aug2_ (i : Nat) (z : D) : y_aug2 i s z h = .nx (s.set i (some z)) h := rfl
def y_aug (i : Nat) (op : Operator) (s : Sl) (x : D) : D → Hd → SOut := fun y h => (augV op x y h).st s (y_aug2 i s)
@[simp] theorem y_aug_ (i : Nat) (op : Operator) (x y : D) : y_aug i op s x y h = (augV op x y h).st s (y_aug2 i s) := rfl
@[simp] theorem s_aug' (i : Nat) (op : Operator) (e : QE) : exS ev (.aug i op e) s h = (match s[i]? with
    | some (some x) => (evE ev e s h).st s (y_aug i op s x)
    | _ => .no) := rfl
@[simp] theorem s_ret' (e : QE) : exS ev (.ret e) s h = (evE ev e s h).st s .rt := rfl
@[simp] theorem s_retN' : exS ev .retN s h = .rt .non h := rfl
def y_if (ev : Ev) (a b : QSs) (s : Sl) : Bool → Hd → SOut
  | true, h => exSs ev a s h
  | false, h => exSs ev b s h
@[simp] theorem y_if_t (a b : QSs) : y_if ev a b s true h = exSs ev a s h := rfl
@[simp] theorem y_if_f (a b : QSs) : y_if ev a b s false h = exSs ev b s h := rfl
@[simp] theorem s_ife' (t : QT) (a b : QSs) : exS ev (.ife t a b) s h = (evT ev t s h).st s (y_if ev a b s) := by
  show (evT ev t s h).st s _ = _
  congr 1
  all_goals
    funext x h1
    cases x <;> rfl
@[simp] theorem s_whl' (t : QT) (b : QSs) : exS ev (.whl t b) s h = loopW (evT ev t) (exSs ev b) ev.fuel s h := rfl
def y_for (ev : Ev) (g : QG) (b : QSs) (s : Sl) : Walk → Hd → SOut := fun w h => loopF w.fix (bindG g) (exSs ev b) w.items s h
@[simp] theorem y_for_ (g : QG) (b : QSs) (w : Walk) : y_for ev g b s w h = loopF w.fix (bindG g) (exSs ev b) w.items s h := rfl
@[simp] theorem s_for' (g : QG) (it : QI) (b : QSs) : exS ev (.for g it b) s h = (evI ev it s h).st s (y_for ev g b s) := rfl
@[simp] theorem s_raise0' (c : Nat) : exS ev (.raise c [] .nil) s h = .ex ⟨c, []⟩ s h := rfl
def raiS (c : Nat) (fs : List Str) (xs : List D) (s : Sl) (h : Hd) : Bool → SOut
  | true => .ex ⟨c, fs.zip xs⟩ s h
  | false => .no
@[simp] theorem raiS_t (c : Nat) (fs : List Str) (xs : List D) : raiS c fs xs s h true = .ex ⟨c, fs.zip xs⟩ s h := rfl
def y_rai (c : Nat) (fs : List Str) (s : Sl) : List D → Hd → SOut := fun xs h => raiS c fs xs s h (decide (fs.length = xs.length) && xs.all flatD)
@[simp] theorem y_rai_ (c : Nat) (fs : List Str) (xs : List D) : y_rai c fs s xs h = raiS c fs xs s h (decide (fs.length = xs.length) && xs.all flatD) := rfl
theorem s_raiseF' (c : Nat) (fs : List Str) (es : QEs) : exS ev (.raise c fs es) s h = (evEs ev es s h).st s (y_rai c fs s) := by
  show (evEs ev es s h).st s _ = _
  congr 1
  all_goals
    funext xs h1
    show _ = raiS c fs xs s h1 (decide (fs.length = xs.length) && xs.all flatD)
    cases (decide (fs.length = xs.length) && xs.all flatD) <;> rfl
@[simp] theorem s_raise1' (c : Nat) (f : Str) (e : QE) : exS ev (.raise c [f] (.cons e .nil)) s h = (evEs ev (.cons e .nil) s h).st s (y_rai c [f] s) := s_raiseF' ev s h c [f] _
@[simp] theorem s_raise2' (c : Nat) (f g : Str) (e e' : QE) : exS ev (.raise c [f, g] (.cons e (.cons e' .nil))) s h = (evEs ev (.cons e (.cons e' .nil)) s h).st s (y_rai c [f, g] s) := s_raiseF' ev s h c [f, g] _
def y_fset2 (f : Str) (d : D) (s : Sl) : D → Hd → SOut := fun x h => setF f d s x h
@[simp] theorem y_fset2_ (f : Str) (d x : D) : y_fset2 f d s x h = setF f d s x h := rfl
def y_fset (ev : Ev) (o : QE) (f : Str) (s : Sl) : D → Hd → SOut := fun d h => (evE ev o s h).st s (y_fset2 f d s)
@[simp] theorem y_fset_ (o : QE) (f : Str) (d : D) : y_fset ev o f s d h = (evE ev o s h).st s (y_fset2 f d s) := rfl
@[simp] theorem s_fset' (o : QE) (f : Str) (e : QE) : exS ev (.fset o f e) s h = (evE ev e s h).st s (y_fset ev o f s) := rfl
@[simp] theorem flat_int (i : Int) : flatD (.int i) = true := rfl
@[simp] theorem flat_bl (b : Bool) : flatD (.bl b) = true := rfl
@[simp] theorem flat_str (z : Str) : flatD (.str z) = true := rfl
@[simp] theorem flat_non : flatD .non = true := rfl
def tryS (ev : Ev) (c : Nat) (xi : Option Nat) (su : QSs) : SOut → SOut
  | .ex e s1 h1 => match ev.sub e.cls c with
    | true => match inS xi s1 with
      | true => (exSs { ev with exn := some e } su (goS xi s1) h1).gone xi
      | false => .no
    | false => .ex e s1 h1
  | o => o
@[simp] theorem tryS_nx (c : Nat) (xi : Option Nat) (su : QSs) : tryS ev c xi su (.nx s h) = .nx s h := rfl
@[simp] theorem tryS_rt (c : Nat) (xi : Option Nat) (su : QSs) (d : D) : tryS ev c xi su (.rt d h) = .rt d h := rfl
theorem tryS_ex (c : Nat) (xi : Option Nat) (su : QSs) (e : Exn) (hs : ev.sub e.cls c = true) (hi : inS xi s = true) : tryS ev c xi su (.ex e s h) = (exSs { ev with exn := some e } su (goS xi s) h).gone xi := by
  unfold tryS
  simp only [hs, hi]
@[simp] theorem s_try' (b : QSs) (c : Nat) (xi : Option Nat) (su : QSs) : exS ev (.try b c xi su) s h = tryS ev c xi su (exSs ev b s h) := by
  show (match exSs ev b s h with
    | .ex e s1 h1 => match ev.sub e.cls c with
      | true => match inS xi s1 with
        | true => (exSs { ev with exn := some e } su (goS xi s1) h1).gone xi
        | false => .no
      | false => .ex e s1 h1
    | o => o) = _
  cases exSs ev b s h <;> rfl
def mtD (ev : Ev) (cs : QCs) (s : Sl) : D → Hd → SOut
  | .tup ds, h => exC ev cs ds s h
  | _, _ => .no
@[simp] theorem mtD_tup (cs : QCs) (ds : List D) : mtD ev cs s (.tup ds) h = exC ev cs ds s h := rfl
@[simp] theorem s_mtch' (e : QE) (cs : QCs) : exS ev (.mtch e cs) s h = (evE ev e s h).st s (mtD ev cs s) := by
  show (evE ev e s h).st s _ = _
  congr 1
  all_goals
    funext d h1
    cases d <;> rfl
def mtB (ev : Ev) (xs : List Nat) (b : QSs) (r : QCs) (d : D) (es : List D) (s : Sl) (h : Hd) : Option Bool → SOut
  | some true => exSs ev b (putSl xs es s) h
  | some false => exC ev r (d :: es) s h
  | none => .no
@[simp] theorem mtB_t (xs : List Nat) (b : QSs) (r : QCs) (d : D) (es : List D) : mtB ev xs b r d es s h (some true) = exSs ev b (putSl xs es s) h := rfl
@[simp] theorem mtB_f (xs : List Nat) (b : QSs) (r : QCs) (d : D) (es : List D) : mtB ev xs b r d es s h (some false) = exC ev r (d :: es) s h := rfl
def mtA (ev : Ev) (k : Str) (xs : List Nat) (b : QSs) (r : QCs) (d : D) (es : List D) (s : Sl) (h : Hd) : Bool → SOut
  | true => mtB ev xs b r d es s h (eqV h d (.str k))
  | false => exC ev r (d :: es) s h
@[simp] theorem mtA_t (k : Str) (xs : List Nat) (b : QSs) (r : QCs) (d : D) (es : List D) : mtA ev k xs b r d es s h true = mtB ev xs b r d es s h (eqV h d (.str k)) := rfl
@[simp] theorem mtA_f (k : Str) (xs : List Nat) (b : QSs) (r : QCs) (d : D) (es : List D) : mtA ev k xs b r d es s h false = exC ev r (d :: es) s h := rfl
@[simp] theorem ex_nil (ds : List D) : exC ev .nil ds s h = .nx s h := rfl
@[simp] theorem ex_cons0 (k : Str) (xs : List Nat) (b : QSs) (r : QCs) : exC ev (.cons k xs b r) [] s h = exC ev r [] s h := rfl
@[simp] theorem ex_cons (k : Str) (xs : List Nat) (b : QSs) (r : QCs) (d : D) (es : List D) : exC ev (.cons k xs b r) (d :: es) s h = mtA ev k xs b r d es s h (decide (es.length = xs.length)) := by
  show (match decide (es.length = xs.length) with
    | true => match eqV h d (.str k) with
      | some true => exSs ev b (putSl xs es s) h
      | some false => exC ev r (d :: es) s h
      | none => .no
    | false => exC ev r (d :: es) s h) = _
  cases decide (es.length = xs.length) with
  | false => rfl
  | true =>
    show _ = mtB ev xs b r d es s h (eqV h d (.str k))
    cases eqV h d (.str k) with
    | none => rfl
    | some b => cases b <;> rfl
@[simp] theorem putSl_nil (ds : List D) : putSl [] ds s = s := by cases ds <;> rfl
@[simp] theorem putSl_cons (i : Nat) (is : List Nat) (d : D) (ds : List D) : putSl (i :: is) (d :: ds) s = putSl is ds (s.set i (some d)) := rfl
@[simp] theorem s_pass' : exS ev .pass s h = .nx s h := rfl
@[simp] theorem s_brk' : exS ev .brk s h = .bk s h := rfl
@[simp] theorem s_cnt' : exS ev .cnt s h = .ct s h := rfl
@[simp] theorem gone_rt (xi : Option Nat) (d : D) : SOut.gone xi (.rt d h) = .rt d h := rfl
@[simp] theorem gone_nx (xi : Option Nat) : SOut.gone xi (.nx s h) = .nx (goS xi s) h := rfl
@[simp] theorem asgO_some : asgO (some s) h = .nx s h := rfl
@[simp] theorem bindG_nm (i : Nat) (d : D) : bindG (.nm i) d s = some (s.set i (some d)) := by simp [bindG]
@[simp] theorem bindG_tp (gs : List QG) (ds : List D) : bindG (.tp gs) (.tup ds) s = bindG.bindGs gs ds s := by simp [bindG]
@[simp] theorem bindGs_nil : bindG.bindGs [] [] s = some s := by simp [bindG.bindGs]
@[simp] theorem bindGs_cons (g : QG) (gs : List QG) (d : D) (ds : List D) : bindG.bindGs (g :: gs) (d :: ds) s = (bindG g d s).bind fun s' => bindG.bindGs gs ds s' := by simp [bindG.bindGs]
@[simp] theorem boolO_some (b : Bool) : boolO h (some b) = .ok (.bl b) h := rfl
@[simp] theorem testO_some (b : Bool) : testO h (some b) = .ok b h := rfl
@[simp] theorem truth_bl (b : Bool) : truthD h (.bl b) = some b := rfl
@[simp] theorem truth_int (i : Int) : truthD h (.int i) = some (decide (i ≠ 0)) := by
  show some (i != 0) = _
  congr 1
  by_cases z : i = 0 <;> simp [z]
@[simp] theorem truth_non : truthD h .non = some false := rfl
@[simp] theorem truth_tup (xs : List D) : truthD h (.tup xs) = some (!xs.isEmpty) := rfl
@[simp] theorem toI_int (i : Int) : toI (.int i) h = .ok (some i) h := rfl
@[simp] theorem negV_int (i : Int) : negV (.int i) h = .ok (.int (-i)) h := rfl
@[simp] theorem binV_add (x y : D) : binV .Add x y h = addV x y h := rfl
@[simp] theorem binV_mul (x y : D) : binV .Mult x y h = mulV x y h := rfl
@[simp] theorem binV_sub (i j : Int) : binV .Sub (.int i) (.int j) h = .ok (.int (i - j)) h := rfl
@[simp] theorem binV_div (i j : Int) : binV .FloorDiv (.int i) (.int j) h = ret (divOk i j) (.int (i.fdiv j)) h := rfl
@[simp] theorem binV_mod (i j : Int) : binV .Mod (.int i) (.int j) h = ret (decide (j ≠ 0)) (.int (i.fmod j)) h := rfl
@[simp] theorem binV_pow (i j : Int) : binV .Pow (.int i) (.int j) h = ret (powOk i j) (.int (i ^ j.toNat)) h := rfl
@[simp] theorem binV_shl (i j : Int) : binV .LShift (.int i) (.int j) h = ret (shlOk i j) (.int (i * 2 ^ j.toNat)) h := rfl
@[simp] theorem addV_int (i j : Int) : addV (.int i) (.int j) h = .ok (.int (i + j)) h := rfl
@[simp] theorem mulV_int (i j : Int) : mulV (.int i) (.int j) h = ret (mulOk i j) (.int (i * j)) h := rfl
@[simp] theorem cmp_eq (x y : D) : cmpV .Eq h x y = eqV h x y := rfl
@[simp] theorem cmp_ne (x y : D) : cmpV .NotEq h x y = (eqV h x y).map not := rfl
@[simp] theorem cmp_lt (i j : Int) : cmpV .Lt h (.int i) (.int j) = some (decide (i < j)) := rfl
@[simp] theorem cmp_le (i j : Int) : cmpV .LtE h (.int i) (.int j) = some (decide (i ≤ j)) := rfl
@[simp] theorem cmp_gt (i j : Int) : cmpV .Gt h (.int i) (.int j) = some (decide (j < i)) := rfl
@[simp] theorem cmp_ge (i j : Int) : cmpV .GtE h (.int i) (.int j) = some (decide (j ≤ i)) := rfl
@[simp] theorem cmp_is (x y : D) : cmpV .Is h x y = isV x y := rfl
@[simp] theorem cmp_isnot (x y : D) : cmpV .IsNot h x y = (isV x y).map not := rfl
@[simp] theorem cmp_in (x y : D) : cmpV .In h x y = inV h x y := rfl
@[simp] theorem cmp_notin (x y : D) : cmpV .NotIn h x y = (inV h x y).map not := rfl
@[simp] theorem len_le2 : decide ((2 : Nat) ≤ line) = true := by decide
@[simp] theorem len_le3 : decide ((3 : Nat) ≤ line) = true := by decide
@[simp] theorem len_le4 : decide ((4 : Nat) ≤ line) = true := by decide
@[simp] theorem bi_int (i : Int) : biV .int [.int i] h = .ok (.int i) h := rfl
@[simp] theorem bi_abs (i : Int) : biV .abs [.int i] h = .ok (.int (if i < 0 then -i else i)) h := rfl
@[simp] theorem bi_len_tup (xs : List D) : biV .len [.tup xs] h = .ok (.int xs.length) h := rfl
@[simp] theorem bi_len_fl (xs : List D) : biV .len [.fl xs] h = .ok (.int xs.length) h := rfl
@[simp] theorem bi_gcd (a b : Int) : biV .gcd [.int a, .int b] h = .ok (.int ((Nat.gcd a.natAbs b.natAbs : Nat) : Int)) h := rfl
@[simp] theorem bi_max (i j : Int) : biV .max [.int i, .int j] h = .ok (.int (if j > i then j else i)) h := rfl
@[simp] theorem bi_min (i j : Int) : biV .min [.int i, .int j] h = .ok (.int (if j < i then j else i)) h := rfl
@[simp] theorem isi_non_int : isiV .non .int h = some false := rfl
@[simp] theorem isi_bl_int (b : Bool) : isiV (.bl b) .int h = some true := rfl
@[simp] theorem isi_int_int (i : Int) : isiV (.int i) .int h = some true := rfl
@[simp] theorem isi_str_int (z : Str) : isiV (.str z) .int h = some false := rfl
@[simp] theorem isi_tup_int (xs : List D) : isiV (.tup xs) .int h = some false := rfl
@[simp] theorem isi_fl_int (xs : List D) : isiV (.fl xs) .int h = some false := rfl
@[simp] theorem isi_non_bool : isiV .non .bool h = some false := rfl
@[simp] theorem isi_bl_bool (b : Bool) : isiV (.bl b) .bool h = some true := rfl
@[simp] theorem isi_int_bool (i : Int) : isiV (.int i) .bool h = some false := rfl
@[simp] theorem isi_str_bool (z : Str) : isiV (.str z) .bool h = some false := rfl
@[simp] theorem isi_tup_bool (xs : List D) : isiV (.tup xs) .bool h = some false := rfl
@[simp] theorem isi_fl_bool (xs : List D) : isiV (.fl xs) .bool h = some false := rfl
@[simp] theorem isi_non_str : isiV .non .str h = some false := rfl
@[simp] theorem isi_bl_str (b : Bool) : isiV (.bl b) .str h = some false := rfl
@[simp] theorem isi_int_str (i : Int) : isiV (.int i) .str h = some false := rfl
@[simp] theorem isi_str_str (z : Str) : isiV (.str z) .str h = some true := rfl
@[simp] theorem isi_tup_str (xs : List D) : isiV (.tup xs) .str h = some false := rfl
@[simp] theorem isi_fl_str (xs : List D) : isiV (.fl xs) .str h = some false := rfl
@[simp] theorem isi_non_tuple : isiV .non .tuple h = some false := rfl
@[simp] theorem isi_bl_tuple (b : Bool) : isiV (.bl b) .tuple h = some false := rfl
@[simp] theorem isi_int_tuple (i : Int) : isiV (.int i) .tuple h = some false := rfl
@[simp] theorem isi_str_tuple (z : Str) : isiV (.str z) .tuple h = some false := rfl
@[simp] theorem isi_tup_tuple (xs : List D) : isiV (.tup xs) .tuple h = some true := rfl
@[simp] theorem isi_fl_tuple (xs : List D) : isiV (.fl xs) .tuple h = some false := rfl
@[simp] theorem isi_non_list : isiV .non .list h = some false := rfl
@[simp] theorem isi_bl_list (b : Bool) : isiV (.bl b) .list h = some false := rfl
@[simp] theorem isi_int_list (i : Int) : isiV (.int i) .list h = some false := rfl
@[simp] theorem isi_str_list (z : Str) : isiV (.str z) .list h = some false := rfl
@[simp] theorem isi_tup_list (xs : List D) : isiV (.tup xs) .list h = some false := rfl
@[simp] theorem isi_fl_list (xs : List D) : isiV (.fl xs) .list h = some true := rfl
@[simp] theorem is_bl_non (b : Bool) : isV (.bl b) .non = some false := rfl
@[simp] theorem is_int_non (i : Int) : isV (.int i) .non = some false := rfl
@[simp] theorem is_str_non (z : Str) : isV (.str z) .non = some false := rfl
@[simp] theorem is_tup_non (xs : List D) : isV (.tup xs) .non = some false := rfl
@[simp] theorem is_fl_non (xs : List D) : isV (.fl xs) .non = some false := rfl
@[simp] theorem is_ref_non (n : Nat) : isV (.ref n) .non = some false := rfl
@[simp] theorem is_non_non : isV .non .non = some true := rfl
@[simp] theorem is_bl_bl (a b : Bool) : isV (.bl a) (.bl b) = some (a == b) := rfl
@[simp] theorem walk_tup' (xs : List D) : walkV (.tup xs) h = .ok ⟨xs, []⟩ h := rfl
@[simp] theorem walk_fl' (xs : List D) : walkV (.fl xs) h = .ok ⟨xs, []⟩ h := rfl
end
/-! ### loops -/
theorem loopW_go {t : Sl → Hd → Out Bool} {b : Sl → Hd → SOut} {n : Nat} {s s2 : Sl} {h h1 h2 : Hd} (e : t s h = .ok true h1) (eb : b s h1 = .nx s2 h2) : loopW t b (n + 1) s h = loopW t b n s2 h2 := by
  conv => lhs; unfold loopW
  simp only [e, st_ok, eb]
theorem loopW_stop {t : Sl → Hd → Out Bool} {b : Sl → Hd → SOut} {n : Nat} {s : Sl} {h h1 : Hd} (e : t s h = .ok false h1) : loopW t b (n + 1) s h = .nx s h1 := by
  unfold loopW
  rw [e, st_ok]
theorem loopF_go {fix : List (Nat × List D)} {g : D → Sl → Option Sl} {b : Sl → Hd → SOut} {x : D} {xs : List D} {s s1 s2 : Sl} {h h2 : Hd} (f : fixOk h fix = true) (e : g x s = some s1) (eb : b s1 h = .nx s2 h2) : loopF fix g b (x :: xs) s h = loopF fix g b xs s2 h2 := by
  conv => lhs; unfold loopF
  simp only [f, e, eb]
theorem loopF_rt {fix : List (Nat × List D)} {g : D → Sl → Option Sl} {b : Sl → Hd → SOut} {x : D} {xs : List D} {s s1 : Sl} {h h2 : Hd} {d : D} (f : fixOk h fix = true) (e : g x s = some s1) (eb : b s1 h = .rt d h2) : loopF fix g b (x :: xs) s h = .rt d h2 := by
  conv => lhs; unfold loopF
  simp only [f, e, eb]
theorem loopF_nil {fix : List (Nat × List D)} {g : D → Sl → Option Sl} {b : Sl → Hd → SOut} {s : Sl} {h : Hd} (f : fixOk h fix = true) : loopF fix g b [] s h = .nx s h := by
  unfold loopF
  rw [f]
@[simp] theorem fixOk_nil (h : Hd) : fixOk h [] = true := rfl
/-! ### sizes -/
def Sz (n : Nat) (i : Int) : Prop := i.natAbs < 2 ^ n
theorem Sz.of_lt {n : Nat} {i : Int} {m : Nat} (h : (i.natAbs : Int) < (m : Int)) (l : m ≤ 2 ^ n) : Sz n i := by
  unfold Sz
  omega
theorem Sz.nat {n m : Nat} (l : m < 2 ^ n) : Sz n (m : Int) := by
  unfold Sz
  simpa using l
theorem Sz.mono {n m : Nat} {i : Int} (h : Sz n i) (l : n ≤ m) : Sz m i := Nat.lt_of_lt_of_le h (Nat.pow_le_pow_right (by omega) l)
theorem Sz.neg {n : Nat} {i : Int} (h : Sz n i) : Sz n (-i) := by
  unfold Sz at *
  rwa [Int.natAbs_neg]
theorem Sz.add {n m : Nat} {i j : Int} (h : Sz n i) (g : Sz m j) : Sz (max n m + 1) (i + j) := by
  have h1 := h.mono (Nat.le_max_left n m)
  have g1 := g.mono (Nat.le_max_right n m)
  unfold Sz at *
  have := Int.natAbs_add_le i j
  rw [Nat.pow_succ]
  omega
theorem Sz.sub {n m : Nat} {i j : Int} (h : Sz n i) (g : Sz m j) : Sz (max n m + 1) (i - j) := by
  rw [Int.sub_eq_add_neg]
  exact h.add g.neg
theorem Sz.mul {n m : Nat} {i j : Int} (h : Sz n i) (g : Sz m j) : Sz (n + m) (i * j) := by
  unfold Sz at *
  rw [Int.natAbs_mul, Nat.pow_add]
  exact Nat.mul_lt_mul'' h g
theorem Sz.log {n : Nat} {i : Int} (h : Sz n i) : i.natAbs.log2 ≤ n := by
  unfold Sz at h
  by_cases z : i.natAbs = 0
  · rw [z, show Nat.log2 0 = 0 from by decide]; exact Nat.zero_le _
  · exact Nat.le_of_lt ((Nat.log2_lt z).mpr h)
theorem mulOk_sz {n m : Nat} {i j : Int} (h : Sz n i) (g : Sz m j) (l : n + m < 100000000) : mulOk i j = true := by
  unfold mulOk
  have := h.log
  have := g.log
  exact decide_eq_true (by omega)
theorem divOk_sz {n : Nat} {i j : Int} (g : Sz n j) (l : n ≤ 8990) (z : j ≠ 0) : divOk i j = true := by
  have := g.log
  unfold divOk Builtin.divisionGoesByPylong
  rw [decide_eq_true z]
  have e : (j == 0) = false := by simpa using z
  simp only [e]
  have : ¬ (j.natAbs.log2 / 30 + 1 > 300) := by omega
  simp [this]
theorem fdiv_abs (i j : Int) : (i.fdiv j).natAbs ≤ i.natAbs := by
  by_cases z : j = 0
  · rw [z, Int.fdiv_zero]; simp
  · rcases Int.lt_or_gt_of_ne z with hj | hj
    · -- j < 0
      have e : i.fdiv j = (-i).fdiv (-j) := (Int.neg_fdiv_neg i j).symm
      rw [e, ← Int.natAbs_neg i]
      exact pos (-i) (-j) (by omega)
    · exact pos i j hj
where
  pos (i j : Int) (hj : 0 < j) : (i.fdiv j).natAbs ≤ i.natAbs := by
    rw [Int.fdiv_eq_ediv_of_nonneg _ (by omega)]
    have := Int.natAbs_ediv_le_natAbs i j
    exact this
theorem Sz.fdiv {n : Nat} {i j : Int} (h : Sz n i) : Sz n (i.fdiv j) := Nat.lt_of_le_of_lt (fdiv_abs i j) h
theorem fmod_abs {i j : Int} (z : j ≠ 0) : (i.fmod j).natAbs < j.natAbs := by
  rcases Int.lt_or_gt_of_ne z with hj | hj
  · have h1 := Int.fmod_def i j
    have e : i.fmod j = -((-i).fmod (-j)) := by
      rw [Int.neg_fmod_neg]
      simp
    rw [e, Int.natAbs_neg, Int.fmod_eq_emod_of_nonneg _ (by omega)]
    have a1 := Int.emod_nonneg (-i) (show (-j) ≠ 0 by omega)
    have a2 := Int.emod_lt_of_pos (-i) (show 0 < -j by omega)
    omega
  · rw [Int.fmod_eq_emod_of_nonneg _ (by omega)]
    have a1 := Int.emod_nonneg i z
    have a2 := Int.emod_lt_of_pos i hj
    omega
theorem Sz.fmod {n : Nat} {i j : Int} (h : Sz n j) (z : j ≠ 0) : Sz n (i.fmod j) := Nat.lt_trans (fmod_abs z) h
theorem small_nat {n : Nat} (h : n ≤ 1000000) : smallI (n : Int) = true := by
  unfold smallI
  refine decide_eq_true ?_
  by_cases z : n = 0
  · subst z; decide
  · have : (n : Int).natAbs = n := rfl
    rw [this, Nat.log2_lt z]
    exact Nat.lt_of_le_of_lt h (by decide)
end PV
/-! PVR: ratios as rational numbers; comprehensions and loops over lists; the ratio defs by their code. -/
namespace PV
open PySem
/-! ### ratios -/
def rv (q : Rat) : D := .tup [.int q.num, .int (q.den : Int)]
def Qn (n : Nat) (q : Rat) : Prop := Sz n q.num ∧ Sz n (q.den : Int)
def gd (a b : Int) : Int := ((Nat.gcd a.natAbs b.natAbs : Nat) : Int)
theorem gd_pos {a b : Int} (hb : b ≠ 0) : 0 < gd a b := by
  unfold gd
  have : 0 < Nat.gcd a.natAbs b.natAbs := Nat.gcd_pos_of_pos_right _ (by omega)
  omega
theorem gd_sz {a b : Int} {n : Nat} (hb : b ≠ 0) (sb : Sz n b) : Sz n (gd a b) := by
  unfold Sz gd at *
  have := Nat.gcd_le_right a.natAbs (show 0 < b.natAbs by omega)
  simp only [Int.natAbs_natCast]
  omega
theorem gd_neg (a b : Int) : gd (-a) (-b) = gd a b := by
  unfold gd
  rw [Int.natAbs_neg, Int.natAbs_neg]
def mkR (a b : Int) : Int × Int := if b < 0 then (a.fdiv (-gd a b), b.fdiv (-gd a b)) else (a.fdiv (gd a b), b.fdiv (gd a b))
theorem mkR_split {a b : Int} (hb : b ≠ 0) : ∃ g x y : Int, 0 < g ∧ a = g * x ∧ b = g * y ∧ gd x y = 1 ∧ g = gd a b := by
  obtain ⟨x, hx⟩ : gd a b ∣ a := Int.ofNat_dvd_left.mpr (Nat.gcd_dvd_left _ _)
  obtain ⟨y, hy⟩ : gd a b ∣ b := Int.ofNat_dvd_left.mpr (Nat.gcd_dvd_right _ _)
  have gp := gd_pos (a := a) hb
  refine ⟨gd a b, x, y, gp, hx, hy, ?_, rfl⟩
  have hg : Nat.gcd a.natAbs b.natAbs = (gd a b).natAbs := by unfold gd; simp
  have hx2 : a.natAbs = (gd a b).natAbs * x.natAbs := by rw [← Int.natAbs_mul, ← hx]
  have hy2 : b.natAbs = (gd a b).natAbs * y.natAbs := by rw [← Int.natAbs_mul, ← hy]
  have e : Nat.gcd a.natAbs b.natAbs = (gd a b).natAbs * Nat.gcd x.natAbs y.natAbs := by
    conv => lhs; rw [hx2, hy2]
    exact Nat.gcd_mul_left _ _ _
  have : (gd a b).natAbs * Nat.gcd x.natAbs y.natAbs = (gd a b).natAbs * 1 := by rw [← e, hg]; simp
  have := Nat.eq_of_mul_eq_mul_left (show 0 < (gd a b).natAbs by omega) this
  unfold gd
  rw [this]
  rfl
theorem mkR_spec {a b : Int} (hb : b ≠ 0) : 0 < (mkR a b).2 ∧ gd (mkR a b).1 (mkR a b).2 = 1 ∧ (mkR a b).1 * b = a * (mkR a b).2 := by
  obtain ⟨g, x, y, gp, ha, hb', hg, e⟩ := mkR_split (a := a) hb
  unfold mkR
  rw [← e]
  have g0 : g ≠ 0 := by omega
  by_cases hlt : b < 0
  · rw [if_pos hlt]
    have e1 : a.fdiv (-g) = -x := by
      rw [ha, show g * x = (-g) * (-x) by rw [Int.neg_mul_neg], Int.mul_fdiv_cancel_left _ (by omega)]
    have e2 : b.fdiv (-g) = -y := by
      rw [hb', show g * y = (-g) * (-y) by rw [Int.neg_mul_neg], Int.mul_fdiv_cancel_left _ (by omega)]
    simp only [e1, e2]
    refine ⟨?_, by rw [gd_neg]; exact hg, ?_⟩
    · have : y < 0 := by
        rcases Int.lt_or_le y 0 with z | z
        · exact z
        · have := Int.mul_nonneg (Int.le_of_lt gp) z
          omega
      omega
    · rw [ha, hb']
      simp only [Int.neg_mul, Int.mul_neg]
      rw [Int.mul_left_comm, Int.mul_assoc]
  · rw [if_neg hlt]
    have e1 : a.fdiv g = x := by rw [ha, Int.mul_fdiv_cancel_left _ g0]
    have e2 : b.fdiv g = y := by rw [hb', Int.mul_fdiv_cancel_left _ g0]
    simp only [e1, e2]
    refine ⟨?_, hg, ?_⟩
    · have : 0 < y := by
        rcases Int.lt_or_le 0 y with z | z
        · exact z
        · have := Int.mul_nonneg (Int.le_of_lt gp) (show 0 ≤ -y by omega)
          rw [Int.mul_neg] at this
          omega
      exact this
    · rw [ha, hb', Int.mul_left_comm, Int.mul_assoc]
theorem mkR_sz {a b : Int} {n m : Nat} (sa : Sz n a) (sb : Sz m b) : Sz n (mkR a b).1 ∧ Sz m (mkR a b).2 := by
  unfold mkR
  split
  · exact ⟨sa.fdiv, sb.fdiv⟩
  · exact ⟨sa.fdiv, sb.fdiv⟩
/-- the lowest terms are the rational number's -/
theorem mkR_rat {a b : Int} (hb : b ≠ 0) : (mkR a b).1 = (Rat.divInt a b).num ∧ (mkR a b).2 = ((Rat.divInt a b).den : Int) := by
  obtain ⟨h1, h2, h3⟩ := mkR_spec (a := a) hb
  have nz : (mkR a b).2.natAbs ≠ 0 := by omega
  have cp : (mkR a b).1.natAbs.Coprime (mkR a b).2.natAbs := by
    unfold gd at h2
    unfold Nat.Coprime
    omega
  have e : (⟨(mkR a b).1, (mkR a b).2.natAbs, nz, cp⟩ : Rat) = Rat.divInt a b := by
    rw [Rat.mk_eq_divInt, Rat.divInt_eq_divInt_iff (by omega) hb]
    rw [Int.natAbs_of_nonneg (by omega)]
    exact h3
  have e1 := congrArg Rat.num e
  have e2 := congrArg Rat.den e
  refine ⟨e1, ?_⟩
  rw [← e2]
  simp only
  omega
theorem mkR_rv {a b : Int} (hb : b ≠ 0) : D.tup [.int (mkR a b).1, .int (mkR a b).2] = rv (Rat.divInt a b) := by
  obtain ⟨e1, e2⟩ := mkR_rat (a := a) hb
  unfold rv
  rw [e1, e2]
theorem Qn.divInt {a b : Int} {n : Nat} (hb : b ≠ 0) (sa : Sz n a) (sb : Sz n b) : Qn n (Rat.divInt a b) := by
  obtain ⟨e1, e2⟩ := mkR_rat (a := a) hb
  obtain ⟨s1, s2⟩ := mkR_sz sa sb
  exact ⟨e1 ▸ s1, e2 ▸ s2⟩
theorem Qn.mono {n m : Nat} {q : Rat} (h : Qn n q) (l : n ≤ m) : Qn m q := ⟨h.1.mono l, h.2.mono l⟩
theorem den0 (q : Rat) : (q.den : Int) ≠ 0 := by
  have := q.den_pos
  omega
theorem rat_eq (q : Rat) : Rat.divInt q.num q.den = q := Rat.num_divInt_den q
theorem rat_add (p q : Rat) : Rat.divInt (p.num * q.den + q.num * p.den) (p.den * q.den) = p + q := by
  conv => rhs; rw [← rat_eq p, ← rat_eq q]
  rw [Rat.divInt_add_divInt _ _ (den0 p) (den0 q)]
theorem rat_mul (p q : Rat) : Rat.divInt (p.num * q.num) (p.den * q.den) = p * q := by
  conv => rhs; rw [← rat_eq p, ← rat_eq q]
  rw [Rat.divInt_mul_divInt]
theorem Qn.add {n m : Nat} {p q : Rat} (hp : Qn n p) (hq : Qn m q) : Qn (n + m + 1) (p + q) := by
  rw [← rat_add]
  exact Qn.divInt (Int.mul_ne_zero (den0 p) (den0 q)) (((hp.1.mul hq.2).add (hq.1.mul hp.2)).mono (by omega)) ((hp.2.mul hq.2).mono (by omega))
theorem Qn.mul {n m : Nat} {p q : Rat} (hp : Qn n p) (hq : Qn m q) : Qn (n + m) (p * q) := by
  rw [← rat_mul]
  exact Qn.divInt (Int.mul_ne_zero (den0 p) (den0 q)) (hp.1.mul hq.1) (hp.2.mul hq.2)
theorem Qn.zero {n : Nat} (hn : 1 ≤ n) : Qn n 0 := ⟨by show (0 : Int).natAbs < _; exact Nat.pow_pos (by decide), by show (1 : Int).natAbs < _; exact Nat.lt_of_lt_of_le (by decide) (Nat.pow_le_pow_right (by decide) hn)⟩
theorem Qn.one {n : Nat} (hn : 1 ≤ n) : Qn n 1 := ⟨by show (1 : Int).natAbs < _; exact Nat.lt_of_lt_of_le (by decide) (Nat.pow_le_pow_right (by decide) hn), by show (1 : Int).natAbs < _; exact Nat.lt_of_lt_of_le (by decide) (Nat.pow_le_pow_right (by decide) hn)⟩
@[simp] theorem rv_at0 (q : Rat) (h : Hd) : idxV (rv q) (.int 0) h = .ok (.int q.num) h := by simp [idxV, rv, L2.atI, L2.ixN]
@[simp] theorem rv_at1 (q : Rat) (h : Hd) : idxV (rv q) (.int 1) h = .ok (.int q.den) h := by simp [idxV, rv, L2.atI, L2.ixN]
theorem rv_zero : rv 0 = .tup [.int 0, .int 1] := rfl
theorem rv_one : rv 1 = .tup [.int 1, .int 1] := rfl
theorem line_ok {n : Nat} (h : n ≤ 1000000) : n ≤ line := by
  unfold line
  omega
/-! ### comprehensions -/
theorem loopC_map {α : Type} {fix : List (Nat × List D)} {b : D → Option Sl} {c : Sl → Hd → Out Bool} {e : Sl → Hd → Out D} {φ r : α → D} {h : Hd} (hf : fixOk h fix = true) : ∀ (as : List α) (acc : List D), acc.length + as.length ≤ line → (∀ a ∈ as, ∃ s1, b (φ a) = some s1 ∧ c s1 h = .ok true h ∧ e s1 h = .ok (r a) h) →
    loopC fix b c e (as.map φ) acc h = .ok (acc ++ as.map r) h
  | [], acc, hl, hs => by
    show ret (fixOk h fix) acc h = _
    rw [hf]
    simp
  | a :: as, acc, hl, hs => by
    obtain ⟨s1, e1, e2, e3⟩ := hs a List.mem_cons_self
    have ih := loopC_map hf as (acc ++ [r a]) (by simp at hl ⊢; omega) fun x hx => hs x (List.mem_cons_of_mem _ hx)
    have lt : decide (acc.length < line) = true := decide_eq_true (by simp at hl; omega)
    rw [List.map_cons]
    unfold loopC
    simp only [hf, e1, e2, e3, bind_ok, lt]
    rw [ih]
    simp
/-- tuple([..]), all([..]): the list is made behind the heap -/
theorem lc_new {α : Type} {ev : Ev} {elt : QE} {g : QG} {it : QI} {own : List Nat} {cond : QT} {s : Sl} {h : Hd} {fix : List (Nat × List D)} {φ r : α → D} {as : List α} (hi : evI ev it s h = .ok ⟨as.map φ, fix⟩ h) (hf : fixOk h fix = true) (hl : as.length ≤ line)
    (hs : ∀ a ∈ as, ∃ s1, bindG g (φ a) (wipeD s own) = some s1 ∧ evT ev cond s1 h = .ok true h ∧ evE ev elt s1 h = .ok (r a) h) : evE ev (.lc elt g it own cond) s h = .ok (.ref h.length) (h ++ [.lst (as.map r)]) := by
  rw [x_lc, hi, bind_ok, y_lc_, loopC_map hf as [] (by simpa using hl) hs]
  rfl
theorem lst_new (h : Hd) (xs : List D) : lstAt (h ++ [.lst xs]) h.length = some xs := by
  unfold lstAt
  rw [List.getElem?_append_right (Nat.le_refl _)]
  simp
@[simp] theorem tuple_new (h : Hd) (xs : List D) : biV .tuple [.ref h.length] (h ++ [.lst xs]) = .ok (.tup xs) (h ++ [.lst xs]) := by
  unfold biV
  simp [lst_new]
theorem all_new (h : Hd) {α : Type} (as : List α) (p : α → Bool) : biV .all [.ref h.length] (h ++ [.lst (as.map fun a => .bl (p a))]) = .ok (.bl (as.all p)) (h ++ [.lst (as.map fun a => .bl (p a))]) := by
  have e : bls (as.map fun a => D.bl (p a)) = some (as.map p) := by
    induction as with
    | nil => rfl
    | cons a as ih => simp [bls, ih]
  unfold biV
  simp [lst_new, e]
theorem any_new (h : Hd) {α : Type} (as : List α) (p : α → Bool) : biV .any [.ref h.length] (h ++ [.lst (as.map fun a => .bl (p a))]) = .ok (.bl (as.any p)) (h ++ [.lst (as.map fun a => .bl (p a))]) := by
  have e : bls (as.map fun a => D.bl (p a)) = some (as.map p) := by
    induction as with
    | nil => rfl
    | cons a as ih => simp [bls, ih]
  unfold biV
  simp [lst_new, e]
theorem fin_app {h l : Hd} {d : D} (hd : D.lt h.length d = true) : fin h (.rt d (h ++ l)) = .ok d h := gc_app hd
theorem rv_lt (n : Nat) (q : Rat) : D.lt n (rv q) = true := by simp [rv, D.lt, D.lts]
theorem lts_map {α : Type} (n : Nat) (r : α → D) (hr : ∀ a, D.lt n (r a) = true) : ∀ as : List α, D.lts n (as.map r) = true
  | [] => by simp [D.lts]
  | a :: as => by simp [D.lts, hr a, lts_map n r hr as]
/-! ### vectors, matrices -/
def vv (v : List Rat) : D := .tup (v.map rv)
def mv (m : List (List Rat)) : D := .tup (m.map vv)
theorem vv_lt (n : Nat) (v : List Rat) : D.lt n (vv v) = true := by
  simp only [vv, D.lt]
  exact lts_map n rv (rv_lt n) v
theorem mv_lt (n : Nat) (m : List (List Rat)) : D.lt n (mv m) = true := by
  simp only [mv, D.lt]
  exact lts_map n vv (vv_lt n) m
theorem zip_map {α β : Type} (f : α → D) (g : β → D) : ∀ (as : List α) (bs : List β), zipD (as.map f) (bs.map g) = (as.zip bs).map fun p => .tup [f p.1, g p.2]
  | [], _ => by simp [zipD]
  | _ :: _, [] => by simp [zipD]
  | a :: as, b :: bs => by simp [zipD, zip_map f g as bs]
theorem zipV_tup (xs ys : List D) (h : Hd) : zipV (.tup xs) (.tup ys) h = .ok ⟨zipD xs ys, []⟩ h := rfl
theorem loopF_fold {α : Type} {fix : List (Nat × List D)} {g : D → Sl → Option Sl} {b : Sl → Hd → SOut} {φ : α → D} {h : Hd} (hf : fixOk h fix = true) {β : Type} (st : β → Sl → Prop) (step : β → α → β) : ∀ (as : List α) (x : β) (s : Sl), st x s → (∀ a ∈ as, ∀ x s, st x s → ∃ s1 s2, g (φ a) s = some s1 ∧ b s1 h = .nx s2 h ∧ st (step x a) s2) →
    ∃ s', loopF fix g b (as.map φ) s h = .nx s' h ∧ st (as.foldl step x) s'
  | [], x, s, hs, _ => ⟨s, loopF_nil hf, hs⟩
  | a :: as, x, s, hs, ht => by
    obtain ⟨s1, s2, e1, e2, e3⟩ := ht a List.mem_cons_self x s hs
    obtain ⟨s', e4, e5⟩ := loopF_fold hf st step as (step x a) s2 e3 fun y hy => ht y (List.mem_cons_of_mem _ hy)
    refine ⟨s', ?_, e5⟩
    rw [List.map_cons, loopF_go hf e1 e2]
    exact e4
/-- a loop by what holds behind the items that are done -/
theorem loopF_inv {α : Type} {fix : List (Nat × List D)} {g : D → Sl → Option Sl} {b : Sl → Hd → SOut} {φ : α → D} {all : List α} (I : List α → Sl → Hd → Prop) (hf : ∀ l s h, I l s h → fixOk h fix = true)
    (hs : ∀ (l : List α) (a : α) (r : List α) (s : Sl) (h : Hd), l ++ a :: r = all → I l s h → ∃ s1 s2 h2, g (φ a) s = some s1 ∧ b s1 h = .nx s2 h2 ∧ I (l ++ [a]) s2 h2) : ∀ (r l : List α) (s : Sl) (h : Hd), l ++ r = all → I l s h → ∃ s' h', loopF fix g b (r.map φ) s h = .nx s' h' ∧ I all s' h'
  | [], l, s, h, e, i => by
    rw [List.append_nil] at e
    subst e
    exact ⟨s, h, loopF_nil (hf _ _ _ i), i⟩
  | a :: r, l, s, h, e, i => by
    obtain ⟨s1, s2, h2, e1, e2, i2⟩ := hs l a r s h e i
    obtain ⟨s', h', e3, i3⟩ := loopF_inv I hf hs r (l ++ [a]) s2 h2 (by rw [List.append_assoc]; exact e) i2
    refine ⟨s', h', ?_, i3⟩
    rw [List.map_cons]
    conv => lhs; unfold loopF
    simp only [hf _ _ _ i, e1, e2]
    exact e3
theorem fin_keep {h h' : Hd} {d : D} (hd : D.lt h.length d = false) : fin h (.rt d h') = .ok d h' := by
  show gc h d h' = _
  unfold gc
  rw [hd, Bool.and_false]
  rfl
theorem lst_old {h : Hd} {n : Nat} {xs : List D} (e : lstAt h n = some xs) (l : Hd) : lstAt (h ++ l) n = some xs := by
  unfold lstAt at *
  cases q : h[n]? with
  | none => rw [q] at e; cases e
  | some c =>
    rw [q] at e
    rw [List.getElem?_append_left (List.getElem?_eq_some_iff.mp q).1, q]
    exact e
/-- the list at the end of h, with what lies behind it -/
theorem lst_mid (h : Hd) (xs : List D) (l : Hd) : lstAt (h ++ .lst xs :: l) h.length = some xs := by
  unfold lstAt
  rw [List.getElem?_append_right (Nat.le_refl _)]
  simp
theorem set_mid (h : Hd) (c c' : Cell) (l : Hd) : (h ++ c :: l).set h.length c' = h ++ c' :: l := by
  rw [List.set_append_right _ _ (Nat.le_refl _)]
  simp
theorem app_mid (h : Hd) (xs : List D) (l : Hd) (y : D) (hl : xs.length < line) : mthV 0 (.ref h.length) [y] (h ++ .lst xs :: l) = .ok .non (h ++ .lst (xs ++ [y]) :: l) := by
  show appV (.ref h.length) [y] _ = _
  unfold appV
  simp only [lst_mid, decide_eq_true hl, ret_true, set_mid]
theorem isL_mid (h : Hd) (xs : List D) (l : Hd) : isLst (h ++ .lst xs :: l) (.ref h.length) = true := by
  show (lstAt _ _).isSome = true
  rw [lst_mid]
  rfl
theorem idx_ref {h : Hd} {n : Nat} {xs : List D} (e : lstAt h n = some xs) (j : Nat) (hj : j < xs.length) : idxV (.ref n) (.int (j : Int)) h = .ok xs[j] h := by
  simp [idxV, e, L2.atI, L2.ixN, hj]
theorem tuple_ref {h : Hd} {n : Nat} {xs : List D} (e : lstAt h n = some xs) : biV .tuple [.ref n] h = .ok (.tup xs) h := by
  unfold biV
  simp [e]
/-- a comprehension whose turns make things behind the heap -/
theorem loopC_grow {α : Type} {fix : List (Nat × List D)} {b : D → Option Sl} {c : Sl → Hd → Out Bool} {e : Sl → Hd → Out D} {φ r : α → D} {h0 : Hd} (hf : ∀ l, fixOk (h0 ++ l) fix = true) : ∀ (as : List α) (acc : List D) (l : Hd), acc.length + as.length ≤ line → (∀ a ∈ as, ∃ s1, b (φ a) = some s1 ∧ ∀ l, c s1 (h0 ++ l) = .ok true (h0 ++ l) ∧ ∃ l', e s1 (h0 ++ l) = .ok (r a) (h0 ++ l')) →
    ∃ l', loopC fix b c e (as.map φ) acc (h0 ++ l) = .ok (acc ++ as.map r) (h0 ++ l')
  | [], acc, l, hl, hs => by
    refine ⟨l, ?_⟩
    show ret (fixOk (h0 ++ l) fix) acc (h0 ++ l) = _
    rw [hf]
    simp
  | a :: as, acc, l, hl, hs => by
    obtain ⟨s1, e1, e2⟩ := hs a List.mem_cons_self
    obtain ⟨e2, l1, e3⟩ := e2 l
    obtain ⟨l', ih⟩ := loopC_grow hf as (acc ++ [r a]) l1 (by simp at hl ⊢; omega) fun x hx => hs x (List.mem_cons_of_mem _ hx)
    have lt : decide (acc.length < line) = true := decide_eq_true (by simp at hl; omega)
    refine ⟨l', ?_⟩
    rw [List.map_cons]
    unfold loopC
    simp only [hf, e1, e2, e3, bind_ok, lt]
    rw [ih]
    simp
end PV
/-! PVT: the ratio and vector defs by their code; callees by number, with what they give. -/
namespace PV
open PySem
/-- ev's def f gives d for xs, whatever the heap; it leaves the heap as it was -/
def Giv (ev : Ev) (f : Nat) (xs : List D) (d : D) : Prop := ∀ h, ev.call f xs h = .ok d h
section
variable {ev : Ev} {h : Hd}
def C_make (e : Nat) : QSs := .cons (.ife (.v (.cmp .Eq (.var 1) (.con (.int 0)))) (.cons (.raise e [] .nil) .nil) .nil)
  (.cons (.asg (.nm 2) (.bi .gcd (.cons (.var 0) (.cons (.var 1) .nil))))
  (.cons (.ife (.v (.cmp .Lt (.var 1) (.con (.int 0)))) (.cons (.asg (.nm 2) (.neg (.var 2))) .nil) .nil)
  (.cons (.ret (.tup (.cons (.bin .FloorDiv (.var 0) (.var 2)) (.cons (.bin .FloorDiv (.var 1) (.var 2)) .nil)))) .nil)))
theorem t_make {e : Nat} {a b : Int} (hb : b ≠ 0) {n : Nat} (sb : Sz n b) (hn : n ≤ 8900) : fin h (exSs ev (C_make e) (startD 3 [.int a, .int b]) h) = .ok (rv (Rat.divInt a b)) h := by
  have gp := gd_pos (a := a) hb
  have sg := gd_sz (a := a) hb sb
  have e2 : ((a.natAbs.gcd b.natAbs : Nat) : Int) = gd a b := rfl
  rw [← mkR_rv hb]
  by_cases hlt : b < 0
  · have d : ∀ x, divOk x (-gd a b) = true := fun x => divOk_sz sg.neg (by omega) (by omega)
    have e3 : mkR a b = (a.fdiv (-gd a b), b.fdiv (-gd a b)) := if_pos hlt
    simp [C_make, startD, hb, e2, e3, hlt, d]
  · have d : ∀ x, divOk x (gd a b) = true := fun x => divOk_sz sg (by omega) (by omega)
    have e3 : mkR a b = (a.fdiv (gd a b), b.fdiv (gd a b)) := if_neg hlt
    simp [C_make, startD, hb, e2, e3, hlt, d]
/-- what a maker of lowest terms (def f) promises -/
def MakesR (ev : Ev) (f : Nat) : Prop := ∀ a b : Int, b ≠ 0 → Sz 8900 b → Giv ev f [.int a, .int b] (rv (Rat.divInt a b))
def C_add (mk : Nat) : QSs := .cons (.ret (.call mk (.cons (.bin .Add (.bin .Mult (.idx (.var 0) (.con (.int 0))) (.idx (.var 1) (.con (.int 1)))) (.bin .Mult (.idx (.var 1) (.con (.int 0))) (.idx (.var 0) (.con (.int 1))))) (.cons (.bin .Mult (.idx (.var 0) (.con (.int 1))) (.idx (.var 1) (.con (.int 1)))) .nil)) .nil [.inl (.inl 0), .inl (.inl 1)])) .nil
theorem t_add {mk : Nat} (hm : MakesR ev mk) {p q : Rat} {n : Nat} (sp : Qn n p) (sq : Qn n q) (hn : n ≤ 4400) : fin h (exSs ev (C_add mk) (startD 2 [rv p, rv q]) h) = .ok (rv (p + q)) h := by
  have m1 := mulOk_sz sp.1 sq.2 (by omega)
  have m2 := mulOk_sz sq.1 sp.2 (by omega)
  have m3 := mulOk_sz sp.2 sq.2 (by omega)
  have c := hm (p.num * q.den + q.num * p.den) (p.den * q.den) (Int.mul_ne_zero (den0 p) (den0 q)) ((sp.2.mul sq.2).mono (by omega)) h
  rw [rat_add] at c
  simp [C_add, startD, m1, m2, m3, arrD, c]
def C_mul (mk : Nat) : QSs := .cons (.ret (.call mk (.cons (.bin .Mult (.idx (.var 0) (.con (.int 0))) (.idx (.var 1) (.con (.int 0)))) (.cons (.bin .Mult (.idx (.var 0) (.con (.int 1))) (.idx (.var 1) (.con (.int 1)))) .nil)) .nil [.inl (.inl 0), .inl (.inl 1)])) .nil
theorem t_mul {mk : Nat} (hm : MakesR ev mk) {p q : Rat} {n : Nat} (sp : Qn n p) (sq : Qn n q) (hn : n ≤ 4400) : fin h (exSs ev (C_mul mk) (startD 2 [rv p, rv q]) h) = .ok (rv (p * q)) h := by
  have m1 := mulOk_sz sp.1 sq.1 (by omega)
  have m3 := mulOk_sz sp.2 sq.2 (by omega)
  have c := hm (p.num * q.num) (p.den * q.den) (Int.mul_ne_zero (den0 p) (den0 q)) ((sp.2.mul sq.2).mono (by omega)) h
  rw [rat_mul] at c
  simp [C_mul, startD, m1, m3, arrD, c]
def C_sub (mk : Nat) : QSs := .cons (.ret (.call mk (.cons (.bin .Sub (.bin .Mult (.idx (.var 0) (.con (.int 0))) (.idx (.var 1) (.con (.int 1)))) (.bin .Mult (.idx (.var 1) (.con (.int 0))) (.idx (.var 0) (.con (.int 1))))) (.cons (.bin .Mult (.idx (.var 0) (.con (.int 1))) (.idx (.var 1) (.con (.int 1)))) .nil)) .nil [.inl (.inl 0), .inl (.inl 1)])) .nil
theorem rat_sub (p q : Rat) : Rat.divInt (p.num * q.den - q.num * p.den) (p.den * q.den) = p - q := by
  have h := rat_add p (-q)
  rw [Rat.sub_eq_add_neg, ← h]
  have e1 : (-q).num = -q.num := rfl
  have e2 : (-q).den = q.den := rfl
  rw [e1, e2, Int.neg_mul, Int.sub_eq_add_neg]
theorem t_sub {mk : Nat} (hm : MakesR ev mk) {p q : Rat} {n : Nat} (sp : Qn n p) (sq : Qn n q) (hn : n ≤ 4400) : fin h (exSs ev (C_sub mk) (startD 2 [rv p, rv q]) h) = .ok (rv (p - q)) h := by
  have m1 := mulOk_sz sp.1 sq.2 (by omega)
  have m2 := mulOk_sz sq.1 sp.2 (by omega)
  have m3 := mulOk_sz sp.2 sq.2 (by omega)
  have c := hm (p.num * q.den - q.num * p.den) (p.den * q.den) (Int.mul_ne_zero (den0 p) (den0 q)) ((sp.2.mul sq.2).mono (by omega)) h
  rw [rat_sub] at c
  simp [C_sub, startD, m1, m2, m3, arrD, c]
/-! ### Euclid's way, as the laws write it -/
theorem gd_step {a b : Int} (ha : 0 ≤ a) (hb : 0 < b) : gd b (a.fmod b) = gd a b := by
  unfold gd
  rw [Int.fmod_eq_emod_of_nonneg _ (by omega)]
  have : (a % b).natAbs = a.natAbs % b.natAbs := by
    have := Int.emod_nonneg a (show b ≠ 0 by omega)
    have e : ((a.natAbs % b.natAbs : Nat) : Int) = a % b := by
      rw [Int.natCast_emod, Int.natAbs_of_nonneg ha, Int.natAbs_of_nonneg (by omega)]
    omega
  rw [this, Nat.gcd_comm b.natAbs, ← Nat.gcd_rec, Nat.gcd_comm]
def C_common : QSs := .cons (.asg (.nm 0) (.bi .abs (.cons (.var 0) .nil)))
  (.cons (.asg (.nm 1) (.bi .abs (.cons (.var 1) .nil)))
  (.cons (.whl (.v (.cmp .Gt (.var 1) (.con (.int 0)))) (.cons (.asg (.nm 2) (.bin .Mod (.bi .int (.cons (.var 0) .nil)) (.var 1)))
  (.cons (.asg (.nm 0) (.var 1))
  (.cons (.asg (.nm 1) (.var 2)) .nil))))
  (.cons (.ret (.var 0)) .nil)))
theorem common_loop (ev : Ev) : ∀ (n : Nat) (a b : Int) (c : Option D) (h : Hd), 0 ≤ a → 0 ≤ b → b.toNat < n →
    ∃ c', loopW (evT ev (.v (.cmp .Gt (.var 1) (.con (.int 0))))) (exSs ev (.cons (.asg (.nm 2) (.bin .Mod (.bi .int (.cons (.var 0) .nil)) (.var 1)))
  (.cons (.asg (.nm 0) (.var 1))
  (.cons (.asg (.nm 1) (.var 2)) .nil)))) n [some (.int a), some (.int b), c] h = .nx [some (.int (gd a b)), some (.int 0), c'] h
  | 0, a, b, c, h, ha, hb, hn => by omega
  | n + 1, a, b, c, h, ha, hb, hn => by
    by_cases hb0 : b = 0
    · subst hb0
      refine ⟨c, ?_⟩
      have e : gd a 0 = a := by unfold gd; simp; omega
      simp [loopW, e]
    · have hp : 0 < b := by omega
      have h0 : 0 ≤ a.fmod b := by rw [Int.fmod_eq_emod_of_nonneg _ (by omega)]; exact Int.emod_nonneg _ hb0
      have h1 : a.fmod b < b := by rw [Int.fmod_eq_emod_of_nonneg _ (by omega)]; exact Int.emod_lt_of_pos _ hp
      obtain ⟨c', ih⟩ := common_loop ev n b (a.fmod b) (some (.int (a.fmod b))) h (by omega) h0 (by omega)
      rw [gd_step ha hp] at ih
      refine ⟨c', ?_⟩
      rw [loopW_go (h1 := h) (s2 := [some (.int b), some (.int (a.fmod b)), some (.int (a.fmod b))]) (h2 := h) (by simp [hp]) (by simp [hb0])]
      exact ih
theorem absI (i : Int) : (if i < 0 then -i else i) = i.natAbs := by split <;> omega
theorem t_common {a b : Int} {n : Nat} (sb : Sz n b) (hF : 2 ^ n ≤ ev.fuel) : fin h (exSs ev C_common (startD 3 [.int a, .int b]) h) = .ok (.int (gd a b)) h := by
  obtain ⟨c', e⟩ := common_loop ev ev.fuel (a.natAbs : Nat) (b.natAbs : Nat) none h (by omega) (by omega) (by unfold Sz at sb; omega)
  have g : gd (a.natAbs : Nat) (b.natAbs : Nat) = gd a b := by unfold gd; simp
  rw [g] at e
  simp [C_common, startD, absI]
  rw [e]
  simp
def C_lowest (cm : Nat) : QSs := .cons (.ife (.v (.cmp .Lt (.var 1) (.con (.int 0)))) (.cons (.asg (.nm 0) (.neg (.var 0)))
  (.cons (.asg (.nm 1) (.neg (.var 1))) .nil)) .nil)
  (.cons (.asg (.nm 2) (.call cm (.cons (.var 0) (.cons (.var 1) .nil)) .nil [.inl (.inl 0), .inl (.inl 1)]))
  (.cons (.ret (.tup (.cons (.bin .FloorDiv (.var 0) (.var 2)) (.cons (.bin .FloorDiv (.var 1) (.var 2)) .nil)))) .nil))
theorem neg_fdiv' (x y : Int) : (-x).fdiv y = x.fdiv (-y) := by
  have := Int.neg_fdiv_neg x (-y)
  rw [Int.neg_neg] at this
  exact this
theorem t_lowest {cm : Nat} (hc : ∀ a b, Sz 8900 b → Giv ev cm [.int a, .int b] (.int (gd a b))) {a b : Int} (hb : b ≠ 0) (sb : Sz 8900 b) : fin h (exSs ev (C_lowest cm) (startD 3 [.int a, .int b]) h) = .ok (rv (Rat.divInt a b)) h := by
  have gp := gd_pos (a := a) hb
  have sg := gd_sz (a := a) hb sb
  have d : ∀ x, divOk x (gd a b) = true := fun x => divOk_sz sg (by omega) (by omega)
  rw [← mkR_rv hb]
  by_cases hlt : b < 0
  · have c := hc (-a) (-b) sb.neg h
    rw [gd_neg] at c
    have e3 : mkR a b = (a.fdiv (-gd a b), b.fdiv (-gd a b)) := if_pos hlt
    simp [C_lowest, startD, e3, hlt, d, c, arrD, neg_fdiv']
  · have c := hc a b sb h
    have e3 : mkR a b = (a.fdiv (gd a b), b.fdiv (gd a b)) := if_neg hlt
    simp [C_lowest, startD, e3, hlt, d, c, arrD]
/-! ### vectors -/
theorem replicate_flat {α : Type} (x : α) : ∀ n : Nat, (List.replicate n [x]).flatten = List.replicate n x
  | 0 => rfl
  | n + 1 => by simp [List.replicate_succ, replicate_flat x n]
def C_zero : QSs := .cons (.ret (.bin .Mult (.tup (.cons (.con (.tup [.int 0, .int 1])) .nil)) (.var 0))) .nil
theorem mul_rep {x : D} {n : Nat} (hn : n ≤ 1000) (h : Hd) : mulV (.tup [x]) (.int n) h = .ok (.tup (List.replicate n x)) h := by
  have : (decide ((n : Int) ≤ 1000) && decide (-1000 ≤ (n : Int)) && decide ([x].length ≤ 1000)) = true := by simp; omega
  show ret _ _ _ = _
  rw [this]
  simp [replicate_flat]
theorem t_zero {n : Nat} (hn : n ≤ 1000) : fin h (exSs ev C_zero (startD 1 [.int n]) h) = .ok (vv (List.replicate n 0)) h := by
  have e : vv (List.replicate n 0) = .tup (List.replicate n (.tup [.int 0, .int 1])) := by
    simp [vv, List.map_replicate, rv_zero]
  have one : decide ((1 : Nat) ≤ line) = true := by decide
  have m := mul_rep (x := .tup [.int 0, .int 1]) hn h
  simp [C_zero, startD, one, e, m]
theorem vlen {α : Type} (r : α → D) (as : List α) (h : Hd) : biV .len [.tup (as.map r)] h = .ok (.int as.length) h := by simp
/-- zipped vectors -/
theorem zip_vv (v w : List Rat) (h : Hd) : zipV (vv v) (vv w) h = .ok ⟨(v.zip w).map fun p => .tup [rv p.1, rv p.2], []⟩ h := by
  unfold vv
  rw [zipV_tup, zip_map]
def C_added (ad : Nat) : QSs := .cons (.ret (.bi .tuple (.cons (.lc (.call ad (.cons (.var 2) (.cons (.var 3) .nil)) .nil [.inl (.inl 0), .inl (.inl 1)]) (.tp [.nm 2, .nm 3]) (.zip (.var 0) (.var 1)) [2, 3] .yes) .nil))) .nil
def addV2 (v w : List Rat) : List Rat := (v.zip w).map fun p => p.1 + p.2
theorem t_added {ad : Nat} {v w : List Rat} (hv : v.length ≤ line) (ha : ∀ p ∈ v.zip w, Giv ev ad [rv p.1, rv p.2] (rv (p.1 + p.2))) : fin h (exSs ev (C_added ad) (startD 4 [vv v, vv w]) h) = .ok (vv (addV2 v w)) h := by
  have l := lc_new (ev := ev) (elt := .call ad (.cons (.var 2) (.cons (.var 3) .nil)) .nil [.inl (.inl 0), .inl (.inl 1)]) (g := .tp [.nm 2, .nm 3]) (it := .zip (.var 0) (.var 1)) (own := [2, 3]) (cond := .yes) (s := [some (vv v), some (vv w), none, none]) (h := h) (fix := []) (φ := fun p : Rat × Rat => .tup [rv p.1, rv p.2]) (r := fun p => rv (p.1 + p.2)) (as := v.zip w) (by simp [zip_vv]) rfl (by simp; omega) (fun p hp => by
      refine ⟨_, by simp [wipeD]; rfl, rfl, ?_⟩
      have c := ha p hp h
      simp [arrD, c])
  have e : vv (addV2 v w) = .tup ((v.zip w).map fun p => rv (p.1 + p.2)) := by simp [vv, addV2]
  simp [C_added, startD, - x_lc, l]
  rw [← e]
  exact fin_app (vv_lt _ _)
def C_scaled (mu : Nat) : QSs := .cons (.ret (.bi .tuple (.cons (.lc (.call mu (.cons (.var 0) (.cons (.var 2) .nil)) .nil [.inl (.inl 0), .inl (.inl 1)]) (.nm 2) (.v (.var 1)) [2] .yes) .nil))) .nil
theorem walk_vv (v : List Rat) (h : Hd) : walkV (vv v) h = .ok ⟨v.map rv, []⟩ h := rfl
theorem walk_mv (m : List (List Rat)) (h : Hd) : walkV (mv m) h = .ok ⟨m.map vv, []⟩ h := rfl
theorem t_scaled {mu : Nat} {f : Rat} {w : List Rat} (hv : w.length ≤ line) (ha : ∀ p ∈ w, Giv ev mu [rv f, rv p] (rv (f * p))) : fin h (exSs ev (C_scaled mu) (startD 3 [rv f, vv w]) h) = .ok (vv (w.map fun p => f * p)) h := by
  have l := lc_new (ev := ev) (elt := .call mu (.cons (.var 0) (.cons (.var 2) .nil)) .nil [.inl (.inl 0), .inl (.inl 1)]) (g := .nm 2) (it := .v (.var 1)) (own := [2]) (cond := .yes) (s := [some (rv f), some (vv w), none]) (h := h) (fix := []) (φ := rv) (r := fun p => rv (f * p)) (as := w) (by simp [walk_vv]) rfl hv (fun p hp => by
      refine ⟨_, by simp [wipeD]; rfl, rfl, ?_⟩
      have c := ha p hp h
      simp [arrD, c])
  have e : vv (w.map fun p => f * p) = .tup (w.map fun p => rv (f * p)) := by simp [vv]
  simp [C_scaled, startD, - x_lc, l]
  rw [← e]
  exact fin_app (vv_lt _ _)
def C_applied (dt : Nat) : QSs := .cons (.ret (.bi .tuple (.cons (.lc (.call dt (.cons (.var 2) (.cons (.var 1) .nil)) .nil [.inl (.inl 0), .inl (.inl 1)]) (.nm 2) (.v (.var 0)) [2] .yes) .nil))) .nil
theorem t_applied {dt : Nat} {M : List (List Rat)} {v : List Rat} {f : List Rat → Rat} (hv : M.length ≤ line) (ha : ∀ r ∈ M, Giv ev dt [vv r, vv v] (rv (f r))) : fin h (exSs ev (C_applied dt) (startD 3 [mv M, vv v]) h) = .ok (vv (M.map f)) h := by
  have l := lc_new (ev := ev) (elt := .call dt (.cons (.var 2) (.cons (.var 1) .nil)) .nil [.inl (.inl 0), .inl (.inl 1)]) (g := .nm 2) (it := .v (.var 0)) (own := [2]) (cond := .yes) (s := [some (mv M), some (vv v), none]) (h := h) (fix := []) (φ := vv) (r := fun p => rv (f p)) (as := M) (by simp [walk_mv]) rfl hv (fun p hp => by
      refine ⟨_, by simp [wipeD]; rfl, rfl, ?_⟩
      have c := ha p hp h
      simp [arrD, c])
  have e : vv (M.map f) = .tup (M.map fun p => rv (f p)) := by simp [vv]
  simp [C_applied, startD, - x_lc, l]
  rw [← e]
  exact fin_app (vv_lt _ _)
end
end PV
/-! PVT2: dot products, columns, combined rows, equality by the law. -/
namespace PV
open PySem
section
variable {ev : Ev} {h : Hd}
theorem eqV_rv (h : Hd) (p q : Rat) : eqV h (rv p) (rv q) = some (decide (p = q)) := by
  have e : (p = q) ↔ (p.num = q.num ∧ (p.den : Int) = q.den) := ⟨fun e => by rw [e]; exact ⟨rfl, rfl⟩, fun ⟨a, b⟩ => Rat.ext a (by omega)⟩
  unfold eqV rv
  simp only [toPyT, toPyF, toPysF, SeqAt.shaped, PyData.eqv, PyData.eqvAll, PyData.canLay0, PyData.canLayAll0, PyData.depth, PyData.depthAll]
  simp only [decide_eq_decide.mpr e]
  by_cases h1 : p.num = q.num
  · by_cases h2 : (p.den : Int) = q.den
    · simp [h1, h2]
    · simp [h1, h2]
  · simp [h1]
@[simp] theorem eqV_rv0 (h : Hd) (p : Rat) : eqV h (rv p) (.tup [.int 0, .int 1]) = some (decide (p = 0)) := eqV_rv h p 0
def dotR (l : List (Rat × Rat)) : Rat := l.foldl (fun s p => s + p.1 * p.2) 0
def C_dot (mk : Nat) : QSs := .cons (.asg (.nm 2) (.con (.int 0)))
  (.cons (.asg (.nm 3) (.con (.int 1)))
  (.cons (.for (.tp [.nm 4, .nm 5]) (.zip (.var 0) (.var 1)) (.cons (.ife (.and (.v (.cmp .NotEq (.idx (.var 4) (.con (.int 0))) (.con (.int 0)))) (.v (.cmp .NotEq (.idx (.var 5) (.con (.int 0))) (.con (.int 0))))) (.cons (.asg (.nm 6) (.bin .Mult (.idx (.var 4) (.con (.int 1))) (.idx (.var 5) (.con (.int 1)))))
  (.cons (.asg (.nm 2) (.bin .Add (.bin .Mult (.var 2) (.var 6)) (.bin .Mult (.bin .Mult (.idx (.var 4) (.con (.int 0))) (.idx (.var 5) (.con (.int 0)))) (.var 3))))
  (.cons (.asg (.nm 3) (.bin .Mult (.var 3) (.var 6))) .nil))) .nil) .nil))
  (.cons (.ret (.call mk (.cons (.var 2) (.cons (.var 3) .nil)) .nil [.inl (.inl 0), .inl (.inl 1)])) .nil)))
def dotB : QSs := .cons (.ife (.and (.v (.cmp .NotEq (.idx (.var 4) (.con (.int 0))) (.con (.int 0)))) (.v (.cmp .NotEq (.idx (.var 5) (.con (.int 0))) (.con (.int 0))))) (.cons (.asg (.nm 6) (.bin .Mult (.idx (.var 4) (.con (.int 1))) (.idx (.var 5) (.con (.int 1)))))
  (.cons (.asg (.nm 2) (.bin .Add (.bin .Mult (.var 2) (.var 6)) (.bin .Mult (.bin .Mult (.idx (.var 4) (.con (.int 0))) (.idx (.var 5) (.con (.int 0)))) (.var 3))))
  (.cons (.asg (.nm 3) (.bin .Mult (.var 3) (.var 6))) .nil))) .nil) .nil
theorem num0 {q : Rat} (h : q.num = 0) : q = 0 := by
  have := rat_eq q
  rw [h, Rat.zero_divInt] at this
  exact this.symm
theorem dot_loop {n L : Nat} (hL : L * (2 * n + 2) ≤ 8800) (v0 v1 : Option D) : ∀ (l : List (Rat × Rat)) (i : Nat) (A B : Int) (s4 s5 s6 : Option D) (x : Rat), (∀ p ∈ l, Qn n p.1 ∧ Qn n p.2) → i + l.length ≤ L → B ≠ 0 → Rat.divInt A B = x → Sz (i * (2 * n + 1) + 1) A → Sz (i * (2 * n + 1) + 1) B →
    ∃ (A' B' : Int) (t4 t5 t6 : Option D), loopF [] (bindG (.tp [.nm 4, .nm 5])) (exSs ev dotB) (l.map fun p => .tup [rv p.1, rv p.2]) [v0, v1, some (.int A), some (.int B), s4, s5, s6] h = .nx [v0, v1, some (.int A'), some (.int B'), t4, t5, t6] h ∧ B' ≠ 0 ∧ Rat.divInt A' B' = l.foldl (fun s p => s + p.1 * p.2) x ∧ Sz 8850 B'
  | [], i, A, B, s4, s5, s6, x, hq, hi, hB, hx, sA, sB => ⟨A, B, s4, s5, s6, loopF_nil rfl, hB, hx, sB.mono (by
      have : i * (2 * n + 1) ≤ L * (2 * n + 1) := Nat.mul_le_mul_right _ (by simpa using hi)
      have : L * (2 * n + 1) ≤ L * (2 * n + 2) := Nat.mul_le_mul_left _ (by omega)
      omega)⟩
  | p :: l, i, A, B, s4, s5, s6, x, hq, hi, hB, hx, sA, sB => by
    obtain ⟨q1, q2⟩ := hq p List.mem_cons_self
    have hi' : i + 1 + l.length ≤ L := by simp at hi; omega
    have hl := fun y hy => hq y (List.mem_cons_of_mem p hy)
    have b1 : (i + 1) * (2 * n + 1) ≤ L * (2 * n + 1) := Nat.mul_le_mul_right _ (by omega)
    have b2 : L * (2 * n + 1) ≤ L * (2 * n + 2) := Nat.mul_le_mul_left _ (by omega)
    have e1 : (i + 1) * (2 * n + 1) + 1 = i * (2 * n + 1) + 1 + (2 * n + 1) := by rw [Nat.add_mul]; omega
    have e0 : bindG (.tp [.nm 4, .nm 5]) (.tup [rv p.1, rv p.2]) [v0, v1, some (.int A), some (.int B), s4, s5, s6] = some [v0, v1, some (.int A), some (.int B), some (rv p.1), some (rv p.2), s6] := by simp
    have skip : p.1 * p.2 = 0 → exSs ev dotB [v0, v1, some (.int A), some (.int B), some (rv p.1), some (rv p.2), s6] h = .nx [v0, v1, some (.int A), some (.int B), some (rv p.1), some (rv p.2), s6] h → ∃ (A' B' : Int) (t4 t5 t6 : Option D), loopF [] (bindG (.tp [.nm 4, .nm 5])) (exSs ev dotB) ((p :: l).map fun p => .tup [rv p.1, rv p.2]) [v0, v1, some (.int A), some (.int B), s4, s5, s6] h = .nx [v0, v1, some (.int A'), some (.int B'), t4, t5, t6] h ∧ B' ≠ 0 ∧ Rat.divInt A' B' = (p :: l).foldl (fun s p => s + p.1 * p.2) x ∧ Sz 8850 B' := fun z eb => by
      obtain ⟨A', B', t4, t5, t6, r1, r2, r3, r4⟩ := dot_loop hL v0 v1 l (i + 1) A B (some (rv p.1)) (some (rv p.2)) s6 x hl hi' hB hx (sA.mono (by omega)) (sB.mono (by omega))
      refine ⟨A', B', t4, t5, t6, ?_, r2, ?_, r4⟩
      · rw [List.map_cons, loopF_go rfl e0 eb]
        exact r1
      · rw [r3, List.foldl_cons, z, Rat.add_zero]
    by_cases z1 : p.1.num = 0
    · exact skip (by rw [num0 z1, Rat.zero_mul]) (by simp [dotB, z1])
    · by_cases z2 : p.2.num = 0
      · exact skip (by rw [num0 z2, Rat.mul_zero]) (by simp [dotB, z1, z2])
      · have s1 := q1.2.mul q2.2
        have s2 := sA.mul s1
        have s3 := q1.1.mul q2.1
        have s4' := s3.mul sB
        have m1 : mulOk (p.1.den : Int) p.2.den = true := mulOk_sz q1.2 q2.2 (by omega)
        have m2 : mulOk A ((p.1.den : Int) * p.2.den) = true := mulOk_sz sA s1 (by omega)
        have m3 : mulOk p.1.num p.2.num = true := mulOk_sz q1.1 q2.1 (by omega)
        have m4 : mulOk (p.1.num * p.2.num) B = true := mulOk_sz s3 sB (by omega)
        have m5 : mulOk B ((p.1.den : Int) * p.2.den) = true := mulOk_sz sB s1 (by omega)
        have sc : ((p.1.den : Int) * p.2.den) ≠ 0 := Int.mul_ne_zero (den0 _) (den0 _)
        obtain ⟨A', B', t4, t5, t6, r1, r2, r3, r4⟩ := dot_loop hL v0 v1 l (i + 1) (A * ((p.1.den : Int) * p.2.den) + p.1.num * p.2.num * B) (B * ((p.1.den : Int) * p.2.den)) (some (rv p.1)) (some (rv p.2)) (some (.int ((p.1.den : Int) * p.2.den))) (x + p.1 * p.2) hl hi' (Int.mul_ne_zero hB sc) (by
          rw [← hx, ← rat_mul, Rat.divInt_add_divInt _ _ hB sc]) ((s2.add s4').mono (by rw [e1]; omega)) ((sB.mul s1).mono (by rw [e1]; omega))
        refine ⟨A', B', t4, t5, t6, ?_, r2, r3, r4⟩
        rw [List.map_cons, loopF_go rfl e0 (s2 := [v0, v1, some (.int (A * ((p.1.den : Int) * p.2.den) + p.1.num * p.2.num * B)), some (.int (B * ((p.1.den : Int) * p.2.den))), some (rv p.1), some (rv p.2), some (.int ((p.1.den : Int) * p.2.den))]) (h2 := h) (by simp [dotB, z1, z2, m1, m2, m3, m4, m5])]
        exact r1
theorem t_dot {mk : Nat} (hm : MakesR ev mk) {v w : List Rat} {n L : Nat} (hq : ∀ p ∈ v.zip w, Qn n p.1 ∧ Qn n p.2) (hl : (v.zip w).length ≤ L) (hL : L * (2 * n + 2) ≤ 8800) : fin h (exSs ev (C_dot mk) (startD 7 [vv v, vv w]) h) = .ok (rv (dotR (v.zip w))) h := by
  have z0 : Sz (0 * (2 * n + 1) + 1) 0 := by unfold Sz; simp
  have z1 : Sz (0 * (2 * n + 1) + 1) 1 := by unfold Sz; simp
  obtain ⟨A, B, t4, t5, t6, r1, r2, r3, r4⟩ := dot_loop (ev := ev) (h := h) hL (some (vv v)) (some (vv w)) (v.zip w) 0 0 1 none none none 0 hq (by simpa using hl) (by decide) (by simp) z0 z1
  have c := hm A B r2 (r4.mono (by decide)) h
  rw [r3] at c
  simp [C_dot, startD, zip_vv]
  unfold dotB at r1
  rw [r1]
  simp [arrD, c]
  rfl
/-! ### items by place -/
theorem idx_map {α : Type} (r : α → D) (as : List α) (j : Nat) (hj : j < as.length) (h : Hd) : idxV (.tup (as.map r)) (.int j) h = .ok (r as[j]) h := by
  simp [idxV, L2.atI, L2.ixN, hj]
theorem rng_range : ∀ (n lo : Nat), rng (lo : Int) 1 n = (List.range' lo n).map fun j => .int (j : Int)
  | 0, lo => rfl
  | n + 1, lo => by
    rw [List.range'_succ, List.map_cons, ← rng_range n (lo + 1)]
    show D.int lo :: rng ((lo : Int) + 1) 1 n = _
    rw [Int.natCast_add]
    rfl
theorem rngV_n {n : Nat} (hn : n ≤ 1000000) (h : Hd) : rngV [.int (n : Int)] h = .ok ⟨(List.range n).map fun j : Nat => .int (j : Int), []⟩ h := by
  have sm := small_nat hn
  have e : (List.range n).map (fun j : Nat => D.int (j : Int)) = rng 0 1 n := by
    rw [List.range_eq_range', ← rng_range n 0]
    rfl
  rw [e]
  simp only [rngV, sm, ret_true, Int.toNat_natCast]
def C_column : QSs := .cons (.ret (.bi .tuple (.cons (.lc (.idx (.var 2) (.var 1)) (.nm 2) (.v (.var 0)) [2] .yes) .nil))) .nil
theorem t_column {M : List (List Rat)} {j : Nat} (hM : M.length ≤ line) (hj : ∀ r ∈ M, j < r.length) : fin h (exSs ev C_column (startD 3 [mv M, .int j]) h) = .ok (vv (M.map fun r => r.getD j 0)) h := by
  simp only [List.getD_eq_getElem?_getD]
  have l := lc_new (ev := ev) (elt := .idx (.var 2) (.var 1)) (g := .nm 2) (it := .v (.var 0)) (own := [2]) (cond := .yes) (s := [some (mv M), some (.int j), none]) (h := h) (fix := []) (φ := vv) (r := fun r => rv (r[j]?.getD 0)) (as := M) (by simp [walk_mv]) rfl hM (fun r hr => by
      refine ⟨_, by simp [wipeD]; rfl, rfl, ?_⟩
      have := idx_map rv r j (hj r hr) h
      simp [vv, this, hj r hr])
  have e : vv (M.map fun r => r[j]?.getD 0) = .tup (M.map fun r => rv (r[j]?.getD 0)) := by simp [vv]
  simp [C_column, startD, - x_lc, l]
  rw [← e]
  exact fin_app (vv_lt _ _)
def C_transposed (cl : Nat) : QSs := .cons (.ret (.bi .tuple (.cons (.lc (.call cl (.cons (.var 0) (.cons (.var 1) .nil)) .nil [.inl (.inl 0), .inl (.inl 1)]) (.nm 1) (.rng1 (.bi .len (.cons (.idx (.var 0) (.con (.int 0))) .nil))) [1] .yes) .nil))) .nil
theorem t_transposed {cl c : Nat} {M : List (List Rat)} {f : Nat → List Rat} (h0 : ∃ r, M[0]? = some r ∧ r.length = c) (hc : c ≤ 1000) (hf : ∀ j, j < c → Giv ev cl [mv M, .int j] (vv (f j))) : fin h (exSs ev (C_transposed cl) (startD 2 [mv M]) h) = .ok (mv ((List.range c).map f)) h := by
  obtain ⟨r0, e0, e1⟩ := h0
  have i0 : idxV (mv M) (.int 0) h = .ok (vv r0) h := by
    have hl := (List.getElem?_eq_some_iff.mp e0)
    obtain ⟨hl, e⟩ := hl
    have := idx_map vv M 0 hl h
    rw [e] at this
    exact this
  have ln : biV .len [vv r0] h = .ok (.int (c : Int)) h := by
    unfold vv
    rw [vlen, e1]
  have l := lc_new (ev := ev) (elt := .call cl (.cons (.var 0) (.cons (.var 1) .nil)) .nil [.inl (.inl 0), .inl (.inl 1)]) (g := .nm 1) (it := .rng1 (.bi .len (.cons (.idx (.var 0) (.con (.int 0))) .nil))) (own := [1]) (cond := .yes) (s := [some (mv M), none]) (h := h) (fix := []) (φ := fun j : Nat => .int (j : Int)) (r := fun j => vv (f j)) (as := List.range c) (by
      simp [i0, ln, rngV_n (show c ≤ 1000000 by omega) h]) rfl (line_ok (by simp only [List.length_range]; omega)) (fun j hj => by
      refine ⟨_, by simp [wipeD]; rfl, rfl, ?_⟩
      have c := hf j (List.mem_range.mp hj) h
      simp [arrD, c])
  have e : mv ((List.range c).map f) = .tup ((List.range c).map fun j => vv (f j)) := by simp [mv]
  simp [C_transposed, startD, - x_lc, l]
  rw [← e]
  exact fin_app (mv_lt _ _)
/-- rows combined -/
def combR (acc : List Rat) (l : List (Rat × List Rat)) : List Rat := l.foldl (fun acc p => addV2 acc (p.2.map fun q => p.1 * q)) acc
def combB (ad sc : Nat) : QSs := .cons (.ife (.v (.cmp .NotEq (.var 3) (.con (.tup [.int 0, .int 1])))) (.cons (.asg (.nm 2) (.call ad (.cons (.var 2) (.cons (.call sc (.cons (.var 3) (.cons (.var 4) .nil)) .nil [.inl (.inl 0), .inl (.inl 1)]) .nil)) .nil [.inl (.inl 0), .inl (.inl 1)])) .nil) .nil) .nil
def C_combined (ze ad sc : Nat) : QSs := .cons (.asg (.nm 2) (.call ze (.cons (.bi .len (.cons (.idx (.var 1) (.con (.int 0))) .nil)) .nil) .nil [.inl (.inl 0)]))
  (.cons (.for (.tp [.nm 3, .nm 4]) (.zip (.var 0) (.var 1)) (combB ad sc))
  (.cons (.ret (.var 2)) .nil))
theorem addV2_zero : ∀ {acc w : List Rat}, acc.length = w.length → addV2 acc (w.map fun q => 0 * q) = acc
  | [], [], _ => rfl
  | a :: acc, b :: w, e => by
    have ih := addV2_zero (acc := acc) (w := w) (by simpa using e)
    show (a + 0 * b) :: addV2 acc (w.map fun q => 0 * q) = _
    rw [ih, Rat.zero_mul, Rat.add_zero]
  | [], _ :: _, e => by simp at e
  | _ :: _, [], e => by simp at e
theorem addV2_len (v w : List Rat) : (addV2 v w).length = min v.length w.length := by simp [addV2]
theorem comb_loop {ad sc c L : Nat} (v0 v1 : Option D) (P : Nat → List Rat → Prop) : ∀ (l : List (Rat × List Rat)) (i : Nat) (acc : List Rat) (s3 s4 : Option D), i + l.length ≤ L → P i acc → acc.length = c → (∀ p ∈ l, p.2.length = c) →
    (∀ j acc, ∀ p ∈ l, j < L → P j acc → acc.length = c → Giv ev sc [rv p.1, vv p.2] (vv (p.2.map fun q => p.1 * q)) ∧ Giv ev ad [vv acc, vv (p.2.map fun q => p.1 * q)] (vv (addV2 acc (p.2.map fun q => p.1 * q))) ∧ P (j + 1) (addV2 acc (p.2.map fun q => p.1 * q))) →
    ∃ t3 t4 : Option D, loopF [] (bindG (.tp [.nm 3, .nm 4])) (exSs ev (combB ad sc)) (l.map fun p => .tup [rv p.1, vv p.2]) [v0, v1, some (vv acc), s3, s4] h = .nx [v0, v1, some (vv (combR acc l)), t3, t4] h
  | [], i, acc, s3, s4, _, _, _, _, _ => ⟨s3, s4, loopF_nil rfl⟩
  | p :: l, i, acc, s3, s4, hi, hp, hl, hr, hc => by
    have hi' : i + 1 + l.length ≤ L := by simp at hi; omega
    obtain ⟨c1, c2, c3⟩ := hc i acc p List.mem_cons_self (by omega) hp hl
    have e0 : bindG (.tp [.nm 3, .nm 4]) (.tup [rv p.1, vv p.2]) [v0, v1, some (vv acc), s3, s4] = some [v0, v1, some (vv acc), some (rv p.1), some (vv p.2)] := by simp
    have hc' := fun j acc q hq => hc j acc q (List.mem_cons_of_mem p hq)
    have hr' := fun q hq => hr q (List.mem_cons_of_mem p hq)
    have key : exSs ev (combB ad sc) [v0, v1, some (vv acc), some (rv p.1), some (vv p.2)] h = .nx [v0, v1, some (vv (addV2 acc (p.2.map fun q => p.1 * q))), some (rv p.1), some (vv p.2)] h := by
      by_cases z : p.1 = 0
      · have e := addV2_zero (acc := acc) (w := p.2) (by rw [hl, hr p List.mem_cons_self])
        rw [z, e]
        have z' : eqV h (rv 0) (.tup [.int 0, .int 1]) = some true := by rw [eqV_rv0]; simp
        simp [combB, z']
      · simp [combB, z, arrD, c1 h, c2 h]
    obtain ⟨t3, t4, r⟩ := comb_loop v0 v1 P l (i + 1) (addV2 acc (p.2.map fun q => p.1 * q)) (some (rv p.1)) (some (vv p.2)) hi' c3 (by rw [addV2_len, hl, List.length_map, hr p List.mem_cons_self, Nat.min_self]) hr' hc'
    refine ⟨t3, t4, ?_⟩
    rw [List.map_cons, loopF_go rfl e0 key]
    exact r
theorem t_combined {ze ad sc c L : Nat} {v : List Rat} {M : List (List Rat)} (h0 : ∃ r, M[0]? = some r ∧ r.length = c) (hr : ∀ r ∈ M, r.length = c) (hz : Giv ev ze [.int (c : Int)] (vv (List.replicate c 0))) (P : Nat → List Rat → Prop) (p0 : P 0 (List.replicate c 0)) (hL : (v.zip M).length ≤ L)
    (hc : ∀ j acc, ∀ p ∈ v.zip M, j < L → P j acc → acc.length = c → Giv ev sc [rv p.1, vv p.2] (vv (p.2.map fun q => p.1 * q)) ∧ Giv ev ad [vv acc, vv (p.2.map fun q => p.1 * q)] (vv (addV2 acc (p.2.map fun q => p.1 * q))) ∧ P (j + 1) (addV2 acc (p.2.map fun q => p.1 * q))) :
    fin h (exSs ev (C_combined ze ad sc) (startD 5 [vv v, mv M]) h) = .ok (vv (combR (List.replicate c 0) (v.zip M))) h := by
  obtain ⟨r0, e0, e1⟩ := h0
  have i0 : idxV (mv M) (.int 0) h = .ok (vv r0) h := by
    obtain ⟨hl, e⟩ := List.getElem?_eq_some_iff.mp e0
    have := idx_map vv M 0 hl h
    rw [e] at this
    exact this
  have ln : biV .len [vv r0] h = .ok (.int (c : Int)) h := by
    unfold vv
    rw [vlen, e1]
  have zp : zipV (vv v) (mv M) h = .ok ⟨(v.zip M).map fun p => .tup [rv p.1, vv p.2], []⟩ h := by
    unfold vv mv
    rw [zipV_tup, zip_map]
    rfl
  obtain ⟨t3, t4, r⟩ := comb_loop (ev := ev) (h := h) (ad := ad) (sc := sc) (c := c) (some (vv v)) (some (mv M)) P (v.zip M) 0 (List.replicate c 0) none none (by simpa using hL) p0 (by simp) (fun p hp => hr p.2 (List.of_mem_zip hp).2) hc
  simp [C_combined, startD, i0, ln, arrD, hz h, zp, r]
def C_multiplied (cb : Nat) : QSs := .cons (.ret (.bi .tuple (.cons (.lc (.call cb (.cons (.var 2) (.cons (.var 1) .nil)) .nil [.inl (.inl 0), .inl (.inl 1)]) (.nm 2) (.v (.var 0)) [2] .yes) .nil))) .nil
theorem t_multiplied {cb : Nat} {M N : List (List Rat)} {f : List Rat → List Rat} (hv : M.length ≤ line) (ha : ∀ r ∈ M, Giv ev cb [vv r, mv N] (vv (f r))) : fin h (exSs ev (C_multiplied cb) (startD 3 [mv M, mv N]) h) = .ok (mv (M.map f)) h := by
  have l := lc_new (ev := ev) (elt := .call cb (.cons (.var 2) (.cons (.var 1) .nil)) .nil [.inl (.inl 0), .inl (.inl 1)]) (g := .nm 2) (it := .v (.var 0)) (own := [2]) (cond := .yes) (s := [some (mv M), some (mv N), none]) (h := h) (fix := []) (φ := vv) (r := fun p => vv (f p)) (as := M) (by simp [walk_mv]) rfl hv (fun p hp => by
      refine ⟨_, by simp [wipeD]; rfl, rfl, ?_⟩
      have c := ha p hp h
      simp [arrD, c])
  have e : mv (M.map f) = .tup (M.map fun p => vv (f p)) := by simp [mv]
  simp [C_multiplied, startD, - x_lc, l]
  rw [← e]
  exact fin_app (mv_lt _ _)
/-! ### unit vectors -/
def unitR (n i : Nat) : List Rat := List.replicate i 0 ++ [1] ++ List.replicate (n - i - 1) 0
def C_unit (ze : Nat) : QSs := .cons (.ret (.bin .Add (.bin .Add (.call ze (.cons (.var 1) .nil) .nil [.inl (.inl 0)]) (.tup (.cons (.con (.tup [.int 1, .int 1])) .nil))) (.call ze (.cons (.bin .Sub (.bin .Sub (.var 0) (.var 1)) (.con (.int 1))) .nil) .nil [.inl (.inl 0)]))) .nil
theorem addV_vv (v w : List Rat) (hl : v.length + w.length ≤ 1000000) (h : Hd) : addV (vv v) (vv w) h = .ok (vv (v ++ w)) h := by
  have : decide ((v.map rv).length + (w.map rv).length ≤ line) = true := decide_eq_true (by
    simp only [List.length_map]
    show v.length + w.length ≤ 16777216
    omega)
  show ret _ (D.tup (v.map rv ++ w.map rv)) h = _
  rw [this]
  simp [vv]
theorem t_unit {ze n i : Nat} (hi : i < n) (hn : n ≤ 1000) (hz : ∀ m : Nat, m ≤ 1000 → Giv ev ze [.int (m : Int)] (vv (List.replicate m 0))) : fin h (exSs ev (C_unit ze) (startD 2 [.int (n : Int), .int (i : Int)]) h) = .ok (vv (unitR n i)) h := by
  have z1 := hz i (by omega) h
  have z2 := hz (n - i - 1) (by omega) h
  have e : (n : Int) - i - 1 = ((n - i - 1 : Nat) : Int) := by omega
  have one : decide ((1 : Nat) ≤ line) = true := by decide
  have o : D.tup [D.tup [.int 1, .int 1]] = vv [1] := rfl
  have a1 := addV_vv (List.replicate i 0) [1] (by simp; omega) h
  have a2 := addV_vv (List.replicate i 0 ++ [1]) (List.replicate (n - i - 1) 0) (by simp; omega) h
  simp [C_unit, startD, arrD, z1, one, e, o, a1, - List.append_assoc]
  rw [z2]
  simp only [bind_ok, y_bin2_, binV_add, a2, st_ok, andS_rt, fin_rt]
  rfl
def C_identity (un : Nat) : QSs := .cons (.ret (.bi .tuple (.cons (.lc (.call un (.cons (.var 0) (.cons (.var 1) .nil)) .nil [.inl (.inl 0), .inl (.inl 1)]) (.nm 1) (.rng1 (.var 0)) [1] .yes) .nil))) .nil
theorem t_identity {un n : Nat} (hn : n ≤ 1000) (hu : ∀ i, i < n → Giv ev un [.int (n : Int), .int (i : Int)] (vv (unitR n i))) : fin h (exSs ev (C_identity un) (startD 2 [.int (n : Int)]) h) = .ok (mv ((List.range n).map (unitR n))) h := by
  have l := lc_new (ev := ev) (elt := .call un (.cons (.var 0) (.cons (.var 1) .nil)) .nil [.inl (.inl 0), .inl (.inl 1)]) (g := .nm 1) (it := .rng1 (.var 0)) (own := [1]) (cond := .yes) (s := [some (.int (n : Int)), none]) (h := h) (fix := []) (φ := fun j : Nat => .int (j : Int)) (r := fun j => vv (unitR n j)) (as := List.range n) (by
      simp [rngV_n (show n ≤ 1000000 by omega) h]) rfl (line_ok (by simp only [List.length_range]; omega)) (fun j hj => by
      refine ⟨_, by simp [wipeD]; rfl, rfl, ?_⟩
      have c := hu j (List.mem_range.mp hj) h
      simp [arrD, c])
  have e : mv ((List.range n).map (unitR n)) = .tup ((List.range n).map fun j => vv (unitR n j)) := by simp [mv]
  simp [C_identity, startD, - x_lc, l]
  rw [← e]
  exact fin_app (mv_lt _ _)
/-! ### equal by the law's own way -/
def C_same (sm : Nat) : QSs := .cons (.ife (.v (.isi (.var 1) .tuple)) (.cons (.ife (.or (.not (.v (.isi (.var 0) .tuple))) (.v (.cmp .NotEq (.bi .len (.cons (.var 0) .nil)) (.bi .len (.cons (.var 1) .nil))))) (.cons (.ret (.con (.bl false))) .nil) .nil)
  (.cons (.ret (.bi .all (.cons (.lc (.call sm (.cons (.idx (.var 0) (.var 2)) (.cons (.idx (.var 1) (.var 2)) .nil)) .nil [.inl (.inl 0), .inl (.inl 1)]) (.nm 2) (.rng1 (.bi .len (.cons (.var 1) .nil))) [2] .yes) .nil))) .nil)) .nil)
  (.cons (.ife (.v (.cmp .Is (.var 1) (.con .non))) (.cons (.ret (.cmp .Is (.var 0) (.con .non))) .nil) .nil)
  (.cons (.ife (.v (.isi (.var 1) .str)) (.cons (.ret (.andv (.isi (.var 0) .str) (.cmp .Eq (.var 0) (.var 1)))) .nil) .nil)
  (.cons (.ife (.v (.isi (.var 1) .bool)) (.cons (.ret (.andv (.isi (.var 0) .bool) (.cmp .Eq (.var 0) (.var 1)))) .nil) .nil)
  (.cons (.ret (.andv (.isi (.var 0) .int) (.andv (.nott (.isi (.var 0) .bool)) (.cmp .Eq (.var 0) (.var 1))))) .nil))))
theorem t_same_int {sm : Nat} {i : Int} : fin h (exSs ev (C_same sm) (startD 3 [.int i, .int i]) h) = .ok (.bl true) h := by
  simp [C_same, startD]
theorem t_same_tup {sm : Nat} {α : Type} {r : α → D} {as : List α} (hl : as.length ≤ 1000000) (hs : ∀ a ∈ as, Giv ev sm [r a, r a] (.bl true)) : fin h (exSs ev (C_same sm) (startD 3 [.tup (as.map r), .tup (as.map r)]) h) = .ok (.bl true) h := by
  have l := lc_new (ev := ev) (elt := .call sm (.cons (.idx (.var 0) (.var 2)) (.cons (.idx (.var 1) (.var 2)) .nil)) .nil [.inl (.inl 0), .inl (.inl 1)]) (g := .nm 2) (it := .rng1 (.bi .len (.cons (.var 1) .nil))) (own := [2]) (cond := .yes) (s := [some (.tup (as.map r)), some (.tup (as.map r)), none]) (h := h) (fix := []) (φ := fun j : Nat => .int (j : Int)) (r := fun j => .bl ((fun _ => true) j)) (as := List.range as.length) (by
      simp [rngV_n hl h]) rfl (line_ok (by simpa using hl)) (fun j hj => by
      refine ⟨_, by simp [wipeD]; rfl, rfl, ?_⟩
      have hj := List.mem_range.mp hj
      have c := hs as[j] (List.getElem_mem hj) h
      have ix := idx_map r as j hj h
      simp [arrD, ix, c])
  have a := all_new h (List.range as.length) (fun _ => true)
  simp [C_same, startD, - x_lc, l]
  rw [a]
  simp
  rw [show ((List.range as.length).all fun _ => true) = true from List.all_eq_true.mpr fun _ _ => rfl]
  exact fin_app rfl
end
end PV
/-! PVQ: vectors and matrices by places; sums. -/
namespace PV
open PySem
def sumN (f : Nat → Rat) : Nat → Rat
  | 0 => 0
  | n + 1 => sumN f n + f n
theorem sumN_congr {f g : Nat → Rat} : ∀ {n : Nat}, (∀ i, i < n → f i = g i) → sumN f n = sumN g n
  | 0, _ => rfl
  | n + 1, h => by
    show sumN f n + f n = sumN g n + g n
    rw [sumN_congr fun i hi => h i (by omega), h n (by omega)]
theorem sumN_add (f g : Nat → Rat) : ∀ n : Nat, sumN (fun i => f i + g i) n = sumN f n + sumN g n
  | 0 => by simp [sumN, Rat.add_zero]
  | n + 1 => by
    show sumN _ n + (f n + g n) = sumN f n + f n + (sumN g n + g n)
    rw [sumN_add f g n]
    grind
theorem sumN_mul (c : Rat) (f : Nat → Rat) : ∀ n : Nat, sumN (fun i => c * f i) n = c * sumN f n
  | 0 => by simp [sumN, Rat.mul_zero]
  | n + 1 => by
    show sumN _ n + c * f n = c * (sumN f n + f n)
    rw [sumN_mul c f n]
    grind
theorem sumN_mul' (c : Rat) (f : Nat → Rat) (n : Nat) : sumN (fun i => f i * c) n = sumN f n * c := by
  rw [Rat.mul_comm (sumN f n) c, ← sumN_mul]
  exact sumN_congr fun i _ => Rat.mul_comm _ _
theorem sumN_zero : ∀ n : Nat, sumN (fun _ => 0) n = 0
  | 0 => rfl
  | n + 1 => by
    show sumN _ n + 0 = 0
    rw [sumN_zero n, Rat.add_zero]
theorem sumN_comm (f : Nat → Nat → Rat) (m : Nat) : ∀ n : Nat, sumN (fun i => sumN (fun j => f i j) m) n = sumN (fun j => sumN (fun i => f i j) n) m
  | 0 => (sumN_zero m).symm
  | n + 1 => by
    show sumN _ n + sumN (fun j => f n j) m = _
    rw [sumN_comm f m n, ← sumN_add]
    rfl
theorem sumN_one (f : Nat → Rat) (j : Nat) : ∀ n : Nat, sumN (fun i => (if i = j then 1 else 0) * f i) n = if j < n then f j else 0
  | 0 => by simp [sumN]
  | n + 1 => by
    show sumN _ n + (if n = j then 1 else 0) * f n = _
    rw [sumN_one f j n]
    by_cases h : n = j
    · subst h
      rw [if_neg (Nat.lt_irrefl n), if_pos rfl, if_pos (Nat.lt_succ_self n)]
      grind
    · rw [if_neg h]
      by_cases h2 : j < n
      · rw [if_pos h2, if_pos (by omega)]
        grind
      · rw [if_neg h2, if_neg (by omega)]
        grind
def vec (n : Nat) (f : Nat → Rat) : List Rat := (List.range n).map f
def mat (r c : Nat) (f : Nat → Nat → Rat) : List (List Rat) := (List.range r).map fun i => vec c (f i)
@[simp] theorem vec_len (n : Nat) (f : Nat → Rat) : (vec n f).length = n := by simp [vec]
@[simp] theorem mat_len (r c : Nat) (f : Nat → Nat → Rat) : (mat r c f).length = r := by simp [mat]
theorem vec_of {n : Nat} {v : List Rat} (h : v.length = n) : v = vec n (fun i => v.getD i 0) := by
  apply List.ext_getElem
  · simp [h]
  · intro i h1 h2
    simp [vec, h1]
theorem mat_of {r c : Nat} {M : List (List Rat)} (h : M.length = r) (hr : ∀ row ∈ M, row.length = c) : M = mat r c (fun i j => (M.getD i []).getD j 0) := by
  apply List.ext_getElem
  · simp [h]
  · intro i h1 h2
    have := vec_of (hr M[i] (List.getElem_mem h1))
    simp only [mat, List.getElem_map, List.getElem_range]
    simp only [List.getD_eq_getElem?_getD] at this ⊢
    rw [List.getElem?_eq_getElem h1]
    exact this
theorem vec_congr {n : Nat} {f g : Nat → Rat} (h : ∀ i, i < n → f i = g i) : vec n f = vec n g := by
  unfold vec
  exact List.map_congr_left fun i hi => h i (List.mem_range.mp hi)
theorem mat_congr {r c : Nat} {f g : Nat → Nat → Rat} (h : ∀ i j, i < r → j < c → f i j = g i j) : mat r c f = mat r c g := by
  unfold mat
  exact List.map_congr_left fun i hi => vec_congr fun j hj => h i j (List.mem_range.mp hi) hj
theorem mat_row {r c : Nat} {f : Nat → Nat → Rat} {row : List Rat} (h : row ∈ mat r c f) : ∃ i, i < r ∧ row = vec c (f i) := by
  obtain ⟨i, hi, e⟩ := List.mem_map.mp h
  exact ⟨i, List.mem_range.mp hi, e.symm⟩
theorem mat_map {r c c' : Nat} {f g : Nat → Nat → Rat} {F : List Rat → List Rat} (h : ∀ i, i < r → F (vec c (f i)) = vec c' (g i)) : (mat r c f).map F = mat r c' g := by
  unfold mat
  rw [List.map_map]
  exact List.map_congr_left fun i hi => h i (List.mem_range.mp hi)
theorem mat_mapv {r c : Nat} {f : Nat → Nat → Rat} {g : Nat → Rat} {F : List Rat → Rat} (h : ∀ i, i < r → F (vec c (f i)) = g i) : (mat r c f).map F = vec r g := by
  unfold mat vec
  rw [List.map_map]
  exact List.map_congr_left fun i hi => h i (List.mem_range.mp hi)
theorem range_zip {α β : Type} (f : Nat → α) (g : Nat → β) (n : Nat) : ((List.range n).map f).zip ((List.range n).map g) = (List.range n).map fun i => (f i, g i) := by
  rw [List.zip_map]
  apply List.ext_getElem
  · simp
  · intro i h1 h2
    simp
theorem foldl_sum (f : Nat → Rat) : ∀ n : Nat, (List.range n).foldl (fun s i => s + f i) 0 = sumN f n
  | 0 => rfl
  | n + 1 => by
    rw [List.range_succ, List.foldl_append, foldl_sum f n]
    rfl
theorem dot_vec (n : Nat) (f g : Nat → Rat) : dotR ((vec n f).zip (vec n g)) = sumN (fun i => f i * g i) n := by
  unfold dotR vec
  rw [range_zip, List.foldl_map]
  exact foldl_sum (fun i => f i * g i) n
theorem addV2_vec (n : Nat) (f g : Nat → Rat) : addV2 (vec n f) (vec n g) = vec n fun i => f i + g i := by
  unfold addV2 vec
  rw [range_zip, List.map_map]
  rfl
theorem scale_vec (n : Nat) (c : Rat) (f : Nat → Rat) : (vec n f).map (fun q => c * q) = vec n fun i => c * f i := by
  unfold vec
  rw [List.map_map]
  rfl
theorem zero_vec (n : Nat) : List.replicate n (0 : Rat) = vec n fun _ => 0 := by
  unfold vec
  simp [List.map_const']
theorem comb_vec (c : Nat) (f : Nat → Rat) (g : Nat → Nat → Rat) : ∀ r : Nat, combR (List.replicate c 0) ((vec r f).zip (mat r c g)) = vec c fun j => sumN (fun i => f i * g i j) r
  | 0 => by
    show List.replicate c 0 = _
    rw [zero_vec]
    rfl
  | r + 1 => by
    have ih := comb_vec c f g r
    unfold combR at *
    unfold vec mat at *
    rw [range_zip, List.foldl_map] at *
    rw [List.range_succ, List.foldl_append, ih]
    show addV2 (vec c fun j => sumN (fun i => f i * g i j) r) ((vec c (g r)).map fun q => f r * q) = _
    rw [scale_vec, addV2_vec]
    rfl
theorem col_vec {r c : Nat} {g : Nat → Nat → Rat} {j : Nat} (hj : j < c) : (mat r c g).map (fun row => row.getD j 0) = vec r fun i => g i j :=
  mat_mapv fun i hi => by simp [vec, hj]
theorem trans_mat {r c : Nat} {g : Nat → Nat → Rat} : (List.range c).map (fun j => (mat r c g).map fun row => row.getD j 0) = mat c r fun j i => g i j := by
  unfold mat
  exact List.map_congr_left fun j hj => col_vec (List.mem_range.mp hj)
theorem unit_vec {n i : Nat} (hi : i < n) : unitR n i = vec n fun j => if j = i then 1 else 0 := by
  unfold unitR
  apply List.ext_getElem
  · simp; omega
  · intro j h1 h2
    simp only [vec, List.getElem_map, List.getElem_range]
    by_cases h : j < i
    · rw [List.getElem_append_left (by simp; omega), List.getElem_append_left (by simpa using h)]
      simp
      omega
    · by_cases e : j = i
      · subst e
        rw [List.getElem_append_left (by simp), List.getElem_append_right (by simp)]
        simp
      · rw [List.getElem_append_right (by simp; omega)]
        simp [e]
end PV
/-! PVW: the plain side by what shall hold behind a step (WpE, WpS); simp walks the code and stops at loops. -/
namespace PV
open PySem
def WpE {α : Type} (o : Out α) (Q : α → Hd → Prop) (X : Exn → Hd → Prop) : Prop := match o with
  | .ok a h => Q a h
  | .ex e h => X e h
  | .no => False
structure Po where
  nx : Sl → Hd → Prop
  rt : D → Hd → Prop
  bk : Sl → Hd → Prop
  ct : Sl → Hd → Prop
  ex : Exn → Sl → Hd → Prop
def WpS (o : SOut) (P : Po) : Prop := match o with
  | .nx s h => P.nx s h
  | .rt d h => P.rt d h
  | .bk s h => P.bk s h
  | .ct s h => P.ct s h
  | .ex e s h => P.ex e s h
  | .no => False
section
variable {α β : Type} {Q : β → Hd → Prop} {X : Exn → Hd → Prop} {P : Po}
@[simp] theorem WpE_ok {Q : α → Hd → Prop} (a : α) (h : Hd) : WpE (.ok a h) Q X = Q a h := rfl
@[simp] theorem WpE_ex {Q : α → Hd → Prop} (e : Exn) (h : Hd) : WpE (.ex e h) Q X = X e h := rfl
def KE (f : α → Hd → Out β) (Q : β → Hd → Prop) (X : Exn → Hd → Prop) (a : α) (h : Hd) : Prop := WpE (f a h) Q X
@[simp] theorem KE_ (f : α → Hd → Out β) (a : α) (h : Hd) : KE f Q X a h = WpE (f a h) Q X := rfl
@[simp] theorem WpE_bind (o : Out α) (f : α → Hd → Out β) : WpE (o.bind f) Q X = WpE o (KE f Q X) X := by cases o <;> rfl
@[simp] theorem WpS_nx (s : Sl) (h : Hd) : WpS (.nx s h) P = P.nx s h := rfl
@[simp] theorem WpS_rt (d : D) (h : Hd) : WpS (.rt d h) P = P.rt d h := rfl
@[simp] theorem WpS_bk (s : Sl) (h : Hd) : WpS (.bk s h) P = P.bk s h := rfl
@[simp] theorem WpS_ct (s : Sl) (h : Hd) : WpS (.ct s h) P = P.ct s h := rfl
@[simp] theorem WpS_ex (e : Exn) (s : Sl) (h : Hd) : WpS (.ex e s h) P = P.ex e s h := rfl
def KS (f : α → Hd → SOut) (P : Po) (a : α) (h : Hd) : Prop := WpS (f a h) P
@[simp] theorem KS_ (f : α → Hd → SOut) (a : α) (h : Hd) : KS f P a h = WpS (f a h) P := rfl
def KX (P : Po) (s : Sl) (e : Exn) (h : Hd) : Prop := P.ex e s h
@[simp] theorem KX_ (s : Sl) (e : Exn) (h : Hd) : KX P s e h = P.ex e s h := rfl
@[simp] theorem WpS_st (o : Out α) (s : Sl) (f : α → Hd → SOut) : WpS (o.st s f) P = WpE o (KS f P) (KX P s) := by cases o <;> rfl
def Po.beh (P : Po) (f : Sl → Hd → SOut) : Po := ⟨fun s h => WpS (f s h) P, P.rt, P.bk, P.ct, P.ex⟩
@[simp] theorem beh_nx (f : Sl → Hd → SOut) (s : Sl) (h : Hd) : (P.beh f).nx s h = WpS (f s h) P := rfl
@[simp] theorem beh_rt (f : Sl → Hd → SOut) : (P.beh f).rt = P.rt := rfl
@[simp] theorem beh_bk (f : Sl → Hd → SOut) : (P.beh f).bk = P.bk := rfl
@[simp] theorem beh_ct (f : Sl → Hd → SOut) : (P.beh f).ct = P.ct := rfl
@[simp] theorem beh_ex (f : Sl → Hd → SOut) : (P.beh f).ex = P.ex := rfl
@[simp] theorem WpS_andS (o : SOut) (f : Sl → Hd → SOut) : WpS (andS f o) P = WpS o (P.beh f) := by cases o <;> rfl
theorem WpE_mono {Q Q' : α → Hd → Prop} {X X' : Exn → Hd → Prop} {o : Out α} (k : WpE o Q X) (hq : ∀ a h, Q a h → Q' a h) (hx : ∀ e h, X e h → X' e h) : WpE o Q' X' := by
  cases o with
  | ok a h => exact hq a h k
  | ex e h => exact hx e h k
  | no => exact k
theorem WpE_ife {Q : D → Hd → Prop} {ev : Ev} {a b : QE} {s : Sl} {h : Hd} {k : Bool} (ht : k = true → WpE (evE ev a s h) Q X) (he : k = false → WpE (evE ev b s h) Q X) : WpE (y_ife ev a b s k h) Q X := by
  cases k
  · exact he rfl
  · exact ht rfl
theorem WpS_if {ev : Ev} {a b : QSs} {s : Sl} {h : Hd} {k : Bool} (ht : k = true → WpS (exSs ev a s h) P) (he : k = false → WpS (exSs ev b s h) P) : WpS (y_if ev a b s k h) P := by
  cases k
  · exact he rfl
  · exact ht rfl
theorem WpS_mono {P' : Po} {o : SOut} (k : WpS o P) (h1 : ∀ s h, P.nx s h → P'.nx s h) (h2 : ∀ d h, P.rt d h → P'.rt d h) (h3 : ∀ s h, P.bk s h → P'.bk s h) (h4 : ∀ s h, P.ct s h → P'.ct s h) (h5 : ∀ e s h, P.ex e s h → P'.ex e s h) : WpS o P' := by
  cases o with
  | nx s h => exact h1 s h k
  | rt s h => exact h2 s h k
  | bk s h => exact h3 s h k
  | ct s h => exact h4 s h k
  | ex e s h => exact h5 e s h k
  | no => exact k
end
/-! ### the heap grows -/
theorem pre_app {h H l : Hd} (p : h <+: H) : h <+: H ++ l := p.trans (List.prefix_append _ _)
theorem pre_set {h H : Hd} {n : Nat} {c : Cell} (p : h <+: H) (q : h.length ≤ n) : h <+: H.set n c := by
  obtain ⟨l, rfl⟩ := p
  rw [List.set_append_right _ _ q]
  exact List.prefix_append _ _
theorem lst_pre {h H : Hd} {n : Nat} {xs : List D} (e : lstAt h n = some xs) (p : h <+: H) : lstAt H n = some xs := by
  obtain ⟨l, rfl⟩ := p
  exact lst_old e l
theorem lst_lt {h : Hd} {n : Nat} {xs : List D} (e : lstAt h n = some xs) : n < h.length := by
  unfold lstAt at e
  cases q : h[n]? with
  | none => rw [q] at e; cases e
  | some x => exact (List.getElem?_eq_some_iff.mp q).1
theorem r_set {h : Hd} {n : Nat} {xs ys : List D} (e : lstAt h n = some xs) : lstAt (h.set n (.lst ys)) n = some ys := by
  unfold lstAt
  rw [List.getElem?_set_self (lst_lt e)]
theorem r_set_ne {h : Hd} {n m : Nat} {xs ys : List D} (e : lstAt h m = some xs) (q : n ≠ m) : lstAt (h.set n (.lst ys)) m = some xs := by
  unfold lstAt at *
  rw [List.getElem?_set_ne q]
  exact e
theorem lst_off (h l : Hd) (n : Nat) (q : h.length ≤ n) : lstAt (h ++ l) n = lstAt l (n - h.length) := by
  unfold lstAt
  rw [List.getElem?_append_right q]
@[simp] theorem lst_off0 (h l : Hd) : lstAt (h ++ l) h.length = lstAt l 0 := by rw [lst_off _ _ _ (Nat.le_refl _), Nat.sub_self]
@[simp] theorem lst_offk (h l : Hd) (k : Nat) : lstAt (h ++ l) (h.length + k) = lstAt l k := by rw [lst_off _ _ _ (Nat.le_add_right _ _), Nat.add_sub_cancel_left]
@[simp] theorem lst_c0 (xs : List D) (l : Hd) : lstAt (.lst xs :: l) 0 = some xs := rfl
@[simp] theorem lst_cs (c : Cell) (l : Hd) (k : Nat) : lstAt (c :: l) (k + 1) = lstAt l k := rfl
@[simp] theorem lst_c1 (c : Cell) (l : Hd) : lstAt (c :: l) 1 = lstAt l 0 := rfl
/-- with the list at a place -/
def onL {α : Type} (f : List D → Out α) : Option (List D) → Out α
  | some xs => f xs
  | none => .no
@[simp] theorem onL_some {α : Type} (f : List D → Out α) (xs : List D) : onL f (some xs) = f xs := rfl
section
variable (h : Hd) (n : Nat)
@[simp] theorem r_tuple : biV .tuple [.ref n] h = onL (fun xs => .ok (.tup xs) h) (lstAt h n) := by
  show (match lstAt h n with
    | some xs => Out.ok (D.tup xs) h
    | none => .no) = _
  cases lstAt h n <;> rfl
@[simp] theorem r_list : biV .list [.ref n] h = onL (fun xs => newL xs h) (lstAt h n) := by
  show (match lstAt h n with
    | some xs => newL xs h
    | none => .no) = _
  cases lstAt h n <;> rfl
@[simp] theorem r_list_tup (xs : List D) : biV .list [.tup xs] h = newL xs h := rfl
@[simp] theorem r_tuple_tup (xs : List D) : biV .tuple [.tup xs] h = .ok (.tup xs) h := rfl
@[simp] theorem r_len : biV .len [.ref n] h = onL (fun xs => .ok (.int xs.length) h) (lstAt h n) := by
  show (match lstAt h n with
    | some xs => Out.ok (D.int xs.length) h
    | none => .no) = _
  cases lstAt h n <;> rfl
def idO (h : Hd) : Option D → Out D
  | some d => .ok d h
  | none => .no
@[simp] theorem idO_some (d : D) : idO h (some d) = .ok d h := rfl
@[simp] theorem r_idx (k : Int) : idxV (.ref n) (.int k) h = onL (fun xs => idO h (L2.atI xs k)) (lstAt h n) := by
  show (match lstAt h n with
    | some xs => (match L2.atI xs k with
      | some d => Out.ok d h
      | none => Out.no)
    | none => Out.no) = _
  cases lstAt h n with
  | none => rfl
  | some xs =>
    show (match L2.atI xs k with
      | some d => Out.ok d h
      | none => Out.no) = idO h (L2.atI xs k)
    cases L2.atI xs k <;> rfl
@[simp] theorem t_idx (xs : List D) (k : Int) : idxV (.tup xs) (.int k) h = idO h (L2.atI xs k) := by
  show (match L2.atI xs k with
    | some d => Out.ok d h
    | none => .no) = idO h (L2.atI xs k)
  cases L2.atI xs k <;> rfl
@[simp] theorem fl_idx (xs : List D) (k : Int) : idxV (.fl xs) (.int k) h = idO h (L2.atI xs k) := by
  show (match L2.atI xs k with
    | some d => Out.ok d h
    | none => .no) = idO h (L2.atI xs k)
  cases L2.atI xs k <;> rfl
@[simp] theorem r_sl (lo hi : Option Int) : slV (.ref n) lo hi h = onL (fun xs => newL (cut xs lo hi) h) (lstAt h n) := by
  show (match lstAt h n with
    | some xs => newL (cut xs lo hi) h
    | none => Out.no) = _
  cases lstAt h n <;> rfl
@[simp] theorem t_sl (xs : List D) (lo hi : Option Int) : slV (.tup xs) lo hi h = .ok (.tup (cut xs lo hi)) h := rfl
@[simp] theorem fl_sl (xs : List D) (lo hi : Option Int) : slV (.fl xs) lo hi h = newL (cut xs lo hi) h := rfl
@[simp] theorem r_walk : walkV (.ref n) h = onL (fun xs => .ok ⟨xs, [(n, xs)]⟩ h) (lstAt h n) := by
  show (match lstAt h n with
    | some xs => Out.ok (Walk.mk xs [(n, xs)]) h
    | none => Out.no) = _
  cases lstAt h n <;> rfl
@[simp] theorem r_truth : truthD h (.ref n) = (lstAt h n).map fun xs => !xs.isEmpty := by
  show (match lstAt h n with
    | some xs => some (!xs.isEmpty)
    | none => Option.none) = _
  cases lstAt h n <;> rfl
@[simp] theorem r_app (y : D) : mthV 0 (.ref n) [y] h = onL (fun ys => ret (decide (ys.length < line)) .non (h.set n (.lst (ys ++ [y])))) (lstAt h n) := by
  show (match lstAt h n with
    | some ys => ret (decide (ys.length < line)) D.non (h.set n (.lst (ys ++ [y])))
    | none => Out.no) = _
  cases lstAt h n <;> rfl
@[simp] theorem r_isl : isLst h (.ref n) = (lstAt h n).isSome := rfl
@[simp] theorem r_newL (xs : List D) : newL xs h = .ok (.ref h.length) (h ++ [.lst xs]) := rfl
@[simp] theorem r_newLc (xs : List D) : newLc true xs h = .ok (.ref h.length) (h ++ [.lst xs]) := rfl
@[simp] theorem r_all : biV .all [.ref n] h = onL (fun xs => boolO h ((bls xs).map fun bs => bs.all id)) (lstAt h n) := by
  show (match (lstAt h n).bind bls with
    | some bs => Out.ok (D.bl (bs.all id)) h
    | none => Out.no) = _
  cases lstAt h n with
  | none => rfl
  | some xs =>
    show (match bls xs with
      | some bs => Out.ok (D.bl (bs.all id)) h
      | none => Out.no) = boolO h ((bls xs).map fun bs => bs.all id)
    cases bls xs <;> rfl
@[simp] theorem r_any : biV .any [.ref n] h = onL (fun xs => boolO h ((bls xs).map fun bs => bs.any id)) (lstAt h n) := by
  show (match (lstAt h n).bind bls with
    | some bs => Out.ok (D.bl (bs.any id)) h
    | none => Out.no) = _
  cases lstAt h n with
  | none => rfl
  | some xs =>
    show (match bls xs with
      | some bs => Out.ok (D.bl (bs.any id)) h
      | none => Out.no) = boolO h ((bls xs).map fun bs => bs.any id)
    cases bls xs <;> rfl
@[simp] theorem r_mul (k : Int) : mulV (.ref n) (.int k) h = onL (fun xs => newLc (decide (k ≤ 1000) && decide (-1000 ≤ k) && decide (xs.length ≤ 1000)) (List.replicate k.toNat xs).flatten h) (lstAt h n) := by
  show (match lstAt h n with
    | some xs => newLc (decide (k ≤ 1000) && decide (-1000 ≤ k) && decide (xs.length ≤ 1000)) (List.replicate k.toNat xs).flatten h
    | _ => Out.no) = _
  cases lstAt h n <;> rfl
@[simp] theorem t_addv (xs ys : List D) : addV (.tup xs) (.tup ys) h = ret (decide (xs.length + ys.length ≤ line)) (.tup (xs ++ ys)) h := rfl
def subO (h : Hd) (n : Nat) (xs : List D) (d : D) (s : Sl) : Option Nat → SOut
  | some j => .nx s (h.set n (.lst (xs.set j d)))
  | none => .no
@[simp] theorem subO_some (xs : List D) (d : D) (s : Sl) (j : Nat) : subO h n xs d s (some j) = .nx s (h.set n (.lst (xs.set j d))) := rfl
theorem r_sub {xs : List D} (e : lstAt h n = some xs) (k : Int) (d : D) (s : Sl) : subV (.ref n) (.int k) d s h = subO h n xs d s (L2.ixN xs.length k) := by
  show (match lstAt h n with
    | some xs => match L2.ixN xs.length k with
      | some j => SOut.nx s (h.set n (.lst (xs.set j d)))
      | none => .no
    | none => .no) = _
  rw [e]
  show (match L2.ixN xs.length k with
      | some j => SOut.nx s (h.set n (.lst (xs.set j d)))
      | none => .no) = _
  cases L2.ixN xs.length k <;> rfl
end
@[simp] theorem bls_map {α : Type} (as : List α) (p : α → Bool) : bls (as.map fun a => D.bl (p a)) = some (as.map p) := by
  induction as with
  | nil => rfl
  | cons a as ih => simp [bls, ih]
@[simp] theorem all_id_map {α : Type} (as : List α) (p : α → Bool) : (as.map p).all id = as.all p := by simp [List.all_map]
@[simp] theorem any_id_map {α : Type} (as : List α) (p : α → Bool) : (as.map p).any id = as.any p := by simp [List.any_map]
@[simp] theorem at_0 {α : Type} (a : α) (l : List α) : L2.atI (a :: l) 0 = some a := by simp [L2.atI, L2.ixN]
theorem at_n {α : Type} {xs : List α} {i : Nat} (hi : i < xs.length) : L2.atI xs (i : Int) = some xs[i] := by simp [L2.atI, L2.ixN, hi]
@[simp] theorem at_1 {α : Type} (a b : α) (l : List α) : L2.atI (a :: b :: l) 1 = some b := at_n (xs := a :: b :: l) (i := 1) (by simp)
@[simp] theorem at_2 {α : Type} (a b c : α) (l : List α) : L2.atI (a :: b :: c :: l) 2 = some c := at_n (xs := a :: b :: c :: l) (i := 2) (by simp)
theorem ix_n {n i : Nat} (hi : i < n) : L2.ixN n (i : Int) = some i := by simp [L2.ixN, hi]
/-! ### loops -/
/-- a for loop: I i is what holds ahead of item i -/
theorem WpS_for {α : Type} {fix : List (Nat × List D)} {g : D → Sl → Option Sl} {b : Sl → Hd → SOut} {P : Po} (as : List α) (φ : α → D) (I : Nat → Sl → Hd → Prop) {items : List D} {s : Sl} {h : Hd} (hi : items = as.map φ) (h0 : I 0 s h)
    (hs : ∀ (i : Nat) (hi : i < as.length) (s : Sl) (h : Hd), I i s h → fixOk h fix = true ∧ ∃ s1, g (φ as[i]) s = some s1 ∧ WpS (b s1 h) ⟨I (i + 1), P.rt, P.nx, I (i + 1), P.ex⟩)
    (he : ∀ s h, I as.length s h → fixOk h fix = true ∧ P.nx s h) : WpS (loopF fix g b items s h) P := by
  subst hi
  suffices H : ∀ (m i : Nat) (s : Sl) (h : Hd), i + m = as.length → I i s h → WpS (loopF fix g b ((as.drop i).map φ) s h) P by
    have := H as.length 0 s h (by omega) h0
    rwa [List.drop_zero] at this
  intro m
  induction m with
  | zero =>
    intro i s h e k
    have e : i = as.length := by omega
    subst e
    obtain ⟨f, q⟩ := he s h k
    rw [List.drop_length, List.map_nil, loopF_nil f]
    exact q
  | succ m ih =>
    intro i s h e k
    have lt : i < as.length := by omega
    obtain ⟨f, s1, e1, o⟩ := hs i lt s h k
    rw [List.drop_eq_getElem_cons lt, List.map_cons]
    unfold loopF
    simp only [f, e1]
    cases q : b s1 h with
    | nx s2 h2 => rw [q] at o; exact ih (i + 1) s2 h2 (by omega) o
    | ct s2 h2 => rw [q] at o; exact ih (i + 1) s2 h2 (by omega) o
    | bk s2 h2 => rw [q] at o; exact o
    | rt d h2 => rw [q] at o; exact o
    | ex e s2 h2 => rw [q] at o; exact o
    | no => rw [q] at o; exact o
theorem rng_map (n : Nat) : rng 0 1 n = (List.range n).map fun j : Nat => D.int (j : Int) := by
  have H : ∀ (n : Nat) (a : Nat), rng (a : Int) 1 n = (List.range n).map fun j : Nat => D.int ((a + j : Nat) : Int) := by
    intro n
    induction n with
    | zero => intro a; rfl
    | succ n ih =>
      intro a
      have e : ((a : Int) + 1) = ((a + 1 : Nat) : Int) := by omega
      show D.int (a : Int) :: rng ((a : Int) + 1) 1 n = _
      rw [e, ih, List.range_succ_eq_map, List.map_cons, List.map_map]
      congr 1
      apply List.map_congr_left
      intro j _
      show D.int ((a + 1 + j : Nat) : Int) = D.int ((a + (j + 1) : Nat) : Int)
      congr 2
      omega
  have := H n 0
  simpa using this
theorem rngV_k {k : Int} {n : Nat} (e : k = n) (hn : n ≤ 1000000) (h : Hd) : rngV [.int k] h = .ok ⟨(List.range n).map fun j : Nat => D.int (j : Int), []⟩ h := by
  subst e
  show ret (smallI n) (Walk.mk (rng 0 1 (n : Int).toNat) []) h = _
  rw [small_nat hn, Int.toNat_natCast, rng_map]
  rfl
/-- for i in range(n) -/
theorem WpS_rng {g : D → Sl → Option Sl} {b : Sl → Hd → SOut} {P : Po} (n : Nat) (I : Nat → Sl → Hd → Prop) {s : Sl} {h : Hd} (h0 : I 0 s h)
    (hs : ∀ (i : Nat), i < n → ∀ (s : Sl) (h : Hd), I i s h → ∃ s1, g (.int (i : Int)) s = some s1 ∧ WpS (b s1 h) ⟨I (i + 1), P.rt, P.nx, I (i + 1), P.ex⟩)
    (he : ∀ s h, I n s h → P.nx s h) : WpS (loopF [] g b ((List.range n).map fun j : Nat => D.int (j : Int)) s h) P := by
  refine WpS_for (List.range n) (fun j : Nat => D.int (j : Int)) I rfl h0 (fun i hi s h k => And.intro rfl ?_) (fun s h k => And.intro rfl (he s h (by simpa using k)))
  have := hs i (by simpa using hi) s h k
  simpa using this
/-- a comprehension (no condition) -/
theorem WpE_lc {α : Type} {fix : List (Nat × List D)} {b : D → Option Sl} {c : Sl → Hd → Out Bool} {e : Sl → Hd → Out D} {Q : List D → Hd → Prop} {X : Exn → Hd → Prop} (as : List α) (φ r : α → D) {items : List D} {h : Hd} (hi : items = as.map φ) (hl : as.length ≤ 1000000) (hf : ∀ H, h <+: H → fixOk H fix = true)
    (hs : ∀ a ∈ as, ∃ s1, b (φ a) = some s1 ∧ ∀ H, h <+: H → c s1 H = .ok true H ∧ WpE (e s1 H) (fun d H1 => d = r a ∧ H <+: H1) (fun _ _ => False))
    (hq : ∀ H, h <+: H → Q (as.map r) H) : WpE (noEx (loopC fix b c e items [] h)) Q X := by
  subst hi
  suffices H : ∀ (as : List α) (acc : List D) (H : Hd), h <+: H → acc.length + as.length ≤ line → (∀ a ∈ as, ∃ s1, b (φ a) = some s1 ∧ ∀ H, h <+: H → c s1 H = .ok true H ∧ WpE (e s1 H) (fun d H1 => d = r a ∧ H <+: H1) (fun _ _ => False)) → ∃ H', h <+: H' ∧ loopC fix b c e (as.map φ) acc H = .ok (acc ++ as.map r) H' by
    obtain ⟨H', p, e1⟩ := H as [] h (List.prefix_refl _) (by have := line_ok hl; simpa using this) hs
    rw [e1]
    exact hq H' p
  intro as
  induction as with
  | nil =>
    intro acc H p _ _
    refine ⟨H, p, ?_⟩
    show ret (fixOk H fix) acc H = _
    rw [hf H p]
    simp
  | cons a as ih =>
    intro acc H p hl hs
    obtain ⟨s1, e1, k⟩ := hs a List.mem_cons_self
    obtain ⟨e2, e3⟩ := k H p
    cases q : e s1 H with
    | no => rw [q] at e3; exact e3.elim
    | ex x h => rw [q] at e3; exact e3.elim
    | ok d H1 =>
      rw [q] at e3
      obtain ⟨rfl, p1⟩ := e3
      obtain ⟨H', p', e4⟩ := ih (acc ++ [r a]) H1 (p.trans p1) (by simp at hl ⊢; omega) fun x hx => hs x (List.mem_cons_of_mem _ hx)
      refine ⟨H', p', ?_⟩
      have lt : decide (acc.length < line) = true := decide_eq_true (by simp at hl; omega)
      rw [List.map_cons]
      unfold loopC
      simp only [hf H p, e1, e2, q, bind_ok, lt]
      rw [e4]
      simp
/-! ### a def -/
abbrev noS : Sl → Hd → Prop := fun _ _ => False
abbrev noX : Exn → Hd → Prop := fun _ _ => False
theorem fin_grow {h h' : Hd} {d : D} (p : h <+: h') (hd : D.lt h.length d = true) : fin h (.rt d h') = .ok d h := by
  obtain ⟨l, rfl⟩ := p
  exact gc_app hd
/-- a def that gives d, whatever it makes on the way -/
theorem fin_gives {h : Hd} {o : SOut} {d : D} (hd : D.lt h.length d = true) (H : WpS o ⟨fun _ h' => d = .non ∧ h <+: h', fun d' h' => d' = d ∧ h <+: h', noS, noS, fun _ _ _ => False⟩) : fin h o = .ok d h := by
  cases o with
  | nx s h' =>
    obtain ⟨rfl, l, rfl⟩ := H
    exact gc_app hd
  | rt d' h' =>
    obtain ⟨rfl, l, rfl⟩ := H
    exact gc_app hd
  | bk s h => exact H.elim
  | ct s h => exact H.elim
  | ex e s h => exact H.elim
  | no => exact H.elim
/-- a def that raises e -/
theorem fin_raises {h : Hd} {o : SOut} {e : Exn} (hd : fsLt h.length e.fs = true) (H : WpS o ⟨noS, fun _ _ => False, noS, noS, fun e' _ h' => e' = e ∧ h <+: h'⟩) : fin h o = .ex e h := by
  cases o with
  | ex e' s h' =>
    obtain ⟨rfl, l, rfl⟩ := H
    exact gcE_app hd
  | rt s h => exact H.elim
  | nx s h => exact H.elim
  | bk s h => exact H.elim
  | ct s h => exact H.elim
  | no => exact H.elim
/-- a def whose value may be a list of the heap -/
theorem fin_list {h : Hd} {o : SOut} {Q : D → Hd → Prop} {X : Exn → Hd → Prop} (H : WpS o ⟨fun _ h' => h <+: h' ∧ Q .non h, fun d h' => h <+: h' ∧ (D.lt h.length d = true → Q d h) ∧ (D.lt h.length d = false → Q d h'), noS, noS, fun e _ h' => h <+: h' ∧ fsLt h.length e.fs = true ∧ X e h⟩) : WpE (fin h o) Q X := by
  cases o with
  | nx s h' =>
    obtain ⟨⟨l, rfl⟩, q⟩ := H
    show WpE (gc h .non (h ++ l)) Q X
    rw [gc_app rfl]
    exact q
  | rt d h' =>
    obtain ⟨⟨l, rfl⟩, q1, q2⟩ := H
    cases hd : D.lt h.length d with
    | true =>
      show WpE (gc h d (h ++ l)) Q X
      rw [gc_app hd]
      exact q1 hd
    | false =>
      rw [fin_keep hd]
      exact q2 hd
  | ex e s h' =>
    obtain ⟨⟨l, rfl⟩, q1, q2⟩ := H
    show WpE (gcE h e (h ++ l)) Q X
    rw [gcE_app q1]
    exact q2
  | bk s h => exact H.elim
  | ct s h => exact H.elim
  | no => exact H.elim
/-! ### by code, whatever the program -/
section
variable {fns : List FnC} {sub : Nat → Nat → Bool} {fuel k : Nat}
theorem givC {i np nn : Nat} {code : QSs} {ds : List D} {d : D} (hf : fns[i]? = some ⟨np, nn, code⟩) (hl : ds.length = np) (H : ∀ h, fin h (exSs (evL fns sub fuel k) code (startD nn ds) h) = .ok d h) : Giv (evL fns sub fuel (k + 1)) i ds d := fun h => by
  show callI fns sub fuel (k + 1) i ds h = _
  rw [call_eq hf hl]
  exact H h
/-- by what holds behind the code -/
theorem givW {i np nn : Nat} {code : QSs} {ds : List D} {d : D} (hf : fns[i]? = some ⟨np, nn, code⟩) (hl : ds.length = np) (hd : ∀ n, D.lt n d = true) (H : ∀ h, WpS (exSs (evL fns sub fuel k) code (startD nn ds) h) ⟨fun _ h' => d = .non ∧ h <+: h', fun d' h' => d' = d ∧ h <+: h', noS, noS, fun _ _ _ => False⟩) : Giv (evL fns sub fuel (k + 1)) i ds d :=
  givC hf hl fun h => fin_gives (hd _) (H h)
theorem gc' {i : Nat} {ds : List D} {d : D} (g : Giv (evL fns sub fuel k) i ds d) (h : Hd) : callI fns sub fuel k i ds h = .ok d h := g h
/-- a def raises e -/
def Rai (ev : Ev) (f : Nat) (xs : List D) (e : Exn) : Prop := ∀ h, ev.call f xs h = .ex e h
theorem raiW {i np nn : Nat} {code : QSs} {ds : List D} {e : Exn} (hf : fns[i]? = some ⟨np, nn, code⟩) (hl : ds.length = np) (hd : ∀ n, fsLt n e.fs = true) (H : ∀ h, WpS (exSs (evL fns sub fuel k) code (startD nn ds) h) ⟨noS, fun _ _ => False, noS, noS, fun e' _ h' => e' = e ∧ h <+: h'⟩) : Rai (evL fns sub fuel (k + 1)) i ds e := fun h => by
  show callI fns sub fuel (k + 1) i ds h = _
  rw [call_eq hf hl]
  exact fin_raises (hd _) (H h)
theorem rc' {i : Nat} {ds : List D} {e : Exn} (g : Rai (evL fns sub fuel k) i ds e) (h : Hd) : callI fns sub fuel k i ds h = .ex e h := g h
/-- a def whose value may be a list -/
theorem lisW {i np nn : Nat} {code : QSs} {ds : List D} {h : Hd} {Q : D → Hd → Prop} {X : Exn → Hd → Prop} (hf : fns[i]? = some ⟨np, nn, code⟩) (hl : ds.length = np) (H : WpS (exSs (evL fns sub fuel k) code (startD nn ds) h) ⟨fun _ h' => h <+: h' ∧ Q .non h, fun d h' => h <+: h' ∧ (D.lt h.length d = true → Q d h) ∧ (D.lt h.length d = false → Q d h'), noS, noS, fun e _ h' => h <+: h' ∧ fsLt h.length e.fs = true ∧ X e h⟩) : WpE (callI fns sub fuel (k + 1) i ds h) Q X := by
  rw [call_eq hf hl]
  exact fin_list H
end
end PV
/-! PVT3: is_integer, is_ratio, less, at_most; makers with a bounded upper part. -/
namespace PV
open PySem
section
variable {ev : Ev} {h : Hd}
/-- a maker of lowest terms whose upper part is bounded, too -/
def MakesA (ev : Ev) (f : Nat) : Prop := ∀ a b : Int, b ≠ 0 → Sz 9000000 a → Sz 8900 b → Giv ev f [.int a, .int b] (rv (Rat.divInt a b))
theorem MakesR.a {f : Nat} (m : MakesR ev f) : MakesA ev f := fun a b hb _ sb => m a b hb sb
theorem t_addA {mk : Nat} (hm : MakesA ev mk) {p q : Rat} {n : Nat} (sp : Qn n p) (sq : Qn n q) (hn : n ≤ 4400) : fin h (exSs ev (C_add mk) (startD 2 [rv p, rv q]) h) = .ok (rv (p + q)) h := by
  have m1 := mulOk_sz sp.1 sq.2 (by omega)
  have m2 := mulOk_sz sq.1 sp.2 (by omega)
  have m3 := mulOk_sz sp.2 sq.2 (by omega)
  have c := hm (p.num * q.den + q.num * p.den) (p.den * q.den) (Int.mul_ne_zero (den0 p) (den0 q)) (((sp.1.mul sq.2).add (sq.1.mul sp.2)).mono (by omega)) ((sp.2.mul sq.2).mono (by omega)) h
  rw [rat_add] at c
  simp [C_add, startD, m1, m2, m3, arrD, c]
theorem t_mulA {mk : Nat} (hm : MakesA ev mk) {p q : Rat} {n : Nat} (sp : Qn n p) (sq : Qn n q) (hn : n ≤ 4400) : fin h (exSs ev (C_mul mk) (startD 2 [rv p, rv q]) h) = .ok (rv (p * q)) h := by
  have m1 := mulOk_sz sp.1 sq.1 (by omega)
  have m3 := mulOk_sz sp.2 sq.2 (by omega)
  have c := hm (p.num * q.num) (p.den * q.den) (Int.mul_ne_zero (den0 p) (den0 q)) ((sp.1.mul sq.1).mono (by omega)) ((sp.2.mul sq.2).mono (by omega)) h
  rw [rat_mul] at c
  simp [C_mul, startD, m1, m3, arrD, c]
/-! ### order -/
theorem rat_lt (p q : Rat) : decide (p.num * (q.den : Int) < q.num * (p.den : Int)) = decide (p < q) := by
  rw [decide_eq_decide]
  exact (Rat.lt_iff ..).symm
theorem rat_le (p q : Rat) : decide (p.num * (q.den : Int) ≤ q.num * (p.den : Int)) = decide (p ≤ q) := by
  rw [decide_eq_decide]
  exact (Rat.le_iff ..).symm
def C_less : QSs := .cons (.ret (.cmp .Lt (.bin .Mult (.idx (.var 0) (.con (.int (0)))) (.idx (.var 1) (.con (.int (1))))) (.bin .Mult (.idx (.var 1) (.con (.int (0)))) (.idx (.var 0) (.con (.int (1))))))) .nil
theorem t_less {p q : Rat} {n : Nat} (sp : Qn n p) (sq : Qn n q) (hn : n ≤ 40000000) : fin h (exSs ev C_less (startD 2 [rv p, rv q]) h) = .ok (.bl (decide (p < q))) h := by
  have m1 := mulOk_sz sp.1 sq.2 (by omega)
  have m2 := mulOk_sz sq.1 sp.2 (by omega)
  simp [C_less, startD, m1, m2, rat_lt]
def C_at_most : QSs := .cons (.ret (.cmp .LtE (.bin .Mult (.idx (.var 0) (.con (.int (0)))) (.idx (.var 1) (.con (.int (1))))) (.bin .Mult (.idx (.var 1) (.con (.int (0)))) (.idx (.var 0) (.con (.int (1))))))) .nil
theorem t_at_most {p q : Rat} {n : Nat} (sp : Qn n p) (sq : Qn n q) (hn : n ≤ 40000000) : fin h (exSs ev C_at_most (startD 2 [rv p, rv q]) h) = .ok (.bl (decide (p ≤ q))) h := by
  have m1 := mulOk_sz sp.1 sq.2 (by omega)
  have m2 := mulOk_sz sq.1 sp.2 (by omega)
  simp [C_at_most, startD, m1, m2, rat_le]
/-! ### kinds -/
def isRef : D → Bool
  | .ref _ => true
  | _ => false
def intB : D → Bool
  | .int _ => true
  | _ => false
/-- a tuple of two integers in lowest terms with a below of at least 1 -/
def ratB : D → Bool
  | .tup [.int a, .int b] => decide (0 < b) && decide (Nat.gcd a.natAbs b.natAbs = 1)
  | _ => false
theorem ratB_rv (q : Rat) : ratB (rv q) = true := by
  have h1 := q.den_pos
  have h2 := q.reduced
  unfold Nat.Coprime at h2
  simp [ratB, rv, h1, h2]
def C_is_integer : QSs := .cons (.ret (.andv (.isi (.var 0) .int) (.nott (.isi (.var 0) .bool)))) .nil
theorem t_is_integer {x : D} (hx : isRef x = false) : fin h (exSs ev C_is_integer (startD 1 [x]) h) = .ok (.bl (intB x)) h := by
  cases x with
  | ref n => cases hx
  | _ => simp [C_is_integer, startD, intB]
/-- what is_ratio is asked of here: no list within; a list of the heap itself may be -/
def Askd (h : Hd) (x : D) : Prop := (∀ n, x = .ref n → (lstAt h n).isSome = true) ∧ ∀ xs, x = .tup xs → ∀ y ∈ xs, isRef y = false
def C_is_ratio (it : Nat) : QSs := .cons (.ife (.or (.not (.v (.isi (.var 0) .tuple))) (.v (.cmp .NotEq (.bi .len (.cons (.var 0) .nil)) (.con (.int (2)))))) (.cons (.ret (.con (.bl false))) .nil) .nil)
  (.cons (.ife (.or (.not (.v (.call it (.cons (.idx (.var 0) (.con (.int (0)))) .nil) .nil [.inl (.inl 0)]))) (.not (.v (.call it (.cons (.idx (.var 0) (.con (.int (1)))) .nil) .nil [.inl (.inl 0)])))) (.cons (.ret (.con (.bl false))) .nil) .nil)
  (.cons (.ret (.andv (.cmp .Gt (.idx (.var 0) (.con (.int (1)))) (.con (.int (0)))) (.cmp .Eq (.bi .gcd (.cons (.idx (.var 0) (.con (.int (0)))) (.cons (.idx (.var 0) (.con (.int (1)))) .nil))) (.con (.int (1)))))) .nil))
theorem isi_ref_tuple {n : Nat} (e : (lstAt h n).isSome = true) : isiV (.ref n) .tuple h = some false := by
  show (lstAt h n).map _ = _
  cases q : lstAt h n with
  | none => rw [q] at e; cases e
  | some xs => rfl
theorem t_is_ratio {it : Nat} (hi : ∀ y, isRef y = false → Giv ev it [y] (.bl (intB y))) {x : D} (hx : Askd h x) : fin h (exSs ev (C_is_ratio it) (startD 1 [x]) h) = .ok (.bl (ratB x)) h := by
  cases x with
  | ref n =>
    have e := isi_ref_tuple (hx.1 n rfl)
    simp [C_is_ratio, startD, e, ratB]
  | tup xs =>
    match xs, hx with
    | [], _ => simp [C_is_ratio, startD, ratB]
    | [a], _ => simp [C_is_ratio, startD, ratB]
    | [a, b], hx =>
      have ha := hi a (hx.2 _ rfl a (by simp)) h
      have hb := hi b (hx.2 _ rfl b (by simp)) h
      cases a with
      | int i =>
        cases b with
        | int j =>
          by_cases q : 0 < j
          · simp [C_is_ratio, startD, ratB, intB, ha, hb, arrD, q]
            omega
          · simp [C_is_ratio, startD, ratB, intB, ha, hb, arrD, q]
        | _ => simp [C_is_ratio, startD, ratB, intB, ha, hb, arrD]
      | _ => simp [C_is_ratio, startD, ratB, intB, ha, arrD]
    | a :: b :: c :: r, _ =>
      have : ¬ ((r.length : Int) + 1 + 1 + 1 = 2) := by omega
      simp [C_is_ratio, startD, ratB, this]
  | _ => simp [C_is_ratio, startD, ratB]
end
end PV
/-! PVT4: defs that many laws share: the cell of a script, the rich number of a cell, the law's maker of lowest terms, the drawn ratio. -/
namespace PV
open PySem
section
variable {ev : Ev} {h : Hd}
def Ints (ns : List Int) : Prop := ∀ z ∈ ns, Sz 1048577 z
theorem sz_bits {z : Int} (h1 : Builtin.Int.intBits z ≤ 1048576) : Sz 1048577 z := by
  unfold Builtin.Int.intBits at h1
  unfold Sz
  by_cases q : z = 0
  · subst q
    exact Nat.pow_pos (by decide)
  · have q2 : (z == 0) = false := by simpa using q
    rw [q2] at h1
    have h2 : z.natAbs.log2 < 1048576 := by
      have h4 : z.natAbs.log2 ≤ 1048575 := by simpa using h1
      omega
    have h3 := (Nat.log2_lt (show z.natAbs ≠ 0 by omega)).mp h2
    exact Nat.lt_trans h3 (Nat.pow_lt_pow_right (by decide) (by decide))
theorem fmod_b (c : Int) {m : Int} (hm : 0 < m) : 0 ≤ c.fmod m ∧ c.fmod m < m := by
  rw [Int.fmod_eq_emod_of_nonneg _ (by omega)]
  exact ⟨Int.emod_nonneg _ (by omega), Int.emod_lt_of_pos _ hm⟩
theorem fmod_n (c : Int) {m : Nat} (hm : 0 < m) : ∃ n : Nat, n < m ∧ c.fmod (m : Int) = n := by
  obtain ⟨a, b⟩ := fmod_b c (m := (m : Int)) (by omega)
  exact ⟨(c.fmod m).toNat, by omega, by omega⟩
theorem div_ok {j : Int} (i : Int) (h0 : j ≠ 0) (h1 : j.natAbs < 2 ^ 64) : divOk i j = true := divOk_sz (n := 64) h1 (by decide) h0
/-- the cell k of a script -/
def C_cell : QSs := .cons (.ife (.v (.cmp .Lt (.var 1) (.bi .len (.cons (.var 0) .nil)))) (.cons (.ret (.bi .int (.cons (.idx (.var 0) (.var 1)) .nil))) .nil) .nil)
  (.cons (.ret (.con (.int (0)))) .nil)
def cellI (ns : List Int) (j : Nat) : Int := ns.getD j 0
theorem cell_sz {ns : List Int} (hn : Ints ns) (j : Nat) : Sz 1048577 (cellI ns j) := by
  unfold cellI
  rw [List.getD_eq_getElem?_getD]
  by_cases hj : j < ns.length
  · simp [hj]
    exact hn _ (List.getElem_mem hj)
  · simp [hj]
    exact Nat.pow_pos (by decide)
theorem t_cell (ns : List Int) (j : Nat) : fin h (exSs ev C_cell (startD 2 [.fl (ns.map .int), .int (j : Int)]) h) = .ok (.int (cellI ns j)) h := by
  by_cases hj : j < ns.length
  · have hj' : (j : Int) < ns.length := by omega
    have a : L2.atI (ns.map D.int) (j : Int) = some (.int (cellI ns j)) := by
      rw [at_n (by simpa using hj)]
      simp [cellI, hj]
    simp [C_cell, startD, a, hj']
  · have hj' : ¬ (j : Int) < ns.length := by omega
    have e : cellI ns j = 0 := by
      unfold cellI
      simp [List.getD_eq_getElem?_getD, hj]
    simp [C_cell, startD, hj', e]
/-- the rich number of a cell -/
def C_rich : QSs := .cons (.ife (.v (.cmp .GtE (.var 0) (.bin .Pow (.con (.int (10))) (.con (.int (18)))))) (.cons (.ret (.bi .int (.cons (.var 0) .nil))) .nil) .nil)
  (.cons (.asg (.nm 2) (.bin .Mod (.bi .int (.cons (.bin .Add (.bin .Add (.bin .Mult (.var 0) (.con (.int (48271)))) (.bin .Mult (.var 1) (.con (.int (69621))))) (.con (.int (11)))) .nil)) (.con (.int (2147483647)))))
  (.cons (.ret (.bin .Add (.bin .Mult (.var 2) (.con (.int (2147483629)))) (.bin .Mod (.bi .int (.cons (.bin .Add (.bin .Mult (.var 2) (.con (.int (16807)))) (.var 0)) .nil)) (.con (.int (2147483629)))))) .nil))
def richI (z : Int) (j : Nat) : Int := if 10 ^ 18 ≤ z then z else
  (z * 48271 + j * 69621 + 11).fmod 2147483647 * 2147483629 + ((z * 48271 + j * 69621 + 11).fmod 2147483647 * 16807 + z).fmod 2147483629
theorem rich_nn {z : Int} {j : Nat} : 0 ≤ richI z j := by
  unfold richI
  split
  · rename_i k
    exact Int.le_trans (by decide) k
  · have a := (fmod_b (z * 48271 + j * 69621 + 11) (m := 2147483647) (by decide)).1
    have b := (fmod_b ((z * 48271 + j * 69621 + 11).fmod 2147483647 * 16807 + z) (m := 2147483629) (by decide)).1
    omega
theorem t_rich {z : Int} {j : Nat} (sz : Sz 1048577 z) (hj : j ≤ 1000) : fin h (exSs ev C_rich (startD 3 [.int z, .int (j : Int)]) h) = .ok (.int (richI z j)) h := by
  by_cases hz : (10 : Int) ^ 18 ≤ z
  · have p : powOk 10 18 = true := by decide
    have e : richI z j = z := if_pos hz
    simp [C_rich, startD, p, hz, e, -Int.reducePow]
  · have s1 : Sz 16 48271 := by unfold Sz; decide
    have s2 : Sz 17 69621 := by unfold Sz; decide
    have s3 : Sz 31 2147483647 := by unfold Sz; decide
    have s4 : Sz 15 16807 := by unfold Sz; decide
    have s5 : Sz 31 2147483629 := by unfold Sz; decide
    have sj : Sz 10 (j : Int) := Sz.nat (by show j < 1024; omega)
    have m1 := mulOk_sz sz s1 (by decide)
    have m2 := mulOk_sz sj s2 (by decide)
    have sm : Sz 31 ((z * 48271 + j * 69621 + 11).fmod 2147483647) := s3.fmod (by decide)
    have m3 := mulOk_sz sm s5 (by decide)
    have m4 := mulOk_sz sm s4 (by decide)
    have p : powOk 10 18 = true := by decide
    have e : richI z j = _ := if_neg hz
    simp [C_rich, startD, p, hz, m1, m2, m3, m4, e, -Int.reducePow]
theorem rich_sz {z : Int} {j : Nat} (sz : Sz 1048577 z) : Sz 1048577 (richI z j) := by
  unfold richI
  split
  · exact sz
  · have s3 : Sz 31 2147483647 := by unfold Sz; decide
    have s5 : Sz 31 2147483629 := by unfold Sz; decide
    exact (((s3.fmod (i := z * 48271 + j * 69621 + 11) (by decide)).mul s5).add (s5.fmod (by decide))).mono (by decide)
/-! ### the law's maker of lowest terms (one, other = other, one - one // other * other) -/
def B_lmake : QSs := .cons (.par 2 3 (.var 3) (.bin .Sub (.var 2) (.bin .Mult (.bin .FloorDiv (.var 2) (.var 3)) (.var 3)))) .nil
def T_lmake : QT := .v (.cmp .Gt (.var 3) (.con (.int (0))))
def C_lmake : QSs := .cons (.par 2 3 (.bi .abs (.cons (.var 0) .nil)) (.bi .abs (.cons (.var 1) .nil)))
  (.cons (.whl T_lmake B_lmake)
  (.cons (.ife (.v (.cmp .Lt (.var 1) (.con (.int (0))))) (.cons (.asg (.nm 2) (.neg (.var 2))) .nil) .nil)
  (.cons (.ret (.tup (.cons (.bin .FloorDiv (.var 0) (.var 2)) (.cons (.bin .FloorDiv (.var 1) (.var 2)) .nil)))) .nil)))
theorem lmake_loop (ev : Ev) (v0 v1 : Option D) : ∀ (n : Nat) (a b : Int) (h : Hd), 0 ≤ a → 0 ≤ b → b.toNat < n → Sz 9000000 a → Sz 8900 b →
    loopW (evT ev T_lmake) (exSs ev B_lmake) n [v0, v1, some (.int a), some (.int b)] h = .nx [v0, v1, some (.int (gd a b)), some (.int 0)] h
  | 0, a, b, h, ha, hb, hn, sa, sb => by omega
  | n + 1, a, b, h, ha, hb, hn, sa, sb => by
    by_cases hb0 : b = 0
    · subst hb0
      have e : gd a 0 = a := by unfold gd; simp; omega
      rw [loopW_stop (h1 := h) (by simp [T_lmake]), e]
    · have hp : 0 < b := by omega
      have h0 := (fmod_b a hp).1
      have h1 := (fmod_b a hp).2
      have ih := lmake_loop ev v0 v1 n b (a.fmod b) h (by omega) h0 (by omega) (sb.mono (by decide)) (sb.fmod hb0)
      rw [gd_step ha hp] at ih
      have d := divOk_sz (i := a) sb (by decide) hb0
      have m := mulOk_sz (sa.fdiv (j := b)) sb (by decide)
      have e : a - a.fdiv b * b = a.fmod b := by rw [Int.fmod_def, Int.mul_comm]
      rw [loopW_go (h1 := h) (s2 := [v0, v1, some (.int b), some (.int (a.fmod b))]) (h2 := h) (by simp [T_lmake, hp]) (by simp [B_lmake, d, m, e])]
      exact ih
theorem t_lmake {a b : Int} (hF : 2 ^ 8900 ≤ ev.fuel) (hb : b ≠ 0) (sa : Sz 9000000 a) (sb : Sz 8900 b) : fin h (exSs ev C_lmake (startD 4 [.int a, .int b]) h) = .ok (rv (Rat.divInt a b)) h := by
  have lp := lmake_loop ev (some (.int a)) (some (.int b)) ev.fuel (a.natAbs : Nat) (b.natAbs : Nat) h (by omega) (by omega) (by unfold Sz at sb; omega) (by unfold Sz at *; simpa using sa) (by unfold Sz at *; simpa using sb)
  have g : gd (a.natAbs : Nat) (b.natAbs : Nat) = gd a b := by unfold gd; simp
  rw [g] at lp
  have gp := gd_pos (a := a) hb
  have sg := gd_sz (a := a) hb sb
  rw [← mkR_rv hb]
  by_cases hlt : b < 0
  · have d : ∀ x, divOk x (-gd a b) = true := fun x => divOk_sz sg.neg (by omega) (by omega)
    have e3 : mkR a b = (a.fdiv (-gd a b), b.fdiv (-gd a b)) := if_pos hlt
    simp [C_lmake, startD, absI]
    rw [lp]
    simp [hlt, d, e3]
  · have d : ∀ x, divOk x (gd a b) = true := fun x => divOk_sz sg (by omega) (by omega)
    have e3 : mkR a b = (a.fdiv (gd a b), b.fdiv (gd a b)) := if_neg hlt
    simp [C_lmake, startD, absI]
    rw [lp]
    simp [hlt, d, e3]
/-! ### the drawn ratio of a rich number -/
def C_lratio (mk : Nat) : QSs := .cons (.asg (.nm 1) (.bin .Sub (.bin .Mod (.var 0) (.con (.int (13)))) (.con (.int (6)))))
  (.cons (.ife (.v (.cmp .Eq (.bin .Mod (.bin .FloorDiv (.var 0) (.con (.int (13)))) (.con (.int (5)))) (.con (.int (0))))) (.cons (.asg (.nm 1) (.bin .Sub (.bin .Mod (.bin .FloorDiv (.var 0) (.con (.int (65)))) (.con (.int (201)))) (.con (.int (100))))) .nil) .nil)
  (.cons (.ret (.call mk (.cons (.var 1) (.cons (.idx (.lst (.cons (.con (.int (1))) (.cons (.con (.int (1))) (.cons (.con (.int (1))) (.cons (.con (.int (2))) (.cons (.con (.int (3))) (.cons (.con (.int (4))) (.cons (.con (.int (7))) .nil)))))))) (.bin .Mod (.bin .FloorDiv (.var 0) (.con (.int (13065)))) (.con (.int (7))))) .nil)) .nil [.inl (.inl 0), .inl (.inl 1)])) .nil))
def lrA (c : Int) : Int := if (c.fdiv 13).fmod 5 = 0 then (c.fdiv 65).fmod 201 - 100 else c.fmod 13 - 6
def lrB (c : Int) : Int := ([1, 1, 1, 2, 3, 4, 7] : List Int).getD ((c.fdiv 13065).fmod 7).toNat 1
def lrat (c : Int) : Rat := Rat.divInt (lrA c) (lrB c)
theorem lrB_ok (c : Int) : 1 ≤ lrB c ∧ lrB c ≤ 7 := by
  unfold lrB
  obtain ⟨n, hn, e⟩ := fmod_n (c.fdiv 13065) (m := 7) (by decide)
  have e : (c.fdiv 13065).fmod 7 = n := e
  rw [e, Int.toNat_natCast]
  match n, hn with
  | 0, _ | 1, _ | 2, _ | 3, _ | 4, _ | 5, _ | 6, _ => decide
theorem lrA_sz (c : Int) : Sz 7 (lrA c) := by
  have f := fmod_b (c.fdiv 65) (m := 201) (by decide)
  have g := fmod_b c (m := 13) (by decide)
  unfold lrA Sz
  split <;> omega
theorem lrat_sz (c : Int) : Qn 7 (lrat c) := by
  obtain ⟨b1, b2⟩ := lrB_ok c
  exact Qn.divInt (by omega) (lrA_sz c) (by unfold Sz; omega)
theorem t_lratio {mk : Nat} (hm : MakesA ev mk) (c : Int) : fin h (exSs ev (C_lratio mk) (startD 2 [.int c]) h) = .ok (rv (lrat c)) h := by
  obtain ⟨b1, b2⟩ := lrB_ok c
  have d1 := div_ok (j := 13) c (by decide) (by decide)
  have d2 := div_ok (j := 65) c (by decide) (by decide)
  have d3 := div_ok (j := 13065) c (by decide) (by decide)
  have n7 : decide ((7 : Nat) ≤ line) = true := by decide
  have ix : L2.atI ([.int 1, .int 1, .int 1, .int 2, .int 3, .int 4, .int 7] : List D) ((c.fdiv 13065).fmod 7) = some (.int (lrB c)) := by
    obtain ⟨n, hn, e⟩ := fmod_n (c.fdiv 13065) (m := 7) (by decide)
    have e : (c.fdiv 13065).fmod 7 = n := e
    rw [e, at_n (by simpa using hn)]
    unfold lrB
    rw [e, Int.toNat_natCast]
    match n, hn with
    | 0, _ | 1, _ | 2, _ | 3, _ | 4, _ | 5, _ | 6, _ => rfl
  have mk' := hm (lrA c) (lrB c) (by omega) ((lrA_sz c).mono (by decide)) (by
    have : Sz 3 (lrB c) := by unfold Sz; omega
    exact this.mono (by decide)) (h ++ [.lst [.int 1, .int 1, .int 1, .int 2, .int 3, .int 4, .int 7]])
  by_cases q : (c.fdiv 13).fmod 5 = 0
  · have e : lrA c = _ := if_pos q
    rw [e] at mk'
    have er : lrat c = Rat.divInt ((c.fdiv 65).fmod 201 - 100) (lrB c) := by unfold lrat; rw [e]
    simp [C_lratio, startD, d1, d2, d3, q, n7, ix, arrD, mk', er]
    exact fin_app (rv_lt _ _)
  · have e : lrA c = _ := if_neg q
    rw [e] at mk'
    have er : lrat c = Rat.divInt (c.fmod 13 - 6) (lrB c) := by unfold lrat; rw [e]
    simp [C_lratio, startD, d1, d2, d3, q, n7, ix, arrD, mk', er]
    exact fin_app (rv_lt _ _)
end
end PV
/-! PVEq: when two values are equal: plain values (no list within) by their shape. -/
namespace PV
open PySem
/-- plain data of a depth of at most n -/
def Sh (n : Nat) (x : D) : Prop := ∀ h, (toPy h x).canLay0 = true ∧ (toPy h x).depth ≤ n
/-- equal, as Python has it -/
def eqD (x y : D) : Bool := PyData.eqv (toPy [] x) (toPy [] y)
def eqDs (xs ys : List D) : Bool := PyData.eqvAll (toPys [] xs) (toPys [] ys)
mutual
theorem toPy_h (h : Hd) : ∀ x : D, toPy h x = toPy [] x
  | .non | .bl _ | .int _ | .str _ | .ref _ => by simp [toPy]
  | .tup xs => by simp only [toPy]; rw [toPys_h h xs]
  | .fl xs => by simp only [toPy]; rw [toPys_h h xs]
theorem toPys_h (h : Hd) : ∀ xs : List D, toPys h xs = toPys [] xs
  | [] => by simp [toPys]
  | x :: xs => by simp only [toPys]; rw [toPy_h h x, toPys_h h xs]
end
theorem Sh.mono {n m : Nat} {x : D} (s : Sh n x) (l : n ≤ m) : Sh m x := fun h => ⟨(s h).1, Nat.le_trans (s h).2 l⟩
theorem Sh.noref {n k : Nat} (s : Sh n (.ref k)) : False := by
  have := (s []).1
  simp [toPy, PyData.canLay0] at this
mutual
theorem toPyF_eq {f : Nat → PyData} : ∀ x : D, (toPy [] x).canLay0 = true → toPyF f x = toPy [] x
  | .non, _ | .bl _, _ | .int _, _ | .str _, _ => by simp [toPy, toPyF]
  | .ref _, c => by simp [toPy, PyData.canLay0] at c
  | .tup xs, c => by
    simp only [toPy, toPyF] at c ⊢
    rw [toPysF_eq xs (by simpa [PyData.canLay0] using c)]
  | .fl xs, c => by
    simp only [toPy, toPyF] at c ⊢
    rw [toPysF_eq xs (by simpa [PyData.canLay0] using c)]
theorem toPysF_eq {f : Nat → PyData} : ∀ xs : List D, PyData.canLayAll0 (toPys [] xs) = true → toPysF f xs = toPys [] xs
  | [], _ => by simp [toPys, toPysF]
  | x :: xs, c => by
    simp only [toPys, toPysF, PyData.canLayAll0, Bool.and_eq_true] at c ⊢
    rw [toPyF_eq x c.1, toPysF_eq xs c.2]
end
theorem toPyT_sh {n : Nat} {x : D} (s : Sh n x) (h : Hd) : toPyT h x = toPy [] x := toPyF_eq x (s []).1
theorem toPyT_ref {h : Hd} {a : Nat} {xs : List D} {n : Nat} (ea : lstAt h a = some xs) (sx : PyData.canLayAll0 (toPys [] xs) = true) : toPyT h (.ref a) = .list (toPys [] xs) := by
  show (match lstAt h a with
      | some xs => PyData.list (toPysF (refPy h 3) xs)
      | none => .dict []) = _
  rw [ea]
  show PyData.list (toPysF (refPy h 3) xs) = _
  rw [toPysF_eq xs sx]
theorem eqV_sh {n m : Nat} {x y : D} (s : Sh n x) (t : Sh m y) (hn : n ≤ 64) (hm : m ≤ 64) (h : Hd) : eqV h x y = some (eqD x y) := by
  unfold eqV
  rw [toPyT_sh s h, toPyT_sh t h]
  have a := s []
  have b := t []
  have e1 : SeqAt.shaped (toPy [] x) = true := by unfold SeqAt.shaped; rw [a.1, decide_eq_true (Nat.le_trans a.2 hn)]; rfl
  have e2 : SeqAt.shaped (toPy [] y) = true := by unfold SeqAt.shaped; rw [b.1, decide_eq_true (Nat.le_trans b.2 hm)]; rfl
  rw [e1, e2]
  rfl
@[simp] theorem sh_non : Sh 0 .non := fun h => by simp [toPy, PyData.canLay0, PyData.depth]
@[simp] theorem sh_bl (b : Bool) : Sh 0 (.bl b) := fun h => by simp [toPy, PyData.canLay0, PyData.depth]
@[simp] theorem sh_int (i : Int) : Sh 0 (.int i) := fun h => by simp [toPy, PyData.canLay0, PyData.depth]
theorem shs (n : Nat) (h : Hd) : ∀ {xs : List D}, (∀ x ∈ xs, Sh n x) → PyData.canLayAll0 (toPys h xs) = true ∧ PyData.depthAll (toPys h xs) ≤ n
  | [], _ => by simp [toPys, PyData.canLayAll0, PyData.depthAll]
  | x :: xs, k => by
    have a := k x List.mem_cons_self h
    have b := shs n h fun y hy => k y (List.mem_cons_of_mem _ hy)
    simp only [toPys, PyData.canLayAll0, PyData.depthAll, a.1, b.1, Bool.and_self, true_and]
    have := a.2
    have := b.2
    omega
theorem sh_tup {n : Nat} {xs : List D} (k : ∀ x ∈ xs, Sh n x) : Sh (n + 1) (.tup xs) := fun h => by
  have a := shs n h k
  simp only [toPy, PyData.canLay0, PyData.depth, a.1, true_and]
  have := a.2
  omega
theorem sh_rv (q : Rat) : Sh 1 (rv q) := sh_tup fun x hx => by
  simp at hx
  rcases hx with rfl | rfl <;> exact sh_int _
theorem sh_map {α : Type} {n : Nat} {r : α → D} {as : List α} (k : ∀ a ∈ as, Sh n (r a)) : Sh (n + 1) (.tup (as.map r)) := sh_tup fun x hx => by
  obtain ⟨a, ha, rfl⟩ := List.mem_map.mp hx
  exact k a ha
theorem sh_vv (v : List Rat) : Sh 2 (vv v) := sh_map fun a _ => sh_rv a
theorem sh_mv (v : List (List Rat)) : Sh 3 (mv v) := sh_map fun a _ => sh_vv a
theorem sh_pair {n m k : Nat} {x y : D} (a : Sh n x) (b : Sh m y) (h1 : n < k) (h2 : m < k) : Sh k (.tup [x, y]) := by
  obtain ⟨k, rfl⟩ : ∃ j, k = j + 1 := ⟨k - 1, by omega⟩
  refine sh_tup fun z hz => ?_
  simp at hz
  rcases hz with rfl | rfl
  · exact a.mono (by omega)
  · exact b.mono (by omega)
@[simp] theorem eqD_int (a b : Int) : eqD (.int a) (.int b) = decide (a = b) := by
  simp [eqD, toPy, PyData.eqv]
  rfl
@[simp] theorem eqD_bl (a b : Bool) : eqD (.bl a) (.bl b) = (a == b) := by simp [eqD, toPy, PyData.eqv]
@[simp] theorem eqD_str (a b : Str) : eqD (.str a) (.str b) = (a == b) := by simp [eqD, toPy, PyData.eqv]
@[simp] theorem eqD_tup (xs ys : List D) : eqD (.tup xs) (.tup ys) = eqDs xs ys := by simp [eqD, eqDs, toPy, PyData.eqv]
@[simp] theorem eqDs_nil : eqDs [] [] = true := by simp [eqDs, toPys, PyData.eqvAll]
@[simp] theorem eqDs_cons (x y : D) (xs ys : List D) : eqDs (x :: xs) (y :: ys) = (eqD x y && eqDs xs ys) := by simp [eqDs, eqD, toPys, PyData.eqvAll]
@[simp] theorem eqDs_nc (y : D) (ys : List D) : eqDs [] (y :: ys) = false := by simp [eqDs, toPys, PyData.eqvAll]
@[simp] theorem eqDs_cn (x : D) (xs : List D) : eqDs (x :: xs) [] = false := by simp [eqDs, toPys, PyData.eqvAll]
@[simp] theorem eqD_rv (p q : Rat) : eqD (rv p) (rv q) = decide (p = q) := by
  have e : (p = q) ↔ (p.num = q.num ∧ (p.den : Int) = q.den) := ⟨fun e => by rw [e]; exact ⟨rfl, rfl⟩, fun ⟨a, b⟩ => Rat.ext a (by omega)⟩
  unfold rv
  simp only [eqD_tup, eqDs_cons, eqDs_nil, eqD_int, decide_eq_decide.mpr e, Bool.and_true]
  by_cases h1 : p.num = q.num
  · by_cases h2 : (p.den : Int) = q.den
    · simp [h1, h2]
    · simp [h1, h2]
  · simp [h1]
theorem eqDs_map {α : Type} [DecidableEq α] {r : α → D} (k : ∀ a b, eqD (r a) (r b) = decide (a = b)) : ∀ as bs : List α, eqDs (as.map r) (bs.map r) = decide (as = bs)
  | [], [] => by simp
  | [], _ :: _ => by simp
  | _ :: _, [] => by simp
  | a :: as, b :: bs => by simp [k a b, eqDs_map k as bs]
@[simp] theorem eqD_vv (v w : List Rat) : eqD (vv v) (vv w) = decide (v = w) := by
  unfold vv
  rw [eqD_tup, eqDs_map eqD_rv]
@[simp] theorem eqD_mv (v w : List (List Rat)) : eqD (mv v) (mv w) = decide (v = w) := by
  unfold mv
  rw [eqD_tup, eqDs_map eqD_vv]
theorem eqV_vv (v w : List Rat) (h : Hd) : eqV h (vv v) (vv w) = some (decide (v = w)) := by rw [eqV_sh (sh_vv v) (sh_vv w) (by decide) (by decide), eqD_vv]
/-- lists of the heap -/
theorem eqV_ref {h : Hd} {a b : Nat} {xs ys : List D} {n : Nat} (ea : lstAt h a = some xs) (eb : lstAt h b = some ys) (sx : ∀ x ∈ xs, Sh n x) (sy : ∀ y ∈ ys, Sh n y) (hn : n ≤ 63) : eqV h (.ref a) (.ref b) = some (eqDs xs ys) := by
  have a1 := shs n [] sx
  have a2 := shs n [] sy
  have e1 : toPyT h (.ref a) = .list (toPys [] xs) := toPyT_ref (n := n) ea a1.1
  have e2 : toPyT h (.ref b) = .list (toPys [] ys) := toPyT_ref (n := n) eb a2.1
  unfold eqV
  rw [e1, e2]
  have q1 : SeqAt.shaped (.list (toPys [] xs)) = true := by
    unfold SeqAt.shaped
    simp only [PyData.canLay0, PyData.depth, a1.1, Bool.true_and]
    exact decide_eq_true (by have := a1.2; omega)
  have q2 : SeqAt.shaped (.list (toPys [] ys)) = true := by
    unfold SeqAt.shaped
    simp only [PyData.canLay0, PyData.depth, a2.1, Bool.true_and]
    exact decide_eq_true (by have := a2.2; omega)
  rw [q1, q2]
  simp [eqDs, PyData.eqv]
end PV
/-! PVV: vectors by places with bounded ratios; items by place. -/
namespace PV
open PySem
def Qf (n : Nat) (f : Nat → Rat) : Prop := ∀ i, Qn n (f i)
theorem Qf.mono {n m : Nat} {f : Nat → Rat} (h : Qf n f) (l : n ≤ m) : Qf m f := fun i => (h i).mono l
theorem vec_mem {n : Nat} {f : Nat → Rat} {x : Rat} (h : x ∈ vec n f) : ∃ i, i < n ∧ x = f i := by
  obtain ⟨i, hi, e⟩ := List.mem_map.mp h
  exact ⟨i, List.mem_range.mp hi, e.symm⟩
theorem zip_mem {n b : Nat} {f g : Nat → Rat} (hf : Qf b f) (hg : Qf b g) : ∀ p ∈ (vec n f).zip (vec n g), Qn b p.1 ∧ Qn b p.2 := fun p hp => by
  obtain ⟨i, _, e1⟩ := vec_mem (List.of_mem_zip hp).1
  obtain ⟨j, _, e2⟩ := vec_mem (List.of_mem_zip hp).2
  rw [e1, e2]
  exact ⟨hf i, hg j⟩
@[simp] theorem at_rng {r : Nat → D} {n i : Nat} (hi : i < n) : L2.atI ((List.range n).map r) (i : Int) = some (r i) := by
  rw [at_n (by simpa using hi)]
  simp
theorem at_vec {n i : Nat} {f : Nat → Rat} (hi : i < n) (h : Hd) : idxV (vv (vec n f)) (.int (i : Int)) h = .ok (rv (f i)) h := by
  unfold vv vec
  rw [t_idx, List.map_map, at_rng hi]
  rfl
theorem vv_vec (n : Nat) (f : Nat → Rat) : D.tup ((List.range n).map fun i => rv (f i)) = vv (vec n f) := by
  unfold vv vec
  rw [List.map_map]
  rfl
theorem walk_vec (n : Nat) (f : Nat → Rat) (h : Hd) : walkV (vv (vec n f)) h = .ok ⟨(List.range n).map fun i => rv (f i), []⟩ h := by
  rw [← vv_vec]
  rfl
theorem len_vec (n : Nat) (f : Nat → Rat) (h : Hd) : biV .len [vv (vec n f)] h = .ok (.int (n : Int)) h := by
  rw [← vv_vec, bi_len_tup]
  simp
theorem sum_sz {b c : Nat} {f : Nat → Rat} (hf : Qf b f) : ∀ n : Nat, n * (b + 1) < c → Qn c (sumN f n)
  | 0, h => Qn.zero (by omega)
  | n + 1, h => by
    have e : (n + 1) * (b + 1) = n * (b + 1) + (b + 1) := by rw [Nat.add_mul]; omega
    have i := sum_sz (c := n * (b + 1) + 1) hf n (by omega)
    exact (i.add (hf n)).mono (by omega)
/-- one item of a list of the heap set -/
theorem set_rng {r r' : Nat → D} {n j : Nat} (hj : ∀ i, i ≠ j → r' i = r i) : ((List.range n).map r).set j (r' j) = (List.range n).map r' := by
  apply List.ext_getElem
  · simp
  · intro i h1 h2
    rw [List.getElem_set]
    by_cases e : j = i
    · subst e; simp
    · rw [if_neg e]
      simp [hj i fun q => e q.symm]
theorem app_rng {r : Nat → D} {n : Nat} : (List.range n).map r ++ [r n] = (List.range (n + 1)).map r := by
  rw [List.range_succ, List.map_append]
  rfl
theorem zip_rng {r q : Nat → D} : ∀ n : Nat, zipD ((List.range n).map r) ((List.range n).map q) = (List.range n).map fun i => .tup [r i, q i] := fun n => by
  have := zip_map r q (List.range n) (List.range n)
  rw [this]
  apply List.ext_getElem
  · simp
  · intro i h1 h2
    simp
/-- a list of the heap as a tuple keeps it -/
theorem seq_tup (xs : List D) (h : Hd) : seqOf (.tup xs) h = some ⟨xs, []⟩ := rfl
end PV
/-! PVTk: objects; a heap of which one cell changes; the law's streams. -/
namespace PV
open PySem
/-! ### a def's end, its heap no longer -/
theorem gc_len {h h' : Hd} {d : D} (e : h'.length = h.length) : gc h d h' = .ok d h' := by
  unfold gc
  split
  · rw [← e, List.take_length]
  · rfl
theorem gcE_len {h h' : Hd} {e : Exn} (q : h'.length = h.length) : gcE h e h' = .ex e h' := by
  unfold gcE
  split
  · rw [← q, List.take_length]
  · rfl
theorem keeps_set {m : Nat} {c : Cell} (hc : Cell.lt m c = true) : ∀ (h l : Hd) (n : Nat), keepsCells m h (h.set n c ++ l) = true
  | [], _, _ => rfl
  | x :: h, l, 0 => by
    show ((Cell.beq x c || Cell.lt m c) && keepsCells m h (h ++ l)) = true
    rw [hc, keeps_pre]
    simp
  | x :: h, l, n + 1 => by
    show ((Cell.beq x x || Cell.lt m x) && keepsCells m h (h.set n c ++ l)) = true
    rw [Cell.beq_refl, keeps_set hc h l n]
    rfl
theorem gc_upd {h l : Hd} {n : Nat} {c : Cell} {d : D} (hc : Cell.lt h.length c = true) (hd : D.lt h.length d = true) : gc h d (h.set n c ++ l) = .ok d (h.set n c) := by
  unfold gc gcOk
  rw [keeps_set hc, hd]
  have e : h.length = (h.set n c).length := by simp
  simp only [Bool.and_self, if_true]
  rw [e, List.take_left']
  rfl
@[simp] theorem fin_rt_set {h : Hd} {d : D} (n : Nat) (c : Cell) : fin h (.rt d (h.set n c)) = .ok d (h.set n c) := gc_len (by simp)
@[simp] theorem fin_nx_set {h : Hd} {s : Sl} (n : Nat) (c : Cell) : fin h (.nx s (h.set n c)) = .ok .non (h.set n c) := gc_len (by simp)
@[simp] theorem at_3 {α : Type} (a b c d : α) (l : List α) : L2.atI (a :: b :: c :: d :: l) 3 = some d := at_n (xs := a :: b :: c :: d :: l) (i := 3) (by simp)
@[simp] theorem at_4 {α : Type} (a b c d e : α) (l : List α) : L2.atI (a :: b :: c :: d :: e :: l) 4 = some e := at_n (xs := a :: b :: c :: d :: e :: l) (i := 4) (by simp)
/-! ### objects -/
theorem obj_lt {h : Hd} {n : Nat} {o : Nat × List (Str × D)} (e : objAt h n = some o) : n < h.length := by
  unfold objAt at e
  cases q : h[n]? with
  | none => rw [q] at e; cases e
  | some x => exact (List.getElem?_eq_some_iff.mp q).1
theorem o_set {h : Hd} {n C : Nat} {o : Nat × List (Str × D)} {fs : List (Str × D)} (e : objAt h n = some o) : objAt (h.set n (.obj C fs)) n = some (C, fs) := by
  unfold objAt
  rw [List.getElem?_set_self (obj_lt e)]
theorem o_set_ne {h : Hd} {n m : Nat} {o : Nat × List (Str × D)} {c : Cell} (e : objAt h m = some o) (q : n ≠ m) : objAt (h.set n c) m = some o := by
  unfold objAt at *
  rw [List.getElem?_set_ne q]
  exact e
theorem o_pre {h H : Hd} {n : Nat} {o : Nat × List (Str × D)} (e : objAt h n = some o) (p : h <+: H) : objAt H n = some o := by
  obtain ⟨l, rfl⟩ := p
  have := obj_lt e
  unfold objAt at *
  rw [List.getElem?_append_left this]
  exact e
theorem o_off (h : Hd) (C : Nat) (fs : List (Str × D)) (l : Hd) : objAt (h ++ .obj C fs :: l) h.length = some (C, fs) := by
  unfold objAt
  rw [List.getElem?_append_right (Nat.le_refl _), Nat.sub_self]
  rfl
theorem o_fld {h : Hd} {n C : Nat} {fs : List (Str × D)} (e : objAt h n = some (C, fs)) (f : Str) : fldV f (.ref n) h = idO h (fs.lookup f) := by
  show (match objAt h n with
    | some (_, fs) => match fs.lookup f with
      | some d => Out.ok d h
      | none => .no
    | none => .no) = _
  rw [e]
  show (match fs.lookup f with
    | some d => Out.ok d h
    | none => .no) = _
  cases fs.lookup f <;> rfl
theorem o_setF {h : Hd} {n C : Nat} {fs : List (Str × D)} (e : objAt h n = some (C, fs)) (l : fs.length < 1000) (f : Str) (d : D) (s : Sl) : setF f d s (.ref n) h = .nx s (h.set n (.obj C (putD f d fs))) := by
  show (match objAt h n with
    | some (C, fs) => match decide (fs.length < 1000) with
      | true => SOut.nx s (h.set n (.obj C (putD f d fs)))
      | false => .no
    | none => .no) = _
  rw [e]
  show (match decide (fs.length < 1000) with
      | true => SOut.nx s (h.set n (.obj C (putD f d fs)))
      | false => .no) = _
  rw [decide_eq_true l]
/-! ### a loop, item by item -/
def a_for (fix : List (Nat × List D)) (g : D → Sl → Option Sl) (b : Sl → Hd → SOut) (xs : List D) : SOut → SOut
  | .nx s h => loopF fix g b xs s h
  | .ct s h => loopF fix g b xs s h
  | .bk s h => .nx s h
  | o => o
def b_for (fix : List (Nat × List D)) (g : D → Sl → Option Sl) (b : Sl → Hd → SOut) (xs : List D) (h : Hd) : Bool → Option Sl → SOut
  | true, some s => a_for fix g b xs (b s h)
  | _, _ => .no
section
variable (fix : List (Nat × List D)) (g : D → Sl → Option Sl) (b : Sl → Hd → SOut) (xs : List D) (h : Hd) (s : Sl)
@[simp] theorem a_for_nx : a_for fix g b xs (.nx s h) = loopF fix g b xs s h := rfl
@[simp] theorem a_for_ct : a_for fix g b xs (.ct s h) = loopF fix g b xs s h := rfl
@[simp] theorem a_for_bk : a_for fix g b xs (.bk s h) = .nx s h := rfl
@[simp] theorem a_for_rt (d : D) : a_for fix g b xs (.rt d h) = .rt d h := rfl
@[simp] theorem a_for_ex (e : Exn) : a_for fix g b xs (.ex e s h) = .ex e s h := rfl
@[simp] theorem b_for_ok : b_for fix g b xs h true (some s) = a_for fix g b xs (b s h) := rfl
theorem loopF_cons (x : D) : loopF fix g b (x :: xs) s h = b_for fix g b xs h (fixOk h fix) (g x s) := by
  conv => lhs; unfold loopF
  cases fixOk h fix with
  | false => rfl
  | true =>
    cases g x s with
    | none => rfl
    | some s1 =>
      show (match b s1 h with
        | .nx s2 h2 => loopF fix g b xs s2 h2
        | .ct s2 h2 => loopF fix g b xs s2 h2
        | .bk s2 h2 => .nx s2 h2
        | o => o) = a_for fix g b xs (b s1 h)
      cases b s1 h <;> rfl
theorem loopF_end : loopF [] g b [] s h = .nx s h := loopF_nil rfl
end
@[simp] theorem enum_tup (xs : List D) (h : Hd) : enumV (.tup xs) h = .ok ⟨enumD 0 xs, []⟩ h := rfl
/-! ### a def that gives some value with P, the heap as it was -/
def GivP (ev : Ev) (f : Nat) (xs : List D) (P : D → Prop) : Prop := ∀ h, ∃ d, P d ∧ ev.call f xs h = .ok d h
theorem fin_givesP {h : Hd} {o : SOut} {P : D → Prop} (hd : ∀ d, P d → D.lt h.length d = true) (H : WpS o ⟨noS, fun d h' => P d ∧ h <+: h', noS, noS, fun _ _ _ => False⟩) : ∃ d, P d ∧ fin h o = .ok d h := by
  cases o with
  | rt d h' =>
    obtain ⟨p, l, rfl⟩ := H
    exact ⟨d, p, gc_app (hd d p)⟩
  | nx s h' => exact H.elim
  | bk s h => exact H.elim
  | ct s h => exact H.elim
  | ex e s h => exact H.elim
  | no => exact H.elim
theorem givPW {fns : List FnC} {sub : Nat → Nat → Bool} {fuel k i np nn : Nat} {code : QSs} {ds : List D} {P : D → Prop} (hf : fns[i]? = some ⟨np, nn, code⟩) (hl : ds.length = np) (H : ∀ h, ∃ d, P d ∧ fin h (exSs (evL fns sub fuel k) code (startD nn ds) h) = .ok d h) : GivP (evL fns sub fuel (k + 1)) i ds P := fun h => by
  obtain ⟨d, p, e⟩ := H h
  refine ⟨d, p, ?_⟩
  show callI fns sub fuel (k + 1) i ds h = _
  rw [call_eq hf hl, e]
theorem gpc {fns : List FnC} {sub : Nat → Nat → Bool} {fuel k i : Nat} {ds : List D} {P : D → Prop} (g : GivP (evL fns sub fuel k) i ds P) (h : Hd) : ∃ d, P d ∧ callI fns sub fuel k i ds h = .ok d h := g h
theorem mulOk_n {a : Int} {k : Nat} (ha : a.natAbs < 2 ^ 20) (hk : k ≤ 1000000) : mulOk a (k : Int) = true := mulOk_sz (n := 20) (m := 20) ha (Sz.nat (Nat.lt_of_le_of_lt hk (by decide))) (by decide)
/-- a comprehension with a condition -/
theorem WpE_lcF {α : Type} {fix : List (Nat × List D)} {b : D → Option Sl} {c : Sl → Hd → Out Bool} {e : Sl → Hd → Out D} {Q : List D → Hd → Prop} {X : Exn → Hd → Prop} (as : List α) (φ r : α → D) (p : α → Bool) {items : List D} {h : Hd} (hi : items = as.map φ) (hl : as.length ≤ 1000000) (hf : ∀ H, h <+: H → fixOk H fix = true)
    (hs : ∀ a ∈ as, ∃ s1, b (φ a) = some s1 ∧ ∀ H, h <+: H → WpE (c s1 H) (fun t H1 => t = p a ∧ H <+: H1 ∧ (p a = true → WpE (e s1 H1) (fun d H2 => d = r a ∧ H1 <+: H2) (fun _ _ => False))) (fun _ _ => False))
    (hq : ∀ H, h <+: H → Q ((as.filter p).map r) H) : WpE (noEx (loopC fix b c e items [] h)) Q X := by
  subst hi
  suffices H : ∀ (as : List α) (acc : List D) (H : Hd), h <+: H → acc.length + as.length ≤ line → (∀ a ∈ as, ∃ s1, b (φ a) = some s1 ∧ ∀ H, h <+: H → WpE (c s1 H) (fun t H1 => t = p a ∧ H <+: H1 ∧ (p a = true → WpE (e s1 H1) (fun d H2 => d = r a ∧ H1 <+: H2) (fun _ _ => False))) (fun _ _ => False)) → ∃ H', h <+: H' ∧ loopC fix b c e (as.map φ) acc H = .ok (acc ++ (as.filter p).map r) H' by
    obtain ⟨H', p', e1⟩ := H as [] h (List.prefix_refl _) (by have := line_ok hl; simpa using this) hs
    rw [e1]
    exact hq H' p'
  intro as
  induction as with
  | nil =>
    intro acc H q _ _
    refine ⟨H, q, ?_⟩
    show ret (fixOk H fix) acc H = _
    rw [hf H q]
    simp
  | cons a as ih =>
    intro acc H q hl hs
    obtain ⟨s1, e1, k⟩ := hs a List.mem_cons_self
    have k1 := k H q
    have rest := fun x hx => hs x (List.mem_cons_of_mem _ hx)
    cases qc : c s1 H with
    | no => rw [qc] at k1; exact k1.elim
    | ex x h => rw [qc] at k1; exact k1.elim
    | ok t H1 =>
      rw [qc] at k1
      obtain ⟨rfl, g1, k2⟩ := k1
      cases pa : p a with
      | false =>
        rw [pa] at qc
        obtain ⟨H', g', e4⟩ := ih acc H1 (q.trans g1) (by simp at hl ⊢; omega) rest
        refine ⟨H', g', ?_⟩
        rw [List.map_cons]
        unfold loopC
        simp only [hf H q, e1, qc, bind_ok]
        rw [e4, List.filter_cons_of_neg (by simp [pa])]
      | true =>
        rw [pa] at qc
        have k3 := k2 pa
        cases qe : e s1 H1 with
        | no => rw [qe] at k3; exact k3.elim
        | ex x h => rw [qe] at k3; exact k3.elim
        | ok d H2 =>
          rw [qe] at k3
          obtain ⟨rfl, g2⟩ := k3
          obtain ⟨H', g', e4⟩ := ih (acc ++ [r a]) H2 (q.trans (g1.trans g2)) (by simp at hl ⊢; omega) rest
          refine ⟨H', g', ?_⟩
          have lt : decide (acc.length < line) = true := decide_eq_true (by simp at hl; omega)
          rw [List.map_cons]
          unfold loopC
          simp only [hf H q, e1, qc, bind_ok, qe, lt]
          rw [e4, List.filter_cons_of_pos (by simp [pa])]
          simp
/-! ### streams -/
def St (a b : Int) : Prop := 0 ≤ a ∧ Sz 1048577 a ∧ Sz 1048577 b
abbrev stC (a b : Int) : Cell := .lst [.int a, .int b]
def IsSt (n : Nat) (h : Hd) : Prop := ∃ a b, St a b ∧ lstAt h n = some [.int a, .int b]
/-- the stream goes on, nothing else changes -/
def Adv (n : Nat) (h H : Hd) : Prop := ∃ a b, St a b ∧ H = h.set n (stC a b)
/-- .. and the heap grows -/
def AdvL (n : Nat) (h H : Hd) : Prop := ∃ a b l, St a b ∧ H = h.set n (stC a b) ++ l
theorem IsSt.lt {n : Nat} {h : Hd} (q : IsSt n h) : n < h.length := by
  obtain ⟨a, b, _, e⟩ := q
  exact lst_lt e
theorem IsSt.refl {n : Nat} {h : Hd} (q : IsSt n h) : AdvL n h h := by
  obtain ⟨a, b, s, e⟩ := q
  refine ⟨a, b, [], s, ?_⟩
  rw [List.append_nil]
  unfold lstAt at e
  cases q : h[n]? with
  | none => rw [q] at e; cases e
  | some x =>
    rw [q] at e
    cases x with
    | lst xs =>
      cases e
      have lt := (List.getElem?_eq_some_iff.mp q).1
      refine List.ext_getElem (by simp) fun i h1 h2 => ?_
      rw [List.getElem_set]
      split
      · rename_i e; subst e; exact (List.getElem?_eq_some_iff.mp q).2
      · rfl
    | _ => cases e
theorem AdvL.st {n : Nat} {h H : Hd} (q : AdvL n h H) (hn : n < h.length) : IsSt n H := by
  obtain ⟨a, b, l, s, rfl⟩ := q
  refine ⟨a, b, s, ?_⟩
  unfold lstAt
  rw [List.getElem?_append_left (by simpa using hn), List.getElem?_set_self hn]
theorem Adv.st {n : Nat} {h H : Hd} (q : Adv n h H) (hn : n < h.length) : IsSt n H := by
  obtain ⟨a, b, s, rfl⟩ := q
  refine ⟨a, b, s, ?_⟩
  unfold lstAt
  rw [List.getElem?_set_self hn]
theorem AdvL.step {n : Nat} {h H H' : Hd} (q : AdvL n h H) (hn : n < h.length) (z : Adv n H H') : AdvL n h H' := by
  obtain ⟨a, b, l, s, rfl⟩ := q
  obtain ⟨a', b', s', rfl⟩ := z
  refine ⟨a', b', l, s', ?_⟩
  rw [List.set_append_left _ _ (by simpa using hn), List.set_set]
theorem AdvL.app {n : Nat} {h H : Hd} (q : AdvL n h H) (l : Hd) : AdvL n h (H ++ l) := by
  obtain ⟨a, b, l', s, rfl⟩ := q
  exact ⟨a, b, l' ++ l, s, by rw [List.append_assoc]⟩
theorem Adv.len {n : Nat} {h H : Hd} (q : Adv n h H) : H.length = h.length := by
  obtain ⟨a, b, s, rfl⟩ := q
  simp
theorem AdvL.len {n : Nat} {h H : Hd} (q : AdvL n h H) : h.length ≤ H.length := by
  obtain ⟨a, b, l, s, rfl⟩ := q
  simp
theorem Adv.toL {n : Nat} {h H : Hd} (q : Adv n h H) : AdvL n h H := by
  obtain ⟨a, b, s, rfl⟩ := q
  exact ⟨a, b, [], s, by simp⟩
theorem AdvL.lst {n m : Nat} {h H : Hd} {xs : List D} (q : AdvL n h H) (e : lstAt h m = some xs) (ne : n ≠ m) : lstAt H m = some xs := by
  obtain ⟨a, b, l, s, rfl⟩ := q
  exact lst_old (r_set_ne e ne) l
theorem Adv.lst {n m : Nat} {h H : Hd} {xs : List D} (q : Adv n h H) (e : lstAt h m = some xs) (ne : n ≠ m) : lstAt H m = some xs := q.toL.lst e ne
/-- a def that goes on with a stream, its value no new list -/
theorem fin_adv {n : Nat} {h : Hd} {o : SOut} {P : D → Prop} {X : Exn → Hd → Prop} (hp : ∀ d, P d → D.lt h.length d = true) (H : WpS o ⟨noS, fun d H => P d ∧ AdvL n h H, noS, noS, fun _ _ _ => False⟩) : WpE (fin h o) (fun d H => P d ∧ Adv n h H) X := by
  cases o with
  | rt d h' =>
    obtain ⟨p, a, b, l, s, rfl⟩ := H
    show WpE (gc h d (h.set n (stC a b) ++ l)) _ X
    rw [gc_upd (by simp [Cell.lt, D.lts, D.lt]) (hp d p)]
    exact ⟨p, a, b, s, rfl⟩
  | nx s h => exact H.elim
  | bk s h => exact H.elim
  | ct s h => exact H.elim
  | ex e s h => exact H.elim
  | no => exact H.elim
/-- .. whatever its value -/
theorem fin_advL {n : Nat} {h : Hd} {o : SOut} {P : D → Hd → Prop} {X : Exn → Hd → Prop} (hp : ∀ d a b l, St a b → P d (h.set n (stC a b) ++ l) → D.lt h.length d = true → P d (h.set n (stC a b))) (H : WpS o ⟨noS, fun d H => P d H ∧ AdvL n h H, noS, noS, fun _ _ _ => False⟩) : WpE (fin h o) (fun d H => P d H ∧ AdvL n h H) X := by
  cases o with
  | rt d h' =>
    obtain ⟨p, a, b, l, s, rfl⟩ := H
    show WpE (gc h d (h.set n (stC a b) ++ l)) _ X
    cases q : D.lt h.length d with
    | true =>
      rw [gc_upd (by simp [Cell.lt, D.lts, D.lt]) q]
      exact ⟨hp d a b l s p q, a, b, [], s, by simp⟩
    | false =>
      have e : gc h d (h.set n (stC a b) ++ l) = .ok d (h.set n (stC a b) ++ l) := by
        unfold gc
        rw [q]
        simp
      rw [e]
      exact ⟨p, a, b, l, s, rfl⟩
  | nx s h => exact H.elim
  | bk s h => exact H.elim
  | ct s h => exact H.elim
  | ex e s h => exact H.elim
  | no => exact H.elim
def C_stream : QSs := (.cons (.ife (.v (.cmp .GtE (.var 0) (.bin .Pow (.con (.int (10))) (.con (.int (18)))))) (.cons (.ret (.lst (.cons (.var 0) (.cons (.con (.int (1))) .nil))))
  .nil) .nil)
  (.cons (.ret (.lst (.cons (.con (.int (0))) (.cons (.var 0) .nil))))
  .nil))
def C_take : QSs := (.cons (.ife (.v (.cmp .Gt (.idx (.var 0) (.con (.int (0)))) (.con (.int (0))))) (.cons (.asg (.nm 2) (.bin .Mod (.bi .int (.cons (.idx (.var 0) (.con (.int (0)))) .nil)) (.var 1)))
  (.cons (.sub (.var 0) (.con (.int (0))) (.bin .FloorDiv (.idx (.var 0) (.con (.int (0)))) (.var 1)))
  (.cons (.ret (.var 2))
  .nil))) .nil)
  (.cons (.sub (.var 0) (.con (.int (1))) (.bin .Mod (.bi .int (.cons (.bin .Add (.bin .Mult (.idx (.var 0) (.con (.int (1)))) (.con (.int (48271)))) (.con (.int (69621)))) .nil)) (.con (.int (2147483647)))))
  (.cons (.ret (.bin .Mod (.bi .int (.cons (.bin .Add (.bin .FloorDiv (.bin .Mult (.idx (.var 0) (.con (.int (1)))) (.idx (.var 0) (.con (.int (1))))) (.con (.int (1009)))) (.bin .FloorDiv (.idx (.var 0) (.con (.int (1)))) (.con (.int (7))))) .nil)) (.var 1)))
  .nil)))
theorem ix20 : L2.ixN 2 0 = some 0 := by decide
theorem ix21 : L2.ixN 2 1 = some 1 := by decide
section
variable {ev : Ev} {h : Hd}
theorem t_stream {c : Int} (sz : Sz 1048577 c) : ∃ a b, St a b ∧ fin h (exSs ev C_stream (startD 1 [.int c]) h) = .ok (.ref h.length) (h ++ [stC a b]) := by
  have p : powOk 10 18 = true := by decide
  have k : D.lt h.length (.ref h.length) = false := by simp [D.lt]
  by_cases q : (10 : Int) ^ 18 ≤ c
  · refine ⟨c, 1, ⟨by omega, sz, by unfold Sz; exact Nat.one_lt_two_pow (by omega)⟩, ?_⟩
    have q' : (1000000000000000000 : Int) ≤ c := q
    simp [C_stream, startD, p, q']
    exact fin_keep k
  · refine ⟨0, c, ⟨by omega, by unfold Sz; exact Nat.two_pow_pos _, sz⟩, ?_⟩
    have q' : ¬ (1000000000000000000 : Int) ≤ c := q
    simp [C_stream, startD, p, q']
    exact fin_keep k
theorem t_take {n : Nat} {a b m : Int} (st : lstAt h n = some [.int a, .int b]) (s : St a b) (hm : 0 < m) (sm : Sz 8990 m) : ∃ r a' b', 0 ≤ r ∧ r < m ∧ St a' b' ∧ fin h (exSs ev C_take (startD 3 [.ref n, .int m]) h) = .ok (.int r) (h.set n (stC a' b')) := by
  obtain ⟨s0, s1, s2⟩ := s
  have m0 : m ≠ 0 := by omega
  have dm := divOk_sz (i := a) sm (Nat.le_refl _) m0
  by_cases q : 0 < a
  · have f := fmod_b a hm
    refine ⟨a.fmod m, a.fdiv m, b, f.1, f.2, ⟨Int.fdiv_nonneg s0 (by omega), s1.fdiv, s2⟩, ?_⟩
    simp [C_take, startD, st, q, m0, dm, r_sub _ _ st, ix20]
  · let x : Int := (b * 48271 + 69621).fmod 2147483647
    have fx := fmod_b (b * 48271 + 69621) (m := 2147483647) (by decide)
    let r : Int := ((x * x).fdiv 1009 + x.fdiv 7).fmod m
    have fr := fmod_b ((x * x).fdiv 1009 + x.fdiv 7) hm
    have sx : Sz 31 x := by show (_ : Nat) < 2 ^ 31; omega
    have mb : mulOk b 48271 = true := mulOk_sz (m := 16) s2 (by unfold Sz; decide) (by decide)
    have mx : mulOk x x = true := mulOk_sz sx sx (by decide)
    have d1 := div_ok (j := 1009) (x * x) (by decide) (by decide)
    have d2 := div_ok (j := 7) x (by decide) (by decide)
    refine ⟨r, a, x, fr.1, fr.2, ⟨s0, s1, sx.mono (by decide)⟩, ?_⟩
    have st' : lstAt (h.set n (.lst [.int a, .int x])) n = some [.int a, .int x] := r_set st
    simp [C_take, startD, st, q, m0, mb, r_sub _ _ st, ix21, st', mx, d1, d2, x, r]
end
section
variable {fns : List FnC} {sub : Nat → Nat → Bool} {fuel k : Nat} {X : Exn → Hd → Prop}
theorem w_take {i n : Nat} {m : Int} {h : Hd} (hf : fns[i]? = some ⟨2, 3, C_take⟩) (st : IsSt n h) (hm : 0 < m) (sm : Sz 8990 m) : WpE (callI fns sub fuel (k + 1) i [.ref n, .int m] h) (fun d H => ∃ r : Int, d = .int r ∧ 0 ≤ r ∧ r < m ∧ Adv n h H) X := by
  obtain ⟨a, b, s, e⟩ := st
  obtain ⟨r, a', b', r0, r1, s', q⟩ := t_take (ev := evL fns sub fuel k) e s hm sm
  rw [call_eq hf rfl, q]
  exact ⟨r, rfl, r0, r1, a', b', s', rfl⟩
theorem w_stream {i : Nat} {c : Int} {h : Hd} (hf : fns[i]? = some ⟨1, 1, C_stream⟩) (sz : Sz 1048577 c) : WpE (callI fns sub fuel (k + 1) i [.int c] h) (fun d H => d = .ref h.length ∧ ∃ a b, St a b ∧ H = h ++ [stC a b]) X := by
  obtain ⟨a, b, s, q⟩ := t_stream (ev := evL fns sub fuel k) (h := h) sz
  rw [call_eq hf rfl, q]
  exact ⟨rfl, a, b, s, rfl⟩
end
end PV
/-! PVNc: codes of the defs that many laws of networks share, with callee numbers (printed by tmpl.py). -/
namespace PV
open PySem
def C_l_dot (f_l_add f_l_mul : Nat) : QSs := (.cons (.asg (.nm 2) (.tup (.cons (.con (.int (0))) (.cons (.con (.int (1))) .nil))))
  (.cons (.for (.nm 3) (.rng1 (.bi .len (.cons (.var 0) .nil))) (.cons (.asg (.nm 2) (.call f_l_add (.cons (.var 2) (.cons (.call f_l_mul (.cons (.idx (.var 0) (.var 3)) (.cons (.idx (.var 1) (.var 3)) .nil)) .nil [.inl (.inl 0), .inl (.inl 1)]) .nil)) .nil [.inl (.inl 0), .inl (.inl 1)]))
  .nil))
  (.cons (.ret (.var 2))
  .nil)))
def C_l_sums (f_l_make : Nat) : QSs := (.cons (.asg (.nm 3) (.lst .nil))
  (.cons (.for (.nm 4) (.rng1 (.var 2)) (.cons (.asg (.nm 5) (.lst .nil))
  (.cons (.for (.nm 6) (.rng1 (.var 1)) (.cons (.asg (.nm 7) (.bin .FloorDiv (.var 0) (.bin .Add (.bin .Add (.con (.int (3))) (.bin .Mult (.con (.int (5))) (.var 4))) (.bin .Mult (.con (.int (11))) (.var 6)))))
  (.cons (.expr (.mth 0 (.var 5) (.cons (.ife (.v (.cmp .Eq (.bin .Mod (.var 7) (.con (.int (4)))) (.con (.int (0))))) (.tup (.cons (.con (.int (0))) (.cons (.con (.int (1))) .nil))) (.call f_l_make (.cons (.bin .Sub (.bin .Mod (.bin .FloorDiv (.var 7) (.con (.int (4)))) (.con (.int (9)))) (.con (.int (4)))) (.cons (.idx (.lst (.cons (.con (.int (1))) (.cons (.con (.int (1))) (.cons (.con (.int (2))) (.cons (.con (.int (3))) .nil))))) (.bin .Mod (.bin .FloorDiv (.var 7) (.con (.int (36)))) (.con (.int (4))))) .nil)) .nil [.inl (.inl 0), .inl (.inl 1)])) .nil)))
  .nil)))
  (.cons (.expr (.mth 0 (.var 3) (.cons (.bi .tuple (.cons (.var 5) .nil)) .nil)))
  .nil))))
  (.cons (.asg (.nm 8) (.bi .tuple (.cons (.lc (.call f_l_make (.cons (.bin .Sub (.bin .Mod (.bin .FloorDiv (.var 0) (.bin .Add (.con (.int (7))) (.bin .Mult (.con (.int (13))) (.var 4)))) (.con (.int (11)))) (.con (.int (5)))) (.cons (.idx (.lst (.cons (.con (.int (1))) (.cons (.con (.int (1))) (.cons (.con (.int (2))) .nil)))) (.bin .Mod (.bin .FloorDiv (.var 0) (.bin .Add (.con (.int (9))) (.var 4))) (.con (.int (3))))) .nil)) .nil [.inl (.inl 0), .inl (.inl 1)]) (.nm 4) (.rng1 (.var 2)) [4] .yes) .nil)))
  (.cons (.ret (.tup (.cons (.con (.str "sums")) (.cons (.bi .tuple (.cons (.var 3) .nil)) (.cons (.var 8) .nil)))))
  .nil))))
def C_l_network (f_l_cell f_l_rich f_l_sums : Nat) : QSs := (.cons (.asg (.nm 3) (.bin .Add (.con (.int (1))) (.bin .Mod (.call f_l_cell (.cons (.var 0) (.cons (.con (.int (20))) .nil)) .nil [.inl (.inl 0), .inl (.inl 1)]) (.var 1))))
  (.cons (.asg (.nm 4) (.lst .nil))
  (.cons (.asg (.nm 5) (.var 3))
  (.cons (.asg (.nm 6) (.bin .Mod (.bin .FloorDiv (.call f_l_cell (.cons (.var 0) (.cons (.con (.int (20))) .nil)) .nil [.inl (.inl 0), .inl (.inl 1)]) (.con (.int (12)))) (.con (.int (3)))))
  (.cons (.for (.nm 7) (.rng1 (.var 6)) (.cons (.asg (.nm 8) (.call f_l_rich (.cons (.call f_l_cell (.cons (.var 0) (.cons (.bin .Add (.con (.int (21))) (.var 7)) .nil)) .nil [.inl (.inl 0), .inl (.inl 1)]) (.cons (.bin .Add (.con (.int (60))) (.var 7)) .nil)) .nil [.inl (.inl 0), .inl (.inl 1)]))
  (.cons (.asg (.nm 9) (.bin .Add (.con (.int (1))) (.bin .Mod (.var 8) (.var 2))))
  (.cons (.expr (.mth 0 (.var 4) (.cons (.call f_l_sums (.cons (.bin .FloorDiv (.var 8) (.con (.int (5)))) (.cons (.var 5) (.cons (.var 9) .nil))) .nil [.inl (.inl 0), .inl (.inl 1), .inl (.inl 2)]) .nil)))
  (.cons (.expr (.mth 0 (.var 4) (.cons (.tup (.cons (.con (.str "bends")) (.cons (.bi .tuple (.cons (.lc (.cmp .Gt (.bin .Mod (.bin .FloorDiv (.var 8) (.bin .Add (.con (.int (11))) (.var 10))) (.con (.int (5)))) (.con (.int (0)))) (.nm 10) (.rng1 (.var 9)) [10] .yes) .nil)) .nil))) .nil)))
  (.cons (.asg (.nm 5) (.var 9))
  .nil))))))
  (.cons (.asg (.nm 8) (.call f_l_rich (.cons (.call f_l_cell (.cons (.var 0) (.cons (.con (.int (25))) .nil)) .nil [.inl (.inl 0), .inl (.inl 1)]) (.cons (.con (.int (66))) .nil)) .nil [.inl (.inl 0), .inl (.inl 1)]))
  (.cons (.expr (.mth 0 (.var 4) (.cons (.call f_l_sums (.cons (.bin .FloorDiv (.var 8) (.con (.int (3)))) (.cons (.var 5) (.cons (.bin .Add (.con (.int (1))) (.bin .Mod (.var 8) (.con (.int (2))))) .nil))) .nil [.inl (.inl 0), .inl (.inl 1), .inl (.inl 2)]) .nil)))
  (.cons (.ret (.tup (.cons (.var 3) (.cons (.bi .tuple (.cons (.var 4) .nil)) .nil))))
  .nil))))))))
def C_l_units : QSs := (.cons (.asg (.nm 1) (.con (.int (0))))
  (.cons (.for (.nm 2) (.v (.idx (.var 0) (.con (.int (1))))) (.cons (.ife (.v (.cmp .Eq (.idx (.var 2) (.con (.int (0)))) (.con (.str "bends")))) (.cons (.asg (.nm 1) (.bin .Add (.var 1) (.bi .len (.cons (.lc (.var 3) (.nm 3) (.v (.idx (.var 2) (.con (.int (1))))) [3] (.v (.var 3))) .nil))))
  .nil) .nil)
  .nil))
  (.cons (.ret (.var 1))
  .nil)))
def C_l_values (f_l_add f_l_dot : Nat) : QSs := (.cons (.asg (.nm 2) (.lst .nil))
  (.cons (.asg (.nm 3) (.bi .list (.cons (.var 1) .nil)))
  (.cons (.for (.nm 4) (.v (.idx (.var 0) (.con (.int (1))))) (.cons (.ife (.v (.cmp .Eq (.idx (.var 4) (.con (.int (0)))) (.con (.str "sums")))) (.cons (.asg (.nm 3) (.lc (.call f_l_add (.cons (.call f_l_dot (.cons (.idx (.idx (.var 4) (.con (.int (1)))) (.var 5)) (.cons (.var 3) .nil)) .nil [.inl (.inl 0), .inl (.inl 1)]) (.cons (.idx (.idx (.var 4) (.con (.int (2)))) (.var 5)) .nil)) .nil [.inl (.inl 0), .inl (.inl 1)]) (.nm 5) (.rng1 (.bi .len (.cons (.idx (.var 4) (.con (.int (1)))) .nil))) [5] .yes))
  .nil) (.cons (.for (.nm 5) (.rng1 (.bi .len (.cons (.var 3) .nil))) (.cons (.ife (.v (.idx (.idx (.var 4) (.con (.int (1)))) (.var 5))) (.cons (.expr (.mth 0 (.var 2) (.cons (.idx (.var 3) (.var 5)) .nil)))
  (.cons (.ife (.v (.cmp .Lt (.idx (.idx (.var 3) (.var 5)) (.con (.int (0)))) (.con (.int (0))))) (.cons (.sub (.var 3) (.var 5) (.tup (.cons (.con (.int (0))) (.cons (.con (.int (1))) .nil))))
  .nil) .nil)
  .nil)) .nil)
  .nil))
  .nil))
  .nil))
  (.cons (.ret (.tup (.cons (.var 2) (.cons (.bi .tuple (.cons (.var 3) .nil)) .nil))))
  .nil))))
def C_l_region (f_l_rich f_l_cell f_l_make f_l_add : Nat) : QSs := (.cons (.asg (.nm 2) (.lst .nil))
  (.cons (.asg (.nm 3) (.lst .nil))
  (.cons (.for (.nm 4) (.rng1 (.var 1)) (.cons (.asg (.nm 5) (.call f_l_rich (.cons (.call f_l_cell (.cons (.var 0) (.cons (.con (.int (26))) .nil)) .nil [.inl (.inl 0), .inl (.inl 1)]) (.cons (.bin .Add (.con (.int (70))) (.var 4)) .nil)) .nil [.inl (.inl 0), .inl (.inl 1)]))
  (.cons (.asg (.nm 6) (.call f_l_make (.cons (.bin .Sub (.bin .Mod (.var 5) (.con (.int (9)))) (.con (.int (6)))) (.cons (.idx (.lst (.cons (.con (.int (1))) (.cons (.con (.int (1))) (.cons (.con (.int (2))) .nil)))) (.bin .Mod (.bin .FloorDiv (.var 5) (.con (.int (9)))) (.con (.int (3))))) .nil)) .nil [.inl (.inl 0), .inl (.inl 1)]))
  (.cons (.expr (.mth 0 (.var 2) (.cons (.var 6) .nil)))
  (.cons (.expr (.mth 0 (.var 3) (.cons (.call f_l_add (.cons (.var 6) (.cons (.call f_l_make (.cons (.idx (.lst (.cons (.con (.int (3))) (.cons (.con (.int (1))) (.cons (.con (.int (2))) (.cons (.con (.int (5))) (.cons (.con (.int (0))) (.cons (.neg (.con (.int (1)))) .nil))))))) (.bin .Mod (.bin .FloorDiv (.var 5) (.con (.int (27)))) (.con (.int (6))))) (.cons (.idx (.lst (.cons (.con (.int (1))) (.cons (.con (.int (2))) .nil))) (.bin .Mod (.bin .FloorDiv (.var 5) (.con (.int (162)))) (.con (.int (2))))) .nil)) .nil [.inl (.inl 0), .inl (.inl 1)]) .nil)) .nil [.inl (.inl 0), .inl (.inl 1)]) .nil)))
  (.cons (.ife (.and (.v (.cmp .Gt (.bin .Mod (.bin .FloorDiv (.var 5) (.con (.int (324)))) (.con (.int (4)))) (.con (.int (0))))) (.v (.cmp .Eq (.bin .Mod (.bin .FloorDiv (.var 5) (.con (.int (27)))) (.con (.int (6)))) (.con (.int (5)))))) (.cons (.sub (.var 3) (.var 4) (.call f_l_add (.cons (.var 6) (.cons (.tup (.cons (.con (.int (2))) (.cons (.con (.int (1))) .nil))) .nil)) .nil [.inl (.inl 0), .inl (.inl 1)]))
  .nil) .nil)
  .nil))))))
  (.cons (.asg (.nm 7) (.lst .nil))
  (.cons (.for (.nm 4) (.rng1 (.bin .Mod (.bin .FloorDiv (.call f_l_cell (.cons (.var 0) (.cons (.con (.int (26))) .nil)) .nil [.inl (.inl 0), .inl (.inl 1)]) (.con (.int (7)))) (.con (.int (3))))) (.cons (.asg (.nm 5) (.call f_l_rich (.cons (.call f_l_cell (.cons (.var 0) (.cons (.con (.int (27))) .nil)) .nil [.inl (.inl 0), .inl (.inl 1)]) (.cons (.bin .Add (.con (.int (80))) (.var 4)) .nil)) .nil [.inl (.inl 0), .inl (.inl 1)]))
  (.cons (.asg (.nm 9) (.bi .tuple (.cons (.lc (.call f_l_make (.cons (.bin .Sub (.bin .Mod (.bin .FloorDiv (.var 5) (.bin .Add (.con (.int (3))) (.bin .Mult (.con (.int (4))) (.var 8)))) (.con (.int (5)))) (.con (.int (2)))) (.cons (.idx (.lst (.cons (.con (.int (1))) (.cons (.con (.int (1))) (.cons (.con (.int (2))) (.cons (.con (.int (3))) .nil))))) (.bin .Mod (.bin .FloorDiv (.var 5) (.bin .Add (.con (.int (37))) (.var 8))) (.con (.int (4))))) .nil)) .nil [.inl (.inl 0), .inl (.inl 1)]) (.nm 8) (.rng1 (.var 1)) [8] .yes) .nil)))
  (.cons (.expr (.mth 0 (.var 7) (.cons (.tup (.cons (.var 9) (.cons (.call f_l_make (.cons (.bin .Sub (.bin .Mod (.bin .FloorDiv (.var 5) (.con (.int (35)))) (.con (.int (15)))) (.con (.int (5)))) (.cons (.idx (.lst (.cons (.con (.int (1))) (.cons (.con (.int (2))) .nil))) (.bin .Mod (.bin .FloorDiv (.var 5) (.con (.int (105)))) (.con (.int (2))))) .nil)) .nil [.inl (.inl 0), .inl (.inl 1)]) .nil))) .nil)))
  .nil))))
  (.cons (.ret (.tup (.cons (.bi .tuple (.cons (.var 2) .nil)) (.cons (.bi .tuple (.cons (.var 3) .nil)) (.cons (.bi .tuple (.cons (.var 7) .nil)) .nil)))))
  .nil))))))
def C_l_in (f_l_less f_l_dot : Nat) : QSs := (.cons (.asg (.tp [(.nm 2), (.nm 3), (.nm 4)]) (.var 0))
  (.cons (.for (.nm 5) (.rng1 (.bi .len (.cons (.var 2) .nil))) (.cons (.ife (.or (.v (.call f_l_less (.cons (.idx (.var 1) (.var 5)) (.cons (.idx (.var 2) (.var 5)) .nil)) .nil [.inl (.inl 0), .inl (.inl 1)])) (.v (.call f_l_less (.cons (.idx (.var 3) (.var 5)) (.cons (.idx (.var 1) (.var 5)) .nil)) .nil [.inl (.inl 0), .inl (.inl 1)]))) (.cons (.ret (.con (.bl false)))
  .nil) .nil)
  .nil))
  (.cons (.ret (.bi .all (.cons (.lc (.nott (.call f_l_less (.cons (.var 7) (.cons (.call f_l_dot (.cons (.var 6) (.cons (.var 1) .nil)) .nil [.inl (.inl 0), .inl (.inl 1)]) .nil)) .nil [.inl (.inl 0), .inl (.inl 1)])) (.tp [(.nm 6), (.nm 7)]) (.v (.var 4)) [6, 7] .yes) .nil)))
  .nil)))
def C_l_points (f_l_make f_l_add f_l_mul f_l_in : Nat) : QSs := (.cons (.asg (.tp [(.nm 3), (.nm 4), (.nm 5)]) (.var 0))
  (.cons (.asg (.nm 6) (.lst .nil))
  (.cons (.for (.nm 7) (.rng1 (.var 2)) (.cons (.asg (.nm 8) (.lst .nil))
  (.cons (.for (.nm 9) (.rng1 (.bi .len (.cons (.var 3) .nil))) (.cons (.asg (.nm 10) (.call f_l_make (.cons (.bin .Mod (.bin .FloorDiv (.var 1) (.bin .Add (.bin .Add (.con (.int (3))) (.bin .Mult (.con (.int (5))) (.var 7))) (.var 9))) (.con (.int (7)))) (.cons (.con (.int (6))) .nil)) .nil [.inl (.inl 0), .inl (.inl 1)]))
  (.cons (.ife (.v (.cmp .Eq (.bin .Mod (.bin .FloorDiv (.var 1) (.bin .Add (.con (.int (11))) (.var 7))) (.con (.int (3)))) (.con (.int (0))))) (.cons (.asg (.nm 10) (.idx (.lst (.cons (.tup (.cons (.con (.int (0))) (.cons (.con (.int (1))) .nil))) (.cons (.tup (.cons (.con (.int (1))) (.cons (.con (.int (1))) .nil))) .nil))) (.bin .Mod (.bin .FloorDiv (.var 1) (.bin .Add (.bin .Add (.con (.int (7))) (.var 7)) (.bin .Mult (.con (.int (3))) (.var 9)))) (.con (.int (2))))))
  .nil) .nil)
  (.cons (.asg (.nm 11) (.call f_l_add (.cons (.tup (.cons (.con (.int (1))) (.cons (.con (.int (1))) .nil))) (.cons (.tup (.cons (.neg (.idx (.var 10) (.con (.int (0))))) (.cons (.idx (.var 10) (.con (.int (1)))) .nil))) .nil)) .nil [.inl (.inl 0), .inl (.inl 1)]))
  (.cons (.expr (.mth 0 (.var 8) (.cons (.call f_l_add (.cons (.call f_l_mul (.cons (.var 11) (.cons (.idx (.var 3) (.var 9)) .nil)) .nil [.inl (.inl 0), .inl (.inl 1)]) (.cons (.call f_l_mul (.cons (.var 10) (.cons (.idx (.var 4) (.var 9)) .nil)) .nil [.inl (.inl 0), .inl (.inl 1)]) .nil)) .nil [.inl (.inl 0), .inl (.inl 1)]) .nil)))
  .nil)))))
  (.cons (.expr (.mth 0 (.var 6) (.cons (.bi .tuple (.cons (.var 8) .nil)) .nil)))
  .nil))))
  (.cons (.ret (.lc (.var 8) (.nm 8) (.v (.var 6)) [8] (.v (.call f_l_in (.cons (.var 0) (.cons (.var 8) .nil)) .nil [.inl (.inl 0), .inl (.inl 1)]))))
  .nil))))
def C_is_vector (f_is_ratio : Nat) : QSs := (.cons (.ife (.or (.not (.v (.isi (.var 0) .tuple))) (.and (.v (.cmp .IsNot (.var 1) (.con .non))) (.v (.cmp .NotEq (.bi .len (.cons (.var 0) .nil)) (.var 1))))) (.cons (.ret (.con (.bl false)))
  .nil) .nil)
  (.cons (.ret (.bi .all (.cons (.lc (.call f_is_ratio (.cons (.var 2) .nil) .nil [.inl (.inl 0)]) (.nm 2) (.v (.var 0)) [2] .yes) .nil)))
  .nil))
def C_is_matrix (f_is_vector : Nat) : QSs := (.cons (.ife (.or (.not (.v (.isi (.var 0) .tuple))) (.or (.v (.cmp .Eq (.var 0) (.tup .nil))) (.and (.v (.cmp .IsNot (.var 1) (.con .non))) (.v (.cmp .NotEq (.bi .len (.cons (.var 0) .nil)) (.var 1)))))) (.cons (.ret (.con (.bl false)))
  .nil) .nil)
  (.cons (.ife (.not (.v (.isi (.idx (.var 0) (.con (.int (0)))) .tuple))) (.cons (.ret (.con (.bl false)))
  .nil) .nil)
  (.cons (.asg (.nm 3) (.ife (.v (.cmp .Is (.var 2) (.con .non))) (.bi .len (.cons (.idx (.var 0) (.con (.int (0)))) .nil)) (.var 2)))
  (.cons (.ret (.bi .all (.cons (.lc (.call f_is_vector (.cons (.var 4) .nil) (.cons (.var 3) .nil) [.inl (.inl 0), .inl (.inr 0)]) (.nm 4) (.v (.var 0)) [4] .yes) .nil)))
  .nil))))
def C_opposite (f_negative : Nat) : QSs := (.cons (.ret (.bi .tuple (.cons (.lc (.call f_negative (.cons (.var 1) .nil) .nil [.inl (.inl 0)]) (.nm 1) (.v (.var 0)) [1] .yes) .nil)))
  .nil)
def C_negative : QSs := (.cons (.ret (.tup (.cons (.neg (.idx (.var 0) (.con (.int (0))))) (.cons (.idx (.var 0) (.con (.int (1)))) .nil))))
  .nil)
def C_has_form (f_is_matrix f_is_vector f_is_group f_is_step f_is_ratio : Nat) : QSs := (.cons (.ife (.or (.not (.v (.isi (.var 0) .tuple))) (.or (.v (.cmp .Eq (.var 0) (.tup .nil))) (.not (.v (.isi (.idx (.var 0) (.con (.int (0)))) .str))))) (.cons (.ret (.con (.bl false)))
  .nil) .nil)
  (.cons (.mtch (.var 0) (.cons "sums" [1, 2] (.cons (.ret (.andv (.call f_is_matrix (.cons (.var 1) .nil) .nil [.inl (.inl 0), .inr .non, .inr .non]) (.call f_is_vector (.cons (.var 2) .nil) .nil [.inl (.inl 0), .inr .non])))
  .nil)
  (.cons "bends" [3] (.cons (.ret (.andv (.isi (.var 3) .tuple) (.bi .all (.cons (.lc (.isi (.var 4) .bool) (.nm 4) (.v (.var 3)) [4] .yes) .nil))))
  .nil)
  (.cons "greatest" [5] (.cons (.ret (.andv (.isi (.var 5) .tuple) (.andv (.cmp .NotEq (.var 5) (.tup .nil)) (.bi .all (.cons (.lc (.call f_is_group (.cons (.var 6) .nil) .nil [.inl (.inl 0)]) (.nm 6) (.v (.var 5)) [6] .yes) .nil)))))
  .nil)
  (.cons "window" [7, 8, 9] (.cons (.ret (.andv (.call f_is_step (.cons (.var 7) .nil) .nil [.inl (.inl 0)]) (.andv (.call f_is_vector (.cons (.var 8) .nil) .nil [.inl (.inl 0), .inr .non]) (.andv (.cmp .NotEq (.var 8) (.tup .nil)) (.call f_is_ratio (.cons (.var 9) .nil) .nil [.inl (.inl 0)])))))
  .nil)
  .nil)))))
  (.cons (.ret (.con (.bl false)))
  .nil)))
def C_nfits : QSs := (.cons (.ife (.v (.cmp .Eq (.idx (.var 1) (.con (.int (0)))) (.con (.str "sums")))) (.cons (.ret (.andv (.cmp .Eq (.bi .len (.cons (.idx (.idx (.var 1) (.con (.int (1)))) (.con (.int (0)))) .nil)) (.var 0)) (.cmp .Eq (.bi .len (.cons (.idx (.var 1) (.con (.int (2)))) .nil)) (.bi .len (.cons (.idx (.var 1) (.con (.int (1)))) .nil)))))
  .nil) .nil)
  (.cons (.ife (.v (.cmp .Eq (.idx (.var 1) (.con (.int (0)))) (.con (.str "bends")))) (.cons (.ret (.cmp .Eq (.bi .len (.cons (.idx (.var 1) (.con (.int (1)))) .nil)) (.var 0)))
  .nil) .nil)
  (.cons (.ife (.v (.cmp .Eq (.idx (.var 1) (.con (.int (0)))) (.con (.str "greatest")))) (.cons (.ret (.bi .all (.cons (.lc (.cmp .Lt (.idx (.var 2) (.neg (.con (.int (1))))) (.var 0)) (.nm 2) (.v (.idx (.var 1) (.con (.int (1))))) [2] .yes) .nil)))
  .nil) .nil)
  (.cons (.ret (.cmp .LtE (.bi .len (.cons (.idx (.var 1) (.con (.int (2)))) .nil)) (.var 0)))
  .nil))))
def C_given_size : QSs := (.cons (.ife (.v (.cmp .Eq (.idx (.var 1) (.con (.int (0)))) (.con (.str "bends")))) (.cons (.ret (.var 0))
  .nil) .nil)
  (.cons (.ife (.v (.cmp .Eq (.idx (.var 1) (.con (.int (0)))) (.con (.str "window")))) (.cons (.ret (.bin .Add (.bin .FloorDiv (.bin .Sub (.var 0) (.bi .len (.cons (.idx (.var 1) (.con (.int (2)))) .nil))) (.idx (.var 1) (.con (.int (1))))) (.con (.int (1)))))
  .nil) .nil)
  (.cons (.ret (.bi .len (.cons (.idx (.var 1) (.con (.int (1)))) .nil)))
  .nil)))
def C_sizes (e_BadNetwork f_is_integer f_has_form f_nfits f_given_size : Nat) : QSs := (.cons (.ife (.or (.not (.v (.isi (.var 0) .tuple))) (.or (.v (.cmp .NotEq (.bi .len (.cons (.var 0) .nil)) (.con (.int (2))))) (.not (.v (.isi (.idx (.var 0) (.con (.int (1)))) .tuple))))) (.cons (.raise e_BadNetwork ["layer", "reason"] (.cons (.neg (.con (.int (1)))) (.cons (.con (.str "form")) .nil)))
  .nil) .nil)
  (.cons (.ife (.not (.v (.call f_is_integer (.cons (.idx (.var 0) (.con (.int (0)))) .nil) .nil [.inl (.inl 0)]))) (.cons (.raise e_BadNetwork ["layer", "reason"] (.cons (.neg (.con (.int (1)))) (.cons (.con (.str "form")) .nil)))
  .nil) .nil)
  (.cons (.ife (.or (.v (.cmp .Lt (.idx (.var 0) (.con (.int (0)))) (.con (.int (1))))) (.v (.cmp .Gt (.idx (.var 0) (.con (.int (0)))) (.con (.int (1000)))))) (.cons (.raise e_BadNetwork ["layer", "reason"] (.cons (.neg (.con (.int (1)))) (.cons (.con (.str "inputs")) .nil)))
  .nil) .nil)
  (.cons (.asg (.nm 1) (.lst (.cons (.idx (.var 0) (.con (.int (0)))) .nil)))
  (.cons (.for (.tp [(.nm 2), (.nm 3)]) (.enum (.idx (.var 0) (.con (.int (1))))) (.cons (.ife (.not (.v (.call f_has_form (.cons (.var 3) .nil) .nil [.inl (.inl 0)]))) (.cons (.raise e_BadNetwork ["layer", "reason"] (.cons (.var 2) (.cons (.con (.str "form")) .nil)))
  .nil) .nil)
  (.cons (.ife (.not (.v (.call f_nfits (.cons (.idx (.var 1) (.neg (.con (.int (1))))) (.cons (.var 3) .nil)) .nil [.inl (.inl 0), .inl (.inl 1)]))) (.cons (.raise e_BadNetwork ["layer", "reason"] (.cons (.var 2) (.cons (.con (.str "size")) .nil)))
  .nil) .nil)
  (.cons (.expr (.mth 0 (.var 1) (.cons (.call f_given_size (.cons (.idx (.var 1) (.neg (.con (.int (1))))) (.cons (.var 3) .nil)) .nil [.inl (.inl 0), .inl (.inl 1)]) .nil)))
  .nil))))
  (.cons (.ret (.bi .tuple (.cons (.var 1) .nil)))
  .nil))))))
def C_check (f_sizes : Nat) : QSs := (.cons (.expr (.call f_sizes (.cons (.var 0) .nil) .nil [.inl (.inl 0)]))
  .nil)
def C_passed (f_added f_applied f_less f_greatest f_add f_dot : Nat) : QSs := (.cons (.mtch (.var 0) (.cons "sums" [2, 3] (.cons (.ret (.call f_added (.cons (.call f_applied (.cons (.var 2) (.cons (.var 1) .nil)) .nil [.inl (.inl 0), .inl (.inl 1)]) (.cons (.var 3) .nil)) .nil [.inl (.inl 0), .inl (.inl 1)]))
  .nil)
  (.cons "bends" [4] (.cons (.ret (.bi .tuple (.cons (.lc (.ife (.and (.v (.var 5)) (.v (.call f_less (.cons (.var 6) (.cons (.con (.tup [(.int (0)), (.int (1))])) .nil)) .nil [.inl (.inl 0), .inl (.inl 1)]))) (.con (.tup [(.int (0)), (.int (1))])) (.var 6)) (.tp [(.nm 5), (.nm 6)]) (.zip (.var 4) (.var 1)) [5, 6] .yes) .nil)))
  .nil)
  (.cons "greatest" [7] (.cons (.ret (.bi .tuple (.cons (.lc (.call f_greatest (.cons (.lc (.idx (.var 1) (.var 8)) (.nm 8) (.v (.var 9)) [8] .yes) .nil) .nil [.inl (.inl 0)]) (.nm 9) (.v (.var 7)) [9] .yes) .nil)))
  .nil)
  .nil))))
  (.cons (.asg (.nm 10) (.bi .len (.cons (.idx (.var 0) (.con (.int (2)))) .nil)))
  (.cons .bad
  (.cons (.ret (.bi .tuple (.cons (.lc (.call f_add (.cons (.call f_dot (.cons (.idx (.var 0) (.con (.int (2)))) (.cons (.slc (.var 1) (.some (.var 12)) (.some (.bin .Add (.var 12) (.var 10)))) .nil)) .nil [.inl (.inl 0), .inl (.inl 1)]) (.cons (.idx (.var 0) (.con (.int (3)))) .nil)) .nil [.inl (.inl 0), .inl (.inl 1)]) (.nm 12) (.v (.var 11)) [12] .yes) .nil)))
  .nil))))
def C_trail (e_BadPoint f_check f_is_vector f_passed : Nat) : QSs := (.cons (.expr (.call f_check (.cons (.var 0) .nil) .nil [.inl (.inl 0)]))
  (.cons (.ife (.not (.v (.call f_is_vector (.cons (.var 1) .nil) (.cons (.idx (.var 0) (.con (.int (0)))) .nil) [.inl (.inl 0), .inl (.inr 0)]))) (.cons (.raise e_BadPoint [] .nil)
  .nil) .nil)
  (.cons (.asg (.nm 2) (.lst (.cons (.var 1) .nil)))
  (.cons (.for (.nm 3) (.v (.idx (.var 0) (.con (.int (1))))) (.cons (.expr (.mth 0 (.var 2) (.cons (.call f_passed (.cons (.var 3) (.cons (.idx (.var 2) (.neg (.con (.int (1))))) .nil)) .nil [.inl (.inl 0), .inl (.inl 1)]) .nil)))
  .nil))
  (.cons (.ret (.bi .tuple (.cons (.var 2) .nil)))
  .nil)))))
def C_rows_of (f_unit f_opposite : Nat) : QSs := (.cons (.asg (.tp [(.nm 1), (.nm 2), (.nm 3)]) (.var 0))
  (.cons (.asg (.nm 4) (.bi .len (.cons (.var 1) .nil)))
  (.cons (.asg (.nm 5) (.lst .nil))
  (.cons (.for (.nm 6) (.rng1 (.var 4)) (.cons (.expr (.mth 0 (.var 5) (.cons (.tup (.cons (.call f_unit (.cons (.var 4) (.cons (.var 6) .nil)) .nil [.inl (.inl 0), .inl (.inl 1)]) (.cons (.idx (.var 2) (.var 6)) .nil))) .nil)))
  (.cons (.expr (.mth 0 (.var 5) (.cons (.tup (.cons (.call f_opposite (.cons (.call f_unit (.cons (.var 4) (.cons (.var 6) .nil)) .nil [.inl (.inl 0), .inl (.inl 1)]) .nil) .nil [.inl (.inl 0)]) (.cons (.idx (.call f_opposite (.cons (.tup (.cons (.idx (.var 1) (.var 6)) .nil)) .nil) .nil [.inl (.inl 0)]) (.con (.int (0)))) .nil))) .nil)))
  .nil)))
  (.cons (.ret (.bin .Add (.bi .tuple (.cons (.var 5) .nil)) (.var 3)))
  .nil)))))
end PV
/-! PVNa: the laws' own networks. -/
namespace PV
open PySem
/-- a comprehension, by what each of its values is -/
theorem WpE_lcP {α : Type} {fix : List (Nat × List D)} {b : D → Option Sl} {c : Sl → Hd → Out Bool} {e : Sl → Hd → Out D} {Q : List D → Hd → Prop} {X : Exn → Hd → Prop} (as : List α) (φ : α → D) (P : D → Prop) {items : List D} {h : Hd} (hi : items = as.map φ) (hl : as.length ≤ 1000000) (hf : ∀ H, h <+: H → fixOk H fix = true)
    (hs : ∀ a ∈ as, ∃ s1, b (φ a) = some s1 ∧ ∀ H, h <+: H → c s1 H = .ok true H ∧ WpE (e s1 H) (fun d H1 => P d ∧ H <+: H1) (fun _ _ => False))
    (hq : ∀ (ds : List D) (H : Hd), ds.length = as.length → (∀ d ∈ ds, P d) → h <+: H → Q ds H) : WpE (noEx (loopC fix b c e items [] h)) Q X := by
  subst hi
  suffices H : ∀ (as : List α) (acc : List D) (H : Hd), h <+: H → acc.length + as.length ≤ line → (∀ d ∈ acc, P d) → (∀ a ∈ as, ∃ s1, b (φ a) = some s1 ∧ ∀ H, h <+: H → c s1 H = .ok true H ∧ WpE (e s1 H) (fun d H1 => P d ∧ H <+: H1) (fun _ _ => False)) → ∃ H' ds, h <+: H' ∧ ds.length = acc.length + as.length ∧ (∀ d ∈ ds, P d) ∧ loopC fix b c e (as.map φ) acc H = .ok ds H' by
    obtain ⟨H', ds, p, l, k, e1⟩ := H as [] h (List.prefix_refl _) (by have := line_ok hl; simpa using this) (by simp) hs
    rw [e1]
    exact hq ds H' (by simpa using l) k p
  intro as
  induction as with
  | nil =>
    intro acc H p _ k _
    refine ⟨H, acc, p, by simp, k, ?_⟩
    show ret (fixOk H fix) acc H = _
    rw [hf H p]
    simp
  | cons a as ih =>
    intro acc H p hl ka hs
    obtain ⟨s1, e1, k⟩ := hs a List.mem_cons_self
    obtain ⟨e2, e3⟩ := k H p
    cases q : e s1 H with
    | no => rw [q] at e3; exact e3.elim
    | ex x h => rw [q] at e3; exact e3.elim
    | ok d H1 =>
      rw [q] at e3
      obtain ⟨pd, p1⟩ := e3
      obtain ⟨H', ds, p', l', k', e4⟩ := ih (acc ++ [d]) H1 (p.trans p1) (by simp at hl ⊢; omega) (fun x hx => by
        rcases List.mem_append.mp hx with g | g
        · exact ka x g
        · rw [List.mem_singleton.mp g]; exact pd) fun x hx => hs x (List.mem_cons_of_mem _ hx)
      refine ⟨H', ds, p', by simp at l' ⊢; omega, k', ?_⟩
      have lt : decide (acc.length < line) = true := decide_eq_true (by simp at hl; omega)
      rw [List.map_cons]
      unfold loopC
      simp only [hf H p, e1, e2, q, bind_ok, lt]
      exact e4
theorem choose_map {α : Type} {φ : α → D} {p : α → Prop} : ∀ {ds : List D}, (∀ d ∈ ds, ∃ a, d = φ a ∧ p a) → ∃ as : List α, ds = as.map φ ∧ as.length = ds.length ∧ ∀ a ∈ as, p a
  | [], _ => ⟨[], rfl, rfl, by simp⟩
  | d :: ds, h => by
    obtain ⟨a, rfl, pa⟩ := h d (by simp)
    obtain ⟨as, rfl, l, k⟩ := choose_map fun x hx => h x (List.mem_cons_of_mem _ hx)
    exact ⟨a :: as, rfl, by simp, by simpa using ⟨pa, k⟩⟩
theorem at_in {xs : List D} {r : Int} (h0 : 0 ≤ r) (h1 : r < xs.length) : ∃ p ∈ xs, L2.atI xs r = some p := by
  have lt : r.toNat < xs.length := by omega
  refine ⟨xs[r.toNat], List.getElem_mem lt, ?_⟩
  have := at_n lt
  rwa [Int.toNat_of_nonneg h0] at this
theorem pickI {xs : List D} {c m lo hi : Int} (hx : ∀ d ∈ xs, ∃ b, d = .int b ∧ lo ≤ b ∧ b ≤ hi) (hm : (xs.length : Int) = m) (m0 : 0 < m) : ∃ b, L2.atI xs (c.fmod m) = some (.int b) ∧ lo ≤ b ∧ b ≤ hi := by
  obtain ⟨f0, f1⟩ := fmod_b c m0
  obtain ⟨p, mp, e⟩ := at_in (xs := xs) f0 (by omega)
  obtain ⟨b, rfl, h⟩ := hx p mp
  exact ⟨b, e, h⟩
theorem sz7 {b : Int} (l : -128 < b) (u : b < 128) : Sz 7 b := by
  show b.natAbs < 2 ^ 7
  omega
def Qs (n : Nat) (v : List Rat) : Prop := ∀ q ∈ v, Qn n q
theorem Qs.mono {n m : Nat} {v : List Rat} (q : Qs n v) (l : n ≤ m) : Qs m v := fun x hx => (q x hx).mono l
structure Sums (size count b : Nat) (rows : List (List Rat)) (offs : List Rat) : Prop where
  len : rows.length = count
  wid : ∀ r ∈ rows, r.length = size
  sz : ∀ r ∈ rows, Qs b r
  olen : offs.length = count
  osz : Qs b offs
abbrev sumD (rows : List (List Rat)) (offs : List Rat) : D := .tup [.str "sums", mv rows, vv offs]
abbrev bendD (fl : List Bool) : D := .tup [.str "bends", .tup (fl.map .bl)]
theorem sumD_lt (n : Nat) (rows : List (List Rat)) (offs : List Rat) : D.lt n (sumD rows offs) = true := by
  show (true && (D.lt n (mv rows) && (D.lt n (vv offs) && true))) = true
  rw [mv_lt, vv_lt]
  rfl
theorem bls_lt (n : Nat) (fl : List Bool) : D.lts n (fl.map .bl) = true := by
  induction fl with
  | nil => rfl
  | cons b fl ih => simpa [D.lts, D.lt] using ih
theorem bendD_lt (n : Nat) (fl : List Bool) : D.lt n (bendD fl) = true := by
  show (true && (D.lts n (fl.map .bl) && true)) = true
  rw [bls_lt]
  rfl
section
variable {ev : Ev} {h : Hd}
theorem mkS {mk : Nat} (hm : MakesA ev mk) {a b : Int} (a0 : -128 < a) (a1 : a < 128) (b0 : 1 ≤ b) (b1 : b < 128) : ∃ q, Qn 7 q ∧ ∀ h, ev.call mk [.int a, .int b] h = .ok (rv q) h :=
  ⟨Rat.divInt a b, Qn.divInt (by omega) (sz7 a0 a1) (sz7 (by omega) b1), hm a b (by omega) ((sz7 a0 a1).mono (by decide)) ((sz7 (by omega) b1).mono (by decide))⟩
theorem t_lsums {mk : Nat} (hm : MakesA ev mk) {rich : Int} {size count : Nat} (hs : size ≤ 100) (hc : count ≤ 100) : ∃ d, (∃ rows offs, d = sumD rows offs ∧ Sums size count 7 rows offs) ∧ fin h (exSs ev (C_l_sums mk) (startD 9 [.int rich, .int size, .int count]) h) = .ok d h := by
  refine fin_givesP (fun d ⟨rows, offs, e, _⟩ => by subst e; exact sumD_lt _ _ _) ?_
  simp [C_l_sums, startD, rngV_k rfl (show count ≤ 1000000 by omega)]
  refine WpS_rng count (fun i s H => (∃ v4 v5 v6 v7, s = [some (.int rich), some (.int size), some (.int count), some (.ref h.length), v4, v5, v6, v7, none]) ∧ h <+: H ∧ ∃ rows : List (List Rat), lstAt H h.length = some (rows.map vv) ∧ rows.length = i ∧ (∀ r ∈ rows, r.length = size) ∧ ∀ r ∈ rows, Qs 7 r) ⟨⟨_, _, _, _, rfl⟩, List.prefix_append _ _, [], by simp, rfl, by simp, by simp⟩ ?_ ?_
  · rintro i hi _ H ⟨⟨v4, v5, v6, v7, rfl⟩, p, rows, e, l, w, z⟩
    refine ⟨_, bindG_nm _ _ _, ?_⟩
    have hH : h.length < H.length := lst_lt e
    simp [rngV_k rfl (show size ≤ 1000000 by omega)]
    refine WpS_rng size (fun j s H1 => (∃ v6 v7, s = [some (.int rich), some (.int size), some (.int count), some (.ref h.length), some (.int i), some (.ref H.length), v6, v7, none]) ∧ h <+: H1 ∧ lstAt H1 h.length = some (rows.map vv) ∧ ∃ row : List Rat, lstAt H1 H.length = some (row.map rv) ∧ row.length = j ∧ Qs 7 row) ⟨⟨_, _, rfl⟩, pre_app p, lst_old e _, [], by simp, rfl, by simp [Qs]⟩ ?_ ?_
    · rintro j hj _ H1 ⟨⟨v6, v7, rfl⟩, p1, e1, row, er, lr, zr⟩
      refine ⟨_, bindG_nm _ _ _, ?_⟩
      have m5 : mulOk 5 (i : Int) = true := mulOk_n (by decide) (by omega)
      have m11 : mulOk 11 (j : Int) = true := mulOk_n (by decide) (by omega)
      have dv : divOk rich (3 + 5 * (i : Int) + 11 * (j : Int)) = true := div_ok rich (by omega) (by omega)
      have lt : decide (row.length < line) = true := decide_eq_true (Nat.lt_of_le_of_lt (show row.length ≤ 100 by omega) (by decide))
      have n4 : decide ((4 : Nat) ≤ line) = true := by decide
      simp [m5, m11, dv, er]
      generalize rich.fdiv (3 + 5 * (i : Int) + 11 * (j : Int)) = part
      have d4 := div_ok (j := 4) part (by decide) (by decide)
      have d36 := div_ok (j := 36) part (by decide) (by decide)
      have fin_ : ∀ (q : Rat) (H2 : Hd), Qn 7 q → H1 <+: H2 → h <+: H2.set H.length (.lst (row.map rv ++ [rv q])) ∧ lstAt (H2.set H.length (.lst (row.map rv ++ [rv q]))) h.length = some (rows.map vv) ∧ ∃ row' : List Rat, lstAt (H2.set H.length (.lst (row.map rv ++ [rv q]))) H.length = some (row'.map rv) ∧ row'.length = j + 1 ∧ Qs 7 row' := fun q H2 hq p2 => by
        refine ⟨pre_set (p1.trans p2) (by omega), r_set_ne (lst_pre e1 p2) (by omega), row ++ [q], ?_, by simp; omega, ?_⟩
        · rw [r_set (lst_pre er p2)]
          simp
        · intro x hx
          rcases List.mem_append.mp hx with g | g
          · exact zr x g
          · rw [List.mem_singleton.mp g]; exact hq
      by_cases q : part.fmod 4 = 0
      · have e0 := lst_pre er (List.prefix_refl H1)
        simp [q, er, lt]
        exact fin_ 0 H1 (Qn.zero (by decide)) (List.prefix_refl _)
      · obtain ⟨b, eb, b0, b1⟩ := pickI (xs := [.int 1, .int 1, .int 2, .int 3]) (c := part.fdiv 36) (m := 4) (lo := 1) (hi := 3) (by simp) rfl (by decide)
        have f9 := fmod_b (part.fdiv 4) (m := 9) (by decide)
        obtain ⟨v, vq, ev_⟩ := mkS hm (a := (part.fdiv 4).fmod 9 - 4) (b := b) (by omega) (by omega) b0 (by omega)
        have e2 : lstAt (H1 ++ [.lst [.int 1, .int 1, .int 2, .int 3]]) H.length = some (row.map rv) := lst_old er _
        simp [q, d4, d36, n4, eb, arrD, ev_, e2, lt]
        exact fin_ v _ vq (List.prefix_append _ _)
    · rintro _ H1 ⟨⟨v6, v7, rfl⟩, p1, e1, row, er, lr, zr⟩
      have lt : decide (rows.length < line) = true := decide_eq_true (Nat.lt_of_le_of_lt (show rows.length ≤ 100 by omega) (by decide))
      simp [er, e1, lt]
      refine ⟨pre_set p1 (Nat.le_refl _), rows ++ [row], ?_, by simp; omega, ?_, ?_⟩
      · rw [r_set e1]
        simp [vv]
      · intro r hr
        rcases List.mem_append.mp hr with g | g
        · exact w r g
        · rw [List.mem_singleton.mp g]; exact lr
      · intro r hr
        rcases List.mem_append.mp hr with g | g
        · exact z r g
        · rw [List.mem_singleton.mp g]; exact zr
  · rintro _ H ⟨⟨v4, v5, v6, v7, rfl⟩, p, rows, e, l, w, z⟩
    simp [rngV_k rfl (show count ≤ 1000000 by omega)]
    refine WpE_lcP (List.range count) (fun j : Nat => .int (j : Int)) (fun d => ∃ q, d = rv q ∧ Qn 7 q) rfl (by simpa using (show count ≤ 1000000 by omega)) (fun _ _ => rfl) ?_ ?_
    · intro j hj
      have hj : j < count := by simpa using hj
      refine ⟨_, rfl, fun H2 p2 => ⟨rfl, ?_⟩⟩
      have m13 : mulOk 13 (j : Int) = true := mulOk_n (by decide) (by omega)
      have d1 : divOk rich (7 + 13 * (j : Int)) = true := div_ok rich (by omega) (by omega)
      have d2 : divOk rich (9 + (j : Int)) = true := div_ok rich (by omega) (by omega)
      obtain ⟨b, eb, b0, b1⟩ := pickI (xs := [.int 1, .int 1, .int 2]) (c := rich.fdiv (9 + (j : Int))) (m := 3) (lo := 1) (hi := 2) (by simp) rfl (by decide)
      have f11 := fmod_b (rich.fdiv (7 + 13 * (j : Int))) (m := 11) (by decide)
      obtain ⟨v, vq, ev_⟩ := mkS hm (a := (rich.fdiv (7 + 13 * (j : Int))).fmod 11 - 5) (b := b) (by omega) (by omega) b0 (by omega)
      simp [wipeD, m13, d1, d2, eb, arrD, ev_]
      exact ⟨v, rfl, vq⟩
    · intro ds H2 l2 k2 p2
      obtain ⟨offs, rfl, l3, k3⟩ := choose_map k2
      have e2 := lst_old (lst_pre e p2) [.lst (offs.map rv)]
      simp [e2]
      refine ⟨⟨rows, offs, ⟨rfl, rfl⟩, l, w, z, by simpa using l2, k3⟩, pre_app (p.trans p2)⟩
end
/-! ### networks -/
inductive Lay where
  | sums (rows : List (List Rat)) (offs : List Rat)
  | bends (fl : List Bool)
def Lay.d : Lay → D
  | .sums rows offs => sumD rows offs
  | .bends fl => bendD fl
/-- from n items to m items; ratios of at most b bits, at most 100 items everywhere -/
def WFl (b : Nat) : Nat → List Lay → Nat → Prop
  | n, [], m => n = m ∧ n ≤ 100
  | n, .sums rows offs :: ls, m => n ≤ 100 ∧ Sums n rows.length b rows offs ∧ 1 ≤ rows.length ∧ WFl b rows.length ls m
  | n, .bends fl :: ls, m => n ≤ 100 ∧ fl.length = n ∧ WFl b n ls m
theorem WFl.app {b : Nat} : ∀ {ls ls' : List Lay} {n m k : Nat}, WFl b n ls m → WFl b m ls' k → WFl b n (ls ++ ls') k
  | [], ls', n, m, k, h, h' => by obtain ⟨rfl, _⟩ := h; exact h'
  | .sums rows offs :: ls, ls', n, m, k, h, h' => ⟨h.1, h.2.1, h.2.2.1, WFl.app h.2.2.2 h'⟩
  | .bends fl :: ls, ls', n, m, k, h, h' => ⟨h.1, h.2.1, WFl.app h.2.2 h'⟩
/-- sums and bends by turns, sums last -/
def Plain : List Lay → Prop
  | [.sums _ _] => True
  | .sums _ _ :: .bends _ :: ls => Plain ls
  | _ => False
/-- sums and bends by turns -/
def PrePl : List Lay → Prop
  | [] => True
  | .sums _ _ :: .bends _ :: ls => PrePl ls
  | _ => False
theorem PrePl.app : ∀ {ls : List Lay} {rows : List (List Rat)} {offs : List Rat} {fl : List Bool}, PrePl ls → PrePl (ls ++ [.sums rows offs, .bends fl])
  | [], _, _, _, _ => trivial
  | [.sums _ _], _, _, _, h => h.elim
  | [.bends _], _, _, _, h => h.elim
  | .sums _ _ :: .bends _ :: ls, _, _, _, h => PrePl.app (ls := ls) h
  | .sums _ _ :: .sums _ _ :: _, _, _, _, h => h.elim
  | .bends _ :: _ :: _, _, _, _, h => h.elim
theorem PrePl.plain : ∀ {ls : List Lay} {rows : List (List Rat)} {offs : List Rat}, PrePl ls → Plain (ls ++ [.sums rows offs])
  | [], _, _, _ => trivial
  | [.sums _ _], _, _, h => h.elim
  | [.bends _], _, _, h => h.elim
  | .sums _ _ :: .bends _ :: ls, _, _, h => PrePl.plain (ls := ls) h
  | .sums _ _ :: .sums _ _ :: _, _, _, h => h.elim
  | .bends _ :: _ :: _, _, _, h => h.elim
abbrev netD (n : Nat) (ls : List Lay) : D := .tup [.int (n : Int), .tup (ls.map Lay.d)]
theorem Lay.d_lt (n : Nat) : ∀ l : Lay, D.lt n l.d = true
  | .sums _ _ => sumD_lt _ _ _
  | .bends _ => bendD_lt _ _
theorem netD_lt (k n : Nat) (ls : List Lay) : D.lt k (netD n ls) = true := by
  show (true && (D.lts k (ls.map Lay.d) && true)) = true
  rw [lts_map k Lay.d (Lay.d_lt k) ls]
  rfl
/-- widths -/
def Wid (w : Nat) : List Lay → Prop
  | [] => True
  | .sums rows _ :: ls => rows.length ≤ w ∧ Wid w ls
  | .bends _ :: ls => Wid w ls
theorem Wid.app {w : Nat} : ∀ {ls ls' : List Lay}, Wid w ls → Wid w ls' → Wid w (ls ++ ls')
  | [], _, _, h' => h'
  | .sums _ _ :: ls, _, h, h' => ⟨h.1, Wid.app (ls := ls) h.2 h'⟩
  | .bends _ :: ls, _, h, h' => Wid.app (ls := ls) h h'
/-- a drawn network: at most `most` inputs, widths of at most `wide`, one or two outputs -/
structure NetP (most wide n : Nat) (ls : List Lay) (out : Nat) : Prop where
  n1 : 1 ≤ n
  n2 : n ≤ most
  wf : WFl 7 n ls out
  len : ls.length ≤ 5
  pl : Plain ls
  o1 : 1 ≤ out
  o2 : out ≤ 2
  wid : Wid (max wide 2) ls
section
variable {ev : Ev} {h : Hd}
theorem t_lnetwork {ce ri su : Nat} {ns : List Int} {most wide : Nat} (hn : Ints ns) (hce : ∀ j : Nat, Giv ev ce [.fl (ns.map .int), .int j] (.int (cellI ns j))) (hri : ∀ (j : Nat) (z : Int), Sz 1048577 z → j ≤ 1000 → Giv ev ri [.int z, .int j] (.int (richI z j)))
    (hsu : ∀ (rich : Int) (size count : Nat), size ≤ 100 → count ≤ 100 → GivP ev su [.int rich, .int size, .int count] (fun d => ∃ rows offs, d = sumD rows offs ∧ Sums size count 7 rows offs)) (m1 : 1 ≤ most) (m2 : most ≤ 50) (w1 : 1 ≤ wide) (w2 : wide ≤ 50) :
    ∃ d, (∃ n ls out, d = netD n ls ∧ NetP most wide n ls out) ∧ fin h (exSs ev (C_l_network ce ri su) (startD 11 [.fl (ns.map .int), .int most, .int wide]) h) = .ok d h := by
  refine fin_givesP (fun d ⟨n, ls, o, e, _⟩ => by subst e; exact netD_lt _ _ _) ?_
  have c20 : ∀ h, ev.call ce [.fl (ns.map .int), .int 20] h = .ok (.int (cellI ns 20)) h := hce 20
  have c25 : ∀ h, ev.call ce [.fl (ns.map .int), .int 25] h = .ok (.int (cellI ns 25)) h := hce 25
  have r66 : ∀ h, ev.call ri [.int (cellI ns 25), .int 66] h = .ok (.int (richI (cellI ns 25) 66)) h := hri 66 _ (cell_sz hn 25) (by decide)
  have cI : ∀ (i : Nat) (h : Hd), ev.call ce [.fl (ns.map .int), .int (21 + (i : Int))] h = .ok (.int (cellI ns (21 + i))) h := fun i h => by have := hce (21 + i) h; simpa using this
  have rI : ∀ (i : Nat) (h : Hd), i ≤ 100 → ev.call ri [.int (cellI ns (21 + i)), .int (60 + (i : Int))] h = .ok (.int (richI (cellI ns (21 + i)) (60 + i))) h := fun i h hi => by have := hri (60 + i) _ (cell_sz hn (21 + i)) (by omega) h; simpa using this
  obtain ⟨s0, hs0, es0⟩ := fmod_n (cellI ns 20) (m := most) (by omega)
  have m0 : ¬ most = 0 := by omega
  have w0 : ¬ wide = 0 := by omega
  have d12 := div_ok (j := 12) (cellI ns 20) (by decide) (by decide)
  obtain ⟨c, hc, ec⟩ := fmod_n ((cellI ns 20).fdiv 12) (m := 3) (by decide)
  have ec : ((cellI ns 20).fdiv 12).fmod 3 = (c : Int) := ec
  obtain ⟨n0, en⟩ : ∃ n0 : Nat, 1 + (s0 : Int) = (n0 : Int) := ⟨1 + s0, by simp⟩
  simp [C_l_network, startD, arrD, c20, m0, es0, d12, ec, rngV_k rfl (show c ≤ 1000000 by omega), en]
  refine WpS_rng c (fun i s H => (∃ now v7 v8 v9 v10, s = [some (.fl (ns.map .int)), some (.int most), some (.int wide), some (.int n0), some (.ref h.length), some (.int (now : Nat)), some (.int c), v7, v8, v9, v10] ∧ h <+: H ∧ ∃ ls : List Lay, lstAt H h.length = some (ls.map Lay.d) ∧ ls.length = 2 * i ∧ PrePl ls ∧ WFl 7 n0 ls now ∧ 1 ≤ now ∧ now ≤ 100 ∧ Wid (max wide 2) ls)) ⟨n0, _, _, _, _, rfl, List.prefix_append _ _, [], by simp, rfl, trivial, ⟨rfl, by omega⟩, by omega, by omega, trivial⟩ ?_ ?_
  · rintro i hi _ H ⟨now, v7, v8, v9, v10, rfl, p, ls, e, l, pl, wf, o1, o2, wd⟩
    refine ⟨_, bindG_nm _ _ _, ?_⟩
    simp [arrD, cI, rI i _ (by omega), w0]
    generalize richI (cellI ns (21 + i)) (60 + i) = rich
    obtain ⟨t0, ht0, et0⟩ := fmod_n rich (m := wide) (by omega)
    obtain ⟨n1, en1⟩ : ∃ n1 : Nat, 1 + (t0 : Int) = (n1 : Int) := ⟨1 + t0, by simp⟩
    have d5 := div_ok (j := 5) rich (by decide) (by decide)
    have hn1 : n1 ≤ wide := by omega
    obtain ⟨_, ⟨rows, offs, rfl, S1⟩, e1⟩ := hsu (rich.fdiv 5) now n1 (by omega) (by omega) H
    have hlen : (ls.map Lay.d).length ≤ 100 := by rw [List.length_map]; omega
    have lt : decide (ls.length < line) = true := decide_eq_true (Nat.lt_of_le_of_lt (show ls.length ≤ 100 by omega) (by decide))
    have q1 : lstAt (H.set h.length (.lst (ls.map Lay.d ++ [sumD rows offs]))) h.length = some (ls.map Lay.d ++ [sumD rows offs]) := r_set e
    have p1 : h <+: H.set h.length (.lst (ls.map Lay.d ++ [sumD rows offs])) := pre_set p (Nat.le_refl _)
    simp [et0, en1, arrD, e, d5, e1, lt, rngV_k rfl (show n1 ≤ 1000000 by omega), q1]
    let fl : List Bool := (List.range n1).map fun j : Nat => decide (0 < (rich.fdiv (11 + (j : Int))).fmod 5)
    refine WpE_lc (List.range n1) (fun j : Nat => .int (j : Int)) (fun j : Nat => .bl (decide (0 < (rich.fdiv (11 + (j : Int))).fmod 5))) rfl (by simpa using (show n1 ≤ 1000000 by omega)) (fun _ _ => rfl) ?_ ?_
    · intro j hj
      have hj : j < n1 := by simpa using hj
      refine ⟨_, rfl, fun H2 p2 => ⟨rfl, ?_⟩⟩
      have dj := div_ok (j := 11 + (j : Int)) rich (by omega) (by omega)
      simp [wipeD, dj]
    · intro H2 p2
      have efl : (List.range n1).map (fun j : Nat => D.bl (decide (0 < (rich.fdiv (11 + (j : Int))).fmod 5))) = fl.map .bl := by simp [fl]
      rw [efl]
      have q2 := lst_old (lst_pre q1 p2) [.lst (fl.map .bl)]
      have lt2 : decide (ls.length + 1 < line) = true := decide_eq_true (Nat.lt_of_le_of_lt (show ls.length + 1 ≤ 100 by omega) (by decide))
      simp [q2, lt2]
      have lfl : fl.length = n1 := by simp [fl]
      refine ⟨n1, rfl, pre_set (pre_app (p1.trans p2)) (Nat.le_refl _), ls ++ [.sums rows offs, .bends fl], ?_, by simp; omega, pl.app, ?_, by omega, by omega, Wid.app wd (show Wid _ [.sums rows offs, .bends fl] from ⟨?_, trivial⟩)⟩
      · rw [r_set q2]
        simp [Lay.d]
      · refine wf.app ?_
        refine ⟨o2, ?_, by rw [S1.len]; omega, ?_⟩
        · rw [S1.len]; exact S1
        · rw [S1.len]; exact ⟨by omega, lfl, rfl, by omega⟩
      · rw [S1.len]; omega
  · rintro _ H ⟨now, v7, v8, v9, v10, rfl, p, ls, e, l, pl, wf, o1, o2, wd⟩
    simp [arrD, c25, r66]
    generalize richI (cellI ns 25) 66 = rich
    obtain ⟨t0, ht0, et0⟩ := fmod_n rich (m := 2) (by omega)
    have et0 : rich.fmod 2 = (t0 : Int) := et0
    obtain ⟨n1, en1⟩ : ∃ n1 : Nat, 1 + (t0 : Int) = (n1 : Int) := ⟨1 + t0, by simp⟩
    have d3 := div_ok (j := 3) rich (by decide) (by decide)
    obtain ⟨_, ⟨rows, offs, rfl, S1⟩, e1⟩ := hsu (rich.fdiv 3) now n1 (by omega) (by omega) H
    have lt : decide (ls.length < line) = true := decide_eq_true (Nat.lt_of_le_of_lt (show ls.length ≤ 100 by omega) (by decide))
    simp [et0, en1, arrD, e, d3, e1, lt]
    have q1 : lstAt (H.set h.length (.lst (ls.map Lay.d ++ [sumD rows offs]))) h.length = some (ls.map Lay.d ++ [sumD rows offs]) := r_set e
    simp [q1]
    refine ⟨⟨n0, ls ++ [.sums rows offs], ⟨rfl, by simp [Lay.d]⟩, n1, ?_⟩, pre_set p (Nat.le_refl _)⟩
    refine ⟨by omega, by omega, wf.app ⟨o2, ?_, by rw [S1.len]; omega, ?_⟩, by simp; omega, pl.plain, by omega, by omega, Wid.app wd ⟨?_, trivial⟩⟩
    · rw [S1.len]; exact S1
    · rw [S1.len]; exact ⟨rfl, by omega⟩
    · rw [S1.len]; omega
end
end PV
/-! PVNb: the laws' own dot products, regions, points. -/
namespace PV
open PySem
/-- adding, multiplying, comparing ratios of at most 4000 bits -/
def AddR (ev : Ev) (f : Nat) : Prop := ∀ p q : Rat, Qn 4000 p → Qn 4000 q → Giv ev f [rv p, rv q] (rv (p + q))
def MulR (ev : Ev) (f : Nat) : Prop := ∀ p q : Rat, Qn 4000 p → Qn 4000 q → Giv ev f [rv p, rv q] (rv (p * q))
def LessR (ev : Ev) (f : Nat) : Prop := ∀ p q : Rat, Qn 4000 p → Qn 4000 q → Giv ev f [rv p, rv q] (.bl (decide (p < q)))
abbrev dotL (v w : List Rat) : Rat := dotR (v.zip w)
theorem dotR_app (l : List (Rat × Rat)) (p : Rat × Rat) : dotR (l ++ [p]) = dotR l + p.1 * p.2 := by simp [dotR, List.foldl_append]
theorem dotR_acc (l : List (Rat × Rat)) : ∀ a : Rat, l.foldl (fun s p => s + p.1 * p.2) a = a + dotR l := by
  induction l with
  | nil => intro a; simp [dotR, Rat.add_zero]
  | cons p l ih =>
    intro a
    have e : dotR (p :: l) = (0 + p.1 * p.2) + dotR l := by
      show (p :: l).foldl _ 0 = _
      rw [List.foldl_cons, ih]
    rw [List.foldl_cons, ih, e, Rat.zero_add, Rat.add_assoc]
theorem dotR_cons (p : Rat × Rat) (l : List (Rat × Rat)) : dotR (p :: l) = p.1 * p.2 + dotR l := by
  show (p :: l).foldl _ 0 = _
  rw [List.foldl_cons, dotR_acc, Rat.zero_add]
theorem dotR_sz {n m : Nat} : ∀ (l : List (Rat × Rat)), (∀ p ∈ l, Qn n p.1 ∧ Qn m p.2) → Qn (l.length * (n + m + 1) + 1) (dotR l)
  | [], _ => Qn.zero (by omega)
  | p :: l, h => by
    rw [dotR_cons]
    have a := dotR_sz l fun q hq => h q (List.mem_cons_of_mem _ hq)
    obtain ⟨b, c⟩ := h p List.mem_cons_self
    have e : (p :: l).length * (n + m + 1) = l.length * (n + m + 1) + (n + m + 1) := by rw [List.length_cons, Nat.add_mul]; omega
    exact ((b.mul c).add a).mono (by omega)
theorem Qs.zip {n m : Nat} {v w : List Rat} (a : Qs n v) (b : Qs m w) : ∀ p ∈ v.zip w, Qn n p.1 ∧ Qn m p.2 := fun p hp => ⟨a _ (List.of_mem_zip hp).1, b _ (List.of_mem_zip hp).2⟩
theorem dotL_sz {n m : Nat} {v w : List Rat} (a : Qs n v) (b : Qs m w) : Qn (v.length * (n + m + 1) + 1) (dotL v w) := by
  refine (dotR_sz _ (a.zip b)).mono ?_
  have : (v.zip w).length ≤ v.length := by rw [List.length_zip]; omega
  have := Nat.mul_le_mul_right (n + m + 1) this
  omega
theorem at_vv {v : List Rat} {i : Nat} (hi : i < v.length) (h : Hd) : idxV (vv v) (.int (i : Int)) h = .ok (rv v[i]) h := by
  have a : L2.atI (v.map rv) (i : Int) = some (rv v[i]) := by rw [at_n (by simpa using hi)]; simp
  simp [vv, a]
section
variable {ev : Ev} {h : Hd}
/-- what gives the items of w by their places -/
def Idx (h : Hd) (o : D) (w : List Rat) : Prop := ∀ (i : Nat) (hi : i < w.length), idxV o (.int (i : Int)) h = .ok (rv w[i]) h
theorem idx_vv (v : List Rat) (h : Hd) : Idx h (vv v) v := fun i hi => at_vv hi h
theorem idx_r {n : Nat} {w : List Rat} (e : lstAt h n = some (w.map rv)) : Idx h (.ref n) w := fun i hi => by
  have a : L2.atI (w.map rv) (i : Int) = some (rv w[i]) := by rw [at_n (by simpa using hi)]; simp
  simp [e, a]
theorem t_ldot {ad mu n m : Nat} {o : D} {v w : List Rat} (ha : AddR ev ad) (hm : MulR ev mu) (hl : v.length = w.length) (sv : Qs n v) (sw : Qs m w) (hn : v.length * (n + m + 1) + 1 ≤ 4000) (hl2 : v.length ≤ 1000) (n4 : n ≤ 4000) (m4 : m ≤ 4000) (ho : Idx h o w) :
    fin h (exSs ev (C_l_dot ad mu) (startD 4 [vv v, o]) h) = .ok (rv (dotL v w)) h := by
  refine fin_gives (rv_lt _ _) ?_
  have lv : biV .len [vv v] h = .ok (.int (v.length : Int)) h := by simp [vv]
  simp [C_l_dot, startD, lv, rngV_k rfl (show v.length ≤ 1000000 by omega)]
  refine WpS_rng v.length (fun i s H => H = h ∧ ∃ v3, s = [some (vv v), some o, some (rv (dotR ((v.zip w).take i))), v3]) ⟨rfl, _, rfl⟩ ?_ ?_
  · rintro i hi _ H ⟨rfl, v3, rfl⟩
    refine ⟨_, bindG_nm _ _ _, ?_⟩
    have hz : (v.zip w).length = v.length := by rw [List.length_zip]; omega
    have q1 : Qn 4000 (dotR ((v.zip w).take i)) := by
      refine (dotR_sz _ fun p hp => sv.zip sw p (List.mem_of_mem_take hp)).mono ?_
      rw [List.length_take]
      have := Nat.mul_le_mul_right (n + m + 1) (Nat.le_of_lt hi)
      have : min i (v.zip w).length = i := by omega
      rw [this]
      omega
    have sa := sv v[i] (List.getElem_mem hi)
    have sb := sw w[i] (List.getElem_mem (by omega))
    have q2 : Qn 4000 (v[i] * w[i]) := (sa.mul sb).mono (by
      have : 1 * (n + m + 1) ≤ v.length * (n + m + 1) := Nat.mul_le_mul_right _ (by omega)
      omega)
    have e1 := hm _ _ (sa.mono n4) (sb.mono m4) H
    have e2 := ha _ _ q1 q2 H
    have e3 : dotR ((v.zip w).take (i + 1)) = dotR ((v.zip w).take i) + v[i] * w[i] := by
      rw [List.take_succ_eq_append_getElem (by omega), dotR_app]
      simp
    simp [at_vv hi, ho i (by omega), arrD, e1, e2, e3]
  · rintro _ H ⟨rfl, v3, rfl⟩
    have hz : (v.zip w).length ≤ v.length := by rw [List.length_zip]; omega
    simp [List.take_of_length_le hz]
end
/-! ### regions -/
abbrev Bd : Type := List Rat × Rat
abbrev bndD (b : Bd) : D := .tup [vv b.1, rv b.2]
abbrev regD (lows highs : List Rat) (bounds : List Bd) : D := .tup [vv lows, vv highs, .tup (bounds.map bndD)]
theorem bndD_lt (n : Nat) (b : Bd) : D.lt n (bndD b) = true := by
  show (D.lt n (vv b.1) && (D.lt n (rv b.2) && true)) = true
  rw [vv_lt, rv_lt]
  rfl
theorem regD_lt (n : Nat) (lows highs : List Rat) (bounds : List Bd) : D.lt n (regD lows highs bounds) = true := by
  show (D.lt n (vv lows) && (D.lt n (vv highs) && (D.lts n (bounds.map bndD) && true))) = true
  rw [vv_lt, vv_lt, lts_map n bndD (bndD_lt n)]
  rfl
structure RegP (size : Nat) (lows highs : List Rat) (bounds : List Bd) : Prop where
  l1 : lows.length = size
  l2 : highs.length = size
  l3 : bounds.length ≤ 2
  s1 : Qs 7 lows
  s2 : Qs 16 highs
  b1 : ∀ b ∈ bounds, b.1.length = size
  b2 : ∀ b ∈ bounds, Qs 7 b.1
  b3 : ∀ b ∈ bounds, Qn 7 b.2
theorem Qs.app {n : Nat} {v : List Rat} {q : Rat} (a : Qs n v) (b : Qn n q) : Qs n (v ++ [q]) := fun x hx => by
  rcases List.mem_append.mp hx with g | g
  · exact a x g
  · rw [List.mem_singleton.mp g]; exact b
theorem Qs.set {n : Nat} {v : List Rat} {q : Rat} {i : Nat} (a : Qs n v) (b : Qn n q) : Qs n (v.set i q) := fun x hx => by
  rcases List.mem_or_eq_of_mem_set hx with g | rfl
  · exact a x g
  · exact b
theorem lst_line {n : Nat} (h : n ≤ 1000000) : decide (n < line) = true := decide_eq_true (Nat.lt_of_le_of_lt h (by decide))
section
variable {ev : Ev} {h : Hd}
theorem t_lregion {ri ce mk ad : Nat} {ns : List Int} {size : Nat} (hn : Ints ns) (hce : ∀ j : Nat, Giv ev ce [.fl (ns.map .int), .int j] (.int (cellI ns j))) (hri : ∀ (j : Nat) (z : Int), Sz 1048577 z → j ≤ 1000 → Giv ev ri [.int z, .int j] (.int (richI z j)))
    (hm : MakesA ev mk) (ha : AddR ev ad) (hs : size ≤ 100) : ∃ d, (∃ lows highs bounds, d = regD lows highs bounds ∧ RegP size lows highs bounds) ∧ fin h (exSs ev (C_l_region ri ce mk ad) (startD 10 [.fl (ns.map .int), .int size]) h) = .ok d h := by
  refine fin_givesP (fun d ⟨a, b, c, e, _⟩ => by subst e; exact regD_lt _ _ _ _) ?_
  have c26 : ∀ h, ev.call ce [.fl (ns.map .int), .int 26] h = .ok (.int (cellI ns 26)) h := hce 26
  have c27 : ∀ h, ev.call ce [.fl (ns.map .int), .int 27] h = .ok (.int (cellI ns 27)) h := hce 27
  have r1 : ∀ (i : Nat) (h : Hd), i ≤ 100 → ev.call ri [.int (cellI ns 26), .int (70 + (i : Int))] h = .ok (.int (richI (cellI ns 26) (70 + i))) h := fun i h hi => by have := hri (70 + i) _ (cell_sz hn 26) (by omega) h; simpa using this
  have r2 : ∀ (i : Nat) (h : Hd), i ≤ 100 → ev.call ri [.int (cellI ns 27), .int (80 + (i : Int))] h = .ok (.int (richI (cellI ns 27) (80 + i))) h := fun i h hi => by have := hri (80 + i) _ (cell_sz hn 27) (by omega) h; simpa using this
  have n6 : decide ((6 : Nat) ≤ line) = true := by decide
  simp [C_l_region, startD, arrD, rngV_k rfl (show size ≤ 1000000 by omega)]
  refine WpS_rng size (fun i s H => (∃ v4 v5 v6, s = [some (.fl (ns.map .int)), some (.int size), some (.ref h.length), some (.ref (h.length + 1)), v4, v5, v6, none, none, none]) ∧ h <+: H ∧ ∃ lows highs : List Rat, lstAt H h.length = some (lows.map rv) ∧ lstAt H (h.length + 1) = some (highs.map rv) ∧ lows.length = i ∧ highs.length = i ∧ Qs 7 lows ∧ Qs 16 highs) ⟨⟨_, _, _, rfl⟩, List.prefix_append _ _, [], [], by simp, by simp, rfl, rfl, by simp [Qs], by simp [Qs]⟩ ?_ ?_
  · rintro i hi _ H ⟨⟨v4, v5, v6, rfl⟩, p, lows, highs, e1, e2, l1, l2, s1, s2⟩
    refine ⟨_, bindG_nm _ _ _, ?_⟩
    simp [arrD, c26, r1 i _ (by omega)]
    generalize richI (cellI ns 26) (70 + i) = rich
    have d9 := div_ok (j := 9) rich (by decide) (by decide)
    have d27 := div_ok (j := 27) rich (by decide) (by decide)
    have d162 := div_ok (j := 162) rich (by decide) (by decide)
    have d324 := div_ok (j := 324) rich (by decide) (by decide)
    obtain ⟨b, eb, b0, b1⟩ := pickI (xs := [.int 1, .int 1, .int 2]) (c := rich.fdiv 9) (m := 3) (lo := 1) (hi := 2) (by simp) rfl (by decide)
    obtain ⟨a', ea, a0, a1⟩ := pickI (xs := [.int 3, .int 1, .int 2, .int 5, .int 0, .int (-1)]) (c := rich.fdiv 27) (m := 6) (lo := -1) (hi := 5) (by simp) rfl (by decide)
    obtain ⟨b', eb', b0', b1'⟩ := pickI (xs := [.int 1, .int 2]) (c := rich.fdiv 162) (m := 2) (lo := 1) (hi := 2) (by simp) rfl (by decide)
    have f9 := fmod_b rich (m := 9) (by decide)
    obtain ⟨lo, qlo, elo⟩ := mkS hm (a := rich.fmod 9 - 6) (b := b) (by omega) (by omega) b0 (by omega)
    obtain ⟨up, qup, eup⟩ := mkS hm (a := a') (b := b') (by omega) (by omega) b0' (by omega)
    have ea1 : ∀ h, ev.call ad [rv lo, rv up] h = .ok (rv (lo + up)) h := ha lo up (qlo.mono (by decide)) (qup.mono (by decide))
    have q2 : Qn 4000 (2 : Rat) := ⟨by show (2 : Int).natAbs < _; exact Nat.lt_of_lt_of_le (show 2 < 2 ^ 2 by decide) (Nat.pow_le_pow_right (by decide) (by decide)), by show (1 : Int).natAbs < _; exact Nat.one_lt_two_pow (by decide)⟩
    have ea2 : ∀ h, ev.call ad [rv lo, .tup [.int 2, .int 1]] h = .ok (rv (lo + 2)) h := ha lo 2 (qlo.mono (by decide)) q2
    have x1 := lst_old e1 [.lst [.int 1, .int 1, .int 2]]
    have x2 := lst_old e2 [.lst [.int 1, .int 1, .int 2]]
    simp [d9, eb, elo, arrD, x1, lst_line (show lows.length ≤ 1000000 by omega)]
    have p1 : h <+: (H ++ [Cell.lst [.int 1, .int 1, .int 2]]).set h.length (.lst (lows.map rv ++ [rv lo])) := pre_set (pre_app p) (Nat.le_refl _)
    have y1 : lstAt ((H ++ [Cell.lst [.int 1, .int 1, .int 2]]).set h.length (.lst (lows.map rv ++ [rv lo]))) h.length = some ((lows ++ [lo]).map rv) := by
      rw [r_set x1]
      simp
    have y2 : lstAt ((H ++ [Cell.lst [.int 1, .int 1, .int 2]]).set h.length (.lst (lows.map rv ++ [rv lo]))) (h.length + 1) = some (highs.map rv) := r_set_ne x2 (by omega)
    generalize (H ++ [Cell.lst [.int 1, .int 1, .int 2]]).set h.length (.lst (lows.map rv ++ [rv lo])) = G1 at p1 y1 y2 ⊢
    have z1 := lst_old y1 [.lst [.int 3, .int 1, .int 2, .int 5, .int 0, .int (-1)], .lst [.int 1, .int 2]]
    have z2 := lst_old y2 [.lst [.int 3, .int 1, .int 2, .int 5, .int 0, .int (-1)], .lst [.int 1, .int 2]]
    have p2 := pre_app (l := [.lst [.int 3, .int 1, .int 2, .int 5, .int 0, .int (-1)], .lst [.int 1, .int 2]]) p1
    simp [y2, d27, d162, ea, eb', eup, ea1, arrD, n6, z2, lst_line (show highs.length ≤ 1000000 by omega)]
    generalize (G1 ++ [Cell.lst [.int 3, .int 1, .int 2, .int 5, .int 0, .int (-1)], .lst [.int 1, .int 2]]) = G2 at z1 z2 p2 ⊢
    have p3 : h <+: G2.set (h.length + 1) (.lst (highs.map rv ++ [rv (lo + up)])) := pre_set p2 (by omega)
    have u1 : lstAt (G2.set (h.length + 1) (.lst (highs.map rv ++ [rv (lo + up)]))) h.length = some ((lows ++ [lo]).map rv) := r_set_ne z1 (by omega)
    have u2 : lstAt (G2.set (h.length + 1) (.lst (highs.map rv ++ [rv (lo + up)]))) (h.length + 1) = some ((highs ++ [lo + up]).map rv) := by
      rw [r_set z2]
      simp
    generalize G2.set (h.length + 1) (.lst (highs.map rv ++ [rv (lo + up)])) = G3 at p3 u1 u2 ⊢
    have qh : Qn 16 (lo + up) := (qlo.add qup).mono (by decide)
    have q22 : Qn 2 (2 : Rat) := ⟨by show (2 : Int).natAbs < 2 ^ 2; decide, by show (1 : Int).natAbs < 2 ^ 2; decide⟩
    by_cases t1 : 0 < (rich.fdiv 324).fmod 4
    · by_cases t2 : (rich.fdiv 27).fmod 6 = 5
      · simp [d324, d27, t1, t2, ea2, arrD, r_sub _ _ u2, ix_n (show i < highs.length + 1 by omega)]
        refine ⟨pre_set p3 (by omega), lows ++ [lo], r_set_ne u1 (by omega), (highs ++ [lo + up]).set i (lo + 2), ?_, by simp; omega, by simp; omega, s1.app qlo, (s2.app qh).set ((qlo.add q22).mono (by decide))⟩
        rw [r_set u2]
        simp [List.map_set]
      · simp [d324, d27, t1, t2]
        exact ⟨p3, lows ++ [lo], u1, highs ++ [lo + up], u2, by simp; omega, by simp; omega, s1.app qlo, s2.app qh⟩
    · simp [d324, t1]
      exact ⟨p3, lows ++ [lo], u1, highs ++ [lo + up], u2, by simp; omega, by simp; omega, s1.app qlo, s2.app qh⟩
  · rintro _ H ⟨⟨v4, v5, v6, rfl⟩, p, lows, highs, e1, e2, l1, l2, s1, s2⟩
    have d7 := div_ok (j := 7) (cellI ns 26) (by decide) (by decide)
    obtain ⟨c, hc, ec⟩ := fmod_n ((cellI ns 26).fdiv 7) (m := 3) (by decide)
    have ec : ((cellI ns 26).fdiv 7).fmod 3 = (c : Int) := ec
    simp [arrD, c26, d7, ec, rngV_k rfl (show c ≤ 1000000 by omega)]
    have hH : h.length + 1 < H.length := lst_lt e2
    refine WpS_rng c (fun j s G => (∃ v4 v5 v9, s = [some (.fl (ns.map .int)), some (.int size), some (.ref h.length), some (.ref (h.length + 1)), v4, v5, v6, some (.ref H.length), none, v9]) ∧ h <+: G ∧ lstAt G h.length = some (lows.map rv) ∧ lstAt G (h.length + 1) = some (highs.map rv) ∧ ∃ bounds : List Bd, lstAt G H.length = some (bounds.map bndD) ∧ bounds.length = j ∧ (∀ b ∈ bounds, b.1.length = size) ∧ (∀ b ∈ bounds, Qs 7 b.1) ∧ ∀ b ∈ bounds, Qn 7 b.2) ⟨⟨_, _, _, rfl⟩, pre_app p, lst_old e1 _, lst_old e2 _, [], by simp, rfl, by simp, by simp, by simp⟩ ?_ ?_
    · rintro j hj _ G ⟨⟨v4, v5, v9, rfl⟩, q, f1, f2, bounds, f3, lb, k1, k2, k3⟩
      refine ⟨_, bindG_nm _ _ _, ?_⟩
      simp [arrD, c27, r2 j _ (by omega), rngV_k rfl (show size ≤ 1000000 by omega)]
      generalize richI (cellI ns 27) (80 + j) = rich
      refine WpE_lcP (List.range size) (fun j : Nat => .int (j : Int)) (fun d => ∃ q, d = rv q ∧ Qn 7 q) rfl (by simpa using (show size ≤ 1000000 by omega)) (fun _ _ => rfl) ?_ ?_
      · intro u hu
        have hu : u < size := by simpa using hu
        refine ⟨_, rfl, fun H2 p2 => ⟨rfl, ?_⟩⟩
        have m4 : mulOk 4 (u : Int) = true := mulOk_n (by decide) (by omega)
        have d1 : divOk rich (3 + 4 * (u : Int)) = true := div_ok rich (by omega) (by omega)
        have d2 : divOk rich (37 + (u : Int)) = true := div_ok rich (by omega) (by omega)
        have n4 : decide ((4 : Nat) ≤ line) = true := by decide
        obtain ⟨b, eb, b0, b1⟩ := pickI (xs := [.int 1, .int 1, .int 2, .int 3]) (c := rich.fdiv (37 + (u : Int))) (m := 4) (lo := 1) (hi := 3) (by simp) rfl (by decide)
        have f5 := fmod_b (rich.fdiv (3 + 4 * (u : Int))) (m := 5) (by decide)
        obtain ⟨v, vq, ev_⟩ := mkS hm (a := (rich.fdiv (3 + 4 * (u : Int))).fmod 5 - 2) (b := b) (by omega) (by omega) b0 (by omega)
        simp [wipeD, m4, d1, d2, eb, arrD, ev_]
        exact ⟨v, rfl, vq⟩
      · intro ds H2 l2' k2' p2
        obtain ⟨vec, rfl, l3, k4⟩ := choose_map k2'
        have d35 := div_ok (j := 35) rich (by decide) (by decide)
        have d105 := div_ok (j := 105) rich (by decide) (by decide)
        obtain ⟨b, eb, b0, b1⟩ := pickI (xs := [.int 1, .int 2]) (c := rich.fdiv 105) (m := 2) (lo := 1) (hi := 2) (by simp) rfl (by decide)
        have f15 := fmod_b (rich.fdiv 35) (m := 15) (by decide)
        obtain ⟨v, vq, ev_⟩ := mkS hm (a := (rich.fdiv 35).fmod 15 - 5) (b := b) (by omega) (by omega) b0 (by omega)
        have g3 := lst_old (lst_pre f3 p2) [.lst (vec.map rv)]
        have g3' := lst_old (lst_pre f3 p2) [.lst (vec.map rv), .lst [.int 1, .int 2]]
        simp [g3, g3', d35, d105, eb, arrD, ev_, lst_line (show bounds.length ≤ 1000000 by omega)]
        have g1 := lst_old (lst_pre f1 p2) [.lst (vec.map rv), .lst [.int 1, .int 2]]
        have g2 := lst_old (lst_pre f2 p2) [.lst (vec.map rv), .lst [.int 1, .int 2]]
        have lv : vec.length = size := by rw [l3, l2', List.length_range]
        refine ⟨pre_set (pre_app (q.trans p2)) (by omega), r_set_ne g1 (by omega), r_set_ne g2 (by omega), bounds ++ [(vec, v)], ?_, by simp; omega, ?_, ?_, ?_⟩
        · rw [r_set g3']
          simp [vv]
        · intro x1 x2 hx
          rcases List.mem_append.mp hx with g | g
          · exact k1 (x1, x2) g
          · have e0 := List.mem_singleton.mp g
            cases e0
            exact lv
        · intro x1 x2 hx
          rcases List.mem_append.mp hx with g | g
          · exact k2 (x1, x2) g
          · have e0 := List.mem_singleton.mp g
            cases e0
            exact k4
        · intro x1 x2 hx
          rcases List.mem_append.mp hx with g | g
          · exact k3 (x1, x2) g
          · have e0 := List.mem_singleton.mp g
            cases e0
            exact vq
    · rintro _ G ⟨⟨v4, v5, v9, rfl⟩, q, f1, f2, bounds, f3, lb, k1, k2, k3⟩
      simp [f1, f2, f3]
      refine ⟨?_, q⟩
      exact ⟨lows, highs, bounds, ⟨rfl, rfl, rfl⟩, l1, l2, by omega, s1, s2, k1, k2, k3⟩
end
/-- a dot product of the law's -/
def LDot (ev : Ev) (f : Nat) : Prop := ∀ (n m : Nat) (v w : List Rat) (o : D) (h : Hd), v.length = w.length → Qs n v → Qs m w → v.length * (n + m + 1) + 1 ≤ 4000 → v.length ≤ 1000 → n ≤ 4000 → m ≤ 4000 → Idx h o w → ev.call f [vv v, o] h = .ok (rv (dotL v w)) h
/-- a point of the region -/
def inB (lows highs : List Rat) (bounds : List Bd) (p : List Rat) : Bool := ((List.range lows.length).all fun k => decide (¬ p.getD k 0 < lows.getD k 0) && decide (¬ highs.getD k 0 < p.getD k 0)) && bounds.all fun b => decide (¬ b.2 < dotL b.1 p)
theorem fix_of {H : Hd} {n : Nat} {xs : List D} (e : lstAt H n = some xs) : fixOk H [(n, xs)] = true := by
  unfold fixOk
  rw [e]
  simp [D.beqs_refl]
section
variable {ev : Ev} {h : Hd}
theorem getD_at {v : List Rat} {i : Nat} (hi : i < v.length) : v.getD i 0 = v[i] := by simp [List.getD_eq_getElem?_getD, hi]
theorem t_lin {le dt size : Nat} {lows highs p : List Rat} {bounds : List Bd} (hle : LessR ev le) (hdt : LDot ev dt) (R : RegP size lows highs bounds) (lp : p.length = size) (sp : Qs 50 p) (hs : size ≤ 30) :
    fin h (exSs ev (C_l_in le dt) (startD 8 [regD lows highs bounds, vv p]) h) = .ok (.bl (inB lows highs bounds p)) h := by
  refine fin_gives rfl ?_
  have e1 := R.l1
  have e2 := R.l2
  have lv : biV .len [vv lows] h = .ok (.int (lows.length : Int)) h := by simp [vv]
  simp [C_l_in, startD, lv, rngV_k rfl (show lows.length ≤ 1000000 by omega)]
  refine WpS_rng lows.length (fun i s H => (∃ v5, s = [some (regD lows highs bounds), some (vv p), some (vv lows), some (vv highs), some (.tup (bounds.map bndD)), v5, none, none]) ∧ H = h ∧ ∀ k, k < i → ¬ p.getD k 0 < lows.getD k 0 ∧ ¬ highs.getD k 0 < p.getD k 0) ⟨⟨_, rfl⟩, rfl, fun k hk => absurd hk (Nat.not_lt_zero k)⟩ ?_ ?_
  · rintro i hi _ H ⟨⟨v5, rfl⟩, rfl, k0⟩
    refine ⟨_, bindG_nm _ _ _, ?_⟩
    have q1 := sp p[i] (List.getElem_mem (by omega))
    have q2 := R.s1 lows[i] (List.getElem_mem hi)
    have q3 := R.s2 highs[i] (List.getElem_mem (by omega))
    have c1 : ∀ h, ev.call le [rv p[i], rv lows[i]] h = .ok (.bl (decide (p[i] < lows[i]))) h := hle _ _ (q1.mono (by decide)) (q2.mono (by decide))
    have c2 : ∀ h, ev.call le [rv highs[i], rv p[i]] h = .ok (.bl (decide (highs[i] < p[i]))) h := hle _ _ (q3.mono (by decide)) (q1.mono (by decide))
    have g1 := getD_at (v := p) (i := i) (by omega)
    have g2 := getD_at (v := lows) (i := i) hi
    have g3 := getD_at (v := highs) (i := i) (by omega)
    by_cases t1 : p[i] < lows[i]
    · simp [at_vv (v := p) (i := i) (by omega), at_vv hi, arrD, c1, t1]
      unfold inB
      rw [Bool.and_eq_false_iff]
      refine .inl ?_
      rw [List.all_eq_false]
      exact ⟨i, List.mem_range.mpr hi, by rw [g1, g2]; simp [t1]⟩
    · by_cases t2 : highs[i] < p[i]
      · simp [at_vv (v := p) (i := i) (by omega), at_vv hi, at_vv (v := highs) (i := i) (by omega), arrD, c1, c2, t1, t2]
        unfold inB
        rw [Bool.and_eq_false_iff]
        refine .inl ?_
        rw [List.all_eq_false]
        exact ⟨i, List.mem_range.mpr hi, by rw [g1, g3]; simp [t2]⟩
      · simp [at_vv (v := p) (i := i) (by omega), at_vv hi, at_vv (v := highs) (i := i) (by omega), arrD, c1, c2, t1, t2]
        intro k hk
        by_cases e : k = i
        · subst e
          have := And.intro t1 t2
          rw [← g1, ← g2, ← g3] at this
          simpa using this
        · simpa using k0 k (by omega)
  · rintro _ H ⟨⟨v5, rfl⟩, rfl, k0⟩
    simp
    refine WpE_lc bounds bndD (fun b => .bl (decide (¬ b.2 < dotL b.1 p))) rfl (by have := R.l3; omega) (fun _ _ => rfl) ?_ ?_
    · rintro ⟨v, l⟩ hb
      have b1 : v.length = size := R.b1 _ hb
      have b2 : Qs 7 v := R.b2 _ hb
      have b3 : Qn 7 l := R.b3 _ hb
      refine ⟨_, by simp [wipeD]; rfl, fun H2 p2 => ⟨rfl, ?_⟩⟩
      have c1 := hdt 7 50 v p (vv p) H2 (by omega) b2 sp (by omega) (by omega) (by decide) (by decide) (idx_vv p H2)
      have c2 : ∀ h, ev.call le [rv l, rv (dotL v p)] h = .ok (.bl (decide (l < dotL v p))) h := hle _ _ (b3.mono (by decide)) ((dotL_sz b2 sp).mono (by omega))
      simp [arrD, c1, c2]
    · intro H2 p2
      have x : inB lows highs bounds p = bounds.all fun b => decide (¬ b.2 < dotL b.1 p) := by
        unfold inB
        have : ((List.range lows.length).all fun k => decide (¬ p.getD k 0 < lows.getD k 0) && decide (¬ highs.getD k 0 < p.getD k 0)) = true := by
          rw [List.all_eq_true]
          intro k hk
          obtain ⟨a, b⟩ := k0 k (List.mem_range.mp hk)
          simp only [Bool.and_eq_true, decide_eq_true_eq]
          exact ⟨a, b⟩
        rw [this, Bool.true_and]
      rw [x]
      simp [pre_app p2]
theorem t_lpoints {mk ad mu li size count : Nat} {rich : Int} {lows highs : List Rat} {bounds : List Bd} {X : Exn → Hd → Prop} (hm : MakesA ev mk) (ha : AddR ev ad) (hmu : MulR ev mu) (R : RegP size lows highs bounds) (hli : ∀ p : List Rat, p.length = size → Qs 50 p → Giv ev li [regD lows highs bounds, vv p] (.bl (inB lows highs bounds p))) (hs : size ≤ 30) (hc : count ≤ 100) :
    WpE (fin h (exSs ev (C_l_points mk ad mu li) (startD 12 [regD lows highs bounds, .int rich, .int count]) h)) (fun d H => h <+: H ∧ ∃ (n : Nat) (ps : List (List Rat)), d = .ref n ∧ lstAt H n = some (ps.map vv) ∧ ps.length ≤ count ∧ ∀ p ∈ ps, p.length = size ∧ Qs 50 p ∧ inB lows highs bounds p = true) X := by
  refine fin_list ?_
  have e1 := R.l1
  have e2 := R.l2
  have lv : ∀ h, biV .len [vv lows] h = .ok (.int (size : Int)) h := fun h => by simp [vv, e1]
  simp [C_l_points, startD, rngV_k rfl (show count ≤ 1000000 by omega)]
  refine WpS_rng count (fun i s H => (∃ v7 v8 v9 v10 v11, s = [some (regD lows highs bounds), some (.int rich), some (.int count), some (vv lows), some (vv highs), some (.tup (bounds.map bndD)), some (.ref h.length), v7, v8, v9, v10, v11]) ∧ h <+: H ∧ ∃ ps : List (List Rat), lstAt H h.length = some (ps.map vv) ∧ ps.length = i ∧ ∀ p ∈ ps, p.length = size ∧ Qs 50 p) ⟨⟨_, _, _, _, _, rfl⟩, List.prefix_append _ _, [], by simp, rfl, by simp⟩ ?_ ?_
  · rintro i hi _ H ⟨⟨v7, v8, v9, v10, v11, rfl⟩, p, ps, e, l, k⟩
    refine ⟨_, bindG_nm _ _ _, ?_⟩
    have hH : h.length < H.length := lst_lt e
    simp [lv, rngV_k rfl (show size ≤ 1000000 by omega)]
    refine WpS_rng size (fun j s H1 => (∃ v9 v10 v11, s = [some (regD lows highs bounds), some (.int rich), some (.int count), some (vv lows), some (vv highs), some (.tup (bounds.map bndD)), some (.ref h.length), some (.int i), some (.ref H.length), v9, v10, v11]) ∧ h <+: H1 ∧ lstAt H1 h.length = some (ps.map vv) ∧ ∃ row : List Rat, lstAt H1 H.length = some (row.map rv) ∧ row.length = j ∧ Qs 50 row) ⟨⟨_, _, _, rfl⟩, pre_app p, lst_old e _, [], by simp, rfl, by simp [Qs]⟩ ?_ ?_
    · rintro j hj _ H1 ⟨⟨v9, v10, v11, rfl⟩, p1, e, row, er, lr, zr⟩
      refine ⟨_, bindG_nm _ _ _, ?_⟩
      have hj1 : j < lows.length := by omega
      have hj2 : j < highs.length := by omega
      have ql := R.s1 lows[j] (List.getElem_mem hj1)
      have qh := R.s2 highs[j] (List.getElem_mem hj2)
      have m5 : mulOk 5 (i : Int) = true := mulOk_n (by decide) (by omega)
      have m3 : mulOk 3 (j : Int) = true := mulOk_n (by decide) (by omega)
      have d1 : divOk rich (3 + 5 * (i : Int) + (j : Int)) = true := div_ok rich (by omega) (by omega)
      have d2 : divOk rich (11 + (i : Int)) = true := div_ok rich (by omega) (by omega)
      have d3 : divOk rich (7 + (i : Int) + 3 * (j : Int)) = true := div_ok rich (by omega) (by omega)
      have f7 := fmod_b (rich.fdiv (3 + 5 * (i : Int) + (j : Int))) (m := 7) (by decide)
      obtain ⟨pt, qpt, ept⟩ := mkS hm (a := (rich.fdiv (3 + 5 * (i : Int) + (j : Int))).fmod 7) (b := 6) (by omega) (by omega) (by decide) (by decide)
      by_cases t0 : (rich.fdiv (11 + (i : Int))).fmod 3 = 0
      · obtain ⟨q, vq, eq⟩ : ∃ q : Rat, Qn 7 q ∧ L2.atI [D.tup [.int 0, .int 1], D.tup [.int 1, .int 1]] ((rich.fdiv (7 + (i : Int) + 3 * (j : Int))).fmod 2) = some (rv q) := by
          have f2 := fmod_b (rich.fdiv (7 + (i : Int) + 3 * (j : Int))) (m := 2) (by decide)
          obtain ⟨x, mx, ex⟩ := at_in (xs := [D.tup [.int 0, .int 1], D.tup [.int 1, .int 1]]) f2.1 f2.2
          simp only [List.mem_cons, List.not_mem_nil, or_false] at mx
          rcases mx with rfl | rfl
          · exact ⟨0, Qn.zero (by decide), ex⟩
          · exact ⟨1, Qn.one (by decide), ex⟩
        have p2 : H1 <+: H1 ++ [Cell.lst [D.tup [.int 0, .int 1], D.tup [.int 1, .int 1]]] := List.prefix_append _ _
        simp [m5, m3, d1, d2, d3, ept, arrD, t0, eq]
        generalize (H1 ++ [Cell.lst [D.tup [.int 0, .int 1], D.tup [.int 1, .int 1]]]) = H2 at p2 ⊢
        have x1 := lst_pre er p2
        have x2 := lst_pre e p2
        have qn : Qn 7 (-q) := ⟨by simpa using Sz.neg vq.1, by simpa using vq.2⟩
        have en : D.tup [.int (-q.num), .int (q.den : Int)] = rv (-q) := by simp [rv]
        have q1 : Qn 1 (1 : Rat) := Qn.one (by decide)
        have a1 : ∀ h, ev.call ad [.tup [.int 1, .int 1], rv (-q)] h = .ok (rv (1 + -q)) h := ha 1 (-q) (q1.mono (by decide)) (qn.mono (by decide))
        have qo : Qn 9 (1 + -q) := (q1.add qn).mono (by decide)
        have a2 : ∀ h, ev.call mu [rv (1 + -q), rv lows[j]] h = .ok (rv ((1 + -q) * lows[j])) h := hmu _ _ (qo.mono (by decide)) (ql.mono (by decide))
        have a3 : ∀ h, ev.call mu [rv q, rv highs[j]] h = .ok (rv (q * highs[j])) h := hmu _ _ (vq.mono (by decide)) (qh.mono (by decide))
        have q4 : Qn 16 ((1 + -q) * lows[j]) := (qo.mul ql).mono (by decide)
        have q5 : Qn 23 (q * highs[j]) := (vq.mul qh).mono (by decide)
        have a4 : ∀ h, ev.call ad [rv ((1 + -q) * lows[j]), rv (q * highs[j])] h = .ok (rv ((1 + -q) * lows[j] + q * highs[j])) h := ha _ _ (q4.mono (by decide)) (q5.mono (by decide))
        have q6 : Qn 50 ((1 + -q) * lows[j] + q * highs[j]) := (q4.add q5).mono (by decide)
        simp [en, a1, a2, a3, a4, arrD, at_vv hj1, at_vv hj2, x1, lst_line (show row.length ≤ 1000000 by omega)]
        refine ⟨pre_set (p1.trans p2) (by omega), r_set_ne x2 (by omega), row ++ [(1 + -q) * lows[j] + q * highs[j]], ?_, by simp; omega, zr.app q6⟩
        rw [r_set x1]
        simp
      · obtain ⟨q, vq, eq⟩ : ∃ q : Rat, Qn 7 q ∧ pt = q := ⟨pt, qpt, rfl⟩
        subst eq
        have p2 : H1 <+: H1 := List.prefix_refl _
        simp [m5, m3, d1, d2, d3, ept, arrD, t0]
        have x1 := lst_pre er p2
        have x2 := lst_pre e p2
        have qn : Qn 7 (-pt) := ⟨by simpa using Sz.neg vq.1, by simpa using vq.2⟩
        have en : D.tup [.int (-pt.num), .int (pt.den : Int)] = rv (-pt) := by simp [rv]
        have q1 : Qn 1 (1 : Rat) := Qn.one (by decide)
        have a1 : ∀ h, ev.call ad [.tup [.int 1, .int 1], rv (-pt)] h = .ok (rv (1 + -pt)) h := ha 1 (-pt) (q1.mono (by decide)) (qn.mono (by decide))
        have qo : Qn 9 (1 + -pt) := (q1.add qn).mono (by decide)
        have a2 : ∀ h, ev.call mu [rv (1 + -pt), rv lows[j]] h = .ok (rv ((1 + -pt) * lows[j])) h := hmu _ _ (qo.mono (by decide)) (ql.mono (by decide))
        have a3 : ∀ h, ev.call mu [rv pt, rv highs[j]] h = .ok (rv (pt * highs[j])) h := hmu _ _ (vq.mono (by decide)) (qh.mono (by decide))
        have q4 : Qn 16 ((1 + -pt) * lows[j]) := (qo.mul ql).mono (by decide)
        have q5 : Qn 23 (pt * highs[j]) := (vq.mul qh).mono (by decide)
        have a4 : ∀ h, ev.call ad [rv ((1 + -pt) * lows[j]), rv (pt * highs[j])] h = .ok (rv ((1 + -pt) * lows[j] + pt * highs[j])) h := ha _ _ (q4.mono (by decide)) (q5.mono (by decide))
        have q6 : Qn 50 ((1 + -pt) * lows[j] + pt * highs[j]) := (q4.add q5).mono (by decide)
        simp [en, a1, a2, a3, a4, arrD, at_vv hj1, at_vv hj2, x1, lst_line (show row.length ≤ 1000000 by omega)]
        refine ⟨pre_set (p1.trans p2) (by omega), r_set_ne x2 (by omega), row ++ [(1 + -pt) * lows[j] + pt * highs[j]], ?_, by simp; omega, zr.app q6⟩
        rw [r_set x1]
        simp
    · rintro _ H1 ⟨⟨v9, v10, v11, rfl⟩, p1, e, row, er, lr, zr⟩
      simp [er, e, lst_line (show ps.length ≤ 1000000 by omega)]
      refine ⟨pre_set p1 (Nat.le_refl _), ps ++ [row], ?_, by simp; omega, ?_⟩
      · rw [r_set e]
        simp [vv]
      · intro x hx
        rcases List.mem_append.mp hx with g | g
        · exact k x g
        · rw [List.mem_singleton.mp g]; exact ⟨lr, zr⟩
  · rintro _ H ⟨⟨v7, v8, v9, v10, v11, rfl⟩, p, ps, e, l, k⟩
    have hH : h.length < H.length := lst_lt e
    simp [e]
    refine WpE_lcF ps vv vv (fun p => inB lows highs bounds p) rfl (by omega) (fun G g => fix_of (lst_pre e g)) ?_ ?_
    · intro a ha'
      obtain ⟨la, sa⟩ := k a ha'
      refine ⟨_, by simp [wipeD]; rfl, fun G g => ?_⟩
      have c1 : ∀ h, ev.call li [regD lows highs bounds, vv a] h = .ok (.bl (inB lows highs bounds a)) h := hli a la sa
      simp [arrD, c1]
    · intro G g
      simp
      have hG : h.length ≤ G.length := (p.trans g).length_le
      refine ⟨pre_app (p.trans g), fun bad => ?_, fun _ => ⟨pre_app (p.trans g), ps.filter fun p => inB lows highs bounds p, rfl, ?_, ?_⟩⟩
      · simp [D.lt] at bad
        omega
      · have := List.length_filter_le (fun p => inB lows highs bounds p) ps
        omega
      · intro x hx
        obtain ⟨mx, bx⟩ := List.mem_filter.mp hx
        exact ⟨(k x mx).1, (k x mx).2, bx⟩
end
end PV
/-! PVNd: what a network's layers give; the laws' own walk through them. -/
namespace PV
open PySem
/-- a for loop by what holds ahead of the items that are left -/
theorem WpS_forL {α : Type} {fix : List (Nat × List D)} {g : D → Sl → Option Sl} {b : Sl → Hd → SOut} {P : Po} (as : List α) (φ : α → D) (I : List α → Sl → Hd → Prop) {items : List D} {s : Sl} {h : Hd} (hi : items = as.map φ) (h0 : I as s h)
    (hs : ∀ (a : α) (r : List α) (s : Sl) (h : Hd), I (a :: r) s h → fixOk h fix = true ∧ ∃ s1, g (φ a) s = some s1 ∧ WpS (b s1 h) ⟨I r, P.rt, P.nx, I r, P.ex⟩)
    (he : ∀ s h, I [] s h → fixOk h fix = true ∧ P.nx s h) : WpS (loopF fix g b items s h) P := by
  refine WpS_for as φ (fun i => I (as.drop i)) hi h0 (fun i hi s h k => ?_) (fun s h k => he s h (by simpa using k))
  have k : I (as.drop i) s h := k
  rw [List.drop_eq_getElem_cons hi] at k
  exact hs _ _ s h k
theorem num_neg {q : Rat} : q.num < 0 ↔ q < 0 := by
  have := rat_lt q 0
  have e : (decide (q.num * ((0 : Rat).den : Int) < (0 : Rat).num * (q.den : Int))) = decide (q.num < 0) := by
    have a : (0 : Rat).den = 1 := rfl
    have b : (0 : Rat).num = 0 := rfl
    rw [a, b]
    simp
  rw [e] at this
  simpa using this
/-! ### by layers -/
def sumsL (rows : List (List Rat)) (offs v : List Rat) : List Rat := addV2 (rows.map fun r => dotL r v) offs
def relu1 (p : Bool × Rat) : Rat := if p.1 = true ∧ p.2.num < 0 then 0 else p.2
def reluL (fl : List Bool) (v : List Rat) : List Rat := (fl.zip v).map relu1
def flagL (fl : List Bool) (v : List Rat) : List Rat := ((fl.zip v).filter (·.1)).map (·.2)
def valsL : List Lay → List Rat → List Rat × List Rat
  | [], v => ([], v)
  | .sums rows offs :: ls, v => valsL ls (sumsL rows offs v)
  | .bends fl :: ls, v => (flagL fl v ++ (valsL ls (reluL fl v)).1, (valsL ls (reluL fl v)).2)
def unitsL : List Lay → Nat
  | [] => 0
  | .sums _ _ :: ls => unitsL ls
  | .bends fl :: ls => (fl.filter id).length + unitsL ls
/-- bounds of the ratios, widths at most w -/
def bdL (w : Nat) : List Lay → Nat → Nat
  | [], b => b
  | .sums _ _ :: ls, b => bdL w ls (w * (b + 8) + 9)
  | .bends _ :: ls, b => bdL w ls b
theorem bdL_le {w : Nat} (hw : 1 ≤ w) : ∀ (ls : List Lay) (b : Nat), b ≤ bdL w ls b
  | [], b => Nat.le_refl _
  | .sums _ _ :: ls, b => by
    have a := bdL_le hw ls (w * (b + 8) + 9)
    have c : 1 * (b + 8) ≤ w * (b + 8) := Nat.mul_le_mul_right _ hw
    show b ≤ bdL w ls (w * (b + 8) + 9)
    omega
  | .bends _ :: ls, b => bdL_le hw ls b
theorem plain_bd {ls : List Lay} (p : Plain ls) (l : ls.length ≤ 5) : bdL 3 ls 50 ≤ 4000 := by
  match ls, p, l with
  | [.sums _ _], _, _ => simp [bdL]
  | [.sums _ _, .bends _, .sums _ _], _, _ => simp [bdL]
  | [.sums _ _, .bends _, .sums _ _, .bends _, .sums _ _], _, _ => simp [bdL]
  | .sums _ _ :: .bends _ :: .sums _ _ :: .bends _ :: .sums _ _ :: .bends _ :: _, _, l => simp at l
theorem addV2_sz {a b : Nat} {v w : List Rat} (s : Qs a v) (t : Qs b w) : Qs (a + b + 1) (addV2 v w) := fun q hq => by
  obtain ⟨p, hp, rfl⟩ := List.mem_map.mp hq
  exact (s _ (List.of_mem_zip hp).1).add (t _ (List.of_mem_zip hp).2)
theorem sums_sz {w b n m : Nat} {rows : List (List Rat)} {offs v : List Rat} (S : Sums n m 7 rows offs) (hn : n ≤ w) (sv : Qs b v) : Qs (w * (b + 8) + 9) (sumsL rows offs v) := by
  have a : Qs (w * (b + 8) + 1) (rows.map fun r => dotL r v) := fun q hq => by
    obtain ⟨r, hr, rfl⟩ := List.mem_map.mp hq
    refine (dotL_sz (S.sz r hr) sv).mono ?_
    rw [S.wid r hr]
    have e := Nat.mul_le_mul_right (b + 8) hn
    have e2 : 7 + b + 1 = b + 8 := by omega
    rw [e2]
    omega
  exact (addV2_sz a S.osz).mono (by omega)
theorem sums_len {n m : Nat} {rows : List (List Rat)} {offs v : List Rat} (S : Sums n m 7 rows offs) : (sumsL rows offs v).length = m := by
  unfold sumsL
  rw [addV2_len, List.length_map, S.len, S.olen]
  omega
theorem relu_sz {b : Nat} {fl : List Bool} {v : List Rat} (hb : 1 ≤ b) (s : Qs b v) : Qs b (reluL fl v) := fun q hq => by
  obtain ⟨p, hp, rfl⟩ := List.mem_map.mp hq
  unfold relu1
  split
  · exact Qn.zero hb
  · exact s _ (List.of_mem_zip hp).2
theorem relu_len {fl : List Bool} {v : List Rat} (e : fl.length = v.length) : (reluL fl v).length = v.length := by simp [reluL, e]
theorem flag_sz {b : Nat} {fl : List Bool} {v : List Rat} (s : Qs b v) : Qs b (flagL fl v) := fun q hq => by
  obtain ⟨p, hp, rfl⟩ := List.mem_map.mp hq
  exact s _ (List.of_mem_zip (List.mem_filter.mp hp).1).2
theorem flag_len {fl : List Bool} {v : List Rat} (e : fl.length = v.length) : (flagL fl v).length = (fl.filter id).length := by
  unfold flagL
  rw [List.length_map]
  induction fl generalizing v with
  | nil => rfl
  | cons f fl ih =>
    cases v with
    | nil => simp at e
    | cons x v =>
      have := ih (v := v) (by simpa using e)
      cases f <;> simp [this]
theorem take_flag {fl : List Bool} {v : List Rat} {k : Nat} (h1 : k < fl.length) (h2 : k < v.length) : flagL (fl.take (k + 1)) (v.take (k + 1)) = flagL (fl.take k) (v.take k) ++ (if fl[k] then [v[k]] else []) := by
  unfold flagL
  rw [List.take_succ_eq_append_getElem h1, List.take_succ_eq_append_getElem h2, List.zip_append (by simp; omega)]
  cases fl[k] <;> simp
theorem take_relu {fl : List Bool} {v : List Rat} {k : Nat} (h1 : k < fl.length) (h2 : k < v.length) : reluL (fl.take (k + 1)) (v.take (k + 1)) = reluL (fl.take k) (v.take k) ++ [relu1 (fl[k], v[k])] := by
  unfold reluL
  rw [List.take_succ_eq_append_getElem h1, List.take_succ_eq_append_getElem h2, List.zip_append (by simp; omega)]
  simp
theorem sh_str {z : Str} (f : PyData.strOk z = true) : Sh 0 (.str z) := fun h => ⟨by simp only [toPy, PyData.canLay0]; exact f, by simp [toPy, PyData.depth]⟩
theorem eqV_st {z y : Str} (f : PyData.strOk z = true) (g : PyData.strOk y = true) (h : Hd) : eqV h (.str z) (.str y) = some (z == y) := by
  rw [eqV_sh (sh_str f) (sh_str g) (by decide) (by decide), eqD_str]
theorem sok_sums : PyData.strOk "sums" = true := by decide +kernel
theorem sok_bends : PyData.strOk "bends" = true := by decide +kernel
theorem sok_greatest : PyData.strOk "greatest" = true := by decide +kernel
theorem sok_window : PyData.strOk "window" = true := by decide +kernel
@[simp] theorem eqs_sums_sums (h : Hd) : eqV h (.str "sums") (.str "sums") = some true := by rw [eqV_st sok_sums sok_sums]; exact congrArg some (by decide)
@[simp] theorem eqs_sums_bends (h : Hd) : eqV h (.str "sums") (.str "bends") = some false := by rw [eqV_st sok_sums sok_bends]; exact congrArg some (by decide)
@[simp] theorem eqs_sums_greatest (h : Hd) : eqV h (.str "sums") (.str "greatest") = some false := by rw [eqV_st sok_sums sok_greatest]; exact congrArg some (by decide)
@[simp] theorem eqs_sums_window (h : Hd) : eqV h (.str "sums") (.str "window") = some false := by rw [eqV_st sok_sums sok_window]; exact congrArg some (by decide)
@[simp] theorem eqs_bends_sums (h : Hd) : eqV h (.str "bends") (.str "sums") = some false := by rw [eqV_st sok_bends sok_sums]; exact congrArg some (by decide)
@[simp] theorem eqs_bends_bends (h : Hd) : eqV h (.str "bends") (.str "bends") = some true := by rw [eqV_st sok_bends sok_bends]; exact congrArg some (by decide)
@[simp] theorem eqs_bends_greatest (h : Hd) : eqV h (.str "bends") (.str "greatest") = some false := by rw [eqV_st sok_bends sok_greatest]; exact congrArg some (by decide)
@[simp] theorem eqs_bends_window (h : Hd) : eqV h (.str "bends") (.str "window") = some false := by rw [eqV_st sok_bends sok_window]; exact congrArg some (by decide)
theorem WFl.n100 {b : Nat} : ∀ {ls : List Lay} {n m : Nat}, WFl b n ls m → n ≤ 100
  | [], _, _, h => h.2
  | .sums _ _ :: _, _, _, h => h.1
  | .bends _ :: _, _, _, h => h.1
theorem fl_at {fl : List Bool} {k : Nat} (hk : k < fl.length) (h : Hd) : idxV (.tup (fl.map .bl)) (.int (k : Int)) h = .ok (.bl fl[k]) h := by
  have a : L2.atI (fl.map D.bl) (k : Int) = some (.bl fl[k]) := by rw [at_n (by simpa using hk)]; simp
  simp [a]
theorem mv_at {M : List (List Rat)} {k : Nat} (hk : k < M.length) (h : Hd) : idxV (mv M) (.int (k : Int)) h = .ok (vv M[k]) h := by
  have a : L2.atI (M.map vv) (k : Int) = some (vv M[k]) := by rw [at_n (by simpa using hk)]; simp
  simp [mv, a]
theorem len_mv (M : List (List Rat)) (h : Hd) : biV .len [mv M] h = .ok (.int (M.length : Int)) h := by simp [mv]
theorem len_vv (v : List Rat) (h : Hd) : biV .len [vv v] h = .ok (.int (v.length : Int)) h := by simp [vv]
theorem addV2_rng {rows : List (List Rat)} {offs v : List Rat} {f : List Rat → Rat} (e : rows.length = offs.length) : ∀ (k : Nat) (h1 : k < rows.length) (h2 : k < offs.length), (addV2 (rows.map f) offs)[k]? = some (f rows[k] + offs[k]) := fun k h1 h2 => by
  unfold addV2
  have a : ((rows.map f).zip offs)[k]? = some (f rows[k], offs[k]) := by
    rw [List.getElem?_eq_getElem (by simp; omega)]
    simp
  rw [List.getElem?_map, a]
  rfl
theorem sums_rng {n m : Nat} {rows : List (List Rat)} {offs v : List Rat} (S : Sums n m 7 rows offs) : (List.range rows.length).map (fun k => dotL (rows.getD k []) v + offs.getD k 0) = sumsL rows offs v := by
  have l1 := S.len
  have l2 := S.olen
  apply List.ext_getElem?
  intro k
  by_cases hk : k < rows.length
  · rw [List.getElem?_map, List.getElem?_range hk]
    unfold sumsL
    rw [addV2_rng (v := v) (by omega) k hk (by omega)]
    have a : rows.getD k [] = rows[k] := by simp [List.getD_eq_getElem?_getD, hk]
    have b : offs.getD k 0 = offs[k] := getD_at (by omega)
    simp only [Option.map_some, a, b]
  · have e := sums_len (v := v) S
    rw [List.getElem?_eq_none (by simpa using hk), List.getElem?_eq_none (by omega)]
/-- what holds in a layer of bends behind k items -/
def LBI (h : Hd) (n : Nat) (p : List Rat) (ls : List Lay) (c : Nat) (fl : List Bool) (acc cur : List Rat) (k : Nat) (s : Sl) (G : Hd) : Prop := ∃ (A B : List Rat) (v5 : Option D), s = [some (netD n ls), some (vv p), some (.ref h.length), some (.ref c), some (bendD fl), v5] ∧ h <+: G ∧ lstAt G h.length = some (A.map rv) ∧ lstAt G c = some (B.map rv) ∧ A = acc ++ flagL (fl.take k) (cur.take k) ∧ B = reluL (fl.take k) (cur.take k) ++ cur.drop k
/-- what holds in the law's walk through the layers, r left -/
def LVI (h : Hd) (n : Nat) (p : List Rat) (ls : List Lay) (w m : Nat) (r : List Lay) (s : Sl) (H : Hd) : Prop := ∃ (acc cur : List Rat) (n' b c : Nat) (v4 v5 : Option D), s = [some (netD n ls), some (vv p), some (.ref h.length), some (.ref c), v4, v5] ∧ h <+: H ∧ h.length < c ∧ lstAt H h.length = some (acc.map rv) ∧ lstAt H c = some (cur.map rv) ∧ WFl 7 n' r m ∧ n' ≤ w ∧ Wid w r ∧ cur.length = n' ∧ 1 ≤ b ∧ Qs b cur ∧ bdL w r b ≤ 4000 ∧ acc.length + unitsL r = unitsL ls ∧ valsL ls p = (acc ++ (valsL r cur).1, (valsL r cur).2)
section
variable {ev : Ev} {h : Hd}
theorem t_lvalues {ad dt w n m : Nat} {ls : List Lay} {p : List Rat} {X : Exn → Hd → Prop} (ha : AddR ev ad) (hd : LDot ev dt) (w1 : 1 ≤ w) (w2 : w ≤ 30) (wf : WFl 7 n ls m) (hn : n ≤ w) (wd : Wid w ls) (lp : p.length = n) (sp : Qs 50 p) (hb : bdL w ls 50 ≤ 4000) (hls : ls.length ≤ 1000) (hu : unitsL ls ≤ 1000) :
    WpE (fin h (exSs ev (C_l_values ad dt) (startD 6 [netD n ls, vv p]) h)) (fun d H => h <+: H ∧ ∃ k : Nat, d = .tup [.ref k, vv (valsL ls p).2] ∧ lstAt H k = some ((valsL ls p).1.map rv) ∧ h.length ≤ k) X := by
  refine fin_list ?_
  simp [C_l_values, startD, vv]
  refine WpS_forL ls Lay.d (LVI h n p ls w m) rfl
    ⟨[], p, n, 50, h.length + 1, none, none, rfl, List.prefix_append _ _, by omega, by simp, by simp, wf, hn, wd, lp, by omega, sp, hb, by simp, by simp⟩ ?_ ?_
  · rintro l r _ H ⟨acc, cur, n', b, c, v4, v5, rfl, q, hc, e1, e2, wf', hn', wd', lc, b1, sc, hb', hu', et⟩
    refine ⟨rfl, _, bindG_nm _ _ _, ?_⟩
    have hH := lst_lt e2
    cases l with
    | sums rows offs =>
      obtain ⟨_, S, r1, wf2⟩ := wf'
      obtain ⟨wd1, wd2⟩ := wd'
      have ln := S.wid
      have ol := S.olen
      simp [Lay.d, len_mv, rngV_k rfl (show rows.length ≤ 1000000 by omega)]
      refine WpE_lc (List.range rows.length) (fun k : Nat => .int (k : Int)) (fun k => rv (dotL (rows.getD k []) cur + offs.getD k 0)) rfl (by simpa using (show rows.length ≤ 1000000 by omega)) (fun _ _ => rfl) ?_ ?_
      · intro k hk
        have hk : k < rows.length := by simpa using hk
        refine ⟨_, rfl, fun G g => ⟨rfl, ?_⟩⟩
        have a : rows.getD k [] = rows[k] := by simp [List.getD_eq_getElem?_getD, hk]
        have o : offs.getD k 0 = offs[k] := getD_at (by omega)
        have wk := S.wid rows[k] (List.getElem_mem hk)
        have sk := S.sz rows[k] (List.getElem_mem hk)
        have so := S.osz offs[k] (List.getElem_mem (by omega))
        have bb := bdL_le w1 r (w * (b + 8) + 9)
        have bb' : bdL w r (w * (b + 8) + 9) ≤ 4000 := hb'
        have mm := Nat.mul_le_mul_right (b + 8) hn'
        have m1 : 1 * (b + 8) ≤ w * (b + 8) := Nat.mul_le_mul_right _ w1
        have m2 : 7 + b + 1 = b + 8 := by omega
        have c1 := hd 7 b rows[k] cur (.ref c) G (by omega) sk sc (by rw [wk, m2]; omega) (by omega) (by decide) (by omega) (idx_r (lst_pre e2 g))
        have qd : Qn 4000 (dotL rows[k] cur) := (dotL_sz sk sc).mono (by rw [wk, m2]; omega)
        have c2 : ∀ h, ev.call ad [rv (dotL rows[k] cur), rv offs[k]] h = .ok (rv (dotL rows[k] cur + offs[k])) h := ha _ _ qd (so.mono (by decide))
        rw [a, o]
        simp [wipeD, arrD, mv_at hk, at_vv (v := offs) (i := k) (by omega), c1, c2]
      · intro G g
        have er : (List.range rows.length).map (fun k => rv (dotL (rows.getD k []) cur + offs.getD k 0)) = (sumsL rows offs cur).map rv := by
          rw [← sums_rng S, List.map_map]
          rfl
        rw [er]
        have gl := g.length_le
        simp
        exact ⟨acc, sumsL rows offs cur, rows.length, w * (b + 8) + 9, G.length, _, _, rfl, pre_app (q.trans g), by omega, lst_old (lst_pre e1 g) _, lst_new _ _, wf2, wd1, wd2, sums_len S, by omega, sums_sz S hn' sc, hb', hu', et⟩
    | bends fl =>
      obtain ⟨_, lf, wf2⟩ := wf'
      have fc : fl.length = cur.length := by omega
      have n100 := wf2.n100
      simp [Lay.d, e2, rngV_k rfl (show cur.length ≤ 1000000 by omega)]
      refine WpS_rng cur.length (LBI h n p ls c fl acc cur) ⟨acc, cur, _, rfl, q, e1, e2, by simp [flagL], by simp [reluL]⟩ ?_ ?_
      · rintro k hk _ G ⟨A, B, v5, rfl, g, f1, f2, eA, eB⟩
        refine ⟨_, bindG_nm _ _ _, ?_⟩
        have hf : k < fl.length := by omega
        have rl : (reluL (fl.take k) (cur.take k)).length = k := by
          rw [relu_len (by simp; omega)]
          simp; omega
        have lB : B.length = cur.length := by rw [eB]; simp [rl]; omega
        have Bk : B[k]'(by omega) = cur[k] := by
          subst eB
          rw [List.getElem_append_right (by omega)]
          simp [rl]
        have eat : L2.atI (B.map rv) (k : Int) = some (rv cur[k]) := by
          rw [at_n (by simpa using (show k < B.length by omega))]
          simp [Bk]
        have lA : A.length ≤ 1000000 := by
          have x : A.length ≤ acc.length + (fl.filter id).length := by
            rw [eA, List.length_append]
            have := flag_len (fl := fl.take k) (v := cur.take k) (by simp; omega)
            rw [this]
            have : ((fl.take k).filter id).length ≤ (fl.filter id).length := ((List.take_sublist k fl).filter id).length_le
            omega
          have y : unitsL (.bends fl :: r) = (fl.filter id).length + unitsL r := rfl
          omega
        have tk := take_flag hf hk
        have tr := take_relu hf hk
        have dr : cur.drop k = cur[k] :: cur.drop (k + 1) := List.drop_eq_getElem_cons hk
        cases eb : fl[k] with
        | false =>
          rw [eb] at tk tr
          have er : relu1 (false, cur[k]) = cur[k] := by simp [relu1]
          rw [er] at tr
          simp [fl_at hf, eb]
          refine ⟨A, B, _, rfl, g, f1, f2, by rw [tk, eA]; simp, by rw [tr, eB, dr]; simp⟩
        | true =>
          rw [eb] at tk tr
          simp [fl_at hf, eb, f1, f2, eat, lst_line lA]
          have g2 : lstAt (G.set h.length (.lst (A.map rv ++ [rv cur[k]]))) c = some (B.map rv) := r_set_ne f2 (by omega)
          have g1 : lstAt (G.set h.length (.lst (A.map rv ++ [rv cur[k]]))) h.length = some ((A ++ [cur[k]]).map rv) := by
            rw [r_set f1]
            simp
          have g0 := pre_set (n := h.length) (c := .lst (A.map rv ++ [rv cur[k]])) g (Nat.le_refl _)
          generalize G.set h.length (.lst (A.map rv ++ [rv cur[k]])) = G1 at g0 g1 g2 ⊢
          have at0 : L2.atI [D.int cur[k].num, D.int (cur[k].den : Int)] 0 = some (.int cur[k].num) := at_0 _ _
          by_cases ng : cur[k].num < 0
          · have er : relu1 (true, cur[k]) = 0 := by simp [relu1, ng]
            rw [er] at tr
            simp [g2, eat, ng, r_sub _ _ g2, ix_n (show k < B.length by omega)]
            refine ⟨A ++ [cur[k]], B.set k 0, _, rfl, pre_set g0 (by omega), r_set_ne g1 (by omega), by rw [r_set g2]; simp [List.map_set, rv], by rw [tk, eA]; simp, ?_⟩
            rw [tr, eB, dr]
            have := List.set_append_right (s := reluL (fl.take k) (cur.take k)) (t := cur[k] :: cur.drop (k + 1)) k (0 : Rat) (by omega)
            rw [this, rl]
            simp
            rw [dr]
            rfl
          · have er : relu1 (true, cur[k]) = cur[k] := by simp [relu1, ng]
            rw [er] at tr
            simp [g2, eat, ng]
            exact ⟨A ++ [cur[k]], B, _, rfl, g0, g1, g2, by rw [tk, eA]; simp, by rw [tr, eB, dr]; simp⟩
      · rintro _ G ⟨A, B, v5, rfl, g, f1, f2, eA, eB⟩
        rw [List.take_of_length_le (by omega), List.take_length] at eA eB
        rw [List.drop_length, List.append_nil] at eB
        subst eA eB
        have lr : (reluL fl cur).length = n' := by rw [relu_len fc]; exact lc
        refine ⟨acc ++ flagL fl cur, reluL fl cur, n', b, c, _, _, rfl, g, hc, f1, f2, wf2, hn', wd', lr, b1, relu_sz b1 sc, hb', ?_, ?_⟩
        · rw [List.length_append, flag_len fc]
          have y : unitsL (.bends fl :: r) = (fl.filter id).length + unitsL r := rfl
          omega
        · rw [et]
          simp [valsL]
  · rintro _ H ⟨acc, cur, n', b, c, v4, v5, rfl, q, hc, e1, e2, wf', hn', wd', lc, b1, sc, hb', hu', et⟩
    refine ⟨rfl, ?_⟩
    simp [e2]
    have v1 : (valsL ls p).1 = acc := by rw [et]; simp [valsL]
    have v2 : (valsL ls p).2 = cur := by rw [et]; simp [valsL]
    rw [v1, v2]
    refine ⟨q, fun bad => ?_, fun _ => ⟨q, h.length, ⟨rfl, rfl⟩, e1, Nat.le_refl _⟩⟩
    simp [D.lt, D.lts] at bad
end
end PV
/-! PVNe: the program's walk through a network that is right. -/
namespace PV
open PySem
/-- a dot product of the program's -/
def PDot (ev : Ev) (f : Nat) : Prop := ∀ (n : Nat) (v w : List Rat), Qs n v → Qs n w → v.length * (2 * n + 2) ≤ 8800 → Giv ev f [vv v, vv w] (rv (dotL v w))
def stepL : Lay → List Rat → List Rat
  | .sums rows offs, v => sumsL rows offs v
  | .bends fl, v => reluL fl v
def trailL : List Lay → List Rat → List (List Rat)
  | [], v => [v]
  | l :: ls, v => v :: trailL ls (stepL l v)
theorem at_last {α : Type} (xs : List α) (x : α) : L2.atI (xs ++ [x]) (-1) = some x := by
  unfold L2.atI L2.ixN
  have a : ¬ (0 : Int) ≤ -1 := by decide
  have b : -((xs ++ [x]).length : Int) ≤ -1 := by simp; omega
  rw [if_neg a, if_pos b]
  have c : ((-1 : Int) + ((xs ++ [x]).length : Nat)).toNat = xs.length := by simp; omega
  rw [Option.bind_some, c]
  simp
section
variable {ev : Ev} {h : Hd}
theorem t_is_vector0 {ir : Nat} (hr : ∀ q : Rat, Giv ev ir [rv q] (.bl true)) {v : List Rat} (hl : v.length ≤ 1000000) : fin h (exSs ev (C_is_vector ir) (startD 3 [vv v, .non]) h) = .ok (.bl true) h := by
  refine fin_gives rfl ?_
  simp [C_is_vector, startD, vv]
  refine WpE_lc v rv (fun _ => .bl true) rfl hl (fun _ _ => rfl) ?_ ?_
  · intro a _
    have c : ∀ h, ev.call ir [rv a] h = .ok (.bl true) h := hr a
    refine ⟨_, rfl, fun G g => ⟨rfl, ?_⟩⟩
    simp [wipeD, arrD, c]
  · intro G g
    have e : bls (v.map fun _ => D.bl true) = some (v.map fun _ => true) := bls_map v fun _ => true
    simp [e, pre_app g]
theorem t_is_vector {ir : Nat} (hr : ∀ q : Rat, Giv ev ir [rv q] (.bl true)) {v : List Rat} (hl : v.length ≤ 1000000) : fin h (exSs ev (C_is_vector ir) (startD 3 [vv v, .int (v.length : Int)]) h) = .ok (.bl true) h := by
  refine fin_gives rfl ?_
  simp [C_is_vector, startD, len_vv]
  have t : isiV (vv v) .tuple h = some true := rfl
  simp [t, vv, isV]
  refine WpE_lc v rv (fun _ => .bl true) rfl hl (fun _ _ => rfl) ?_ ?_
  · intro a _
    have c : ∀ h, ev.call ir [rv a] h = .ok (.bl true) h := hr a
    refine ⟨_, rfl, fun G g => ⟨rfl, ?_⟩⟩
    simp [wipeD, arrD, c]
  · intro G g
    have e : bls (v.map fun _ => D.bl true) = some (v.map fun _ => true) := bls_map v fun _ => true
    simp [e, pre_app g]
theorem t_is_matrix {iv n : Nat} {M : List (List Rat)} (hv : ∀ v : List Rat, v.length ≤ 1000 → Giv ev iv [vv v, .int (v.length : Int)] (.bl true)) (h1 : 1 ≤ M.length) (hl : M.length ≤ 1000000) (hw : ∀ r ∈ M, r.length = n) (hn : n ≤ 1000) : fin h (exSs ev (C_is_matrix iv) (startD 5 [mv M, .non, .non]) h) = .ok (.bl true) h := by
  refine fin_gives rfl ?_
  cases M with
  | nil => simp at h1
  | cons r0 M =>
    have e0 : eqV h (mv (r0 :: M)) (.tup []) = some false := by
      rw [eqV_sh (sh_mv _) (sh_tup (n := 0) (xs := []) (by simp)) (by decide) (by decide)]
      simp [mv]
    have l0 : r0.length = n := hw r0 (by simp)
    have t : isiV (mv (r0 :: M)) .tuple h = some true := rfl
    have a0 : idxV (mv (r0 :: M)) (.int 0) h = .ok (vv r0) h := by simp [mv]
    have t0 : isiV (vv r0) .tuple h = some true := rfl
    have w : walkV (mv (r0 :: M)) h = .ok ⟨(r0 :: M).map vv, []⟩ h := rfl
    simp [C_is_matrix, startD, t, e0, a0, t0, len_vv, l0, w]
    refine WpE_lc (r0 :: M) vv (fun _ => .bl true) rfl hl (fun _ _ => rfl) ?_ ?_
    · intro a ha
      have c : ∀ h, ev.call iv [vv a, .int (n : Int)] h = .ok (.bl true) h := by
        have := hv a (by rw [hw a ha]; exact hn)
        rw [hw a ha] at this
        exact this
      refine ⟨_, rfl, fun G g => ⟨rfl, ?_⟩⟩
      simp [wipeD, arrD, c]
    · intro G g
      have e : bls ((r0 :: M).map fun _ => D.bl true) = some ((r0 :: M).map fun _ => true) := bls_map _ fun _ => true
      simp only [List.map_cons] at e
      simp [e, pre_app g]
theorem sh_sumD (rows : List (List Rat)) (offs : List Rat) : Sh 4 (sumD rows offs) := sh_tup fun x hx => by
  simp only [List.mem_cons, List.not_mem_nil, or_false] at hx
  rcases hx with rfl | rfl | rfl
  · exact (sh_str sok_sums).mono (by decide)
  · exact sh_mv _
  · exact (sh_vv _).mono (by decide)
theorem sh_bls (fl : List Bool) : Sh 1 (.tup (fl.map .bl)) := sh_tup fun x hx => by
  obtain ⟨b, _, rfl⟩ := List.mem_map.mp hx
  exact sh_bl b
theorem sh_bendD (fl : List Bool) : Sh 4 (bendD fl) := sh_tup fun x hx => by
  simp only [List.mem_cons, List.not_mem_nil, or_false] at hx
  rcases hx with rfl | rfl
  · exact (sh_str sok_bends).mono (by decide)
  · exact (sh_bls fl).mono (by decide)
theorem sh_nil : Sh 1 (.tup []) := sh_tup (n := 0) (by simp)
theorem t_form_sums {im iv ig is ir n m : Nat} {rows : List (List Rat)} {offs : List Rat} (hm : ∀ M : List (List Rat), 1 ≤ M.length → M.length ≤ 1000 → (∀ r ∈ M, r.length = n) → Giv ev im [mv M, .non, .non] (.bl true)) (hv : ∀ v : List Rat, v.length ≤ 1000 → Giv ev iv [vv v, .non] (.bl true)) (S : Sums n m 7 rows offs) (m1 : 1 ≤ m) (m2 : m ≤ 1000) :
    fin h (exSs ev (C_has_form im iv ig is ir) (startD 10 [sumD rows offs]) h) = .ok (.bl true) h := by
  have l1 := S.len
  have l2 := S.olen
  have e0 : eqV h (sumD rows offs) (.tup []) = some false := by
    rw [eqV_sh (sh_sumD _ _) sh_nil (by decide) (by decide)]
    simp
  have c1 : ∀ h, ev.call im [mv rows, .non, .non] h = .ok (.bl true) h := hm rows (by omega) (by omega) S.wid
  have c2 : ∀ h, ev.call iv [vv offs, .non] h = .ok (.bl true) h := hv offs (by omega)
  simp [C_has_form, startD, e0, arrD, c1, c2]
theorem t_form_bends {im iv ig is ir : Nat} {fl : List Bool} (hl : fl.length ≤ 1000) : fin h (exSs ev (C_has_form im iv ig is ir) (startD 10 [bendD fl]) h) = .ok (.bl true) h := by
  refine fin_gives rfl ?_
  have e0 : eqV h (bendD fl) (.tup []) = some false := by
    rw [eqV_sh (sh_bendD _) sh_nil (by decide) (by decide)]
    simp
  simp [C_has_form, startD, e0]
  refine WpE_lc fl .bl (fun _ => .bl true) rfl (by omega) (fun _ _ => rfl) ?_ ?_
  · intro a _
    refine ⟨_, rfl, fun G g => ⟨rfl, ?_⟩⟩
    simp [wipeD]
  · intro G g
    have e : bls (fl.map fun _ => D.bl true) = some (fl.map fun _ => true) := bls_map _ fun _ => true
    simp [e, pre_app g]
theorem t_fits_sums {n m : Nat} {rows : List (List Rat)} {offs : List Rat} (S : Sums n m 7 rows offs) (m1 : 1 ≤ m) : fin h (exSs ev C_nfits (startD 3 [.int (n : Int), sumD rows offs]) h) = .ok (.bl true) h := by
  have l1 := S.len
  have l2 := S.olen
  cases rows with
  | nil => simp at l1; omega
  | cons r0 rows =>
    have l0 : r0.length = n := S.wid r0 (by simp)
    have a0 : idxV (mv (r0 :: rows)) (.int 0) h = .ok (vv r0) h := by simp [mv]
    have o : (offs.length : Int) = ((r0 :: rows).length : Int) := by omega
    simp [C_nfits, startD, a0, len_vv, l0, len_mv]
    simp at o
    simp [o]
theorem t_fits_bends {n : Nat} {fl : List Bool} (e : fl.length = n) : fin h (exSs ev C_nfits (startD 3 [.int (n : Int), bendD fl]) h) = .ok (.bl true) h := by
  simp [C_nfits, startD, e]
theorem t_given_sums {n m : Nat} {rows : List (List Rat)} {offs : List Rat} (S : Sums n m 7 rows offs) : fin h (exSs ev C_given_size (startD 2 [.int (n : Int), sumD rows offs]) h) = .ok (.int (m : Int)) h := by
  simp [C_given_size, startD, len_mv, S.len]
theorem t_given_bends {n : Nat} {fl : List Bool} : fin h (exSs ev C_given_size (startD 2 [.int (n : Int), bendD fl]) h) = .ok (.int (n : Int)) h := by
  simp [C_given_size, startD]
end
theorem enum_map {α : Type} (φ : α → D) : ∀ (ls : List α) (k : Nat), enumD (k : Int) (ls.map φ) = (ls.zipIdx k).map fun p => .tup [.int (p.2 : Int), φ p.1]
  | [], _ => rfl
  | l :: ls, k => by
    have := enum_map φ ls (k + 1)
    simp only [List.map_cons, enumD, List.zipIdx_cons]
    rw [← this]
    simp
def sizesL : Nat → List Lay → List Nat
  | n, [] => [n]
  | n, .sums rows _ :: ls => n :: sizesL rows.length ls
  | n, .bends _ :: ls => n :: sizesL n ls
abbrev natD (k : Nat) : D := .int (k : Int)
theorem nats_lt (n : Nat) : ∀ xs : List Nat, D.lts n (xs.map natD) = true
  | [] => rfl
  | x :: xs => by
    show (true && D.lts n (xs.map natD)) = true
    rw [nats_lt n xs]
    rfl
def SZI (h : Hd) (n : Nat) (ls : List Lay) (m : Nat) (r : List (Lay × Nat)) (s : Sl) (H : Hd) : Prop := ∃ (dn : List Nat) (n' : Nat) (v2 v3 : Option D), s = [some (netD n ls), some (.ref h.length), v2, v3] ∧ h <+: H ∧ lstAt H h.length = some ((dn ++ [n']).map natD) ∧ WFl 7 n' (r.map (·.1)) m ∧ dn.length + r.length ≤ 1000 ∧ sizesL n ls = dn ++ sizesL n' (r.map (·.1))
section
variable {ev : Ev} {h : Hd}
theorem t_sizes {eb it hf nf gs n m : Nat} {ls : List Lay} (hi : ∀ i : Int, Giv ev it [.int i] (.bl true)) (hf1 : ∀ n m rows offs, Sums n m 7 rows offs → 1 ≤ m → m ≤ 1000 → n ≤ 1000 → Giv ev hf [sumD rows offs] (.bl true)) (hf2 : ∀ fl : List Bool, fl.length ≤ 1000 → Giv ev hf [bendD fl] (.bl true))
    (nf1 : ∀ (n m : Nat) rows offs, Sums n m 7 rows offs → 1 ≤ m → Giv ev nf [.int (n : Int), sumD rows offs] (.bl true)) (nf2 : ∀ (fl : List Bool), Giv ev nf [.int (fl.length : Int), bendD fl] (.bl true)) (gs1 : ∀ (n m : Nat) rows offs, Sums n m 7 rows offs → Giv ev gs [.int (n : Int), sumD rows offs] (.int (m : Int))) (gs2 : ∀ (n : Nat) (fl : List Bool), Giv ev gs [.int (n : Int), bendD fl] (.int (n : Int)))
    (wf : WFl 7 n ls m) (n1 : 1 ≤ n) (hl : ls.length ≤ 900) : fin h (exSs ev (C_sizes eb it hf nf gs) (startD 4 [netD n ls]) h) = .ok (.tup ((sizesL n ls).map natD)) h := by
  refine fin_gives (nats_lt _ _) ?_
  have n100 := wf.n100
  have hi' : ∀ h, ev.call it [.int (n : Int)] h = .ok (.bl true) h := hi n
  have a1 : ¬ ((n : Int) < 1) := by omega
  have a2 : ¬ (1000 < (n : Int)) := by omega
  have nn : decide ((1 : Nat) ≤ line) = true := by decide
  have em := enum_map Lay.d ls 0
  have em : enumD 0 (ls.map Lay.d) = (ls.zipIdx 0).map fun p => .tup [.int (p.2 : Int), p.1.d] := em
  simp [C_sizes, startD, arrD, hi', a1, a2, nn]
  refine WpS_forL (ls.zipIdx 0) (fun p => .tup [.int (p.2 : Int), p.1.d]) (SZI h n ls m) em ⟨[], n, _, _, rfl, List.prefix_append _ _, by simp, by simpa using wf, by simp; omega, by simp⟩ ?_ ?_
  · rintro ⟨l, j⟩ r _ H ⟨dn, n', v2, v3, rfl, p, e, wf', ln, es⟩
    refine ⟨rfl, _, by simp; rfl, ?_⟩
    have lx : L2.atI ((dn ++ [n']).map natD) (-1) = some (.int (n' : Int)) := by
      rw [List.map_append]
      exact at_last _ _
    have ll : decide (((dn ++ [n']).map natD).length < line) = true := by
      refine lst_line ?_
      simp at ln ⊢
      omega
    generalize hx : (dn ++ [n']).map natD = xs at e lx ll
    have wf0 : WFl 7 n' (l :: r.map (·.1)) m := by simpa using wf'
    have n1' := wf0.n100
    cases l with
    | sums rows offs =>
      obtain ⟨_, S, r1, wf2⟩ := wf0
      have wl := wf2.n100
      have c1 : ∀ h, ev.call hf [sumD rows offs] h = .ok (.bl true) h := hf1 _ _ _ _ S r1 (by omega) (by omega)
      have c2 : ∀ h, ev.call nf [.int (n' : Int), sumD rows offs] h = .ok (.bl true) h := nf1 _ _ _ _ S r1
      have c3 : ∀ h, ev.call gs [.int (n' : Int), sumD rows offs] h = .ok (.int (rows.length : Int)) h := gs1 _ _ _ _ S
      simp [Lay.d, arrD, c1, e, lx, c2, c3, of_decide_eq_true ll]
      refine ⟨dn ++ [n'], rows.length, _, _, rfl, pre_set p (Nat.le_refl _), ?_, wf2, by simp at ln ⊢; omega, ?_⟩
      · rw [r_set e, ← hx]
        simp
      · rw [es]
        simp [sizesL]
    | bends fl =>
      obtain ⟨_, lf, wf2⟩ := wf0
      have c1 : ∀ h, ev.call hf [bendD fl] h = .ok (.bl true) h := hf2 _ (by omega)
      have c2 : ∀ h, ev.call nf [.int (n' : Int), bendD fl] h = .ok (.bl true) h := by
        have := nf2 fl
        rw [lf] at this
        exact this
      have c3 : ∀ h, ev.call gs [.int (n' : Int), bendD fl] h = .ok (.int (n' : Int)) h := gs2 _ _
      simp [Lay.d, arrD, c1, e, lx, c2, c3, of_decide_eq_true ll]
      refine ⟨dn ++ [n'], n', _, _, rfl, pre_set p (Nat.le_refl _), ?_, wf2, by simp at ln ⊢; omega, ?_⟩
      · rw [r_set e, ← hx]
        simp
      · rw [es]
        simp [sizesL]
  · rintro _ H ⟨dn, n', v2, v3, rfl, p, e, wf', ln, es⟩
    refine ⟨rfl, ?_⟩
    rw [es]
    simp [e, sizesL, p]
theorem t_check {sz : Nat} {x d : D} (hs : Giv ev sz [x] d) : fin h (exSs ev (C_check sz) (startD 1 [x]) h) = .ok .non h := by
  have c : ∀ h, ev.call sz [x] h = .ok d h := hs
  simp [C_check, startD, arrD, c]
/-- what a layer gives -/
theorem t_passed_sums {ad ap le gr add_ dt n m b w : Nat} {rows : List (List Rat)} {offs v : List Rat} (S : Sums n m 7 rows offs) (sv : Qs b v) (b1 : 1 ≤ b) (hn : n ≤ w) (lv : v.length = n) (hb : w * (b + 8) + 9 ≤ 4000) (hm : m ≤ 1000)
    (hap : ∀ (M : List (List Rat)) (v : List Rat), M.length ≤ 1000 → (∀ r ∈ M, Giv ev dt [vv r, vv v] (rv (dotL r v))) → Giv ev ap [mv M, vv v] (vv (M.map fun r => dotL r v))) (had : ∀ v w : List Rat, v.length ≤ 1000 → Qs 4000 v → Qs 4000 w → Giv ev ad [vv v, vv w] (vv (addV2 v w))) (hdt : PDot ev dt) :
    fin h (exSs ev (C_passed ad ap le gr add_ dt) (startD 13 [sumD rows offs, vv v]) h) = .ok (vv (sumsL rows offs v)) h := by
  have l1 := S.len
  have mm := Nat.mul_le_mul_right (b + 8) hn
  have c1 : ∀ h, ev.call ap [mv rows, vv v] h = .ok (vv (rows.map fun r => dotL r v)) h := hap rows v (by omega) fun r hr => hdt (max 7 b) r v ((S.sz r hr).mono (by omega)) (sv.mono (by omega)) (by
    rw [S.wid r hr]
    have : 2 * (max 7 b) + 2 ≤ 2 * (b + 8) := by omega
    have := Nat.mul_le_mul_left n this
    have e2 : n * (2 * (b + 8)) = 2 * (n * (b + 8)) := by rw [Nat.mul_left_comm]
    omega)
  have qd : Qs 4000 (rows.map fun r => dotL r v) := fun q hq => by
    obtain ⟨r, hr, rfl⟩ := List.mem_map.mp hq
    refine (dotL_sz (S.sz r hr) sv).mono ?_
    have e2 : 7 + b + 1 = b + 8 := by omega
    rw [S.wid r hr, e2]
    omega
  have c2 : ∀ h, ev.call ad [vv (rows.map fun r => dotL r v), vv offs] h = .ok (vv (sumsL rows offs v)) h := had _ _ (by simp; omega) qd (S.osz.mono (by decide))
  simp [C_passed, startD, arrD, c1, c2]
theorem t_passed_bends {ad ap le gr add_ dt : Nat} {fl : List Bool} {v : List Rat} (lv : fl.length = v.length) (hl : v.length ≤ 1000) (sv : Qs 4000 v) (hle : LessR ev le) :
    fin h (exSs ev (C_passed ad ap le gr add_ dt) (startD 13 [bendD fl, vv v]) h) = .ok (vv (reluL fl v)) h := by
  refine fin_gives (vv_lt _ _) ?_
  have z : ∀ h, zipV (.tup (fl.map .bl)) (vv v) h = .ok ⟨(fl.zip v).map fun p => .tup [.bl p.1, rv p.2], []⟩ h := fun h => by
    show zipV (.tup (fl.map .bl)) (.tup (v.map rv)) h = _
    rw [zipV_tup, zip_map]
  simp [C_passed, startD, z]
  refine WpE_lc (fl.zip v) (fun p => .tup [.bl p.1, rv p.2]) (fun p => rv (relu1 p)) rfl (by simp; omega) (fun _ _ => rfl) ?_ ?_
  · rintro ⟨f, x⟩ hp
    have sx := sv x (List.of_mem_zip hp).2
    have c : ∀ h, ev.call le [rv x, .tup [.int 0, .int 1]] h = .ok (.bl (decide (x < 0))) h := hle x 0 sx (Qn.zero (by decide))
    refine ⟨_, by simp [wipeD]; rfl, fun G g => ⟨rfl, ?_⟩⟩
    cases f with
    | false => simp [relu1]
    | true =>
      by_cases ng : x < 0
      · have ng' := num_neg.mpr ng
        simp [arrD, c, ng, relu1, ng', rv_zero]
      · have ng' : ¬ x.num < 0 := fun q => ng (num_neg.mp q)
        simp [arrD, c, ng, relu1, ng']
  · intro G g
    have e : ((fl.zip v).map fun p => rv (relu1 p)) = (reluL fl v).map rv := by simp [reluL]
    rw [e]
    simp [pre_app g, vv]
def TRI (h : Hd) (n : Nat) (ls : List Lay) (p : List Rat) (w m : Nat) (r : List Lay) (s : Sl) (H : Hd) : Prop := ∃ (dn : List (List Rat)) (cur : List Rat) (n' b : Nat) (v3 : Option D), s = [some (netD n ls), some (vv p), some (.ref h.length), v3] ∧ h <+: H ∧ lstAt H h.length = some ((dn ++ [cur]).map vv) ∧ WFl 7 n' r m ∧ n' ≤ w ∧ Wid w r ∧ cur.length = n' ∧ 1 ≤ b ∧ Qs b cur ∧ bdL w r b ≤ 4000 ∧ dn.length + r.length ≤ 1000 ∧ trailL ls p = dn ++ trailL r cur
theorem t_trail {ep ck iv pa n m w : Nat} {ls : List Lay} {p : List Rat} (hck : Giv ev ck [netD n ls] .non) (hiv : ∀ v : List Rat, v.length ≤ 1000 → Giv ev iv [vv v, .int (v.length : Int)] (.bl true))
    (hp1 : ∀ n m b rows offs v, Sums n m 7 rows offs → Qs b v → 1 ≤ b → n ≤ w → v.length = n → w * (b + 8) + 9 ≤ 4000 → m ≤ 1000 → Giv ev pa [sumD rows offs, vv v] (vv (sumsL rows offs v))) (hp2 : ∀ (fl : List Bool) (v : List Rat), fl.length = v.length → v.length ≤ 1000 → Qs 4000 v → Giv ev pa [bendD fl, vv v] (vv (reluL fl v)))
    (w1 : 1 ≤ w) (wf : WFl 7 n ls m) (hn : n ≤ w) (wd : Wid w ls) (lp : p.length = n) (sp : Qs 50 p) (hb : bdL w ls 50 ≤ 4000) (hls : ls.length ≤ 900) : fin h (exSs ev (C_trail ep ck iv pa) (startD 4 [netD n ls, vv p]) h) = .ok (mv (trailL ls p)) h := by
  refine fin_gives (mv_lt _ _) ?_
  have n100 := wf.n100
  have c1 : ∀ h, ev.call ck [netD n ls] h = .ok .non h := hck
  have c2 : ∀ h, ev.call iv [vv p, .int (n : Int)] h = .ok (.bl true) h := by
    have := hiv p (by omega)
    rw [lp] at this
    exact this
  have nn : decide ((1 : Nat) ≤ line) = true := by decide
  simp [C_trail, startD, arrD, c1, c2, nn]
  refine WpS_forL ls Lay.d (TRI h n ls p w m) rfl ⟨[], p, n, 50, _, rfl, List.prefix_append _ _, by simp, wf, hn, wd, lp, by omega, sp, hb, by simp; omega, by simp⟩ ?_ ?_
  · rintro l r _ H ⟨dn, cur, n', b, v3, rfl, q, e, wf', hn', wd', lc, b1, sc, hb', ln, et⟩
    refine ⟨rfl, _, bindG_nm _ _ _, ?_⟩
    have lx : L2.atI ((dn ++ [cur]).map vv) (-1) = some (vv cur) := by
      rw [List.map_append]
      exact at_last _ _
    have ll : decide (((dn ++ [cur]).map vv).length < line) = true := by
      refine lst_line ?_
      simp at ln ⊢
      omega
    generalize hx : (dn ++ [cur]).map vv = xs at e lx ll
    have n1' := wf'.n100
    cases l with
    | sums rows offs =>
      obtain ⟨_, S, r1, wf2⟩ := wf'
      obtain ⟨wd1, wd2⟩ := wd'
      have wl := wf2.n100
      have bb := bdL_le w1 r (w * (b + 8) + 9)
      have bb' : bdL w r (w * (b + 8) + 9) ≤ 4000 := hb'
      have c3 : ∀ h, ev.call pa [sumD rows offs, vv cur] h = .ok (vv (sumsL rows offs cur)) h := hp1 _ _ b _ _ _ S sc b1 hn' lc (by omega) (by omega)
      simp [Lay.d, arrD, e, lx, c3, of_decide_eq_true ll]
      refine ⟨dn ++ [cur], sumsL rows offs cur, rows.length, w * (b + 8) + 9, _, rfl, pre_set q (Nat.le_refl _), ?_, wf2, wd1, wd2, sums_len S, by omega, sums_sz S hn' sc, bb', by simp at ln ⊢; omega, ?_⟩
      · rw [r_set e, ← hx]
        simp
      · rw [et]
        simp [trailL, stepL]
    | bends fl =>
      obtain ⟨_, lf, wf2⟩ := wf'
      have fc : fl.length = cur.length := by omega
      have bb := bdL_le w1 r b
      have bb' : bdL w r b ≤ 4000 := hb'
      have c3 : ∀ h, ev.call pa [bendD fl, vv cur] h = .ok (vv (reluL fl cur)) h := hp2 _ _ fc (by omega) (sc.mono (by omega))
      simp [Lay.d, arrD, e, lx, c3, of_decide_eq_true ll]
      refine ⟨dn ++ [cur], reluL fl cur, n', b, _, rfl, pre_set q (Nat.le_refl _), ?_, wf2, hn', wd', by rw [relu_len fc]; exact lc, b1, relu_sz b1 sc, bb', by simp at ln ⊢; omega, ?_⟩
      · rw [r_set e, ← hx]
        simp
      · rw [et]
        simp [trailL, stepL]
  · rintro _ H ⟨dn, cur, n', b, v3, rfl, q, e, wf', hn', wd', lc, b1, sc, hb', ln, et⟩
    refine ⟨rfl, ?_⟩
    rw [et]
    simp [e, trailL, q, mv]
end
end PV
/-! PVNg: codes of pieces, with callee numbers (printed by tmpl.py). -/
namespace PV
open PySem
def C_pattern (f_trail : Nat) : QSs := (.cons (.asg (.nm 2) (.lst .nil))
  (.cons (.asg (.nm 3) (.call f_trail (.cons (.var 0) (.cons (.var 1) .nil)) .nil [.inl (.inl 0), .inl (.inl 1)]))
  (.cons (.for (.tp [(.nm 4), (.nm 5)]) (.zip (.idx (.var 0) (.con (.int (1)))) (.var 3)) (.cons (.ife (.v (.cmp .Eq (.idx (.var 4) (.con (.int (0)))) (.con (.str "bends")))) (.cons (.expr (.mth 1 (.var 2) (.cons (.lc (.cmp .Gt (.idx (.var 7) (.con (.int (0)))) (.con (.int (0)))) (.tp [(.nm 6), (.nm 7)]) (.zip (.idx (.var 4) (.con (.int (1)))) (.var 5)) [6, 7] (.v (.var 6))) .nil)))
  .nil) .nil)
  .nil))
  (.cons (.ret (.bi .tuple (.cons (.var 2) .nil)))
  .nil))))
def C_Piece_init (k_Piece f_unit f_Piece_weighted f_Piece_bent : Nat) : QSs := (.cons (.fset (.var 0) "size" (.idx (.var 1) (.con (.int (0)))))
  (.cons (.fset (.var 0) "phases" (.var 2))
  (.cons (.fset (.var 0) "bending" (.lst .nil))
  (.cons (.asg (.nm 4) (.lc (.tup (.cons (.call f_unit (.cons (.fld (.var 0) "size") (.cons (.var 3) .nil)) .nil [.inl (.inl 0), .inl (.inl 1)]) (.cons (.con (.tup [(.int (0)), (.int (1))])) .nil))) (.nm 3) (.rng1 (.fld (.var 0) "size")) [3] .yes))
  (.cons (.for (.nm 5) (.v (.idx (.var 1) (.con (.int (1))))) (.cons (.ife (.v (.cmp .Eq (.idx (.var 5) (.con (.int (0)))) (.con (.str "sums")))) (.cons (.asg (.nm 4) (.lc (.mcall k_Piece f_Piece_weighted "weighted" (.var 0) (.cons (.var 6) (.cons (.var 7) (.cons (.var 4) .nil)))) (.tp [(.nm 6), (.nm 7)]) (.zip (.idx (.var 5) (.con (.int (1)))) (.idx (.var 5) (.con (.int (2))))) [6, 7] .yes))
  .nil) (.cons (.asg (.nm 4) (.lc (.ife (.v (.var 8)) (.mcall k_Piece f_Piece_bent "bent" (.var 0) (.cons (.var 9) .nil)) (.var 9)) (.tp [(.nm 8), (.nm 9)]) (.zip (.idx (.var 5) (.con (.int (1)))) (.var 4)) [8, 9] .yes))
  .nil))
  .nil))
  (.cons (.fset (.var 0) "outputs" (.var 4))
  .nil))))))
def C_Piece_weighted (f_zero f_added f_scaled f_add f_multiply : Nat) : QSs := (.cons (.asg (.nm 4) (.call f_zero (.cons (.fld (.var 0) "size") .nil) .nil [.inl (.inl 0)]))
  (.cons (.asg (.nm 5) (.var 2))
  (.cons (.for (.tp [(.nm 6), (.nm 7)]) (.zip (.var 1) (.var 3)) (.cons (.ife (.v (.cmp .NotEq (.var 6) (.con (.tup [(.int (0)), (.int (1))])))) (.cons (.asg (.nm 4) (.call f_added (.cons (.var 4) (.cons (.call f_scaled (.cons (.var 6) (.cons (.idx (.var 7) (.con (.int (0)))) .nil)) .nil [.inl (.inl 0), .inl (.inl 1)]) .nil)) .nil [.inl (.inl 0), .inl (.inl 1)]))
  (.cons (.asg (.nm 5) (.call f_add (.cons (.var 5) (.cons (.call f_multiply (.cons (.var 6) (.cons (.idx (.var 7) (.con (.int (1)))) .nil)) .nil [.inl (.inl 0), .inl (.inl 1)]) .nil)) .nil [.inl (.inl 0), .inl (.inl 1)]))
  .nil)) .nil)
  .nil))
  (.cons (.ret (.tup (.cons (.var 4) (.cons (.var 5) .nil))))
  .nil))))
def C_Piece_bent (f_zero : Nat) : QSs := (.cons (.expr (.mth 0 (.fld (.var 0) "bending") (.cons (.var 1) .nil)))
  (.cons (.ife (.v (.idx (.fld (.var 0) "phases") (.bin .Sub (.bi .len (.cons (.fld (.var 0) "bending") .nil)) (.con (.int (1)))))) (.cons (.ret (.var 1))
  .nil) .nil)
  (.cons (.ret (.tup (.cons (.call f_zero (.cons (.fld (.var 0) "size") .nil) .nil [.inl (.inl 0)]) (.cons (.con (.tup [(.int (0)), (.int (1))])) .nil))))
  .nil)))
def C_piece_rows (k_Piece f_opposite f_negative f_rows_of f_Piece_init : Nat) : QSs := (.cons (.asg (.nm 3) (.lst .nil))
  (.cons (.for (.tp [(.nm 4), (.nm 5)]) (.zip (.fld (.make k_Piece f_Piece_init (.cons (.var 0) (.cons (.var 2) .nil))) "bending") (.var 2)) (.cons (.ife (.v (.var 5)) (.cons (.expr (.mth 0 (.var 3) (.cons (.tup (.cons (.call f_opposite (.cons (.idx (.var 4) (.con (.int (0)))) .nil) .nil [.inl (.inl 0)]) (.cons (.idx (.var 4) (.con (.int (1)))) .nil))) .nil)))
  .nil) (.cons (.expr (.mth 0 (.var 3) (.cons (.tup (.cons (.idx (.var 4) (.con (.int (0)))) (.cons (.call f_negative (.cons (.idx (.var 4) (.con (.int (1)))) .nil) .nil [.inl (.inl 0)]) .nil))) .nil)))
  .nil))
  .nil))
  (.cons (.ret (.bin .Add (.call f_rows_of (.cons (.var 1) .nil) .nil [.inl (.inl 0)]) (.bi .tuple (.cons (.var 3) .nil))))
  .nil)))
def C_piece_form (k_Piece f_Piece_init : Nat) : QSs := (.cons (.asg (.nm 2) (.fld (.make k_Piece f_Piece_init (.cons (.var 0) (.cons (.var 1) .nil))) "outputs"))
  (.cons (.ret (.tup (.cons (.bi .tuple (.cons (.lc (.idx (.var 3) (.con (.int (0)))) (.nm 3) (.v (.var 2)) [3] .yes) .nil)) (.cons (.bi .tuple (.cons (.lc (.idx (.var 3) (.con (.int (1)))) (.nm 3) (.v (.var 2)) [3] .yes) .nil)) .nil))))
  .nil))
def C_l_keeps (f_l_less f_l_dot : Nat) : QSs := (.cons (.ret (.nott (.call f_l_less (.cons (.idx (.var 0) (.con (.int (1)))) (.cons (.call f_l_dot (.cons (.idx (.var 0) (.con (.int (0)))) (.cons (.var 1) .nil)) .nil [.inl (.inl 0), .inl (.inl 1)]) .nil)) .nil [.inl (.inl 0), .inl (.inl 1)])))
  .nil)
def C_l_linear (f_l_add f_l_dot : Nat) : QSs := (.cons (.asg (.nm 3) (.bi .list (.cons (.var 2) .nil)))
  (.cons (.asg (.nm 4) (.lst .nil))
  (.cons (.for (.nm 5) (.v (.idx (.var 0) (.con (.int (1))))) (.cons (.ife (.v (.cmp .Eq (.idx (.var 5) (.con (.int (0)))) (.con (.str "sums")))) (.cons (.asg (.nm 3) (.lc (.call f_l_add (.cons (.call f_l_dot (.cons (.idx (.idx (.var 5) (.con (.int (1)))) (.var 6)) (.cons (.var 3) .nil)) .nil [.inl (.inl 0), .inl (.inl 1)]) (.cons (.idx (.idx (.var 5) (.con (.int (2)))) (.var 6)) .nil)) .nil [.inl (.inl 0), .inl (.inl 1)]) (.nm 6) (.rng1 (.bi .len (.cons (.idx (.var 5) (.con (.int (1)))) .nil))) [6] .yes))
  .nil) (.cons (.for (.nm 6) (.rng1 (.bi .len (.cons (.var 3) .nil))) (.cons (.ife (.v (.idx (.idx (.var 5) (.con (.int (1)))) (.var 6))) (.cons (.expr (.mth 0 (.var 4) (.cons (.idx (.var 3) (.var 6)) .nil)))
  (.cons (.ife (.not (.v (.idx (.var 1) (.bin .Sub (.bi .len (.cons (.var 4) .nil)) (.con (.int (1))))))) (.cons (.sub (.var 3) (.var 6) (.tup (.cons (.con (.int (0))) (.cons (.con (.int (1))) .nil))))
  .nil) .nil)
  .nil)) .nil)
  .nil))
  .nil))
  .nil))
  (.cons (.ret (.tup (.cons (.var 4) (.cons (.bi .tuple (.cons (.var 3) .nil)) .nil))))
  .nil))))
end PV
/-! PVNf: linear forms, pieces: the plain law. -/
namespace PV
open PySem
/-! ### dot products -/
theorem dotL_nil (p : List Rat) : dotL [] p = 0 := rfl
theorem dotL_nil' (v : List Rat) : dotL v [] = 0 := by simp [dotL, dotR]
theorem dotL_cons (a b : Rat) (v p : List Rat) : dotL (a :: v) (b :: p) = a * b + dotL v p := by
  show dotR ((a, b) :: v.zip p) = _
  rw [dotR_cons]
theorem dotL_addV2 : ∀ (v w p : List Rat), v.length = p.length → w.length = p.length → dotL (addV2 v w) p = dotL v p + dotL w p
  | [], [], [], _, _ => by simp [addV2, dotL_nil, Rat.add_zero]
  | a :: v, b :: w, c :: p, h1, h2 => by
    have ih := dotL_addV2 v w p (by simpa using h1) (by simpa using h2)
    have e : addV2 (a :: v) (b :: w) = (a + b) :: addV2 v w := by simp [addV2]
    rw [e, dotL_cons, dotL_cons, dotL_cons, ih]
    grind
  | [], _ :: _, [], _, h2 => by simp at h2
  | [], _, _ :: _, h1, _ => by simp at h1
  | _ :: _, _, [], h1, _ => by simp at h1
  | _ :: _, [], _ :: _, _, h2 => by simp at h2
theorem dotL_scale (c : Rat) : ∀ (v p : List Rat), dotL (v.map fun q => c * q) p = c * dotL v p
  | [], p => by simp [dotL_nil, Rat.mul_zero]
  | a :: v, [] => by rw [dotL_nil', dotL_nil', Rat.mul_zero]
  | a :: v, b :: p => by
    rw [List.map_cons, dotL_cons, dotL_cons, dotL_scale c v p]
    grind
theorem dotL_zero : ∀ (n : Nat) (p : List Rat), dotL (List.replicate n 0) p = 0
  | 0, p => rfl
  | n + 1, [] => dotL_nil' _
  | n + 1, b :: p => by
    rw [List.replicate_succ, dotL_cons, dotL_zero n p]
    grind
theorem dotL_neg (v p : List Rat) : dotL (v.map fun q => -q) p = -dotL v p := by
  have := dotL_scale (-1) v p
  have e : (v.map fun q => (-1 : Rat) * q) = v.map fun q => -q := List.map_congr_left fun q _ => by grind
  rw [e] at this
  rw [this]
  grind
theorem dotL_unit : ∀ (n i : Nat) (p : List Rat) (hi : i < p.length), p.length = n → dotL (unitR n i) p = p[i]
  | 0, i, p, hi, e => by omega
  | n + 1, 0, b :: p, hi, e => by
    have u : unitR (n + 1) 0 = 1 :: List.replicate n 0 := by simp [unitR]
    rw [u, dotL_cons, dotL_zero]
    simp
    grind
  | n + 1, i + 1, b :: p, hi, e => by
    have u : unitR (n + 1) (i + 1) = 0 :: unitR n i := by simp [unitR, List.replicate_succ]
    have ih := dotL_unit n i p (by simpa using hi) (by simpa using e)
    rw [u, dotL_cons, ih]
    simp
    grind
  | n + 1, i, [], hi, e => by simp at hi
/-! ### forms -/
def wFz (l : List (Rat × Bd)) (a : Bd) : Bd := l.foldl (fun a p => (addV2 a.1 (p.2.1.map fun q => p.1 * q), a.2 + p.1 * p.2.2)) a
def wF (n : Nat) (row : List Rat) (off : Rat) (fs : List Bd) : Bd := wFz (row.zip fs) (List.replicate n 0, off)
def evF (f : Bd) (p : List Rat) : Rat := dotL f.1 p + f.2
theorem wFz_len {n : Nat} : ∀ (l : List (Rat × Bd)) (a : Bd), a.1.length = n → (∀ x ∈ l, x.2.1.length = n) → (wFz l a).1.length = n
  | [], a, h, _ => h
  | x :: l, a, h, k => by
    have k1 := k x List.mem_cons_self
    refine wFz_len l _ ?_ fun y hy => k y (List.mem_cons_of_mem _ hy)
    show (addV2 a.1 (x.2.1.map fun q => x.1 * q)).length = n
    rw [addV2_len, List.length_map, h, k1, Nat.min_self]
theorem wFz_ev {n : Nat} {p : List Rat} (hp : p.length = n) : ∀ (l : List (Rat × Bd)) (a : Bd), a.1.length = n → (∀ x ∈ l, x.2.1.length = n) → evF (wFz l a) p = evF a p + dotR (l.map fun x => (x.1, evF x.2 p))
  | [], a, _, _ => by simp [wFz, dotR, Rat.add_zero]
  | x :: l, a, h, k => by
    have k1 := k x List.mem_cons_self
    have l1 : (addV2 a.1 (x.2.1.map fun q => x.1 * q)).length = n := by rw [addV2_len, List.length_map, h, k1, Nat.min_self]
    have ih := wFz_ev hp l (addV2 a.1 (x.2.1.map fun q => x.1 * q), a.2 + x.1 * x.2.2) l1 fun y hy => k y (List.mem_cons_of_mem _ hy)
    show evF (wFz l _) p = _
    rw [ih, List.map_cons, dotR_cons]
    show dotL (addV2 a.1 (x.2.1.map fun q => x.1 * q)) p + (a.2 + x.1 * x.2.2) + _ = (dotL a.1 p + a.2) + (x.1 * (dotL x.2.1 p + x.2.2) + _)
    rw [dotL_addV2 _ _ _ (by omega) (by rw [List.length_map]; omega), dotL_scale]
    grind
theorem wF_len {n : Nat} {row : List Rat} {off : Rat} {fs : List Bd} (k : ∀ f ∈ fs, f.1.length = n) : (wF n row off fs).1.length = n :=
  wFz_len _ _ (by simp) fun x hx => k _ (List.of_mem_zip hx).2
theorem wF_ev {n : Nat} {row : List Rat} {off : Rat} {fs : List Bd} {p : List Rat} (hp : p.length = n) (k : ∀ f ∈ fs, f.1.length = n) : evF (wF n row off fs) p = dotL row (fs.map fun f => evF f p) + off := by
  unfold wF
  rw [wFz_ev hp _ _ (by simp) fun x hx => k _ (List.of_mem_zip hx).2]
  have e : (row.zip fs).map (fun x => (x.1, evF x.2 p)) = row.zip (fs.map fun f => evF f p) := by
    rw [List.zip_map_right]
    rfl
  rw [e]
  show dotL (List.replicate n 0) p + off + dotL row _ = _
  rw [dotL_zero]
  grind
/-- sizes -/
def Fs (n b : Nat) (f : Bd) : Prop := f.1.length = n ∧ Qs b f.1 ∧ Qn b f.2
theorem Fs.mono {n b c : Nat} {f : Bd} (h : Fs n b f) (l : b ≤ c) : Fs n c f := ⟨h.1, h.2.1.mono l, h.2.2.mono l⟩
theorem scale_sz {a b : Nat} {c : Rat} {v : List Rat} (hc : Qn a c) (s : Qs b v) : Qs (a + b) (v.map fun q => c * q) := fun q hq => by
  obtain ⟨x, hx, rfl⟩ := List.mem_map.mp hq
  exact hc.mul (s x hx)
theorem wFz_sz {n b c : Nat} : ∀ (l : List (Rat × Bd)) (a : Bd), Fs n c a → (∀ x ∈ l, Qn 7 x.1 ∧ Fs n b x.2) → Fs n (c + l.length * (b + 8)) (wFz l a)
  | [], a, h, _ => h.mono (Nat.le_add_right _ _)
  | x :: l, a, h, k => by
    obtain ⟨k0, k1, k2, k3⟩ := k x List.mem_cons_self
    have l1 : (addV2 a.1 (x.2.1.map fun q => x.1 * q)).length = n := by rw [addV2_len, List.length_map, h.1, k1, Nat.min_self]
    have ih := wFz_sz (c := c + (7 + b) + 1) l (addV2 a.1 (x.2.1.map fun q => x.1 * q), a.2 + x.1 * x.2.2) ⟨l1, addV2_sz h.2.1 (scale_sz k0 k2), h.2.2.add (k0.mul k3)⟩ fun y hy => k y (List.mem_cons_of_mem _ hy)
    refine ih.mono ?_
    rw [List.length_cons, Nat.add_mul]
    omega
theorem wF_sz {n b w : Nat} {row : List Rat} {off : Rat} {fs : List Bd} (sr : Qs 7 row) (so : Qn 7 off) (k : ∀ f ∈ fs, Fs n b f) (hw : fs.length ≤ w) : Fs n (w * (b + 8) + 9) (wF n row off fs) := by
  have z : Fs n 7 (List.replicate n 0, off) := ⟨by simp, fun q hq => by rw [(List.mem_replicate.mp hq).2]; exact Qn.zero (by decide), so⟩
  refine (wFz_sz (row.zip fs) _ z fun x hx => ⟨sr _ (List.of_mem_zip hx).1, k _ (List.of_mem_zip hx).2⟩).mono ?_
  have l : (row.zip fs).length ≤ w := by rw [List.length_zip]; omega
  have := Nat.mul_le_mul_right (b + 8) l
  omega
/-! ### pieces: forms with phases -/
def zF (n : Nat) : Bd := (List.replicate n 0, 0)
def bentL (n : Nat) (ph : List Bool) : List (Bool × Bd) → List Bd → List Bd × List Bd
  | [], bd => (bd, [])
  | (false, f) :: r, bd => ((bentL n ph r bd).1, f :: (bentL n ph r bd).2)
  | (true, f) :: r, bd => ((bentL n ph r (bd ++ [f])).1, (if ph.getD bd.length false = true then f else zF n) :: (bentL n ph r (bd ++ [f])).2)
def pieceL (n : Nat) (ph : List Bool) : List Lay → List Bd → List Bd → List Bd × List Bd
  | [], fs, bd => (bd, fs)
  | .sums rows offs :: ls, fs, bd => pieceL n ph ls ((rows.zip offs).map fun p => wF n p.1 p.2 fs) bd
  | .bends fl :: ls, fs, bd => pieceL n ph ls (bentL n ph (fl.zip fs) bd).2 (bentL n ph (fl.zip fs) bd).1
def startF (n : Nat) : List Bd := (List.range n).map fun i => (unitR n i, 0)
/-! the law's walk with phases -/
def linB (ph : List Bool) : List (Bool × Rat) → List Rat → List Rat × List Rat
  | [], vs => (vs, [])
  | (false, x) :: r, vs => ((linB ph r vs).1, x :: (linB ph r vs).2)
  | (true, x) :: r, vs => ((linB ph r (vs ++ [x])).1, (if ph.getD vs.length false = true then x else 0) :: (linB ph r (vs ++ [x])).2)
def linL (ph : List Bool) : List Lay → List Rat → List Rat → List Rat × List Rat
  | [], v, vs => (vs, v)
  | .sums rows offs :: ls, v, vs => linL ph ls (sumsL rows offs v) vs
  | .bends fl :: ls, v, vs => linL ph ls (linB ph (fl.zip v) vs).2 (linB ph (fl.zip v) vs).1
theorem bentL_ev {n : Nat} {ph : List Bool} {p : List Rat} (hp : p.length = n) : ∀ (l : List (Bool × Bd)) (bd : List Bd), (∀ x ∈ l, x.2.1.length = n) →
    linB ph (l.map fun x => (x.1, evF x.2 p)) (bd.map fun f => evF f p) = ((bentL n ph l bd).1.map fun f => evF f p, (bentL n ph l bd).2.map fun f => evF f p) ∧ ∀ f ∈ (bentL n ph l bd).2, f.1.length = n
  | [], bd, _ => by simp [linB, bentL]
  | (false, f) :: r, bd, k => by
    obtain ⟨i1, i2⟩ := bentL_ev (ph := ph) hp r bd fun y hy => k y (List.mem_cons_of_mem _ hy)
    refine ⟨by simp only [List.map_cons, linB, bentL, i1], ?_⟩
    intro g hg
    simp only [bentL, List.mem_cons] at hg
    rcases hg with rfl | hg
    · exact k (false, g) List.mem_cons_self
    · exact i2 g hg
  | (true, f) :: r, bd, k => by
    obtain ⟨i1, i2⟩ := bentL_ev (ph := ph) hp r (bd ++ [f]) fun y hy => k y (List.mem_cons_of_mem _ hy)
    have e : (bd.map fun f => evF f p) ++ [evF f p] = (bd ++ [f]).map fun f => evF f p := by simp
    have z : evF (zF n) p = 0 := by
      show dotL (List.replicate n 0) p + 0 = 0
      rw [dotL_zero, Rat.add_zero]
    refine ⟨?_, ?_⟩
    · simp only [List.map_cons, linB, bentL, e, i1, List.length_map]
      split
      · rfl
      · rw [z]
    · intro g hg
      simp only [bentL, List.mem_cons] at hg
      rcases hg with rfl | hg
      · split
        · exact k (true, f) List.mem_cons_self
        · simp [zF]
      · exact i2 g hg
theorem pieceL_ev {n : Nat} {ph : List Bool} {p : List Rat} (hp : p.length = n) : ∀ (ls : List Lay) (fs bd : List Bd), (∀ f ∈ fs, f.1.length = n) →
    linL ph ls (fs.map fun f => evF f p) (bd.map fun f => evF f p) = ((pieceL n ph ls fs bd).1.map fun f => evF f p, (pieceL n ph ls fs bd).2.map fun f => evF f p)
  | [], fs, bd, _ => rfl
  | .sums rows offs :: ls, fs, bd, k => by
    have ih := pieceL_ev (ph := ph) hp ls ((rows.zip offs).map fun p => wF n p.1 p.2 fs) bd fun f hf => by
      obtain ⟨x, _, rfl⟩ := List.mem_map.mp hf
      exact wF_len k
    have e : ((rows.zip offs).map fun p => wF n p.1 p.2 fs).map (fun f => evF f p) = sumsL rows offs (fs.map fun f => evF f p) := by
      unfold sumsL addV2
      rw [List.map_map, List.zip_map_left, List.map_map]
      refine List.map_congr_left fun x _ => ?_
      exact wF_ev hp k
    rw [e] at ih
    exact ih
  | .bends fl :: ls, fs, bd, k => by
    obtain ⟨i1, i2⟩ := bentL_ev (ph := ph) hp (fl.zip fs) bd fun x hx => k _ (List.of_mem_zip hx).2
    have ih := pieceL_ev (ph := ph) hp ls (bentL n ph (fl.zip fs) bd).2 (bentL n ph (fl.zip fs) bd).1 i2
    have e : (fl.zip fs).map (fun x => (x.1, evF x.2 p)) = fl.zip (fs.map fun f => evF f p) := by rw [List.zip_map_right]; rfl
    rw [e] at i1
    show linL ph ls (linB ph (fl.zip (fs.map fun f => evF f p)) (bd.map fun f => evF f p)).2 (linB ph (fl.zip (fs.map fun f => evF f p)) (bd.map fun f => evF f p)).1 = _
    rw [i1]
    exact ih
theorem start_ev {n : Nat} {p : List Rat} (hp : p.length = n) : (startF n).map (fun f => evF f p) = p := by
  unfold startF
  apply List.ext_getElem
  · simp [hp]
  · intro i h1 h2
    simp only [List.map_map, List.getElem_map, List.getElem_range, Function.comp]
    show dotL (unitR n i) p + 0 = p[i]
    rw [dotL_unit n i p h2 hp, Rat.add_zero]
theorem start_len {n : Nat} : ∀ f ∈ startF n, f.1.length = n := fun f hf => by
  obtain ⟨i, hi, rfl⟩ := List.mem_map.mp hf
  have := List.mem_range.mp hi
  simp [unitR]
  omega
/-- a piece's forms at a point -/
theorem piece_ev {n : Nat} {ph : List Bool} {p : List Rat} {ls : List Lay} (hp : p.length = n) : linL ph ls p [] = ((pieceL n ph ls (startF n) []).1.map fun f => evF f p, (pieceL n ph ls (startF n) []).2.map fun f => evF f p) := by
  have := pieceL_ev (ph := ph) hp ls (startF n) [] start_len
  rw [start_ev hp] at this
  exact this
/-! where the phases are those of the values, the piece's walk is the network's -/
theorem linB_ok {ph : List Bool} : ∀ (l : List (Bool × Rat)) (vs : List Rat), (∀ k (hk : k < ((l.filter (·.1)).map (·.2)).length), if ph.getD (vs.length + k) false = true then 0 ≤ ((l.filter (·.1)).map (·.2))[k] else ((l.filter (·.1)).map (·.2))[k] ≤ 0) →
    linB ph l vs = (vs ++ (l.filter (·.1)).map (·.2), l.map relu1)
  | [], vs, _ => by simp [linB]
  | (false, x) :: r, vs, h => by
    have ih := linB_ok (ph := ph) r vs (by simpa using h)
    simp [linB, ih, relu1]
  | (true, x) :: r, vs, h => by
    have h0 := h 0 (by simp)
    have ih := linB_ok (ph := ph) r (vs ++ [x]) fun k hk => by
      have := h (k + 1) (by simpa using hk)
      have e : (vs ++ [x]).length + k = vs.length + (k + 1) := by simp; omega
      rw [e]
      simpa using this
    have e0 : (if ph.getD vs.length false = true then x else 0) = relu1 (true, x) := by
      unfold relu1
      simp only [Nat.add_zero, List.filter_cons_of_pos, List.map_cons, List.getElem_cons_zero] at h0
      split
      · rename_i q
        rw [if_pos q] at h0
        have : ¬ x.num < 0 := fun z => by
          have := num_neg.mp z
          exact absurd h0 (Rat.not_le.mpr this)
        simp [this]
      · rename_i q
        rw [if_neg q] at h0
        by_cases z : x.num < 0
        · simp [z]
        · have : ¬ x < 0 := fun y => z (num_neg.mpr y)
          have := Rat.not_lt.mp this
          have : x = 0 := Rat.le_antisymm h0 this
          simp [this]
    simp only [linB, ih, e0]
    simp
theorem linL_ok {ph : List Bool} : ∀ (ls : List Lay) (v vs : List Rat), (∀ k (hk : k < (valsL ls v).1.length), if ph.getD (vs.length + k) false = true then 0 ≤ (valsL ls v).1[k] else (valsL ls v).1[k] ≤ 0) →
    linL ph ls v vs = (vs ++ (valsL ls v).1, (valsL ls v).2)
  | [], v, vs, _ => by simp [linL, valsL]
  | .sums rows offs :: ls, v, vs, h => linL_ok ls (sumsL rows offs v) vs h
  | .bends fl :: ls, v, vs, h => by
    have e0 : (valsL (.bends fl :: ls) v).1 = flagL fl v ++ (valsL ls (reluL fl v)).1 := rfl
    have a := linB_ok (ph := ph) (fl.zip v) vs fun k hk => by
      have hk : k < (flagL fl v).length := hk
      have := h k (by rw [e0, List.length_append]; omega)
      have e1 : (valsL (.bends fl :: ls) v).1[k]'(by rw [e0, List.length_append]; omega) = (flagL fl v)[k] := by
        simp only [e0]
        rw [List.getElem_append_left hk]
      rw [e1] at this
      exact this
    show linL ph ls (linB ph (fl.zip v) vs).2 (linB ph (fl.zip v) vs).1 = _
    rw [a]
    have b := linL_ok (ph := ph) ls (reluL fl v) (vs ++ flagL fl v) fun k hk => by
      have := h ((flagL fl v).length + k) (by rw [e0, List.length_append]; omega)
      have e1 : (valsL (.bends fl :: ls) v).1[(flagL fl v).length + k]'(by rw [e0, List.length_append]; omega) = (valsL ls (reluL fl v)).1[k] := by
        simp only [e0]
        rw [List.getElem_append_right (by omega)]
        simp
      rw [e1, ← Nat.add_assoc] at this
      rw [List.length_append]
      exact this
    show linL ph ls (reluL fl v) (vs ++ flagL fl v) = _
    rw [b, e0]
    simp [valsL]
end PV
/-! PVNh: the program's pieces: pattern, the class Piece, piece_rows, piece_form. -/
namespace PV
open PySem
/-- a comprehension by what holds ahead of the items that are left -/
theorem WpE_lcI {α : Type} {fix : List (Nat × List D)} {b : D → Option Sl} {c : Sl → Hd → Out Bool} {e : Sl → Hd → Out D} {Q : List D → Hd → Prop} {X : Exn → Hd → Prop} (as : List α) (φ : α → D) (I : List α → List D → Hd → Prop) {items : List D} {h : Hd} (hi : items = as.map φ) (hl : as.length ≤ 1000000) (h0 : I as [] h)
    (hs : ∀ a r acc H, I (a :: r) acc H → fixOk H fix = true ∧ ∃ s1, b (φ a) = some s1 ∧ c s1 H = .ok true H ∧ WpE (e s1 H) (fun d H1 => I r (acc ++ [d]) H1) (fun _ _ => False))
    (hq : ∀ acc H, I [] acc H → fixOk H fix = true ∧ Q acc H) : WpE (noEx (loopC fix b c e items [] h)) Q X := by
  subst hi
  suffices H : ∀ (as : List α) (acc : List D) (H : Hd), acc.length + as.length ≤ line → I as acc H → ∃ ds H', loopC fix b c e (as.map φ) acc H = .ok ds H' ∧ Q ds H' by
    obtain ⟨ds, H', e1, q⟩ := H as [] h (by have := line_ok hl; simpa using this) h0
    rw [e1]
    exact q
  intro as
  induction as with
  | nil =>
    intro acc H _ i
    obtain ⟨f, q⟩ := hq acc H i
    refine ⟨acc, H, ?_, q⟩
    show ret (fixOk H fix) acc H = _
    rw [f]
    rfl
  | cons a as ih =>
    intro acc H hl i
    obtain ⟨f, s1, e1, e2, e3⟩ := hs a as acc H i
    cases q : e s1 H with
    | no => rw [q] at e3; exact e3.elim
    | ex x h => rw [q] at e3; exact e3.elim
    | ok d H1 =>
      rw [q] at e3
      obtain ⟨ds, H', e4, q'⟩ := ih (acc ++ [d]) H1 (by simp at hl ⊢; omega) e3
      refine ⟨ds, H', ?_, q'⟩
      have lt : decide (acc.length < line) = true := decide_eq_true (by simp at hl; omega)
      rw [List.map_cons]
      unfold loopC
      simp only [f, e1, e2, q, bind_ok, lt]
      exact e4
theorem zipV_tl {h : Hd} {n : Nat} {xs ys : List D} (e : lstAt h n = some ys) : zipV (.tup xs) (.ref n) h = .ok ⟨zipD xs ys, [(n, ys)]⟩ h := by
  simp [zipV, seqOf, e]
theorem zipV_lt {h : Hd} {n : Nat} {xs ys : List D} (e : lstAt h n = some xs) : zipV (.ref n) (.tup ys) h = .ok ⟨zipD xs ys, [(n, xs)]⟩ h := by
  simp [zipV, seqOf, e]
theorem r_ext {h : Hd} {n b : Nat} {ys zs : List D} (e : lstAt h n = some ys) (e' : lstAt h b = some zs) : mthV 1 (.ref n) [.ref b] h = ret (decide (ys.length + zs.length ≤ line)) .non (h.set n (.lst (ys ++ zs))) := by
  show extV (.ref n) [.ref b] h = _
  simp [extV, e, e']
/-! ### pattern -/
def posB (q : Rat) : Bool := decide (0 < q.num)
def PATI (h : Hd) (n : Nat) (ls : List Lay) (p : List Rat) (r : List (Lay × List Rat)) (s : Sl) (H : Hd) : Prop := ∃ (ls' : List Lay) (v : List Rat) (acc : List Bool) (v4 v5 : Option D), r = ls'.zip (trailL ls' v) ∧ s = [some (netD n ls), some (vv p), some (.ref h.length), some (mv (trailL ls p)), v4, v5, none, none] ∧ h <+: H ∧ lstAt H h.length = some (acc.map .bl) ∧ acc.length + unitsL ls' ≤ 1000 ∧ (∀ l ∈ ls', ∀ fl, l = .bends fl → fl.length ≤ 1000) ∧ (∃ m n', WFl 7 n' ls' m ∧ v.length = n') ∧ (valsL ls p).1.map posB = acc ++ (valsL ls' v).1.map posB
section
variable {ev : Ev} {h : Hd}
theorem t_pattern {tr n m : Nat} {ls : List Lay} {p : List Rat} (ht : Giv ev tr [netD n ls, vv p] (mv (trailL ls p))) (wf : WFl 7 n ls m) (lp : p.length = n) (hu : unitsL ls ≤ 1000) : fin h (exSs ev (C_pattern tr) (startD 8 [netD n ls, vv p]) h) = .ok (.tup ((valsL ls p).1.map fun q => .bl (posB q))) h := by
  have fl_lt : ∀ (l : List Bool) k, D.lts k (l.map .bl) = true := fun l k => lts_map k .bl (fun _ => rfl) l
  have e0 : (valsL ls p).1.map (fun q => D.bl (posB q)) = ((valsL ls p).1.map posB).map .bl := by rw [List.map_map]; rfl
  rw [e0]
  generalize eB : (valsL ls p).1.map posB = B
  refine fin_gives (fl_lt _ _) ?_
  have c : ∀ h, ev.call tr [netD n ls, vv p] h = .ok (mv (trailL ls p)) h := ht
  have z : ∀ h, zipV (.tup (ls.map Lay.d)) (mv (trailL ls p)) h = .ok ⟨(ls.zip (trailL ls p)).map fun x => .tup [x.1.d, vv x.2], []⟩ h := fun h => by
    show zipV (.tup (ls.map Lay.d)) (.tup ((trailL ls p).map vv)) h = _
    rw [zipV_tup, zip_map]
  have b100 : ∀ {ls : List Lay} {n m : Nat}, WFl 7 n ls m → ∀ l ∈ ls, ∀ fl, l = .bends fl → fl.length ≤ 1000 := by
    intro ls
    induction ls with
    | nil => intro n m _ l hl; cases hl
    | cons l0 ls ih =>
      intro n m w l hl fl e
      rcases List.mem_cons.mp hl with rfl | hl2
      · subst e
        have := w.1
        have := w.2.1
        omega
      · cases l0 with
        | sums rows offs => exact ih w.2.2.2 l hl2 fl e
        | bends fl' => exact ih w.2.2 l hl2 fl e
  simp [C_pattern, startD, arrD, c, z]
  refine WpS_forL (ls.zip (trailL ls p)) (fun x => .tup [x.1.d, vv x.2]) (PATI h n ls p) rfl ⟨ls, p, [], _, _, rfl, rfl, List.prefix_append _ _, by simp, by simpa using hu, b100 wf, ⟨m, n, wf, lp⟩, by simp⟩ ?_ ?_
  · rintro ⟨l, v⟩ r _ H ⟨ls', v', acc, v4, v5, er, rfl, g, e, la, bl, ⟨m', n', wf', lv⟩, ev'⟩
    refine ⟨rfl, _, by simp; rfl, ?_⟩
    cases ls' with
    | nil => simp [trailL] at er
    | cons l' ls' =>
      simp only [trailL, List.zip_cons_cons, List.cons.injEq, Prod.mk.injEq] at er
      obtain ⟨⟨rfl, rfl⟩, rfl⟩ := er
      have bl' : ∀ x ∈ ls', ∀ fl, x = .bends fl → fl.length ≤ 1000 := fun x hx => bl x (List.mem_cons_of_mem _ hx)
      cases l with
      | sums rows offs =>
        obtain ⟨_, S, _, wf2⟩ := wf'
        simp [Lay.d]
        exact ⟨ls', _, acc, _, _, rfl, rfl, g, e, la, bl', ⟨m', _, wf2, sums_len S⟩, ev'⟩
      | bends fl =>
        have lf := bl (.bends fl) List.mem_cons_self fl rfl
        obtain ⟨_, lfl, wf2⟩ := wf'
        have z2 : ∀ h, zipV (.tup (fl.map .bl)) (vv v) h = .ok ⟨(fl.zip v).map fun p => .tup [.bl p.1, rv p.2], []⟩ h := fun h => by
          show zipV (.tup (fl.map .bl)) (.tup (v.map rv)) h = _
          rw [zipV_tup, zip_map]
        simp [Lay.d, z2, e]
        refine WpE_lcF (fl.zip v) (fun p => .tup [.bl p.1, rv p.2]) (fun p => .bl (posB p.2)) (·.1) rfl (by rw [List.length_zip]; omega) (fun _ _ => rfl) ?_ ?_
        · rintro ⟨f, x⟩ _
          refine ⟨_, by simp [wipeD]; rfl, fun G g => ?_⟩
          cases f <;> simp [posB]
        · intro G g2
          have en : ((fl.zip v).filter (·.1)).map (fun p => D.bl (posB p.2)) = ((flagL fl v).map posB).map .bl := by
            unfold flagL
            rw [List.map_map, List.map_map]
            rfl
          rw [en]
          have q1 := lst_old (lst_pre e g2) [.lst (((flagL fl v).map posB).map .bl)]
          have q2 := lst_new G (((flagL fl v).map posB).map .bl)
          have ux : (flagL fl v).length = (fl.filter id).length := flag_len (by omega)
          have uy : unitsL (.bends fl :: ls') = (fl.filter id).length + unitsL ls' := rfl
          have ll : decide ((acc.map D.bl).length + (((flagL fl v).map posB).map D.bl).length ≤ line) = true := by
            refine decide_eq_true (Nat.le_trans ?_ (show 1000 ≤ line by decide))
            simp
            omega
          simp only [r_newL, WpE_ok, KE_, KS_, y_es_, xs_nil, bind_ok, y_es2_, r_ext q1 q2, ll, ret_true, y_expr_, WpS_nx, beh_nx, ss_nil', WpE_bind]
          refine ⟨ls', _, acc ++ (flagL fl v).map posB, _, _, rfl, rfl, pre_set (pre_app (g.trans g2)) (Nat.le_refl _), ?_, ?_, bl', ⟨m', _, wf2, ?_⟩, ?_⟩
          · rw [r_set q1]
            simp
          · rw [List.length_append, List.length_map]
            omega
          · show (reluL fl v).length = n'
            rw [relu_len (by omega)]
            exact lv
          · rw [ev']
            simp [valsL, stepL]
  · rintro _ H ⟨ls', v', acc, v4, v5, er, rfl, g, e, la, bl, _, ev'⟩
    refine ⟨rfl, ?_⟩
    cases ls' with
    | nil =>
      have : B = acc := by rw [← eB, ev']; simp [valsL]
      subst this
      simp [e, g]
    | cons l' ls' => simp [trailL] at er
end
end PV
/-! PVNi: the class Piece. -/
namespace PV
open PySem
/-- what a def of forms is asked: adding, scaling vectors -/
def AddV (ev : Ev) (f : Nat) : Prop := ∀ v w : List Rat, v.length ≤ 1000 → Qs 4000 v → Qs 4000 w → Giv ev f [vv v, vv w] (vv (addV2 v w))
def ScaV (ev : Ev) (f : Nat) : Prop := ∀ (c : Rat) (w : List Rat), w.length ≤ 1000 → Qn 4000 c → Qs 4000 w → Giv ev f [rv c, vv w] (vv (w.map fun q => c * q))
def ZerV (ev : Ev) (f : Nat) : Prop := ∀ n : Nat, n ≤ 1000 → Giv ev f [.int (n : Int)] (vv (List.replicate n 0))
theorem obj_lst_ne {h : Hd} {o n : Nat} {x : Nat × List (Str × D)} {xs : List D} (e : objAt h o = some x) (q : lstAt h n = some xs) : o ≠ n := by
  intro z
  subst z
  unfold objAt at e
  unfold lstAt at q
  cases y : h[o]? with
  | none => rw [y] at e; cases e
  | some c =>
    rw [y] at e q
    cases c <;> simp at e q
theorem lst_set_ne {h : Hd} {n m : Nat} {xs : List D} {c : Cell} (e : lstAt h m = some xs) (q : n ≠ m) : lstAt (h.set n c) m = some xs := by
  unfold lstAt at *
  rw [List.getElem?_set_ne q]
  exact e
def wFI (h : Hd) (n b : Nat) (o fr : Nat) (row : List Rat) (off : Rat) (fs : List Bd) (r : List (Rat × Bd)) (s : Sl) (H : Hd) : Prop := ∃ (a : Bd) (c : Nat) (v6 v7 : Option D), s = [some (.ref o), some (vv row), some (rv off), some (.ref fr), some (vv a.1), some (rv a.2), v6, v7] ∧ H = h ∧ wFz r a = wF n row off fs ∧ Fs n c a ∧ c + r.length * (b + 8) ≤ 4000 ∧ ∀ x ∈ r, Qn 7 x.1 ∧ Fs n b x.2
section
variable {ev : Ev} {h : Hd}
theorem t_weighted {ze ad sc add mu o fr n C b : Nat} {flds : List (Str × D)} {row : List Rat} {off : Rat} {fs : List Bd} (hz : ZerV ev ze) (had : AddV ev ad) (hsc : ScaV ev sc) (hadd : AddR ev add) (hmu : MulR ev mu)
    (eo : objAt h o = some (C, flds)) (es : flds.lookup ("size" : Str) = some (.int (n : Int))) (ef : lstAt h fr = some (fs.map bndD)) (sr : Qs 7 row) (so : Qn 7 off) (k : ∀ f ∈ fs, Fs n b f) (hl : row.length ≤ fs.length) (hb : fs.length * (b + 8) + 9 ≤ 4000) (hn : n ≤ 1000) :
    fin h (exSs ev (C_Piece_weighted ze ad sc add mu) (startD 8 [.ref o, vv row, rv off, .ref fr]) h) = .ok (bndD (wF n row off fs)) h := by
  refine fin_gives (bndD_lt _ _) ?_
  have cz : ∀ h, ev.call ze [.int (n : Int)] h = .ok (vv (List.replicate n 0)) h := hz n hn
  have e1 : fldV "size" (.ref o) h = .ok (.int (n : Int)) h := by rw [o_fld eo, es]; rfl
  have z : zipV (vv row) (.ref fr) h = .ok ⟨(row.zip fs).map fun x => .tup [rv x.1, bndD x.2], [(fr, fs.map bndD)]⟩ h := by
    show zipV (.tup (row.map rv)) (.ref fr) h = _
    rw [zipV_tl ef, zip_map]
  have z0 : Fs n 7 (List.replicate n 0, off) := ⟨by simp, fun q hq => by rw [(List.mem_replicate.mp hq).2]; exact Qn.zero (by decide), so⟩
  have lz : (row.zip fs).length ≤ fs.length := by rw [List.length_zip]; omega
  have mz := Nat.mul_le_mul_right (b + 8) lz
  simp [C_Piece_weighted, startD, arrD, e1, cz, z]
  refine WpS_forL (row.zip fs) (fun x => .tup [rv x.1, bndD x.2]) (wFI h n b o fr row off fs) rfl ⟨(List.replicate n 0, off), 7, _, _, rfl, rfl, rfl, z0, by omega, fun x hx => ⟨sr _ (List.of_mem_zip hx).1, k _ (List.of_mem_zip hx).2⟩⟩ ?_ ?_
  · rintro ⟨q, f⟩ r _ H ⟨a, c, v6, v7, rfl, rfl, ew, fa, hc, kx⟩
    obtain ⟨k0, k1, k2, k3⟩ := kx (q, f) List.mem_cons_self
    have kr : ∀ x ∈ r, Qn 7 x.1 ∧ Fs n b x.2 := fun x hx => kx x (List.mem_cons_of_mem _ hx)
    refine ⟨fix_of ef, _, by simp; rfl, ?_⟩
    rw [List.length_cons, Nat.add_mul] at hc
    by_cases q0 : q = 0
    · subst q0
      have w0 : wFz ((0, f) :: r) a = wFz r a := by
        show wFz r (addV2 a.1 (f.1.map fun q => 0 * q), a.2 + 0 * f.2) = _
        rw [addV2_zero (by rw [fa.1, k1]), Rat.zero_mul, Rat.add_zero]
      simp
      exact ⟨a, c, _, _, rfl, rfl, by rw [← w0]; exact ew, fa, by omega, kr⟩
    · have c1 : ∀ h, ev.call sc [rv q, vv f.1] h = .ok (vv (f.1.map fun x => q * x)) h := hsc q f.1 (by rw [k1]; exact hn) (k0.mono (by decide)) (k2.mono (by omega))
      have s1 := scale_sz k0 k2
      have c2 : ∀ h, ev.call ad [vv a.1, vv (f.1.map fun x => q * x)] h = .ok (vv (addV2 a.1 (f.1.map fun x => q * x))) h := had _ _ (by rw [fa.1]; exact hn) (fa.2.1.mono (by omega)) (s1.mono (by omega))
      have c3 : ∀ h, ev.call mu [rv q, rv f.2] h = .ok (rv (q * f.2)) h := hmu _ _ (k0.mono (by decide)) (k3.mono (by omega))
      have s3 := k0.mul k3
      have c4 : ∀ h, ev.call add [rv a.2, rv (q * f.2)] h = .ok (rv (a.2 + q * f.2)) h := hadd _ _ (fa.2.2.mono (by omega)) (s3.mono (by omega))
      simp [q0, arrD, c1, c2, c3, c4]
      refine ⟨(addV2 a.1 (f.1.map fun x => q * x), a.2 + q * f.2), c + (7 + b) + 1, _, _, rfl, rfl, ew, ⟨?_, addV2_sz fa.2.1 s1, fa.2.2.add s3⟩, by omega, kr⟩
      show (addV2 a.1 (f.1.map fun x => q * x)).length = n
      rw [addV2_len, List.length_map, fa.1, k1, Nat.min_self]
  · rintro _ H ⟨a, c, v6, v7, rfl, rfl, ew, fa, hc, kx⟩
    refine ⟨fix_of ef, ?_⟩
    have ew : a = wF n row off fs := ew
    rw [← ew]
    simp [List.prefix_refl]
theorem t_bent {ze o bl n C : Nat} {flds : List (Str × D)} {f : Bd} {bd : List Bd} {ph : List Bool} (hz : ZerV ev ze) (eo : objAt h o = some (C, flds)) (es : flds.lookup ("size" : Str) = some (.int (n : Int))) (eb : flds.lookup ("bending" : Str) = some (.ref bl)) (ep : flds.lookup ("phases" : Str) = some (.tup (ph.map .bl))) (el : lstAt h bl = some (bd.map bndD)) (hp : bd.length < ph.length) (hn : n ≤ 1000) (hb : bd.length ≤ 1000) :
    fin h (exSs ev (C_Piece_bent ze) (startD 2 [.ref o, bndD f]) h) = .ok (bndD (if ph.getD bd.length false = true then f else zF n)) (h.set bl (.lst ((bd ++ [f]).map bndD))) := by
  have cz : ∀ h, ev.call ze [.int (n : Int)] h = .ok (vv (List.replicate n 0)) h := hz n hn
  have ne := obj_lst_ne eo el
  have e1 : fldV "bending" (.ref o) h = .ok (.ref bl) h := by rw [o_fld eo, eb]; rfl
  have x : (bd.map bndD) ++ [bndD f] = (bd ++ [f]).map bndD := by simp
  have eo2 : objAt (h.set bl (.lst ((bd ++ [f]).map bndD))) o = some (C, flds) := o_set_ne eo (Ne.symm ne)
  have el2 : lstAt (h.set bl (.lst ((bd ++ [f]).map bndD))) bl = some ((bd ++ [f]).map bndD) := r_set el
  have fx : ∀ (c : Cell) d, fin h (.rt d (h.set bl c)) = .ok d (h.set bl c) := fun c d => fin_rt_set bl c
  generalize hG : h.set bl (.lst ((bd ++ [f]).map bndD)) = G at eo2 el2
  have e2 : fldV "bending" (.ref o) G = .ok (.ref bl) G := by rw [o_fld eo2, eb]; rfl
  have e3 : fldV "phases" (.ref o) G = .ok (.tup (ph.map .bl)) G := by rw [o_fld eo2, ep]; rfl
  have e4 : fldV "size" (.ref o) G = .ok (.int (n : Int)) G := by rw [o_fld eo2, es]; rfl
  have at_ := fl_at hp G
  have gp : ph.getD bd.length false = ph[bd.length] := by simp [List.getD_eq_getElem?_getD, hp]
  have fx' : ∀ d, fin h (.rt d G) = .ok d G := fun d => by rw [← hG]; exact fx _ d
  have li : ((((bd ++ [f]).map bndD).length : Nat) : Int) - 1 = (bd.length : Int) := by simp
  have lb : biV .len [.ref bl] G = .ok (.int ((((bd ++ [f]).map bndD).length : Nat) : Int)) G := by rw [r_len, el2]; rfl
  have ap : mthV 0 (.ref bl) [bndD f] h = .ok .non G := by
    rw [r_app, el, onL_some, x, hG]
    rw [decide_eq_true (Nat.lt_of_le_of_lt (by simpa using hb) (show 1000 < line by decide))]
    rfl
  have il : isLst h (.ref bl) = true := by rw [r_isl, el]; rfl
  rw [gp]
  cases eq : ph[bd.length] with
  | true =>
    rw [eq] at at_
    simp only [C_Piece_bent, startD, List.map_cons, List.map_nil, List.length_cons, List.length_nil, List.cons_append, List.nil_append, List.replicate, ss_cons', s_expr', x_mth, x_fld, x_var, List.getElem?_cons_zero, bind_ok, y_fld_, e1, y_mth_, il, a_mth_t, xs_cons, List.getElem?_cons_succ, y_es_, xs_nil, y_es2_, ap, st_ok, y_expr_, andS_nx, s_ife', xt_v, x_idx, e3, y_idx_, x_bin, x_bi, e2, lb, y_bin_, x_con, y_bin2_, binV_sub, li, at_, y_v_, truth_bl, testO_some, y_if_t, s_ret', andS_rt, fx', if_true]
  | false =>
    rw [eq] at at_
    simp only [C_Piece_bent, startD, List.map_cons, List.map_nil, List.length_cons, List.length_nil, List.cons_append, List.nil_append, List.replicate, ss_cons', ss_nil', s_expr', x_mth, x_fld, x_var, List.getElem?_cons_zero, bind_ok, y_fld_, e1, y_mth_, il, a_mth_t, xs_cons, List.getElem?_cons_succ, y_es_, xs_nil, y_es2_, ap, st_ok, y_expr_, andS_nx, s_ife', xt_v, x_idx, e3, y_idx_, x_bin, x_bi, e2, lb, y_bin_, x_con, y_bin2_, binV_sub, li, at_, y_v_, truth_bl, testO_some, y_if_f, s_ret', andS_rt, x_tup, x_call, y_call_, y_call2_, arrD, e4, List.getD_cons_zero, cz, y_tup_, len_le2, ret_true]
    simp
    rw [fx']
    rfl
end
end PV
/-! PVNj: the class Piece: its __init__. -/
namespace PV
open PySem
def WtdP (ev : Ev) (wt n : Nat) : Prop := ∀ (h : Hd) (o fr C b : Nat) (flds : List (Str × D)) (row : List Rat) (off : Rat) (fs : List Bd), objAt h o = some (C, flds) → flds.lookup ("size" : Str) = some (.int (n : Int)) → lstAt h fr = some (fs.map bndD) → Qs 7 row → Qn 7 off → (∀ f ∈ fs, Fs n b f) → row.length ≤ fs.length → fs.length * (b + 8) + 9 ≤ 4000 → n ≤ 1000 → ev.call wt [.ref o, vv row, rv off, .ref fr] h = .ok (bndD (wF n row off fs)) h
def BntP (ev : Ev) (bt n : Nat) : Prop := ∀ (h : Hd) (o bl C : Nat) (flds : List (Str × D)) (f : Bd) (bd : List Bd) (ph : List Bool), objAt h o = some (C, flds) → flds.lookup ("size" : Str) = some (.int (n : Int)) → flds.lookup ("bending" : Str) = some (.ref bl) → flds.lookup ("phases" : Str) = some (.tup (ph.map .bl)) → lstAt h bl = some (bd.map bndD) → bd.length < ph.length → n ≤ 1000 → bd.length ≤ 1000 →
    ev.call bt [.ref o, bndD f] h = .ok (bndD (if ph.getD bd.length false = true then f else zF n)) (h.set bl (.lst ((bd ++ [f]).map bndD)))
abbrev PF3 (n : Nat) (ph : List Bool) (bl : Nat) : List (Str × D) := [(("size" : Str), .int (n : Int)), (("phases" : Str), .tup (ph.map .bl)), (("bending" : Str), .ref bl)]
abbrev PF4 (n : Nat) (ph : List Bool) (bl fr : Nat) : List (Str × D) := [(("size" : Str), .int (n : Int)), (("phases" : Str), .tup (ph.map .bl)), (("bending" : Str), .ref bl), (("outputs" : Str), .ref fr)]
theorem setF_mid {h : Hd} {C : Nat} {fs : List (Str × D)} {l : Hd} (f : Str) (x : D) (s : Sl) (q : fs.length < 1000) : setF f x s (.ref h.length) (h ++ .obj C fs :: l) = .nx s (h ++ .obj C (putD f x fs) :: l) := by
  rw [o_setF (o_off h C fs l) q, set_mid]
/-- the piece at o -/
def PieceAt (h0 : Nat) (n : Nat) (ph : List Bool) (C : Nat) (H : Hd) (bd fs : List Bd) : Prop := ∃ fr, objAt H h0 = some (C, PF4 n ph (h0 + 1) fr) ∧ lstAt H (h0 + 1) = some (bd.map bndD) ∧ lstAt H fr = some (fs.map bndD)
def PCI (h : Hd) (n C w m : Nat) (ph : List Bool) (ls : List Lay) (r : List Lay) (s : Sl) (H : Hd) : Prop := ∃ (fr n' b : Nat) (fs bd : List Bd) (v5 : Option D), s = [some (.ref h.length), some (netD n ls), some (.tup (ph.map .bl)), none, some (.ref fr), v5, none, none, none, none] ∧ h <+: H ∧ objAt H h.length = some (C, PF3 n ph (h.length + 1)) ∧ lstAt H (h.length + 1) = some (bd.map bndD) ∧ lstAt H fr = some (fs.map bndD) ∧ h.length + 1 < fr ∧ WFl 7 n' r m ∧ fs.length = n' ∧ n' ≤ w ∧ Wid w r ∧ (∀ f ∈ fs, Fs n b f) ∧ 1 ≤ b ∧ bdL w r b ≤ 4000 ∧ bd.length + unitsL r ≤ ph.length ∧ pieceL n ph ls (startF n) [] = pieceL n ph r fs bd
theorem units_cons (fl : List Bool) (r : List Lay) : unitsL (.bends fl :: r) = (fl.filter id).length + unitsL r := rfl
theorem bent_len (n : Nat) (ph : List Bool) : ∀ (l : List (Bool × Bd)) (bd : List Bd), (bentL n ph l bd).1.length = bd.length + (l.filter (·.1)).length ∧ (bentL n ph l bd).2.length = l.length
  | [], bd => ⟨rfl, rfl⟩
  | (false, f) :: r, bd => by
    obtain ⟨a, b⟩ := bent_len n ph r bd
    simp only [bentL]
    exact ⟨by simpa using a, by simpa using b⟩
  | (true, f) :: r, bd => by
    obtain ⟨a, b⟩ := bent_len n ph r (bd ++ [f])
    simp only [bentL]
    refine ⟨?_, by simpa using b⟩
    rw [a]
    simp
    omega
theorem filter_zip {α : Type} : ∀ (fl : List Bool) (v : List α), fl.length = v.length → ((fl.zip v).filter (·.1)).length = (fl.filter id).length
  | [], _, _ => rfl
  | f :: fl, [], h => by simp at h
  | f :: fl, x :: v, h => by
    have := filter_zip fl v (by simpa using h)
    cases f <;> simp [this]
theorem bent_sz {n b : Nat} {ph : List Bool} (hb : 1 ≤ b) : ∀ (l : List (Bool × Bd)) (bd : List Bd), (∀ x ∈ l, Fs n b x.2) → ∀ f ∈ (bentL n ph l bd).2, Fs n b f
  | [], _, _, _, h => by cases h
  | (false, f) :: r, bd, k, g, hg => by
    simp only [bentL, List.mem_cons] at hg
    rcases hg with rfl | hg
    · exact k (false, g) List.mem_cons_self
    · exact bent_sz hb r bd (fun x hx => k x (List.mem_cons_of_mem _ hx)) g hg
  | (true, f) :: r, bd, k, g, hg => by
    simp only [bentL, List.mem_cons] at hg
    rcases hg with rfl | hg
    · split
      · exact k (true, f) List.mem_cons_self
      · exact ⟨by simp [zF], fun q hq => by rw [(List.mem_replicate.mp hq).2]; exact Qn.zero hb, Qn.zero hb⟩
    · exact bent_sz hb r _ (fun x hx => k x (List.mem_cons_of_mem _ hx)) g hg
/-- within a layer of bends -/
def BLI (h : Hd) (n C : Nat) (ph : List Bool) (H0 : Hd) (fr : Nat) (l : List (Bool × Bd)) (bd0 fs0 : List Bd) (r : List (Bool × Bd)) (acc : List D) (H : Hd) : Prop := ∃ (bd fs : List Bd), acc = fs.map bndD ∧ h <+: H ∧ objAt H h.length = some (C, PF3 n ph (h.length + 1)) ∧ lstAt H (h.length + 1) = some (bd.map bndD) ∧ lstAt H fr = some (fs0.map bndD) ∧ bd.length + (r.filter (·.1)).length ≤ ph.length ∧ H.length = H0.length ∧ (bentL n ph l bd0) = ((bentL n ph r bd).1, fs ++ (bentL n ph r bd).2)
section
variable {ev : Ev} {h : Hd}
theorem t_init {C un wt bt n m w : Nat} {ls : List Lay} {ph : List Bool} (hu : ∀ i, i < n → Giv ev un [.int (n : Int), .int (i : Int)] (vv (unitR n i))) (hw : WtdP ev wt n) (hbt : BntP ev bt n) (w1 : 1 ≤ w) (wf : WFl 7 n ls m) (hn : n ≤ w) (wd : Wid w ls) (hb : bdL w ls 1 ≤ 4000) (hp : unitsL ls ≤ ph.length) (hp2 : ph.length ≤ 1000) :
    WpS (exSs ev (C_Piece_init C un wt bt) (startD 10 [.ref h.length, netD n ls, .tup (ph.map .bl)]) (h ++ [.obj C []])) ⟨fun _ H => h <+: H ∧ PieceAt h.length n ph C H (pieceL n ph ls (startF n) []).1 (pieceL n ph ls (startF n) []).2, fun _ _ => False, noS, noS, fun _ _ _ => False⟩ := by
  have n100 := wf.n100
  have p1 : putD "size" (.int (n : Int)) [] = [(("size" : Str), .int (n : Int))] := rfl
  have p2 : putD "phases" (.tup (ph.map .bl)) [(("size" : Str), .int (n : Int))] = [(("size" : Str), .int (n : Int)), (("phases" : Str), .tup (ph.map .bl))] := rfl
  have p3 : putD "bending" (.ref (h.length + 1)) [(("size" : Str), .int (n : Int)), (("phases" : Str), .tup (ph.map .bl))] = PF3 n ph (h.length + 1) := rfl
  have e1 := setF_mid (h := h) (C := C) (fs := []) (l := []) "size" (.int (n : Int)) [some (.ref h.length), some (netD n ls), some (.tup (ph.map .bl)), none, none, none, none, none, none, none] (by decide)
  have e2 := setF_mid (h := h) (C := C) (fs := [(("size" : Str), .int (n : Int))]) (l := []) "phases" (.tup (ph.map .bl)) [some (.ref h.length), some (netD n ls), some (.tup (ph.map .bl)), none, none, none, none, none, none, none] (by decide : 1 < 1000)
  have e3 := setF_mid (h := h) (C := C) (fs := [(("size" : Str), .int (n : Int)), (("phases" : Str), .tup (ph.map .bl))]) (l := [.lst []]) "bending" (.ref (h.length + 1)) [some (.ref h.length), some (netD n ls), some (.tup (ph.map .bl)), none, none, none, none, none, none, none] (by decide : 2 < 1000)
  rw [p1] at e1
  rw [p2] at e2
  rw [p3] at e3
  have eo := o_off h C (PF3 n ph (h.length + 1)) [.lst []]
  have el : lstAt (h ++ .obj C (PF3 n ph (h.length + 1)) :: [.lst []]) (h.length + 1) = some [] := by rw [lst_offk]; rfl
  have es : fldV "size" (.ref h.length) (h ++ .obj C (PF3 n ph (h.length + 1)) :: [.lst []]) = .ok (.int (n : Int)) (h ++ .obj C (PF3 n ph (h.length + 1)) :: [.lst []]) := by rw [o_fld eo]; rfl
  have pp : h <+: h ++ .obj C (PF3 n ph (h.length + 1)) :: [.lst []] := List.prefix_append _ _
  have ln : (h ++ Cell.obj C (PF3 n ph (h.length + 1)) :: [.lst []]).length = h.length + 2 := by simp
  simp [C_Piece_init, startD, e1, e2, e3]
  generalize (h ++ Cell.obj C (PF3 n ph (h.length + 1)) :: [.lst []]) = H0 at eo el es pp ln
  simp [es, rngV_k rfl (show n ≤ 1000000 by omega)]
  refine WpE_lc (List.range n) (fun i : Nat => .int (i : Int)) (fun i => bndD (unitR n i, 0)) rfl (by simp; omega) (fun _ _ => rfl) ?_ ?_
  · intro i hi
    have hi : i < n := by simpa using hi
    refine ⟨_, rfl, fun G g => ⟨rfl, ?_⟩⟩
    have c : ∀ h, ev.call un [.int (n : Int), .int (i : Int)] h = .ok (vv (unitR n i)) h := hu i hi
    have e' : fldV "size" (.ref h.length) G = .ok (.int (n : Int)) G := by rw [o_fld (o_pre eo g)]; rfl
    simp [wipeD, arrD, e', c]
    rfl
  · intro G g
    have st : (List.range n).map (fun i => bndD (unitR n i, 0)) = (startF n).map bndD := by simp [startF]
    rw [st]
    have gl := g.length_le
    simp
    refine WpS_forL ls Lay.d (PCI h n C w m ph ls) rfl ⟨G.length, n, 1, startF n, [], _, rfl, pre_app (pp.trans g), o_pre (o_pre eo g) (List.prefix_append _ _), lst_old (lst_pre el g) _, lst_new _ _, by omega, wf, by simp [startF], hn, wd, ?_, Nat.le_refl _, hb, by simpa using hp, rfl⟩ ?_ ?_
    · intro f hf
      obtain ⟨i, hi, rfl⟩ := List.mem_map.mp hf
      have hi : i < n := by simpa using hi
      refine ⟨by simp [unitR]; omega, fun q hq => ?_, Qn.zero (by decide)⟩
      unfold unitR at hq
      simp only [List.mem_append, List.mem_replicate, List.mem_singleton] at hq
      rcases hq with (⟨_, rfl⟩ | rfl) | ⟨_, rfl⟩
      · exact Qn.zero (by decide)
      · exact Qn.one (by decide)
      · exact Qn.zero (by decide)
    · rintro l r _ H ⟨fr, n', b, fs, bd, v5, rfl, q, eo, el, ef, hfr, wf', lf, hn', wd', kf, b1, hb', hu', ep⟩
      refine ⟨rfl, _, bindG_nm _ _ _, ?_⟩
      have io : isObj C "weighted" H (.ref h.length) = true := by
        unfold isObj
        simp only [eo, decide_true, Bool.true_and]
        rfl
      cases l with
      | sums rows offs =>
        obtain ⟨_, S, r1, wf2⟩ := wf'
        obtain ⟨wd1, wd2⟩ := wd'
        have ol := S.olen
        have wl := wf2.n100
        have bb := bdL_le w1 r (w * (b + 8) + 9)
        have bb' : bdL w r (w * (b + 8) + 9) ≤ 4000 := hb'
        have mm := Nat.mul_le_mul_right (b + 8) hn'
        have z : ∀ h, zipV (mv rows) (vv offs) h = .ok ⟨(rows.zip offs).map fun p => .tup [vv p.1, rv p.2], []⟩ h := fun h => by
          show zipV (.tup (rows.map vv)) (.tup (offs.map rv)) h = _
          rw [zipV_tup, zip_map]
        simp [Lay.d, z]
        refine WpE_lc (rows.zip offs) (fun p => .tup [vv p.1, rv p.2]) (fun p => bndD (wF n p.1 p.2 fs)) rfl (by rw [List.length_zip]; omega) (fun _ _ => rfl) ?_ ?_
        · rintro ⟨row, off⟩ hro
          have m1 := (List.of_mem_zip hro).1
          have m2 := (List.of_mem_zip hro).2
          have wr := S.wid row m1
          refine ⟨_, by simp [wipeD]; rfl, fun G2 g2 => ⟨rfl, ?_⟩⟩
          have io2 : isObj C "weighted" G2 (.ref h.length) = true := by
            unfold isObj
            simp only [o_pre eo g2, decide_true, Bool.true_and]
            rfl
          have c := hw G2 h.length fr C b _ row off fs (o_pre eo g2) rfl (lst_pre ef g2) (S.sz row m1) (S.osz off m2) kf (by rw [wr, lf]; exact Nat.le_refl _) (by rw [lf]; omega) (by omega)
          simp [io2, c]
        · intro G2 g2
          have e9 : (rows.zip offs).map (fun p => bndD (wF n p.1 p.2 fs)) = ((rows.zip offs).map fun p => wF n p.1 p.2 fs).map bndD := by rw [List.map_map]; rfl
          rw [e9]
          have gl2 := g2.length_le
          have hfl := lst_lt ef
          simp
          refine ⟨G2.length, rows.length, w * (b + 8) + 9, (rows.zip offs).map (fun p : List Rat × Rat => wF n p.1 p.2 fs), bd, _, rfl, pre_app (q.trans g2), o_pre (o_pre eo g2) (List.prefix_append _ _), lst_old (lst_pre el g2) _, by rw [lst_new]; simp, by omega, wf2, ?_, wd1, wd2, ?_, by omega, bb', hu', ep⟩
          · rw [List.length_map, List.length_zip]
            omega
          · intro f hf
            obtain ⟨⟨row, off⟩, hro, rfl⟩ := List.mem_map.mp hf
            have m1 := (List.of_mem_zip hro).1
            have m2 := (List.of_mem_zip hro).2
            exact wF_sz (S.sz row m1) (S.osz off m2) kf (by omega)
      | bends fl =>
        obtain ⟨_, lfl, wf2⟩ := wf'
        rw [units_cons] at hu'
        have z : zipV (.tup (fl.map .bl)) (.ref fr) H = .ok ⟨(fl.zip fs).map fun p => .tup [.bl p.1, bndD p.2], [(fr, fs.map bndD)]⟩ H := by
          rw [zipV_tl ef, zip_map]
        have fz := filter_zip fl fs (by omega)
        simp [Lay.d, z]
        refine WpE_lcI (fl.zip fs) (fun p => .tup [.bl p.1, bndD p.2]) (BLI h n C ph H fr (fl.zip fs) bd fs) rfl (by rw [List.length_zip]; omega) ⟨bd, [], rfl, q, eo, el, ef, by rw [fz]; omega, rfl, by simp⟩ ?_ ?_
        · rintro ⟨f, x⟩ r2 acc G ⟨bd2, fs2, rfl, q2, eo2, el2, ef2, lp2, len2, eb2⟩
          refine ⟨fix_of ef2, _, by simp [wipeD]; rfl, rfl, ?_⟩
          cases f with
          | false =>
            simp
            exact ⟨bd2, fs2 ++ [x], by simp, q2, eo2, el2, ef2, by simpa using lp2, len2, by rw [eb2]; simp [bentL]⟩
          | true =>
            have lp3 : bd2.length + ((r2.filter (·.1)).length + 1) ≤ ph.length := by simpa using lp2
            have io2 : isObj C "bent" G (.ref h.length) = true := by
              unfold isObj
              simp only [eo2, decide_true, Bool.true_and]
              rfl
            have c := hbt G h.length (h.length + 1) C _ x bd2 ph eo2 rfl rfl rfl el2 (by omega) (by omega) (by omega)
            have x9 : bd2.map bndD ++ [bndD x] = (bd2 ++ [x]).map bndD := by simp
            simp only [x_ife, xt_v, x_var, List.getElem?_cons_succ, List.getElem?_cons_zero, bind_ok, y_v_, truth_bl, testO_some, y_ife_t, x_mcall, y_mcall_, io2, a_mcall_t, xs_cons, y_es_, xs_nil, y_es2_, y_mcall2_, c, WpE_ok, WpE_bind, KE_]
            refine ⟨bd2 ++ [x], fs2 ++ [if ph.getD bd2.length false = true then x else zF n], by simp, pre_set q2 (by omega), o_set_ne eo2 (by omega), r_set el2, r_set_ne ef2 (by omega), by simp; omega, by simp [len2], ?_⟩
            rw [eb2]
            simp only [bentL]
            simp
        · rintro acc G ⟨bd2, fs2, rfl, q2, eo2, el2, ef2, lp2, len2, eb2⟩
          refine ⟨fix_of ef2, ?_⟩
          have bx := bent_len n ph (fl.zip fs) bd
          rw [eb2] at bx
          simp only [bentL, List.append_nil] at bx eb2
          have hfl := lst_lt ef
          have bs := bent_sz (ph := ph) b1 (fl.zip fs) bd (fun x hx => kf x.2 (List.of_mem_zip hx).2)
          rw [eb2] at bs
          simp
          refine ⟨G.length, n', b, fs2, bd2, _, rfl, pre_app q2, o_pre eo2 (List.prefix_append _ _), lst_old el2 _, lst_new _ _, by omega, wf2, ?_, hn', wd', bs, b1, hb', ?_, ?_⟩
          · rw [bx.2, List.length_zip]
            omega
          · rw [bx.1, fz]
            omega
          · rw [ep]
            show pieceL n ph r (bentL n ph (fl.zip fs) bd).2 (bentL n ph (fl.zip fs) bd).1 = _
            rw [eb2]
    · rintro _ H ⟨fr, n', b, fs, bd, v5, rfl, q, eo, el, ef, hfr, wf', lf, hn', wd', kf, b1, hb', hu', ep⟩
      refine ⟨rfl, ?_⟩
      have p4 : putD "outputs" (.ref fr) (PF3 n ph (h.length + 1)) = PF4 n ph (h.length + 1) fr := rfl
      have sf := fun s => o_setF eo (by decide : 3 < 1000) "outputs" (.ref fr) s
      rw [p4] at sf
      simp [sf]
      rw [ep]
      exact ⟨pre_set q (Nat.le_refl _), fr, o_set eo, lst_set_ne el (by omega), lst_set_ne ef (by omega)⟩
/-- a def's end where a cell of the entry is another one -/
theorem keeps_no {m : Nat} : ∀ (h H : Hd) (i : Nat) (a b : Cell), h[i]? = some a → H[i]? = some b → Cell.beq a b = false → Cell.lt m b = false → keepsCells m h H = false
  | [], _, i, _, _, e, _, _, _ => by simp at e
  | _ :: _, [], i, _, _, _, e, _, _ => by simp at e
  | x :: h, y :: H, 0, a, b, e1, e2, h1, h2 => by
    simp at e1 e2
    subst e1 e2
    simp [keepsCells, h1, h2]
  | x :: h, y :: H, i + 1, a, b, e1, e2, h1, h2 => by
    have := keeps_no (m := m) h H i a b (by simpa using e1) (by simpa using e2) h1 h2
    simp [keepsCells, this]
theorem fin_nx_no {h H : Hd} {s : Sl} {i : Nat} {a b : Cell} (e1 : h[i]? = some a) (e2 : H[i]? = some b) (h1 : Cell.beq a b = false) (h2 : Cell.lt h.length b = false) : fin h (.nx s H) = .ok .non H := by
  show gc h .non H = _
  unfold gc gcOk
  rw [keeps_no h H i a b e1 e2 h1 h2]
  rfl
theorem obj_cell {h : Hd} {o C : Nat} {fs : List (Str × D)} (e : objAt h o = some (C, fs)) : h[o]? = some (.obj C fs) := by
  unfold objAt at e
  cases y : h[o]? with
  | none => rw [y] at e; cases e
  | some c =>
    rw [y] at e
    cases c with
    | obj C' fs' => cases e; rfl
    | _ => cases e
/-- a new piece -/
theorem w_piece {ev' : Ev} {C i n : Nat} {ph : List Bool} {nd pd : D} {bd fs : List Bd} {code : QSs} {nn : Nat} {Q : D → Hd → Prop} {X : Exn → Hd → Prop} (hc : ∀ h, ev.call i [.ref h.length, nd, pd] (h ++ [.obj C []]) = fin (h ++ [.obj C []]) (exSs ev' code (startD nn [.ref h.length, nd, pd]) (h ++ [.obj C []])))
    (H : WpS (exSs ev' code (startD nn [.ref h.length, nd, pd]) (h ++ [.obj C []])) ⟨fun _ H => h <+: H ∧ PieceAt h.length n ph C H bd fs, fun _ _ => False, noS, noS, fun _ _ _ => False⟩) (q : ∀ H, h <+: H → PieceAt h.length n ph C H bd fs → Q (.ref h.length) H) :
    WpE (mkO h.length (ev.call i [.ref h.length, nd, pd] (h ++ [.obj C []]))) Q X := by
  rw [hc]
  cases e : exSs ev' code (startD nn [.ref h.length, nd, pd]) (h ++ [.obj C []]) with
  | nx s H1 =>
    rw [e] at H
    obtain ⟨p, pa⟩ := H
    have pa' := pa
    obtain ⟨fr, eo, el, ef⟩ := pa
    have a1 : (h ++ [Cell.obj C []])[h.length]? = some (.obj C []) := by simp
    have lf := lst_lt el
    rw [fin_nx_no a1 (obj_cell eo) (by simp [Cell.beq, fsBeq]) (by simp [Cell.lt, fsLt, D.lt])]
    exact q H1 p pa'
  | rt d H1 => rw [e] at H; exact H.elim
  | bk s H1 => rw [e] at H; exact H.elim
  | ct s H1 => rw [e] at H; exact H.elim
  | ex x s H1 => rw [e] at H; exact H.elim
  | no => rw [e] at H; exact H.elim
end
end PV
/-! PVNk: rows of regions and pieces; the law's walk with phases. -/
namespace PV
open PySem
def NegR (ev : Ev) (f : Nat) : Prop := ∀ q : Rat, Giv ev f [rv q] (rv (-q))
def OppV (ev : Ev) (f : Nat) : Prop := ∀ v : List Rat, v.length ≤ 1000 → Giv ev f [vv v] (vv (v.map fun q => -q))
def UniV (ev : Ev) (f : Nat) : Prop := ∀ n i : Nat, i < n → n ≤ 1000 → Giv ev f [.int (n : Int), .int (i : Int)] (vv (unitR n i))
theorem rv_neg (q : Rat) : D.tup [.int (-q.num), .int (q.den : Int)] = rv (-q) := by simp [rv]
theorem unit_len {n i : Nat} (hi : i < n) : (unitR n i).length = n := by simp [unitR]; omega
def rowsR (lows highs : List Rat) : Nat → List Bd
  | 0 => []
  | i + 1 => rowsR lows highs i ++ [(unitR lows.length i, highs.getD i 0), ((unitR lows.length i).map fun q => -q, -lows.getD i 0)]
abbrev regRows (lows highs : List Rat) (bounds : List Bd) : List Bd := rowsR lows highs lows.length ++ bounds
theorem rowsR_len (lows highs : List Rat) : ∀ n, (rowsR lows highs n).length = 2 * n
  | 0 => rfl
  | n + 1 => by rw [rowsR, List.length_append, rowsR_len lows highs n]; simp; omega
def pieceRow (x : Bd × Bool) : Bd := if x.2 = true then (x.1.1.map fun q => -q, x.1.2) else (x.1.1, -x.1.2)
section
variable {ev : Ev} {h : Hd}
theorem t_negative {q : Rat} : fin h (exSs ev C_negative (startD 1 [rv q]) h) = .ok (rv (-q)) h := by
  simp [C_negative, startD, rv_neg]
theorem t_opposite {ng : Nat} {v : List Rat} (hn : NegR ev ng) (hl : v.length ≤ 1000) : fin h (exSs ev (C_opposite ng) (startD 2 [vv v]) h) = .ok (vv (v.map fun q => -q)) h := by
  refine fin_gives (vv_lt _ _) ?_
  simp [C_opposite, startD, walk_vv]
  refine WpE_lc v rv (fun q => rv (-q)) rfl (by omega) (fun _ _ => rfl) ?_ ?_
  · intro a _
    have c : ∀ h, ev.call ng [rv a] h = .ok (rv (-a)) h := hn a
    refine ⟨_, rfl, fun G g => ⟨rfl, ?_⟩⟩
    simp [wipeD, arrD, c]
  · intro G g
    have e : v.map (fun q => rv (-q)) = (v.map fun q => -q).map rv := by rw [List.map_map]; rfl
    rw [e]
    simp [pre_app g, vv]
theorem t_rows_of {un op : Nat} {lows highs : List Rat} {bounds : List Bd} (hu : UniV ev un) (ho : OppV ev op) (e : highs.length = lows.length) (hl : lows.length ≤ 100) (hb : bounds.length ≤ 1000) : fin h (exSs ev (C_rows_of un op) (startD 7 [regD lows highs bounds]) h) = .ok (.tup ((regRows lows highs bounds).map bndD)) h := by
  refine fin_gives ?_ ?_
  · simp only [D.lt]
    exact lts_map _ bndD (bndD_lt _) _
  simp [C_rows_of, startD, len_vv, rngV_k rfl (show lows.length ≤ 1000000 by omega)]
  refine WpS_rng lows.length (fun i s H => (∃ v6, s = [some (regD lows highs bounds), some (vv lows), some (vv highs), some (.tup (bounds.map bndD)), some (.int (lows.length : Int)), some (.ref h.length), v6]) ∧ h <+: H ∧ lstAt H h.length = some ((rowsR lows highs i).map bndD)) ⟨⟨_, rfl⟩, List.prefix_append _ _, by simp [rowsR]⟩ ?_ ?_
  · rintro i hi _ H ⟨⟨v6, rfl⟩, p, el⟩
    refine ⟨_, bindG_nm _ _ _, ?_⟩
    have c1 : ∀ h, ev.call un [.int (lows.length : Int), .int (i : Int)] h = .ok (vv (unitR lows.length i)) h := hu _ i hi (by omega)
    have c2 : ∀ h, ev.call op [vv (unitR lows.length i)] h = .ok (vv ((unitR lows.length i).map fun q => -q)) h := ho _ (by rw [unit_len hi]; omega)
    have c3 : ∀ h, ev.call op [.tup [rv lows[i]]] h = .ok (vv [-lows[i]]) h := ho [lows[i]] (by simp)
    have g1 := getD_at (v := lows) (i := i) hi
    have g2 := getD_at (v := highs) (i := i) (by omega)
    have l1 : decide ((rowsR lows highs i).length < line) = true := lst_line (by rw [rowsR_len]; omega)
    have l2 : decide ((rowsR lows highs i).length + 1 < line) = true := lst_line (by rw [rowsR_len]; omega)
    have nn : decide ((1 : Nat) ≤ line) = true := by decide
    have i0 : ∀ h, idxV (vv [-lows[i]]) (.int 0) h = .ok (rv (-lows[i])) h := fun h => by simp [vv]
    have q1 : lstAt (H.set h.length (.lst ((rowsR lows highs i).map bndD ++ [bndD (unitR lows.length i, highs[i])]))) h.length = some ((rowsR lows highs i).map bndD ++ [bndD (unitR lows.length i, highs[i])]) := r_set el
    have p1 := pre_set (n := h.length) (c := .lst ((rowsR lows highs i).map bndD ++ [bndD (unitR lows.length i, highs[i])])) p (Nat.le_refl _)
    generalize hG : H.set h.length (.lst ((rowsR lows highs i).map bndD ++ [bndD (unitR lows.length i, highs[i])])) = G at q1 p1
    have hG' : H.set h.length (.lst ((rowsR lows highs i).map bndD ++ [.tup [vv (unitR lows.length i), rv highs[i]]])) = G := hG
    simp [arrD, c1, el, at_vv (v := highs) (i := i) (by omega), l1, hG']
    have q1' : lstAt G h.length = some ((rowsR lows highs i).map bndD ++ [.tup [vv (unitR lows.length i), rv highs[i]]]) := q1
    simp [arrD, q1', c1, c2, c3, at_vv hi, i0, l2, nn]
    refine ⟨pre_set p1 (Nat.le_refl _), ?_⟩
    rw [r_set q1]
    simp only [rowsR, g1, g2]
    simp
  · rintro _ H ⟨⟨v6, rfl⟩, p, el⟩
    have l : decide ((rowsR lows highs lows.length).length + bounds.length ≤ line) = true := decide_eq_true (by rw [rowsR_len]; exact Nat.le_trans (show _ ≤ 2000 by omega) (by decide))
    simp [el, l, p]
theorem t_piece_rows {C op ng ro pi n m : Nat} {ls : List Lay} {ph : List Bool} {lows highs : List Rat} {bounds bd fs : List Bd} (ho : OppV ev op) (hn : NegR ev ng) (hr : Giv ev ro [regD lows highs bounds] (.tup ((regRows lows highs bounds).map bndD)))
    (hi : ∀ (h : Hd) (Q : D → Hd → Prop) (X : Exn → Hd → Prop), (∀ H, h <+: H → PieceAt h.length n ph C H bd fs → Q (.ref h.length) H) → WpE (mkO h.length (ev.call pi [.ref h.length, netD n ls, .tup (ph.map .bl)] (h ++ [.obj C []]))) Q X) (lb : ∀ f ∈ bd, f.1.length = n) (n2 : n ≤ 100) (bl : bd.length ≤ 1000) (rl : (regRows lows highs bounds).length ≤ 1000) :
    fin h (exSs ev (C_piece_rows C op ng ro pi) (startD 6 [netD n ls, regD lows highs bounds, .tup (ph.map .bl)]) h) = .ok (.tup ((regRows lows highs bounds ++ (bd.zip ph).map pieceRow).map bndD)) h := by
  generalize regRows lows highs bounds = R at hr rl ⊢
  generalize eB : (bd.zip ph).map pieceRow = B
  refine fin_gives ?_ ?_
  · simp only [D.lt]
    exact lts_map _ bndD (bndD_lt _) _
  have cr : ∀ h, ev.call ro [regD lows highs bounds] h = .ok (.tup (R.map bndD)) h := hr
  simp [C_piece_rows, startD]
  have L0 : (h ++ [Cell.lst []]).length = h.length + 1 := by simp
  have hi' := hi (h ++ [Cell.lst []])
  rw [L0] at hi'
  have ee : h ++ [Cell.lst []] ++ [Cell.obj C []] = h ++ [Cell.lst [], Cell.obj C []] := by simp
  rw [ee] at hi'
  refine hi' _ _ fun H g ⟨fr, eo, el, ef⟩ => ?_
  have e0 : lstAt H h.length = some [] := lst_pre (lst_new h []) g
  have e1 : fldV "bending" (.ref (h.length + 1)) H = .ok (.ref (h.length + 1 + 1)) H := by rw [o_fld eo]; rfl
  have z : zipV (.ref (h.length + 1 + 1)) (.tup (ph.map .bl)) H = .ok ⟨(bd.zip ph).map fun x => .tup [bndD x.1, .bl x.2], [(h.length + 1 + 1, bd.map bndD)]⟩ H := by
    rw [zipV_lt el, zip_map]
  simp [e1, z]
  refine WpS_forL (bd.zip ph) (fun x => .tup [bndD x.1, .bl x.2]) (fun r s G => ∃ (dn : List Bd) (v4 v5 : Option D), s = [some (netD n ls), some (regD lows highs bounds), some (.tup (ph.map .bl)), some (.ref h.length), v4, v5] ∧ h <+: G ∧ lstAt G h.length = some (dn.map bndD) ∧ lstAt G (h.length + 1 + 1) = some (bd.map bndD) ∧ dn.length + r.length ≤ 1000 ∧ (∀ x ∈ r, x.1.1.length = n) ∧ (bd.zip ph).map pieceRow = dn ++ r.map pieceRow) rfl ⟨[], _, _, rfl, (List.prefix_append _ _).trans g, e0, el, by rw [List.length_zip]; simp; omega, fun x hx => lb _ (List.of_mem_zip hx).1, rfl⟩ ?_ ?_
  · rintro ⟨f, b⟩ r _ G ⟨dn, v4, v5, rfl, p, q0, q1, ln, kl, er⟩
    refine ⟨fix_of q1, _, by simp; rfl, ?_⟩
    have kf : f.1.length = n := kl (f, b) List.mem_cons_self
    have kr : ∀ x ∈ r, x.1.1.length = n := fun x hx => kl x (List.mem_cons_of_mem _ hx)
    have ln' : dn.length + (r.length + 1) ≤ 1000 := by simpa using ln
    have ll := lst_line (show dn.length ≤ 1000000 by omega)
    cases b with
    | true =>
      have c : ∀ h, ev.call op [vv f.1] h = .ok (vv (f.1.map fun q => -q)) h := ho _ (by omega)
      simp [arrD, c, q0, ll]
      refine ⟨pre_set p (Nat.le_refl _), dn ++ [pieceRow (f, true)], ?_, r_set_ne q1 (by omega), by simp; omega, by simpa using kr, by rw [er]; simp⟩
      rw [r_set q0]
      simp [pieceRow]
    | false =>
      have c : ∀ h, ev.call ng [rv f.2] h = .ok (rv (-f.2)) h := hn _
      simp [arrD, c, q0, ll]
      refine ⟨pre_set p (Nat.le_refl _), dn ++ [pieceRow (f, false)], ?_, r_set_ne q1 (by omega), by simp; omega, by simpa using kr, by rw [er]; simp⟩
      rw [r_set q0]
      simp [pieceRow]
  · rintro _ G ⟨dn, v4, v5, rfl, p, q0, q1, ln, kl, er⟩
    refine ⟨fix_of q1, ?_⟩
    have er : B = dn := by rw [← eB, er]; simp
    subst er
    have ln : B.length ≤ 1000 := by simpa using ln
    have l : decide (R.length + B.length ≤ line) = true := decide_eq_true (Nat.le_trans (show _ ≤ 2000 by omega) (by decide))
    simp [arrD, cr, q0, l, p]
theorem t_piece_form {C pi n : Nat} {ls : List Lay} {ph : List Bool} {bd fs : List Bd}
    (hi : ∀ (h : Hd) (Q : D → Hd → Prop) (X : Exn → Hd → Prop), (∀ H, h <+: H → PieceAt h.length n ph C H bd fs → Q (.ref h.length) H) → WpE (mkO h.length (ev.call pi [.ref h.length, netD n ls, .tup (ph.map .bl)] (h ++ [.obj C []]))) Q X) (fl : fs.length ≤ 1000) :
    fin h (exSs ev (C_piece_form C pi) (startD 4 [netD n ls, .tup (ph.map .bl)]) h) = .ok (.tup [mv (fs.map (·.1)), vv (fs.map (·.2))]) h := by
  refine fin_gives ?_ ?_
  · show (D.lt h.length (mv (fs.map (·.1))) && (D.lt h.length (vv (fs.map (·.2))) && true)) = true
    rw [mv_lt, vv_lt]
    rfl
  simp [C_piece_form, startD]
  refine hi h _ _ fun H g ⟨fr, eo, el, ef⟩ => ?_
  have e1 : fldV "outputs" (.ref h.length) H = .ok (.ref fr) H := by rw [o_fld eo]; rfl
  simp [e1, ef]
  refine WpE_lc fs bndD (fun f => vv f.1) rfl (by omega) (fun G g2 => fix_of (lst_pre ef g2)) ?_ ?_
  · intro f _
    refine ⟨_, rfl, fun G g2 => ⟨rfl, ?_⟩⟩
    simp [wipeD]
  · intro G g2
    have ef2 := lst_old (lst_pre ef g2) [.lst (fs.map fun f => vv f.1)]
    simp [ef2]
    refine WpE_lc fs bndD (fun f => rv f.2) rfl (by omega) (fun G3 g3 => fix_of (lst_pre ef2 g3)) ?_ ?_
    · intro f _
      refine ⟨_, rfl, fun G2 g2 => ⟨rfl, ?_⟩⟩
      simp [wipeD]
    · intro G3 g3
      simp
      refine ⟨⟨?_, ?_⟩, pre_app (((g.trans g2).trans (List.prefix_append _ _)).trans g3)⟩
      · simp [mv]
      · simp [vv]
end
end PV
/-! PVNl: the law's walk with phases. -/
namespace PV
open PySem
def LNB (h : Hd) (n : Nat) (p : List Rat) (ls : List Lay) (ph : List Bool) (c : Nat) (fl : List Bool) (acc cur : List Rat) (k : Nat) (s : Sl) (G : Hd) : Prop := ∃ (A B : List Rat) (v6 : Option D), s = [some (netD n ls), some (.tup (ph.map .bl)), some (vv p), some (.ref c), some (.ref (h.length + 1)), some (bendD fl), v6] ∧ h <+: G ∧ lstAt G (h.length + 1) = some (A.map rv) ∧ lstAt G c = some (B.map rv) ∧ B.length = cur.length ∧ B.drop k = cur.drop k ∧ A.length + (((fl.zip cur).drop k).filter (·.1)).length = acc.length + ((fl.zip cur).filter (·.1)).length ∧
  linB ph (fl.zip cur) acc = ((linB ph ((fl.zip cur).drop k) A).1, B.take k ++ (linB ph ((fl.zip cur).drop k) A).2)
def LNI (h : Hd) (n : Nat) (p : List Rat) (ls : List Lay) (ph : List Bool) (w m : Nat) (r : List Lay) (s : Sl) (H : Hd) : Prop := ∃ (acc cur : List Rat) (n' b c : Nat) (v5 v6 : Option D), s = [some (netD n ls), some (.tup (ph.map .bl)), some (vv p), some (.ref c), some (.ref (h.length + 1)), v5, v6] ∧ h <+: H ∧ h.length ≤ c ∧ c ≠ h.length + 1 ∧ lstAt H (h.length + 1) = some (acc.map rv) ∧ lstAt H c = some (cur.map rv) ∧ WFl 7 n' r m ∧ n' ≤ w ∧ Wid w r ∧ cur.length = n' ∧ 1 ≤ b ∧ Qs b cur ∧ bdL w r b ≤ 4000 ∧ acc.length + unitsL r ≤ ph.length ∧ linL ph ls p [] = linL ph r cur acc
theorem linB_len (ph : List Bool) : ∀ (l : List (Bool × Rat)) (vs : List Rat), (linB ph l vs).1.length = vs.length + (l.filter (·.1)).length ∧ (linB ph l vs).2.length = l.length
  | [], vs => ⟨rfl, rfl⟩
  | (false, f) :: r, vs => by
    obtain ⟨a, b⟩ := linB_len ph r vs
    simp only [linB]
    exact ⟨by simpa using a, by simpa using b⟩
  | (true, f) :: r, vs => by
    obtain ⟨a, b⟩ := linB_len ph r (vs ++ [f])
    simp only [linB]
    refine ⟨?_, by simpa using b⟩
    rw [a]
    simp
    omega
theorem linB_sz {b : Nat} {ph : List Bool} (hb : 1 ≤ b) : ∀ (l : List (Bool × Rat)) (vs : List Rat), (∀ x ∈ l, Qn b x.2) → Qs b (linB ph l vs).2
  | [], _, _, _, h => by cases h
  | (false, f) :: r, vs, k, g, hg => by
    simp only [linB, List.mem_cons] at hg
    rcases hg with rfl | hg
    · exact k (false, g) List.mem_cons_self
    · exact linB_sz hb r vs (fun x hx => k x (List.mem_cons_of_mem _ hx)) g hg
  | (true, f) :: r, vs, k, g, hg => by
    simp only [linB, List.mem_cons] at hg
    rcases hg with rfl | hg
    · split
      · exact k (true, f) List.mem_cons_self
      · exact Qn.zero hb
    · exact linB_sz hb r _ (fun x hx => k x (List.mem_cons_of_mem _ hx)) g hg
theorem take_drop_eq {B cur : List Rat} {k : Nat} (hl : B.length = cur.length) (hd : B.drop k = cur.drop k) (hk : k < cur.length) : B[k]'(by omega) = cur[k] := by
  have a := List.drop_eq_getElem_cons (l := B) (i := k) (by omega)
  have b := List.drop_eq_getElem_cons (l := cur) (i := k) hk
  rw [a, b] at hd
  exact (List.cons.inj hd).1
section
variable {ev : Ev} {h : Hd}
theorem t_keeps {le dt n m : Nat} {b : Bd} {p : List Rat} (hle : LessR ev le) (hdt : LDot ev dt) (hl : b.1.length = p.length) (s1 : Qs n b.1) (s2 : Qn 4000 b.2) (sp : Qs m p) (hb : b.1.length * (n + m + 1) + 1 ≤ 4000) (l1 : b.1.length ≤ 1000) (n4 : n ≤ 4000) (m4 : m ≤ 4000) :
    fin h (exSs ev (C_l_keeps le dt) (startD 2 [bndD b, vv p]) h) = .ok (.bl (decide (¬ b.2 < dotL b.1 p))) h := by
  have c1 : ∀ h, ev.call dt [vv b.1, vv p] h = .ok (rv (dotL b.1 p)) h := fun h => hdt n m b.1 p (vv p) h hl s1 sp hb l1 n4 m4 (idx_vv p h)
  have c2 : ∀ h, ev.call le [rv b.2, rv (dotL b.1 p)] h = .ok (.bl (decide (b.2 < dotL b.1 p))) h := hle _ _ s2 ((dotL_sz s1 sp).mono hb)
  simp [C_l_keeps, startD, arrD, c1, c2]
theorem t_linear {ad dt w n m : Nat} {ls : List Lay} {p : List Rat} {ph : List Bool} {X : Exn → Hd → Prop} (ha : AddR ev ad) (hd : LDot ev dt) (w1 : 1 ≤ w) (w2 : w ≤ 30) (wf : WFl 7 n ls m) (hn : n ≤ w) (wd : Wid w ls) (lp : p.length = n) (sp : Qs 50 p) (hb : bdL w ls 50 ≤ 4000) (hu : unitsL ls ≤ ph.length) (hp2 : ph.length ≤ 1000) :
    WpE (fin h (exSs ev (C_l_linear ad dt) (startD 7 [netD n ls, .tup (ph.map .bl), vv p]) h)) (fun d H => h <+: H ∧ ∃ k : Nat, d = .tup [.ref k, vv (linL ph ls p []).2] ∧ lstAt H k = some ((linL ph ls p []).1.map rv) ∧ h.length ≤ k) X := by
  refine fin_list ?_
  simp [C_l_linear, startD, vv]
  refine WpS_forL ls Lay.d (LNI h n p ls ph w m) rfl
    ⟨[], p, n, 50, h.length, none, none, rfl, List.prefix_append _ _, Nat.le_refl _, by omega, by simp, by simp, wf, hn, wd, lp, by omega, sp, hb, by simpa using hu, rfl⟩ ?_ ?_
  · rintro l r _ H ⟨acc, cur, n', b, c, v5, v6, rfl, q, hc, hc2, e1, e2, wf', hn', wd', lc, b1, sc, hb', hu', et⟩
    refine ⟨rfl, _, bindG_nm _ _ _, ?_⟩
    have hH := lst_lt e1
    cases l with
    | sums rows offs =>
      obtain ⟨_, S, r1, wf2⟩ := wf'
      obtain ⟨wd1, wd2⟩ := wd'
      have ln := S.wid
      have ol := S.olen
      simp [Lay.d, len_mv, rngV_k rfl (show rows.length ≤ 1000000 by omega)]
      refine WpE_lc (List.range rows.length) (fun k : Nat => .int (k : Int)) (fun k => rv (dotL (rows.getD k []) cur + offs.getD k 0)) rfl (by simpa using (show rows.length ≤ 1000000 by omega)) (fun _ _ => rfl) ?_ ?_
      · intro k hk
        have hk : k < rows.length := by simpa using hk
        refine ⟨_, rfl, fun G g => ⟨rfl, ?_⟩⟩
        have a : rows.getD k [] = rows[k] := by simp [List.getD_eq_getElem?_getD, hk]
        have o : offs.getD k 0 = offs[k] := getD_at (by omega)
        have wk := S.wid rows[k] (List.getElem_mem hk)
        have sk := S.sz rows[k] (List.getElem_mem hk)
        have so := S.osz offs[k] (List.getElem_mem (by omega))
        have bb := bdL_le w1 r (w * (b + 8) + 9)
        have bb' : bdL w r (w * (b + 8) + 9) ≤ 4000 := hb'
        have mm := Nat.mul_le_mul_right (b + 8) hn'
        have m1 : 1 * (b + 8) ≤ w * (b + 8) := Nat.mul_le_mul_right _ w1
        have m2 : 7 + b + 1 = b + 8 := by omega
        have c1 := hd 7 b rows[k] cur (.ref c) G (by omega) sk sc (by rw [wk, m2]; omega) (by omega) (by decide) (by omega) (idx_r (lst_pre e2 g))
        have qd : Qn 4000 (dotL rows[k] cur) := (dotL_sz sk sc).mono (by rw [wk, m2]; omega)
        have c2 : ∀ h, ev.call ad [rv (dotL rows[k] cur), rv offs[k]] h = .ok (rv (dotL rows[k] cur + offs[k])) h := ha _ _ qd (so.mono (by decide))
        rw [a, o]
        simp [wipeD, arrD, mv_at hk, at_vv (v := offs) (i := k) (by omega), c1, c2]
      · intro G g
        have er : (List.range rows.length).map (fun k => rv (dotL (rows.getD k []) cur + offs.getD k 0)) = (sumsL rows offs cur).map rv := by
          rw [← sums_rng S, List.map_map]
          rfl
        rw [er]
        have gl := g.length_le
        simp
        exact ⟨acc, sumsL rows offs cur, rows.length, w * (b + 8) + 9, G.length, _, _, rfl, pre_app (q.trans g), by omega, by omega, lst_old (lst_pre e1 g) _, lst_new _ _, wf2, wd1, wd2, sums_len S, by omega, sums_sz S hn' sc, hb', hu', et⟩
    | bends fl =>
      obtain ⟨_, lf, wf2⟩ := wf'
      have fc : fl.length = cur.length := by omega
      have n100 := wf2.n100
      rw [units_cons] at hu'
      have fz := filter_zip fl cur fc
      simp [Lay.d, e2, rngV_k rfl (show cur.length ≤ 1000000 by omega)]
      refine WpS_rng cur.length (LNB h n p ls ph c fl acc cur) ⟨acc, cur, _, rfl, q, e1, e2, rfl, rfl, rfl, by simp⟩ ?_ ?_
      · rintro k hk _ G ⟨A, B, v6, rfl, g, f1, f2, lB, dB, lA, eL⟩
        refine ⟨_, bindG_nm _ _ _, ?_⟩
        have hf : k < fl.length := by omega
        have Bk := take_drop_eq lB dB hk
        have lz : k < (fl.zip cur).length := by rw [List.length_zip]; omega
        have dz : (fl.zip cur).drop k = (fl[k], cur[k]) :: (fl.zip cur).drop (k + 1) := by
          rw [List.drop_eq_getElem_cons lz]
          simp
        have dr : cur.drop k = cur[k] :: cur.drop (k + 1) := List.drop_eq_getElem_cons hk
        have drB : B.drop k = cur[k] :: B.drop (k + 1) := by rw [List.drop_eq_getElem_cons (by omega), Bk]
        have dB1 : B.drop (k + 1) = cur.drop (k + 1) := by
          rw [dr, drB] at dB
          exact (List.cons.inj dB).2
        have tk : B.take (k + 1) = B.take k ++ [cur[k]] := by rw [List.take_succ_eq_append_getElem (by omega), Bk]
        have eat : L2.atI (B.map rv) (k : Int) = some (rv cur[k]) := by
          rw [at_n (by simpa using (show k < B.length by omega))]
          simp [Bk]
        cases eb : fl[k] with
        | false =>
          rw [dz, eb] at lA eL
          simp only [linB] at eL
          simp [fl_at hf, eb]
          refine ⟨A, B, _, rfl, g, f1, f2, lB, dB1, by simpa using lA, ?_⟩
          rw [eL, tk]
          simp
        | true =>
          rw [dz, eb] at lA eL
          simp only [linB] at eL
          have lA' : A.length + ((((fl.zip cur).drop (k + 1)).filter (·.1)).length + 1) = acc.length + ((fl.zip cur).filter (·.1)).length := by simpa using lA
          have lA2 : A.length < ph.length := by omega
          simp [fl_at hf, eb, f1, f2, eat, lst_line (show A.length ≤ 1000000 by omega)]
          have g2 : lstAt (G.set (h.length + 1) (.lst (A.map rv ++ [rv cur[k]]))) c = some (B.map rv) := r_set_ne f2 (by omega)
          have g1 : lstAt (G.set (h.length + 1) (.lst (A.map rv ++ [rv cur[k]]))) (h.length + 1) = some ((A ++ [cur[k]]).map rv) := by
            rw [r_set f1]
            simp
          have g0 := pre_set (n := h.length + 1) (c := .lst (A.map rv ++ [rv cur[k]])) g (by omega)
          generalize G.set (h.length + 1) (.lst (A.map rv ++ [rv cur[k]])) = G1 at g0 g1 g2 ⊢
          have li : (((A ++ [cur[k]]).map rv).length : Int) - 1 = (A.length : Int) := by simp
          have atp : L2.atI (ph.map D.bl) (A.length : Int) = some (.bl ph[A.length]) := by rw [at_n (by simpa using lA2)]; simp
          have gp : ph.getD A.length false = ph[A.length] := by simp [List.getD_eq_getElem?_getD, lA2]
          rw [gp] at eL
          cases ep : ph[A.length] with
          | true =>
            rw [ep, if_pos rfl] at eL
            rw [ep] at atp
            simp [g1, atp]
            refine ⟨A ++ [cur[k]], B, _, rfl, g0, g1, g2, lB, dB1, by simp; omega, ?_⟩
            rw [eL, tk]
            simp
          | false =>
            rw [ep, if_neg (by decide)] at eL
            rw [ep] at atp
            simp [g1, atp, r_sub _ _ g2, ix_n (show k < B.length by omega)]
            refine ⟨A ++ [cur[k]], B.set k 0, _, rfl, pre_set g0 hc, r_set_ne g1 hc2, by rw [r_set g2]; simp [List.map_set, rv], by simp [lB], ?_, by simp; omega, ?_⟩
            · rw [List.drop_set_of_lt (by omega)]
              exact dB1
            · rw [eL]
              have t2 : (B.set k 0).take (k + 1) = B.take k ++ [0] := by
                rw [List.take_succ_eq_append_getElem (by simp; omega), List.getElem_set_self, List.take_set_of_le (Nat.le_refl _)]
              rw [t2]
              simp
      · rintro _ G ⟨A, B, v6, rfl, g, f1, f2, lB, dB, lA, eL⟩
        have lz : (fl.zip cur).length ≤ cur.length := by rw [List.length_zip]; omega
        rw [List.drop_of_length_le lz, List.take_of_length_le (by omega)] at eL
        rw [List.drop_of_length_le lz] at lA
        simp only [linB, List.append_nil] at eL
        have sl := linB_sz (ph := ph) b1 (fl.zip cur) acc fun x hx => sc x.2 (List.of_mem_zip hx).2
        rw [eL] at sl
        refine ⟨A, B, n', b, c, _, _, rfl, g, hc, hc2, f1, f2, wf2, hn', wd', by omega, b1, sl, hb', ?_, ?_⟩
        · have : A.length = acc.length + ((fl.zip cur).filter (·.1)).length := by simpa using lA
          omega
        · rw [et]
          show linL ph r (linB ph (fl.zip cur) acc).2 (linB ph (fl.zip cur) acc).1 = _
          rw [eL]
  · rintro _ H ⟨acc, cur, n', b, c, v5, v6, rfl, q, hc, hc2, e1, e2, wf', hn', wd', lc, b1, sc, hb', hu', et⟩
    refine ⟨rfl, ?_⟩
    simp [e2]
    have et : linL ph ls p [] = (acc, cur) := et
    rw [et]
    refine ⟨q, fun bad => ?_, fun _ => ⟨q, h.length + 1, ⟨rfl, rfl⟩, e1, by omega⟩⟩
    simp [D.lt, D.lts] at bad
    omega
end
end PV
/-! PVNm: units counted; lengths and sizes of pieces; what rows keep. -/
namespace PV
open PySem
section
variable {ev : Ev} {h : Hd}
theorem t_lunits {n m : Nat} {ls : List Lay} (wf : WFl 7 n ls m) (hl : ls.length ≤ 1000) : fin h (exSs ev C_l_units (startD 4 [netD n ls]) h) = .ok (.int (unitsL ls : Int)) h := by
  refine fin_gives rfl ?_
  simp [C_l_units, startD]
  refine WpS_forL ls Lay.d (fun r s H => ∃ (k n' : Nat) (v2 : Option D), s = [some (netD n ls), some (.int (k : Int)), v2, none] ∧ h <+: H ∧ WFl 7 n' r m ∧ k + unitsL r = unitsL ls) rfl ⟨0, n, _, rfl, List.prefix_refl _, wf, by simp⟩ ?_ ?_
  · rintro l r _ H ⟨k, n', v2, rfl, g, wf', e⟩
    refine ⟨rfl, _, bindG_nm _ _ _, ?_⟩
    cases l with
    | sums rows offs =>
      simp [Lay.d]
      exact ⟨k, rfl, g, ⟨_, wf'.2.2.2⟩, e⟩
    | bends fl =>
      have n1 := wf'.1
      have n2 := wf'.2.1
      simp [Lay.d]
      refine WpE_lcF fl .bl .bl id rfl (by omega) (fun _ _ => rfl) ?_ ?_
      · intro b _
        refine ⟨_, rfl, fun G g2 => ?_⟩
        cases b <;> simp [wipeD]
      · intro G g2
        simp
        refine ⟨k + (fl.filter id).length, by simp, pre_app (g.trans g2), ⟨_, wf'.2.2⟩, ?_⟩
        rw [units_cons] at e
        omega
  · rintro _ H ⟨k, n', v2, rfl, g, wf', e⟩
    refine ⟨rfl, ?_⟩
    have e : k = unitsL ls := e
    simp [e, g]
end
theorem units_le {b : Nat} : ∀ {ls : List Lay} {n m : Nat}, WFl b n ls m → unitsL ls ≤ 100 * ls.length
  | [], _, _, _ => Nat.le_refl _
  | .sums _ _ :: ls, _, _, h => by
    have := units_le h.2.2.2
    show unitsL ls ≤ 100 * (ls.length + 1)
    omega
  | .bends fl :: ls, n, _, h => by
    have := units_le h.2.2
    have a := h.1
    have b := h.2.1
    have c : (fl.filter id).length ≤ fl.length := List.length_filter_le _ _
    rw [units_cons]
    show _ ≤ 100 * (ls.length + 1)
    omega
theorem linL_len {ph : List Bool} : ∀ {ls : List Lay} {n m : Nat} {v vs : List Rat}, WFl 7 n ls m → v.length = n → (linL ph ls v vs).1.length = vs.length + unitsL ls ∧ (linL ph ls v vs).2.length = m
  | [], n, m, v, vs, h, e => by
    obtain ⟨rfl, _⟩ := h
    exact ⟨rfl, e⟩
  | .sums rows offs :: ls, n, m, v, vs, h, e => linL_len (ls := ls) h.2.2.2 (sums_len h.2.1)
  | .bends fl :: ls, n, m, v, vs, h, e => by
    obtain ⟨a, b⟩ := linB_len ph (fl.zip v) vs
    have fz := filter_zip fl v (by rw [h.2.1, e])
    have lz : (fl.zip v).length = n := by rw [List.length_zip, h.2.1, e, Nat.min_self]
    obtain ⟨c, d⟩ := linL_len (ph := ph) (ls := ls) (vs := (linB ph (fl.zip v) vs).1) h.2.2 (b.trans lz)
    refine ⟨?_, d⟩
    show (linL ph ls (linB ph (fl.zip v) vs).2 (linB ph (fl.zip v) vs).1).1.length = _
    rw [c, a, fz, units_cons]
    omega
theorem vals_len {ls : List Lay} : ∀ {n m : Nat} {v : List Rat}, WFl 7 n ls m → v.length = n → (valsL ls v).1.length = unitsL ls ∧ (valsL ls v).2.length = m := by
  induction ls with
  | nil =>
    intro n m v h e
    obtain ⟨rfl, _⟩ := h
    exact ⟨rfl, e⟩
  | cons l ls ih =>
    intro n m v h e
    cases l with
    | sums rows offs => exact ih h.2.2.2 (sums_len h.2.1)
    | bends fl =>
      obtain ⟨a, b⟩ := ih (v := reluL fl v) h.2.2 (by rw [relu_len (by rw [h.2.1, e])]; exact e)
      refine ⟨?_, b⟩
      show (flagL fl v ++ (valsL ls (reluL fl v)).1).length = _
      rw [List.length_append, flag_len (by rw [h.2.1, e]), a, units_cons]
theorem bent_sz1 {n b : Nat} {ph : List Bool} : ∀ (l : List (Bool × Bd)) (bd : List Bd), (∀ x ∈ l, Fs n b x.2) → (∀ f ∈ bd, Fs n b f) → ∀ f ∈ (bentL n ph l bd).1, Fs n b f
  | [], bd, _, k2, f, h => k2 f h
  | (false, f) :: r, bd, k, k2, g, hg => bent_sz1 r bd (fun x hx => k x (List.mem_cons_of_mem _ hx)) k2 g hg
  | (true, f) :: r, bd, k, k2, g, hg => bent_sz1 r (bd ++ [f]) (fun x hx => k x (List.mem_cons_of_mem _ hx)) (fun y hy => by
      rcases List.mem_append.mp hy with z | z
      · exact k2 y z
      · rw [List.mem_singleton.mp z]; exact k (true, f) List.mem_cons_self) g hg
theorem pieceL_sz {w nn : Nat} {ph : List Bool} (hw : 1 ≤ w) : ∀ {ls : List Lay} {n m b : Nat} {fs bd : List Bd}, WFl 7 n ls m → n ≤ w → Wid w ls → 1 ≤ b → fs.length = n → (∀ f ∈ fs, Fs nn b f) → (∀ f ∈ bd, Fs nn b f) →
    (∀ f ∈ (pieceL nn ph ls fs bd).1, Fs nn (bdL w ls b) f) ∧ (∀ f ∈ (pieceL nn ph ls fs bd).2, Fs nn (bdL w ls b) f) ∧ (pieceL nn ph ls fs bd).2.length = m
  | [], n, m, b, fs, bd, h, _, _, _, e, k1, k2 => by
    obtain ⟨rfl, _⟩ := h
    exact ⟨k2, k1, e⟩
  | .sums rows offs :: ls, n, m, b, fs, bd, h, hn, wd, b1, e, k1, k2 => by
    have S := h.2.1
    have ol := S.olen
    have m1 : 1 * (b + 8) ≤ w * (b + 8) := Nat.mul_le_mul_right _ hw
    refine pieceL_sz hw (ls := ls) (b := w * (b + 8) + 9) h.2.2.2 wd.1 wd.2 (by omega) ?_ ?_ fun f hf => (k2 f hf).mono (by omega)
    · rw [List.length_map, List.length_zip]
      omega
    · intro f hf
      obtain ⟨⟨row, off⟩, hro, rfl⟩ := List.mem_map.mp hf
      exact wF_sz (S.sz row (List.of_mem_zip hro).1) (S.osz off (List.of_mem_zip hro).2) k1 (by omega)
  | .bends fl :: ls, n, m, b, fs, bd, h, hn, wd, b1, e, k1, k2 => by
    obtain ⟨a, c⟩ := bent_len nn ph (fl.zip fs) bd
    have lz : (fl.zip fs).length = n := by rw [List.length_zip, h.2.1, e, Nat.min_self]
    exact pieceL_sz hw (ls := ls) h.2.2 hn wd b1 (c.trans lz) (bent_sz b1 _ _ fun x hx => k1 x.2 (List.of_mem_zip hx).2) (bent_sz1 _ _ (fun x hx => k1 x.2 (List.of_mem_zip hx).2) k2)
theorem start_sz {n : Nat} : ∀ f ∈ startF n, Fs n 1 f := fun f hf => by
  obtain ⟨i, hi, rfl⟩ := List.mem_map.mp hf
  have hi : i < n := by simpa using hi
  refine ⟨unit_len hi, fun q hq => ?_, Qn.zero (by decide)⟩
  unfold unitR at hq
  simp only [List.mem_append, List.mem_replicate, List.mem_singleton] at hq
  rcases hq with (⟨_, rfl⟩ | rfl) | ⟨_, rfl⟩
  · exact Qn.zero (by decide)
  · exact Qn.one (by decide)
  · exact Qn.zero (by decide)
theorem plain_bd1 {ls : List Lay} (p : Plain ls) (l : ls.length ≤ 5) : bdL 3 ls 1 ≤ 500 := by
  match ls, p, l with
  | [.sums _ _], _, _ => simp [bdL]
  | [.sums _ _, .bends _, .sums _ _], _, _ => simp [bdL]
  | [.sums _ _, .bends _, .sums _ _, .bends _, .sums _ _], _, _ => simp [bdL]
  | .sums _ _ :: .bends _ :: .sums _ _ :: .bends _ :: .sums _ _ :: .bends _ :: _, _, l => simp at l
/-! ### what rows keep -/
def keepB (p : List Rat) (b : Bd) : Bool := decide (¬ b.2 < dotL b.1 p)
theorem keep_rows {lows highs p : List Rat} (hp : p.length = lows.length) : ∀ i, i ≤ lows.length → (rowsR lows highs i).all (keepB p) = (List.range i).all fun k => decide (¬ p.getD k 0 < lows.getD k 0) && decide (¬ highs.getD k 0 < p.getD k 0)
  | 0, _ => rfl
  | i + 1, hi => by
    have ih := keep_rows (highs := highs) hp i (by omega)
    have d1 := dotL_unit lows.length i p (by omega) hp
    have d2 := dotL_neg (unitR lows.length i) p
    rw [d1] at d2
    rw [rowsR, List.all_append, ih, List.range_succ, List.all_append]
    congr 1
    simp only [List.all_cons, List.all_nil, keepB, d1, d2, Bool.and_true]
    rw [getD_at (v := p) (i := i) (by omega)]
    have e : decide (¬ -lows.getD i 0 < -p[i]) = decide (¬ p[i] < lows.getD i 0) := by
      rw [decide_eq_decide]
      constructor <;> intro h <;> grind
    rw [e, Bool.and_comm]
theorem keep_reg {lows highs p : List Rat} {bounds : List Bd} (hp : p.length = lows.length) : (regRows lows highs bounds).all (keepB p) = inB lows highs bounds p := by
  unfold regRows inB
  rw [List.all_append, keep_rows hp _ (Nat.le_refl _)]
  rfl
theorem keep_piece {p : List Rat} {f : Bd} {b : Bool} : keepB p (pieceRow (f, b)) = if b = true then decide (0 ≤ (evF f p).num) else decide ((evF f p).num ≤ 0) := by
  have a1 : decide (0 ≤ (evF f p).num) = decide (0 ≤ evF f p) := by
    rw [decide_eq_decide]
    exact Rat.num_nonneg
  have a2 : decide ((evF f p).num ≤ 0) = decide (evF f p ≤ 0) := by
    rw [decide_eq_decide]
    have := num_neg (q := -(evF f p))
    have e : (-(evF f p)).num = -(evF f p).num := by simp
    rw [e] at this
    constructor
    · intro h
      have : ¬ 0 < evF f p := fun z => by
        have : -(evF f p) < 0 := by grind
        have := num_neg.mpr this
        rw [e] at this
        omega
      exact Rat.not_lt.mp this
    · intro h
      have h2 : ¬ (-(evF f p)) < 0 := by grind
      have : ¬ (-(evF f p)).num < 0 := fun z => h2 (num_neg.mp z)
      rw [e] at this
      omega
  cases b with
  | true =>
    rw [if_pos rfl, a1]
    unfold keepB pieceRow
    simp only [if_true]
    rw [dotL_neg, decide_eq_decide]
    show (¬ f.2 < -dotL f.1 p) ↔ 0 ≤ dotL f.1 p + f.2
    constructor <;> intro h <;> grind
  | false =>
    rw [if_neg (by decide), a2]
    unfold keepB pieceRow
    rw [decide_eq_decide]
    show (¬ -f.2 < dotL f.1 p) ↔ dotL f.1 p + f.2 ≤ 0
    constructor <;> intro h <;> grind
/-! ### tuples of truth values -/
theorem eqD_bls (a b : List Bool) : eqD (.tup (a.map .bl)) (.tup (b.map .bl)) = decide (a = b) := by
  rw [eqD_tup]
  refine eqDs_map (fun x y => ?_) a b
  rw [eqD_bl]
  cases x <;> cases y <;> rfl
theorem eqV_bls (a b : List Bool) (h : Hd) : eqV h (.tup (a.map .bl)) (.tup (b.map .bl)) = some (decide (a = b)) := by
  rw [eqV_sh (sh_bls a) (sh_bls b) (by decide) (by decide), eqD_bls]
end PV
/-! K40b: k40: the program's and the law's defs. -/
namespace K40
open PySem PV
abbrev E (fuel k : Nat) : Ev := evL fns sub fuel k
section
variable {fuel k : Nat}
theorem p_make : MakesR (E fuel (k + 1)) 2 := fun a b hb sb => givC (code := c_make) rfl rfl fun h => t_make (e := 1) hb sb (Nat.le_refl _)
theorem p_add : AddR (E fuel (k + 2)) 3 := fun p q sp sq => givC (code := c_add) rfl rfl fun h => t_add p_make sp sq (by decide)
theorem p_mul : MulR (E fuel (k + 2)) 4 := fun p q sp sq => givC (code := c_multiply) rfl rfl fun h => t_mul p_make sp sq (by decide)
theorem p_less : LessR (E fuel (k + 1)) 6 := fun p q sp sq => givC (code := c_less) rfl rfl fun h => t_less sp sq (by decide)
theorem p_integer (i : Int) : Giv (E fuel (k + 1)) 0 [.int i] (.bl true) := givC (code := c_is_integer) rfl rfl fun h => t_is_integer (x := .int i) rfl
theorem p_ratio (q : Rat) : Giv (E fuel (k + 2)) 1 [rv q] (.bl true) := givC (code := c_is_ratio) rfl rfl fun h => by
  have := t_is_ratio (ev := E fuel (k + 1)) (h := h) (it := 0) (x := rv q) (fun y hy => givC (code := c_is_integer) rfl rfl fun h => t_is_integer hy) ⟨fun n e => (by cases e), fun xs e y hy => by
    have e : [D.int q.num, D.int (q.den : Int)] = xs := by injection e
    subst e
    simp only [List.mem_cons, List.not_mem_nil, or_false] at hy
    rcases hy with rfl | rfl <;> rfl⟩
  rw [ratB_rv] at this
  exact this
theorem p_vector0 (v : List Rat) (hl : v.length ≤ 1000) : Giv (E fuel (k + 3)) 8 [vv v, .non] (.bl true) := givC (code := c_is_vector) rfl rfl fun h => t_is_vector0 p_ratio (by omega)
theorem p_vector (v : List Rat) (hl : v.length ≤ 1000) : Giv (E fuel (k + 3)) 8 [vv v, .int (v.length : Int)] (.bl true) := givC (code := c_is_vector) rfl rfl fun h => t_is_vector p_ratio (by omega)
theorem p_matrix {n : Nat} (M : List (List Rat)) (h1 : 1 ≤ M.length) (hl : M.length ≤ 1000) (hw : ∀ r ∈ M, r.length = n) (hn : n ≤ 1000) : Giv (E fuel (k + 4)) 9 [mv M, .non, .non] (.bl true) := givC (code := c_is_matrix) rfl rfl fun h => t_is_matrix p_vector h1 (by omega) hw hn
theorem p_form1 (n m : Nat) (rows : List (List Rat)) (offs : List Rat) (S : Sums n m 7 rows offs) (m1 : 1 ≤ m) (m2 : m ≤ 1000) (hn : n ≤ 1000) : Giv (E fuel (k + 5)) 19 [sumD rows offs] (.bl true) := givC (code := c_has_form) rfl rfl fun h => t_form_sums (fun M a b c => p_matrix M a b c hn) p_vector0 S m1 m2
theorem p_form2 (fl : List Bool) (hl : fl.length ≤ 1000) : Giv (E fuel (k + 5)) 19 [bendD fl] (.bl true) := givC (code := c_has_form) rfl rfl fun h => t_form_bends hl
theorem p_fits1 (n m : Nat) (rows : List (List Rat)) (offs : List Rat) (S : Sums n m 7 rows offs) (m1 : 1 ≤ m) : Giv (E fuel (k + 1)) 20 [.int (n : Int), sumD rows offs] (.bl true) := givC (code := c_fits) rfl rfl fun h => t_fits_sums S m1
theorem p_fits2 (fl : List Bool) : Giv (E fuel (k + 1)) 20 [.int (fl.length : Int), bendD fl] (.bl true) := givC (code := c_fits) rfl rfl fun h => t_fits_bends rfl
theorem p_given1 (n m : Nat) (rows : List (List Rat)) (offs : List Rat) (S : Sums n m 7 rows offs) : Giv (E fuel (k + 1)) 21 [.int (n : Int), sumD rows offs] (.int (m : Int)) := givC (code := c_given_size) rfl rfl fun h => t_given_sums S
theorem p_given2 (n : Nat) (fl : List Bool) : Giv (E fuel (k + 1)) 21 [.int (n : Int), bendD fl] (.int (n : Int)) := givC (code := c_given_size) rfl rfl fun h => t_given_bends
theorem p_sizes {n m : Nat} {ls : List Lay} (wf : WFl 7 n ls m) (n1 : 1 ≤ n) (hl : ls.length ≤ 900) : Giv (E fuel (k + 6)) 22 [netD n ls] (.tup ((sizesL n ls).map natD)) := givC (code := c_sizes) rfl rfl fun h => t_sizes (eb := 2) p_integer p_form1 p_form2 p_fits1 p_fits2 p_given1 p_given2 wf n1 hl
theorem p_check {n m : Nat} {ls : List Lay} (wf : WFl 7 n ls m) (n1 : 1 ≤ n) (hl : ls.length ≤ 900) : Giv (E fuel (k + 7)) 23 [netD n ls] .non := givC (code := c_check) rfl rfl fun h => t_check (p_sizes wf n1 hl)
theorem p_dot : PDot (E fuel (k + 2)) 12 := fun n v w sv sw hl => givC (code := c_dot) rfl rfl fun h => t_dot p_make (sv.zip sw) (by rw [List.length_zip]; exact Nat.min_le_left _ _) hl
theorem p_added (v w : List Rat) (hl : v.length ≤ 1000) (sv : Qs 4000 v) (sw : Qs 4000 w) : Giv (E fuel (k + 3)) 13 [vv v, vv w] (vv (addV2 v w)) := givC (code := c_added) rfl rfl fun h => t_added (Nat.le_trans hl (by decide)) fun p hp => p_add _ _ (sv _ (List.of_mem_zip hp).1) (sw _ (List.of_mem_zip hp).2)
theorem p_applied (M : List (List Rat)) (v : List Rat) (hl : M.length ≤ 1000) (hd : ∀ r ∈ M, Giv (E fuel (k + 2)) 12 [vv r, vv v] (rv (dotL r v))) : Giv (E fuel (k + 3)) 16 [mv M, vv v] (vv (M.map fun r => dotL r v)) := givC (code := c_applied) rfl rfl fun h => t_applied (Nat.le_trans hl (by decide)) hd
theorem p_passed1 {w : Nat} (n m b : Nat) (rows : List (List Rat)) (offs v : List Rat) (S : Sums n m 7 rows offs) (sv : Qs b v) (b1 : 1 ≤ b) (hn : n ≤ w) (lv : v.length = n) (hb : w * (b + 8) + 9 ≤ 4000) (hm : m ≤ 1000) : Giv (E fuel (k + 4)) 24 [sumD rows offs, vv v] (vv (sumsL rows offs v)) := givC (code := c_passed) rfl rfl fun h => t_passed_sums (le := 6) (gr := 7) (add_ := 3) S sv b1 hn lv hb hm (fun M v hl hd => p_applied M v hl hd) p_added p_dot
theorem p_passed2 (fl : List Bool) (v : List Rat) (lv : fl.length = v.length) (hl : v.length ≤ 1000) (sv : Qs 4000 v) : Giv (E fuel (k + 4)) 24 [bendD fl, vv v] (vv (reluL fl v)) := givC (code := c_passed) rfl rfl fun h => t_passed_bends (ad := 13) (ap := 16) (gr := 7) (add_ := 3) (dt := 12) lv hl sv p_less
theorem p_trail {n m w : Nat} {ls : List Lay} {p : List Rat} (w1 : 1 ≤ w) (wf : WFl 7 n ls m) (n1 : 1 ≤ n) (hn : n ≤ w) (wd : Wid w ls) (lp : p.length = n) (sp : Qs 50 p) (hb : bdL w ls 50 ≤ 4000) (hls : ls.length ≤ 900) : Giv (E fuel (k + 8)) 25 [netD n ls, vv p] (mv (trailL ls p)) := givC (code := c_trail) rfl rfl fun h => t_trail (ep := 3) (p_check wf n1 hls) p_vector p_passed1 p_passed2 w1 wf hn wd lp sp hb hls
theorem p_zero {n : Nat} (hn : n ≤ 1000) : Giv (E fuel (k + 1)) 10 [.int (n : Int)] (vv (List.replicate n 0)) := givC (code := c_zero) rfl rfl fun h => t_zero hn
theorem p_unit {n i : Nat} (hi : i < n) (hn : n ≤ 1000) : Giv (E fuel (k + 2)) 11 [.int (n : Int), .int (i : Int)] (vv (unitR n i)) := givC (code := c_unit) rfl rfl fun h => t_unit hi hn fun m hm => p_zero hm
theorem p_scaled {f : Rat} {w : List Rat} (hl : w.length ≤ 1000) (sf : Qn 4000 f) (sw : Qs 4000 w) : Giv (E fuel (k + 3)) 14 [rv f, vv w] (vv (w.map fun p => f * p)) := givC (code := c_scaled) rfl rfl fun h => t_scaled (Nat.le_trans hl (by decide)) fun p hp => p_mul _ _ sf (sw p hp)
/-! ### the law's -/
theorem l_make (hF : 2 ^ 8900 ≤ fuel) : MakesA (E fuel (k + 1)) 32 := fun a b hb sa sb => givC (code := c__law_make) rfl rfl fun h => t_lmake hF hb sa sb
theorem l_add (hF : 2 ^ 8900 ≤ fuel) : AddR (E fuel (k + 2)) 33 := fun p q sp sq => givC (code := c__law_add) rfl rfl fun h => t_addA (l_make hF) sp sq (by decide)
theorem l_mul (hF : 2 ^ 8900 ≤ fuel) : MulR (E fuel (k + 2)) 34 := fun p q sp sq => givC (code := c__law_mul) rfl rfl fun h => t_mulA (l_make hF) sp sq (by decide)
theorem l_less : LessR (E fuel (k + 1)) 35 := fun p q sp sq => givC (code := c__law_less) rfl rfl fun h => t_less sp sq (by decide)
theorem l_cell (ns : List Int) (j : Nat) : Giv (E fuel (k + 1)) 30 [.fl (ns.map .int), .int (j : Int)] (.int (cellI ns j)) := givC (code := c__law_cell) rfl rfl fun h => t_cell ns j
theorem l_rich (j : Nat) (z : Int) (sz : Sz 1048577 z) (hj : j ≤ 1000) : Giv (E fuel (k + 1)) 31 [.int z, .int (j : Int)] (.int (richI z j)) := givC (code := c__law_rich) rfl rfl fun h => t_rich sz hj
theorem l_dot (hF : 2 ^ 8900 ≤ fuel) : LDot (E fuel (k + 3)) 37 := fun n m v w o h hl sv sw hn h1 h2 h3 ho => by
  show callI fns sub fuel (k + 3) 37 [vv v, o] h = _
  rw [call_eq (code := c__law_dot) rfl rfl]
  exact t_ldot (l_add hF) (l_mul hF) hl sv sw hn h1 h2 h3 ho
theorem l_sums (hF : 2 ^ 8900 ≤ fuel) (rich : Int) (size count : Nat) (hs : size ≤ 100) (hc : count ≤ 100) : GivP (E fuel (k + 2)) 38 [.int rich, .int (size : Int), .int (count : Int)] (fun d => ∃ rows offs, d = sumD rows offs ∧ Sums size count 7 rows offs) := givPW (code := c__law_sums) rfl rfl fun h => t_lsums (l_make hF) hs hc
theorem l_network (hF : 2 ^ 8900 ≤ fuel) {ns : List Int} (hn : Ints ns) : GivP (E fuel (k + 3)) 39 [.fl (ns.map .int), .int 3, .int 3] (fun d => ∃ n ls out, d = netD n ls ∧ NetP 3 3 n ls out) := givPW (code := c__law_network) rfl rfl fun h => t_lnetwork (most := 3) (wide := 3) hn (l_cell ns) l_rich (l_sums hF) (by decide) (by decide) (by decide) (by decide)
theorem l_region (hF : 2 ^ 8900 ≤ fuel) {ns : List Int} (hn : Ints ns) {size : Nat} (hs : size ≤ 100) : GivP (E fuel (k + 3)) 42 [.fl (ns.map .int), .int (size : Int)] (fun d => ∃ lows highs bounds, d = regD lows highs bounds ∧ RegP size lows highs bounds) := givPW (code := c__law_region) rfl rfl fun h => t_lregion hn (l_cell ns) l_rich (l_make hF) (l_add hF) hs
theorem l_in (hF : 2 ^ 8900 ≤ fuel) {size : Nat} {lows highs p : List Rat} {bounds : List Bd} (R : RegP size lows highs bounds) (lp : p.length = size) (sp : Qs 50 p) (hs : size ≤ 30) : Giv (E fuel (k + 4)) 43 [regD lows highs bounds, vv p] (.bl (inB lows highs bounds p)) := givC (code := c__law_in) rfl rfl fun h => t_lin l_less (l_dot hF) R lp sp hs
theorem l_points (hF : 2 ^ 8900 ≤ fuel) {size count : Nat} {rich : Int} {lows highs : List Rat} {bounds : List Bd} {X : Exn → Hd → Prop} (R : RegP size lows highs bounds) (hs : size ≤ 30) (hc : count ≤ 100) (h : Hd) : WpE (callI fns sub fuel (k + 5) 44 [regD lows highs bounds, .int rich, .int (count : Int)] h) (fun d H => h <+: H ∧ ∃ (n : Nat) (ps : List (List Rat)), d = .ref n ∧ lstAt H n = some (ps.map vv) ∧ ps.length ≤ count ∧ ∀ p ∈ ps, p.length = size ∧ Qs 50 p ∧ inB lows highs bounds p = true) X := by
  rw [call_eq (code := c__law_points) rfl rfl]
  exact t_lpoints (l_make hF) (l_add hF) (l_mul hF) R (fun p lp sp => l_in hF R lp sp hs) hs hc
theorem l_values (hF : 2 ^ 8900 ≤ fuel) {w n m : Nat} {ls : List Lay} {p : List Rat} {X : Exn → Hd → Prop} (w1 : 1 ≤ w) (w2 : w ≤ 30) (wf : WFl 7 n ls m) (hn : n ≤ w) (wd : Wid w ls) (lp : p.length = n) (sp : Qs 50 p) (hb : bdL w ls 50 ≤ 4000) (hls : ls.length ≤ 1000) (hu : unitsL ls ≤ 1000) (h : Hd) :
    WpE (callI fns sub fuel (k + 4) 41 [netD n ls, vv p] h) (fun d H => h <+: H ∧ ∃ k : Nat, d = .tup [.ref k, vv (valsL ls p).2] ∧ lstAt H k = some ((valsL ls p).1.map rv) ∧ h.length ≤ k) X := by
  rw [call_eq (code := c__law_values) rfl rfl]
  exact t_lvalues (l_add hF) (l_dot hF) w1 w2 wf hn wd lp sp hb hls hu
end
end K40
/-! K40c: k40: pieces; the law. -/
namespace K40
open PySem PV
section
variable {fuel k : Nat}
theorem p_pattern {n m w : Nat} {ls : List Lay} {p : List Rat} (w1 : 1 ≤ w) (wf : WFl 7 n ls m) (n1 : 1 ≤ n) (hn : n ≤ w) (wd : Wid w ls) (lp : p.length = n) (sp : Qs 50 p) (hb : bdL w ls 50 ≤ 4000) (hls : ls.length ≤ 900) (hu : unitsL ls ≤ 1000) : Giv (E fuel (k + 9)) 27 [netD n ls, vv p] (.tup ((valsL ls p).1.map fun q => .bl (posB q))) :=
  givC (code := c_pattern) rfl rfl fun h => t_pattern (p_trail w1 wf n1 hn wd lp sp hb hls) wf lp hu
theorem p_uni : UniV (E fuel (k + 2)) 11 := fun n i hi hn => p_unit hi hn
theorem p_neg : NegR (E fuel (k + 1)) 5 := fun q => givC (code := c_negative) rfl rfl fun h => t_negative
theorem p_opp : OppV (E fuel (k + 2)) 15 := fun v hl => givC (code := c_opposite) rfl rfl fun h => t_opposite p_neg hl
theorem p_rows_of {lows highs : List Rat} {bounds : List Bd} (e : highs.length = lows.length) (hl : lows.length ≤ 100) (hb : bounds.length ≤ 1000) : Giv (E fuel (k + 3)) 26 [regD lows highs bounds] (.tup ((regRows lows highs bounds).map bndD)) := givC (code := c_rows_of) rfl rfl fun h => t_rows_of p_uni p_opp e hl hb
theorem p_zerV : ZerV (E fuel (k + 1)) 10 := fun n hn => p_zero hn
theorem p_addV : AddV (E fuel (k + 3)) 13 := fun v w hl sv sw => p_added v w hl sv sw
theorem p_scaV : ScaV (E fuel (k + 3)) 14 := fun c w hl sc sw => p_scaled hl sc sw
theorem p_wtd {n : Nat} : WtdP (E fuel (k + 4)) 49 n := fun h o fr C b flds row off fs eo es ef sr so kk hl hb hn => by
  rw [evL_call, call_eq (code := c_Piece__weighted) rfl rfl]
  exact t_weighted p_zerV p_addV p_scaV p_add p_mul eo es ef sr so kk hl hb hn
theorem p_bnt {n : Nat} : BntP (E fuel (k + 2)) 50 n := fun h o bl C flds f bd ph eo es eb ep el hp hn hb => by
  rw [evL_call, call_eq (code := c_Piece__bent) rfl rfl]
  exact t_bent p_zerV eo es eb ep el hp hn hb
theorem p_piece {n m : Nat} {ls : List Lay} {ph : List Bool} (wf : WFl 7 n ls m) (hn : n ≤ 3) (wd : Wid 3 ls) (hb : bdL 3 ls 1 ≤ 500) (hp : unitsL ls ≤ ph.length) (hp2 : ph.length ≤ 1000) (h : Hd) (Q : D → Hd → Prop) (X : Exn → Hd → Prop)
    (q : ∀ H, h <+: H → PieceAt h.length n ph 0 H (pieceL n ph ls (startF n) []).1 (pieceL n ph ls (startF n) []).2 → Q (.ref h.length) H) : WpE (mkO h.length ((E fuel (k + 5)).call 48 [.ref h.length, netD n ls, .tup (ph.map .bl)] (h ++ [.obj 0 []]))) Q X :=
  w_piece (ev' := E fuel (k + 4)) (code := c_Piece__init) (nn := 10) (fun h => by rw [evL_call, call_eq (code := c_Piece__init) rfl rfl]) (t_init (w := 3) (un := 11) (wt := 49) (bt := 50) (fun i hi => p_uni n i hi (by omega)) p_wtd p_bnt (by decide) wf hn wd (by omega) hp hp2) q
theorem p_piece_rows {n m : Nat} {ls : List Lay} {ph : List Bool} {lows highs : List Rat} {bounds : List Bd} (wf : WFl 7 n ls m) (hn : n ≤ 3) (wd : Wid 3 ls) (hb : bdL 3 ls 1 ≤ 500) (hp : unitsL ls ≤ ph.length) (hp2 : ph.length ≤ 1000) (R : RegP n lows highs bounds) :
    Giv (E fuel (k + 6)) 28 [netD n ls, regD lows highs bounds, .tup (ph.map .bl)] (.tup ((regRows lows highs bounds ++ ((pieceL n ph ls (startF n) []).1.zip ph).map pieceRow).map bndD)) := givC (code := c_piece_rows) rfl rfl fun h => by
  have l1 := R.l1
  have l2 := R.l2
  have l3 := R.l3
  have ez := congrArg (fun x => x.1.length) (piece_ev (n := n) (ph := ph) (p := List.replicate n 0) (ls := ls) (by simp))
  have el := (linL_len (ph := ph) (vs := []) (v := List.replicate n 0) wf (by simp)).1
  have sz := pieceL_sz (nn := n) (ph := ph) (by decide : 1 ≤ 3) wf hn wd (Nat.le_refl 1) (by simp [startF]) start_sz (bd := []) (by simp)
  simp only [List.length_map] at ez
  rw [el] at ez
  exact t_piece_rows (m := 0) p_opp p_neg (p_rows_of (by omega) (by omega) (by omega)) (fun h Q X q => p_piece wf hn wd hb hp hp2 h Q X q) (fun f hf => (sz.1 f hf).1) (by omega) (by rw [← ez]; simp; omega) (by unfold regRows; rw [List.length_append, rowsR_len]; omega)
theorem p_piece_form {n m : Nat} {ls : List Lay} {ph : List Bool} (wf : WFl 7 n ls m) (hn : n ≤ 3) (wd : Wid 3 ls) (hb : bdL 3 ls 1 ≤ 500) (hp : unitsL ls ≤ ph.length) (hp2 : ph.length ≤ 1000) (hm : m ≤ 1000) :
    Giv (E fuel (k + 6)) 29 [netD n ls, .tup (ph.map .bl)] (.tup [mv ((pieceL n ph ls (startF n) []).2.map (·.1)), vv ((pieceL n ph ls (startF n) []).2.map (·.2))]) := givC (code := c_piece_form) rfl rfl fun h => by
  have sz := pieceL_sz (nn := n) (ph := ph) (by decide : 1 ≤ 3) wf hn wd (Nat.le_refl 1) (by simp [startF]) start_sz (bd := []) (by simp)
  exact t_piece_form (fun h Q X q => p_piece wf hn wd hb hp hp2 h Q X q) (by rw [sz.2.2]; exact hm)
theorem l_units {n m : Nat} {ls : List Lay} (wf : WFl 7 n ls m) (hl : ls.length ≤ 1000) : Giv (E fuel (k + 1)) 40 [netD n ls] (.int (unitsL ls : Int)) := givC (code := c__law_units) rfl rfl fun h => t_lunits wf hl
theorem l_keeps (hF : 2 ^ 8900 ≤ fuel) {b : Bd} {p : List Rat} (hl : b.1.length = p.length) (lp : p.length ≤ 3) (s1 : Qs 500 b.1) (s2 : Qn 500 b.2) (sp : Qs 50 p) : Giv (E fuel (k + 4)) 45 [bndD b, vv p] (.bl (keepB p b)) := givC (code := c__law_keeps) rfl rfl fun h => t_keeps l_less (l_dot hF) hl s1 (s2.mono (by decide)) sp (by omega) (by omega) (by decide) (by decide)
theorem l_linear (hF : 2 ^ 8900 ≤ fuel) {n m : Nat} {ls : List Lay} {p : List Rat} {ph : List Bool} {X : Exn → Hd → Prop} (wf : WFl 7 n ls m) (hn : n ≤ 3) (wd : Wid 3 ls) (lp : p.length = n) (sp : Qs 50 p) (hb : bdL 3 ls 50 ≤ 4000) (hu : unitsL ls ≤ ph.length) (hp2 : ph.length ≤ 1000) (h : Hd) :
    WpE (callI fns sub fuel (k + 4) 46 [netD n ls, .tup (ph.map .bl), vv p] h) (fun d H => h <+: H ∧ ∃ k : Nat, d = .tup [.ref k, vv (linL ph ls p []).2] ∧ lstAt H k = some ((linL ph ls p []).1.map rv) ∧ h.length ≤ k) X := by
  rw [call_eq (code := c__law_linear) rfl rfl]
  exact t_linear (w := 3) (l_add hF) (l_dot hF) (by decide) (by decide) wf hn wd lp sp hb hu hp2
end
end K40
/-! K40d: the law. -/
namespace K40
open PySem PV
section
variable {fuel k : Nat}
theorem all_take {α : Type} (f : α → Bool) : ∀ (xs : List α) (d : α) (n : Nat), n ≤ xs.length → (List.range n).all (fun i => f (xs.getD i d)) = (xs.take n).all f := fun xs d n => by
  induction n with
  | zero => intro _; rfl
  | succ n ih =>
    intro h
    rw [List.range_succ, List.all_append, ih (by omega), List.take_succ_eq_append_getElem (by omega), List.all_append]
    simp [List.getD_eq_getElem?_getD, show n < xs.length by omega]
/-- what holds for phases -/
structure PhOk (n m : Nat) (ls : List Lay) (p : List Rat) (drawn ph : List Bool) : Prop where
  len : ph.length = unitsL ls
  ok : ph = drawn ∨ linL ph ls p [] = valsL ls p
abbrev phD (ph : List Bool) : D := .tup (ph.map .bl)
/-- ahead of a turn over phases -/
def INV (h0 : Hd) (ns : List Int) (n : Nat) (ls : List Lay) (lows highs : List Rat) (bounds : List Bd) (rich : Int) (p : List Rat) (vr : Nat) (due turned drawn : List Bool) (m F : Nat) (r : List (List Bool)) (s : Sl) (H : Hd) : Prop :=
  (∃ v11 v14 v15 v16 v17 v18 v19 v20 : Option D, s = [some (.fl (ns.map .int)), some (netD n ls), some (regD lows highs bounds), some (.int rich), some (.int (unitsL ls : Int)), some (.int (F : Int)), some (vv p), some (.ref vr), some (vv (valsL ls p).2), none, some (phD due), v11, some (phD turned), some (phD drawn), v14, v15, v16, v17, v18, v19, v20]) ∧ h0 <+: H ∧ ∀ ph ∈ r, PhOk n m ls p drawn ph
def bodyP : QSs := match c_law with
  | .cons _ (.cons _ (.cons _ (.cons _ (.cons _ (.cons (.for _ _ (.cons _ (.cons _ (.cons _ (.cons _ (.cons _ (.cons (.for _ _ b) _)))))) ) _))))) => b
  | _ => .nil
theorem s_body (hF : 2 ^ 8900 ≤ fuel) {h0 : Hd} {ns : List Int} {n m : Nat} {ls : List Lay} {lows highs : List Rat} {bounds : List Bd} {rich : Int} {p : List Rat} {vr : Nat} {due turned drawn : List Bool} {P : Po} {F : Nat} (eF : F = 2 * n + bounds.length) (W : NetP 3 3 n ls m) (R : RegP n lows highs bounds) (lp : p.length = n) (sp : Qs 50 p)
    (ph : List Bool) (r : List (List Bool)) (s : Sl) (H : Hd) (I : INV h0 ns n ls lows highs bounds rich p vr due turned drawn m F (ph :: r) s H) :
    WpS (exSs (E fuel (k + 9)) bodyP (s.set 14 (some (phD ph))) H) ⟨INV h0 ns n ls lows highs bounds rich p vr due turned drawn m F r, P.rt, P.nx, INV h0 ns n ls lows highs bounds rich p vr due turned drawn m F r, P.ex⟩ := by
  obtain ⟨⟨v11, v14, v15, v16, v17, v18, v19, v20, rfl⟩, g0, kk⟩ := I
  have K := kk ph List.mem_cons_self
  have kr : ∀ x ∈ r, PhOk n m ls p drawn x := fun x hx => kk x (List.mem_cons_of_mem _ hx)
  have hn := W.n2
  have n1 := W.n1
  have wd : Wid 3 ls := W.wid
  have b1 := plain_bd1 W.pl W.len
  have b50 := plain_bd W.pl W.len
  have ul := units_le W.wf
  have wl := W.len
  have m2 := W.o2
  have l1 := R.l1
  have l2 := R.l2
  have l3 := R.l3
  have plen := K.len
  have pe := piece_ev (n := n) (ph := ph) (p := p) (ls := ls) lp
  have ll := linL_len (ph := ph) (vs := []) (v := p) W.wf lp
  have sz := pieceL_sz (nn := n) (ph := ph) (by decide : 1 ≤ 3) W.wf hn wd (Nat.le_refl 1) (by simp [startF]) start_sz (bd := []) (by simp)
  have c1 : ∀ h, callI fns sub fuel (k + 9) 28 [netD n ls, regD lows highs bounds, phD ph] h = _ := p_piece_rows (k := k + 3) W.wf hn wd b1 (by omega) (by omega) R
  have c2 : ∀ h, callI fns sub fuel (k + 9) 29 [netD n ls, phD ph] h = _ := p_piece_form (k := k + 3) W.wf hn wd b1 (by omega) (by omega) (by omega)
  have c3 := fun (X : Exn → Hd → Prop) h => l_linear (fuel := fuel) (k := k + 5) (X := X) hF W.wf hn wd lp sp b50 (show unitsL ls ≤ ph.length by omega) (by omega) h
  have c5 : ∀ h, callI fns sub fuel (k + 9) 43 [regD lows highs bounds, vv p] h = _ := l_in (k := k + 5) hF R lp sp (by omega)
  rw [pe] at c3 ll
  generalize hB : (pieceL n ph ls (startF n) []).1 = B at c1 c3 sz ll pe
  generalize hO : (pieceL n ph ls (startF n) []).2 = O at c2 c3 sz ll pe
  have lB : B.length = unitsL ls := by simpa using ll.1
  have lO : O.length = m := by simpa using ll.2
  have lz : ((B.zip ph).map pieceRow).length = unitsL ls := by rw [List.length_map, List.length_zip]; omega
  have lR : (regRows lows highs bounds).length = 2 * n + bounds.length := by unfold regRows; rw [List.length_append, rowsR_len]; omega
  have kA : (regRows lows highs bounds).all (keepB p) = inB lows highs bounds p := keep_reg (by omega)
  have sR : ∀ b ∈ regRows lows highs bounds, b.1.length = n ∧ Qs 500 b.1 ∧ Qn 500 b.2 := by
    intro b hb
    rcases List.mem_append.mp hb with g | g
    · clear hb kA lR c5
      have H : ∀ i, i ≤ n → ∀ b ∈ rowsR lows highs i, b.1.length = n ∧ Qs 500 b.1 ∧ Qn 500 b.2 := by
        intro i
        induction i with
        | zero => intro _ b hb; cases hb
        | succ i ih =>
          intro hi b hb
          rcases List.mem_append.mp hb with g | g
          · exact ih (by omega) b g
          · have u1 : Qs 1 (unitR n i) := (start_sz (n := n) (unitR n i, 0) (List.mem_map.mpr ⟨i, List.mem_range.mpr (by omega), rfl⟩)).2.1
            have u2 := unit_len (n := n) (i := i) (by omega)
            have q1 := R.s1 lows[i] (List.getElem_mem (by omega))
            have q2 := R.s2 highs[i] (List.getElem_mem (by omega))
            rw [l1, PV.getD_at (v := highs) (i := i) (by omega), PV.getD_at (v := lows) (i := i) (by omega)] at g
            simp only [List.mem_cons, List.not_mem_nil, or_false] at g
            rcases g with rfl | rfl
            · exact ⟨u2, u1.mono (by decide), q2.mono (by decide)⟩
            · refine ⟨by simpa using u2, fun q hq => ?_, ?_⟩
              · obtain ⟨x, hx, rfl⟩ := List.mem_map.mp hq
                have := u1 x hx
                exact ⟨by simpa using (this.1.neg).mono (by decide), by simpa using this.2.mono (by decide)⟩
              · exact ⟨by simpa using (q1.1.neg).mono (by decide), by simpa using q1.2.mono (by decide)⟩
      rw [l1] at g
      exact H n (Nat.le_refl _) b g
    · exact ⟨R.b1 b g, (R.b2 b g).mono (by decide), (R.b3 b g).mono (by decide)⟩
  have sP : ∀ b ∈ (B.zip ph).map pieceRow, b.1.length = n ∧ Qs 500 b.1 ∧ Qn 500 b.2 := by
    intro b hb
    obtain ⟨⟨f, x⟩, hx, rfl⟩ := List.mem_map.mp hb
    obtain ⟨f1, f2, f3⟩ := sz.1 f (List.of_mem_zip hx).1
    cases x with
    | true =>
      refine ⟨by simpa [pieceRow] using f1, fun q hq => ?_, f3.mono b1⟩
      obtain ⟨y, hy, rfl⟩ := List.mem_map.mp (show q ∈ f.1.map fun q => -q from hq)
      have := (f2 y hy).mono b1
      exact ⟨by simpa using this.1.neg, by simpa using this.2⟩
    | false => exact ⟨f1, f2.mono b1, by simpa [pieceRow] using (f3.1.neg).mono b1, by simpa [pieceRow] using f3.2.mono b1⟩
  generalize hA : regRows lows highs bounds ++ (B.zip ph).map pieceRow = A at c1
  have sA : ∀ b ∈ A, b.1.length = n ∧ Qs 500 b.1 ∧ Qn 500 b.2 := by
    intro b hb
    rw [← hA] at hb
    rcases List.mem_append.mp hb with g | g
    · exact sR b g
    · exact sP b g
  have lA : A.length = F + unitsL ls := by rw [← hA, List.length_append, lR, lz, eF]
  have tA : A.take F = regRows lows highs bounds := by rw [← hA, eF, ← lR, List.take_left']; rfl
  have dA : ∀ i (hi : i < unitsL ls), A[F + i]'(by omega) = pieceRow (B[i]'(by omega), ph[i]'(by omega)) := fun i hi => by
    have e : F = (regRows lows highs bounds).length := by rw [lR, eF]
    subst hA
    rw [List.getElem_append_right (by omega)]
    simp [e]
  have ck : ∀ b ∈ A, ∀ h, callI fns sub fuel (k + 9) 45 [bndD b, vv p] h = .ok (.bl (keepB p b)) h := fun b hb => by
    obtain ⟨x1, x2, x3⟩ := sA b hb
    exact l_keeps (k := k + 5) hF (by omega) (by omega) x2 x3 sp
  have atA : ∀ i (hi : i < A.length), L2.atI (A.map bndD) (i : Int) = some (bndD A[i]) := fun i hi => by rw [at_n (by simpa using hi)]; simp
  have e00 : ((F + unitsL ls : Nat) : Int) = (F : Int) + (unitsL ls : Int) := by omega
  simp only [bodyP, c_law]
  simp [c1, c2, arrD, lA, e00]
  refine WpE_mono (c3 _ H) ?_ (fun e h hx => hx)
  rintro d G1 ⟨g1, vk, rfl, ev1, hk⟩
  have e0 : ((F + unitsL ls : Nat) : Int) = (F : Int) + (unitsL ls : Int) := by omega
  have eAl : (A.length : Int) = (F : Int) + (unitsL ls : Int) := by rw [lA]; omega
  simp [eAl, rngV_k rfl (show F ≤ 1000000 by omega)]
  obtain ⟨kp, hkp, hka⟩ : ∃ kp : Nat → Bool, (∀ i (hi : i < A.length), kp i = keepB p A[i]) ∧ (List.range F).all kp = inB lows highs bounds p := by
    refine ⟨fun i => keepB p (A.getD i ([], 0)), fun i hi => by simp [List.getD_eq_getElem?_getD, hi], ?_⟩
    rw [all_take (keepB p) A ([], 0) F (by omega), tA, kA]
  refine WpE_lc (List.range F) (fun i : Nat => .int (i : Int)) (fun i => .bl (kp i)) rfl (by simp; omega) (fun _ _ => rfl) ?_ ?_
  · intro i hi
    have hi : i < F := by simpa using hi
    refine ⟨_, rfl, fun G g => ⟨rfl, ?_⟩⟩
    have c := ck A[i] (List.getElem_mem (by omega))
    rw [hkp i (by omega)]
    simp [wipeD, arrD, atA i (by omega), c]
  · intro G2 g2
    have eb : bls ((List.range F).map fun i => D.bl (kp i)) = some ((List.range F).map kp) := bls_map _ _
    have ev2 := lst_old (lst_pre ev1 g2) [.lst ((List.range F).map fun i => D.bl (kp i))]
    have g3 := pre_app (l := [.lst ((List.range F).map fun i => D.bl (kp i))]) ((g0.trans g1).trans g2)
    simp [eb, hka, c5, arrD]
    generalize (G2 ++ [Cell.lst ((List.range F).map fun i => D.bl (kp i))]) = G3 at ev2 g3 ⊢
    simp [rngV_k rfl (show unitsL ls ≤ 1000000 by omega)]
    refine WpS_rng (unitsL ls) (fun i s G => (∃ v11 v20 : Option D, s = [some (.fl (ns.map .int)), some (netD n ls), some (regD lows highs bounds), some (.int rich), some (.int (unitsL ls : Int)), some (.int (F : Int)), some (vv p), some (.ref vr), some (vv (valsL ls p).2), none, some (phD due), v11, some (phD turned), some (phD drawn), some (phD ph), some (.tup (A.map bndD)), some (mv (O.map (·.1))), some (vv (O.map (·.2))), some (.ref vk), some (vv (O.map fun f => evF f p)), v20]) ∧ G = G3) ⟨⟨_, _, rfl⟩, rfl⟩ ?_ ?_
    · rintro i hi _ G ⟨⟨v11, v20, rfl⟩, rfl⟩
      refine ⟨_, bindG_nm _ _ _, ?_⟩
      have hpi : i < ph.length := by omega
      have hBi : i < B.length := by omega
      have atB : L2.atI ((B.map fun f => evF f p).map rv) (i : Int) = some (rv (evF B[i] p)) := by rw [at_n (by simpa using hBi)]; simp
      have e1 : ((F + i : Nat) : Int) = (F : Int) + (i : Int) := by omega
      have a2 := atA (F + i) (by omega)
      rw [dA i hi, e1] at a2
      have c := ck (pieceRow (B[i], ph[i])) (by rw [← dA i hi]; exact List.getElem_mem _)
      rw [keep_piece] at c
      rw [List.map_map] at atB
      cases hb : ph[i] with
      | true =>
        rw [hb] at a2 c
        simp [fl_at hpi, hb, ev2, atB, a2, arrD, c]
      | false =>
        rw [hb] at a2 c
        simp [fl_at hpi, hb, ev2, atB, a2, arrD, c]
    · rintro _ G ⟨⟨v11, v20, rfl⟩, rfl⟩
      have lo : biV .len [vv (O.map (·.2))] G = .ok (.int (O.length : Int)) G := by rw [len_vv]; simp
      simp [lo, rngV_k rfl (show O.length ≤ 1000000 by omega)]
      refine WpE_lc (List.range O.length) (fun i : Nat => .int (i : Int)) (fun i => rv ((O.map fun f => evF f p).getD i 0)) rfl (by simp; omega) (fun _ _ => rfl) ?_ ?_
      · intro i hi
        have hi : i < O.length := by simpa using hi
        refine ⟨_, rfl, fun G5 g5 => ⟨rfl, ?_⟩⟩
        obtain ⟨x1, x2, x3⟩ := sz.2.1 O[i] (List.getElem_mem hi)
        have x2 := x2.mono b1
        have x3 := x3.mono b1
        have at1 : idxV (mv (O.map (·.1))) (.int (i : Int)) G5 = .ok (vv O[i].1) G5 := by
          rw [mv_at (by simpa using hi)]
          simp
        have at2 : idxV (vv (O.map (·.2))) (.int (i : Int)) G5 = .ok (rv O[i].2) G5 := by
          rw [at_vv (by simpa using hi)]
          simp
        have d1 : callI fns sub fuel (k + 9) 37 [vv O[i].1, vv p] G5 = .ok (rv (dotL O[i].1 p)) G5 := l_dot (k := k + 6) hF 500 50 O[i].1 p (vv p) G5 (by omega) x2 sp (by rw [x1]; omega) (by omega) (by decide) (by decide) (idx_vv p G5)
        have qd : Qn 4000 (dotL O[i].1 p) := (dotL_sz x2 sp).mono (by rw [x1]; omega)
        have d2 : ∀ h, callI fns sub fuel (k + 9) 33 [rv (dotL O[i].1 p), rv O[i].2] h = .ok (rv (evF O[i] p)) h := l_add (k := k + 7) hF _ _ qd (x3.mono (by decide))
        have gd : (O.map fun f => evF f p).getD i 0 = evF O[i] p := by
          rw [PV.getD_at (by simpa using hi)]
          simp
        rw [gd]
        simp [wipeD, arrD, at1, at2, d1, d2]
      · intro G5 g5
        have er : (List.range O.length).map (fun i => rv ((O.map fun f => evF f p).getD i 0)) = (O.map fun f => evF f p).map rv := by
          apply List.ext_getElem
          · simp
          · intro i h1 h2
            have : i < O.length := by simpa using h2
            simp [List.getD_eq_getElem?_getD, this]
        rw [er]
        generalize hV : O.map (fun f => evF f p) = V at pe
        have eq1 : ∀ h, eqV h (.tup (V.map rv)) (vv V) = some true := fun h => by
          show eqV h (vv V) (vv V) = _
          rw [eqV_vv]
          simp
        have eq2 := fun h => eqV_bls ph drawn h
        have eq3 := fun h => eqV_vv V (valsL ls p).2 h
        have pf : h0 <+: G5 ++ [.lst (V.map rv)] := pre_app (g3.trans g5)
        simp [eq1, eq2]
        by_cases q : ph = drawn
        · simp [q]
          exact ⟨⟨_, _, _, _, _, _, _, _, rfl⟩, pf, kr⟩
        · have e := K.ok.resolve_left q
          rw [pe] at e
          have e : V = (valsL ls p).2 := congrArg Prod.snd e
          rw [decide_eq_true e] at eq3
          simp [q, eq3]
          exact ⟨⟨_, _, _, _, _, _, _, _, rfl⟩, pf, kr⟩
end
end K40
/-! K40e: the law. -/
namespace K40
open PySem PV
section
variable {fuel k : Nat}
theorem num_pos {q : Rat} : 0 < q.num ↔ 0 < q := by
  have := num_neg (q := -q)
  have e : (-q).num = -q.num := by simp
  rw [e] at this
  constructor
  · intro h
    have := this.mp (by omega)
    grind
  · intro h
    have := this.mpr (by grind)
    omega
theorem ok_due {ls : List Lay} {p : List Rat} {f : Rat → Nat → Bool} {ph : List Bool} (hl : ph.length = (valsL ls p).1.length) (h : ∀ k (hk : k < (valsL ls p).1.length), ph.getD k false = (decide (0 < ((valsL ls p).1[k]).num) || (decide (((valsL ls p).1[k]).num = 0) && f (valsL ls p).1[k] k))) : linL ph ls p [] = valsL ls p := by
  rw [linL_ok ls p [] fun k hk => ?_]
  · simp
  · have e : ([] : List Rat).length + k = k := by simp
    rw [e, h k hk]
    by_cases a : 0 < ((valsL ls p).1[k]).num
    · have := num_pos.mp a
      simp [a]
      exact Rat.le_of_lt this
    · have n1 : ¬ 0 < (valsL ls p).1[k] := fun z => a (num_pos.mpr z)
      have n2 := Rat.not_lt.mp n1
      by_cases b : ((valsL ls p).1[k]).num = 0
      · have z := num0 b
        rw [z]
        simp
      · simp [a, b]
        exact n2
theorem e_law (hF : 2 ^ 8900 ≤ fuel) {ns : List Int} (hn : Ints ns) : ∃ h, callI fns sub fuel (k + 10) 47 [.fl (ns.map .int)] [] = .ok (.bl true) h := by
  rw [call_eq (code := c_law) (nn := 21) rfl rfl]
  refine ⟨[], fin_gives rfl ?_⟩
  obtain ⟨_, ⟨n, ls, m, rfl, W⟩, e1⟩ := l_network (fuel := fuel) (k := k + 6) hF hn []
  have n2 := W.n2
  have n1 := W.n1
  obtain ⟨_, ⟨lows, highs, bounds, rfl, R⟩, e2⟩ := l_region (fuel := fuel) (k := k + 6) hF hn (size := n) (by omega) []
  have e3 : ∀ h, callI fns sub fuel (k + 9) 30 [.fl (ns.map .int), .int 28] h = .ok (.int (cellI ns 28)) h := l_cell (k := k + 8) ns 28
  have e4 : ∀ h, callI fns sub fuel (k + 9) 31 [.int (cellI ns 28), .int 96] h = .ok (.int (richI (cellI ns 28) 96)) h := l_rich (k := k + 8) 96 _ (cell_sz hn 28) (by decide)
  have wl := W.len
  have ul := units_le W.wf
  have e5 : ∀ h, callI fns sub fuel (k + 9) 40 [netD n ls] h = .ok (.int (unitsL ls : Int)) h := l_units (k := k + 8) W.wf (by omega)
  have m2 : mulOk 2 (n : Int) = true := mulOk_n (by decide) (by omega)
  have e1 : callI fns sub fuel (k + 9) 39 [.fl (ns.map .int), .int 3, .int 3] [] = .ok (netD n ls) [] := e1
  have e2 : callI fns sub fuel (k + 9) 42 [.fl (ns.map .int), .int (n : Int)] [] = .ok (regD lows highs bounds) [] := e2
  have l1 := R.l1
  have l3 := R.l3
  obtain ⟨F, eF⟩ : ∃ F : Nat, F = 2 * n + bounds.length := ⟨_, rfl⟩
  have eF' : 2 * (n : Int) + (bounds.length : Int) = (F : Int) := by omega
  simp [c_law, startD, arrD, e1, e2, e3, e4, e5, m2, eF']
  generalize richI (cellI ns 28) 96 = rich
  refine WpE_mono (l_points (fuel := fuel) (k := k + 4) hF R (rich := rich) (count := 5) (by omega) (by decide) []) ?_ (fun e h hx => hx)
  rintro _ H0 ⟨g0, pr, ps, rfl, ep, lps, kps⟩
  have nn : decide ((1 : Nat) ≤ line) = true := by decide
  have x1 := lst_old ep [.lst [vv lows]]
  have x2 := lst_new H0 [vv lows]
  have ll : decide ((ps.map vv).length + [vv lows].length ≤ line) = true := decide_eq_true (Nat.le_trans (show _ ≤ 1000 by simp; omega) (by decide))
  have ea : addV (.ref pr) (.ref H0.length) (H0 ++ [.lst [vv lows]]) = .ok (.ref (H0.length + 1)) (H0 ++ [.lst [vv lows], .lst ((ps ++ [lows]).map vv)]) := by
    unfold addV
    simp only [x1, x2, ll]
    simp
  have x3 : lstAt (H0 ++ [.lst [vv lows], .lst ((ps ++ [lows]).map vv)]) (H0.length + 1) = some ((ps ++ [lows]).map vv) := by
    rw [lst_offk]
    rfl
  have kp : ∀ p ∈ ps ++ [lows], p.length = n ∧ Qs 50 p := fun p hp => by
    rcases List.mem_append.mp hp with g | g
    · exact ⟨(kps p g).1, (kps p g).2.1⟩
    · rw [List.mem_singleton.mp g]
      exact ⟨l1, R.s1.mono (by decide)⟩
  generalize hps : ps ++ [lows] = qs at ea x3 kp
  generalize H0 ++ [.lst [vv lows], .lst (qs.map vv)] = G0 at ea x3
  simp [nn, ea, x3]
  refine WpS_forL qs vv (fun r s H => (∃ v6 v7 v8 v10 v11 v12 v13 v14 v15 v16 v17 v18 v19 v20 : Option D, s = [some (.fl (ns.map .int)), some (netD n ls), some (regD lows highs bounds), some (.int rich), some (.int (unitsL ls : Int)), some (.int (F : Int)), v6, v7, v8, none, v10, v11, v12, v13, v14, v15, v16, v17, v18, v19, v20]) ∧ G0 <+: H ∧ ∀ p ∈ r, p.length = n ∧ Qs 50 p) rfl ⟨⟨_, _, _, _, _, _, _, _, _, _, _, _, _, _, rfl⟩, List.prefix_refl _, kp⟩ ?_ ?_
  · rintro p r _ H ⟨⟨v6, v7, v8, v10, v11, v12, v13, v14, v15, v16, v17, v18, v19, v20, rfl⟩, g, kr⟩
    obtain ⟨lp, sp⟩ := kr p List.mem_cons_self
    have kr' : ∀ p ∈ r, p.length = n ∧ Qs 50 p := fun x hx => kr x (List.mem_cons_of_mem _ hx)
    refine ⟨fix_of (lst_pre x3 g), _, bindG_nm _ _ _, ?_⟩
    have wd : Wid 3 ls := W.wid
    have b50 := plain_bd W.pl W.len
    have vl := vals_len (v := p) W.wf lp
    have cp : ∀ h, callI fns sub fuel (k + 9) 27 [netD n ls, vv p] h = _ := p_pattern (w := 3) (by decide) W.wf n1 n2 wd lp sp b50 (by omega) (by omega)
    simp [arrD]
    refine WpE_mono (l_values (fuel := fuel) (k := k + 5) (w := 3) hF (by decide) (by decide) W.wf n2 wd lp sp b50 (by omega) (by omega) H) ?_ (fun e h hx => hx)
    rintro _ H1 ⟨g1, vr, rfl, ev, hvr⟩
    generalize hv : (valsL ls p).1 = vs at ev cp vl
    generalize ho : (valsL ls p).2 = os at vl
    have lvs : vs.length = unitsL ls := vl.1
    simp [ev]
    refine WpE_lc vs rv (fun q => .bl (posB q)) rfl (by omega) (fun G gg => fix_of (lst_pre ev gg)) ?_ ?_
    · intro q _
      refine ⟨_, rfl, fun G gg => ⟨rfl, ?_⟩⟩
      simp [wipeD, posB]
    intro H2 g2
    have dl : vs.map (fun q => D.bl (posB q)) = (vs.map posB).map .bl := by rw [List.map_map]; rfl
    rw [dl] at cp ⊢
    generalize hdue : vs.map posB = due at cp ⊢
    have ldue : due.length = unitsL ls := by rw [← hdue, List.length_map, lvs]
    have ev2 := lst_old (lst_pre ev g2) [.lst (due.map .bl)]
    have gg2 := pre_app (l := [.lst (due.map .bl)]) ((g.trans g1).trans g2)
    have eqd := fun h => eqV_bls due due h
    simp [arrD, cp, eqd]
    generalize H2 ++ [.lst (due.map .bl)] = G2 at ev2 gg2 ⊢
    simp [rngV_k rfl (show unitsL ls ≤ 1000000 by omega)]
    obtain ⟨tn, htn⟩ : ∃ tn : Nat → Bool, ∀ i, tn i = (due.getD i false || (decide ((vs.getD i 0).num = 0) && decide ((rich.fdiv (3 + (i : Int))).fmod 2 = 0))) := ⟨_, fun _ => rfl⟩
    refine WpE_lc (List.range (unitsL ls)) (fun i : Nat => .int (i : Int)) (fun i => .bl (tn i)) rfl (by simp; omega) (fun _ _ => rfl) ?_ ?_
    · intro i hi
      have hi : i < unitsL ls := by simpa using hi
      refine ⟨_, rfl, fun G gg => ⟨rfl, ?_⟩⟩
      have gd : due.getD i false = due[i]'(by omega) := by simp [List.getD_eq_getElem?_getD, show i < due.length by omega]
      have gv : vs.getD i 0 = vs[i]'(by omega) := PV.getD_at (by omega)
      have dv : divOk rich (3 + (i : Int)) = true := div_ok rich (by omega) (by omega)
      have atv : L2.atI (vs.map rv) (i : Int) = some (rv (vs[i]'(by omega))) := by rw [at_n (by simp; omega)]; simp
      have ev3 := lst_pre ev2 gg
      rw [htn, gd, gv]
      cases hd : due[i]'(by omega) with
      | true => simp [wipeD, fl_at (show i < due.length by omega), hd]
      | false =>
        by_cases hz : (vs[i]'(by omega)).num = 0
        · simp [wipeD, fl_at (show i < due.length by omega), hd, ev3, atv, hz, dv]
        · simp [wipeD, fl_at (show i < due.length by omega), hd, ev3, atv, hz]
    intro H3 g3
    have tl : (List.range (unitsL ls)).map (fun i => D.bl (tn i)) = ((List.range (unitsL ls)).map tn).map .bl := by rw [List.map_map]; rfl
    rw [tl]
    have ltu : ((List.range (unitsL ls)).map tn).length = unitsL ls := by simp
    have htu : ∀ i, i < unitsL ls → ((List.range (unitsL ls)).map tn).getD i false = tn i := fun i hi => by simp [List.getD_eq_getElem?_getD, hi]
    generalize (List.range (unitsL ls)).map tn = turned at ltu htu ⊢
    have gg3 := pre_app (l := [.lst (turned.map .bl)]) (gg2.trans g3)
    simp
    generalize H3 ++ [.lst (turned.map .bl)] = G3 at gg3 ⊢
    simp [rngV_k rfl (show unitsL ls ≤ 1000000 by omega)]
    obtain ⟨dn, hdn⟩ : ∃ dn : Nat → Bool, ∀ i, dn i = decide ((rich.fdiv (5 + (i : Int))).fmod 2 = 0) := ⟨_, fun _ => rfl⟩
    refine WpE_lc (List.range (unitsL ls)) (fun i : Nat => .int (i : Int)) (fun i => .bl (dn i)) rfl (by simp; omega) (fun _ _ => rfl) ?_ ?_
    · intro i hi
      have hi : i < unitsL ls := by simpa using hi
      refine ⟨_, rfl, fun G gg => ⟨rfl, ?_⟩⟩
      have dv : divOk rich (5 + (i : Int)) = true := div_ok rich (by omega) (by omega)
      rw [hdn]
      simp [wipeD, dv]
    intro H4 g4
    have dl2 : (List.range (unitsL ls)).map (fun i => D.bl (dn i)) = ((List.range (unitsL ls)).map dn).map .bl := by rw [List.map_map]; rfl
    rw [dl2]
    have ldr : ((List.range (unitsL ls)).map dn).length = unitsL ls := by simp
    generalize (List.range (unitsL ls)).map dn = drawn at ldr ⊢
    have gg4 := pre_app (l := [.lst (drawn.map .bl)]) (gg3.trans g4)
    simp
    have x5 : lstAt (H4 ++ [.lst (drawn.map .bl), .lst [phD due, phD turned, phD drawn]]) (H4.length + 1) = some [phD due, phD turned, phD drawn] := by
      rw [lst_offk]
      rfl
    have gg5 : G0 <+: H4 ++ [.lst (drawn.map .bl), .lst [phD due, phD turned, phD drawn]] := pre_app (gg3.trans g4)
    generalize H4 ++ [.lst (drawn.map .bl), .lst [phD due, phD turned, phD drawn]] = G5 at x5 gg5 ⊢
    have kd : PhOk n m ls p drawn due := ⟨ldue, .inr (ok_due (f := fun _ _ => false) (by rw [hv, lvs, ldue]) fun i hi => by
      subst hv
      rw [← hdue]
      simp [List.getD_eq_getElem?_getD, hi, posB])⟩
    have kt : PhOk n m ls p drawn turned := ⟨ltu, .inr (ok_due (f := fun _ i => decide ((rich.fdiv (3 + (i : Int))).fmod 2 = 0)) (by rw [hv, lvs, ltu]) fun i hi => by
      subst hv
      rw [htu i (by omega), htn, ← hdue, PV.getD_at hi]
      simp [List.getD_eq_getElem?_getD, hi, posB])⟩
    refine WpS_forL [due, turned, drawn] phD (fun r s H => INV G5 ns n ls lows highs bounds rich p vr due turned drawn m F r s H) rfl ⟨?_, List.prefix_refl _, ?_⟩ ?_ ?_
    · rw [ho]
      exact ⟨_, _, _, _, _, _, _, _, rfl⟩
    · intro ph hph
      simp only [List.mem_cons, List.not_mem_nil, or_false] at hph
      rcases hph with rfl | rfl | rfl
      · exact kd
      · exact kt
      · exact ⟨ldr, .inl rfl⟩
    · intro ph r s H I
      refine ⟨fix_of (lst_pre x5 I.2.1), _, bindG_nm _ _ _, ?_⟩
      exact s_body hF eF W R lp sp ph r s H I
    · rintro s H ⟨⟨v11, v14, v15, v16, v17, v18, v19, v20, rfl⟩, gz, _⟩
      refine ⟨fix_of (lst_pre x5 gz), ?_⟩
      simp
      exact ⟨gg5.trans gz, fun p hp => kr' p hp⟩
  · rintro _ H ⟨⟨v6, v7, v8, v10, v11, v12, v13, v14, v15, v16, v17, v18, v19, v20, rfl⟩, g, _⟩
    refine ⟨fix_of (lst_pre x3 g), ?_⟩
    simp
end
end K40
open PySem PySem.W PySem.Calls in
theorem PySem.Challenge.cw_kinkatlas_k40_pieces_holds : PySem.Challenge.rw_kinkatlas_k40_pieces.Holds := by
  refine K40.done (fuel := 2 ^ 8900) (k := 9) ⟨by decide, by decide, by decide⟩ fun ns hl hb => K40.e_law (k := 0) (Nat.le_refl _) fun z hz => PV.sz_bits (hb z hz)
