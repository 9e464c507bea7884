import PyProof.Rows.All
import HandS.ForMost
import HandS.TupAny
import HandS.TupMul
import HandS.Wide
import HandS.Exc
import HandS.ExcOwn
import HandS.CallSlots
import HandS.Flow
import HandS.Gcd
import HandS.Zip
import HandS.IsInst
import HandS.Defaults
import HandS.ExcIs
import HandS.ExcField
import HandS.ExcInit
import HandS.More
import PyProof.ExcBaseAll.ValueError
import KE.GoesMore
import PyProof.EnumMake
import HandS.Iter
import HandS.CallRecv
import HandS.TryOnly
import HandS.Ends
import HandS.EndBits
import HandS.HeadEnd
import HandS.Head0
import HandS.Head1
import HandS.Head2
import HandS.Head3
import HandS.Codes
import HandS.HeadHook1
import HandS.HeadHook2
import HandS.HeadHook3
import HandS.HeadHook4
import PySem.Challenge.RW_kinkatlas_k66_code_is_checked
set_option Elab.async false
set_option linter.all false
set_option maxRecDepth 100000
set_option maxHeartbeats 0
/-! PVA: deep values, position-free code, the pure evaluator. -/
namespace PV
open PySem

/-- deep values: a list, an object is a place n of the deep heap -/
inductive D where
  | non | bl (b : Bool) | int (i : Int) | str (s : Str) | tup (xs : List D) | fl (xs : List D) | ref (n : Nat)

inductive Cell where
  | lst (xs : List D) | obj (C : Nat) (fs : List (Str × D)) | dct (kvs : List (L2.Key × D))
abbrev Hd := List Cell
abbrev Sl := List (Option D)
structure Exn where
  cls : Nat
  fs : List (Str × D)
inductive Out (α : Type) where
  | ok (a : α) (h : Hd) | ex (e : Exn) (h : Hd) | no
def Out.bind {α β : Type} : Out α → (α → Hd → Out β) → Out β
  | .ok a h, f => f a h
  | .ex e h, _ => .ex e h
  | .no, _ => .no

/-! ### equality of deep values -/
mutual
def D.beq : D → D → Bool
  | .non, .non => true
  | .bl a, .bl b => a == b
  | .int a, .int b => a == b
  | .str a, .str b => a == b
  | .ref a, .ref b => a == b
  | .tup a, .tup b => D.beqs a b
  | .fl a, .fl b => D.beqs a b
  | _, _ => false
def D.beqs : List D → List D → Bool
  | [], [] => true
  | x :: xs, y :: ys => D.beq x y && D.beqs xs ys
  | _, _ => false
end
mutual
theorem D.beq_refl : ∀ d : D, D.beq d d = true
  | .non => by simp [D.beq]
  | .bl _ => by simp [D.beq]
  | .int _ => by simp [D.beq]
  | .str _ => by simp [D.beq]
  | .ref _ => by simp [D.beq]
  | .tup xs => by simp only [D.beq]; exact D.beqs_refl xs
  | .fl xs => by simp only [D.beq]; exact D.beqs_refl xs
theorem D.beqs_refl : ∀ xs : List D, D.beqs xs xs = true
  | [] => by simp [D.beqs]
  | x :: xs => by simp only [D.beqs, D.beq_refl x, D.beqs_refl xs, Bool.and_self]
end
mutual
theorem D.eq_of_beq : ∀ a b : D, D.beq a b = true → a = b
  | .non, b, h => by cases b <;> simp [D.beq] at h <;> rfl
  | .bl _, b, h => by cases b <;> simp [D.beq] at h; rw [h]
  | .int _, b, h => by cases b <;> simp [D.beq] at h; rw [h]
  | .str _, b, h => by cases b <;> simp [D.beq] at h; rw [h]
  | .ref _, b, h => by cases b <;> simp [D.beq] at h; rw [h]
  | .tup xs, b, h => by
    cases b with
    | tup ys => simp only [D.beq] at h; rw [D.eq_of_beqs xs ys h]
    | _ => simp [D.beq] at h
  | .fl xs, b, h => by
    cases b with
    | fl ys => simp only [D.beq] at h; rw [D.eq_of_beqs xs ys h]
    | _ => simp [D.beq] at h
theorem D.eq_of_beqs : ∀ a b : List D, D.beqs a b = true → a = b
  | [], b, h => by cases b <;> simp [D.beqs] at h <;> rfl
  | x :: xs, b, h => by
    cases b with
    | nil => simp [D.beqs] at h
    | cons y ys =>
      simp only [D.beqs, Bool.and_eq_true] at h
      rw [D.eq_of_beq x y h.1, D.eq_of_beqs xs ys h.2]
end
/-! every place it names is below n -/
mutual
def D.lt (n : Nat) : D → Bool
  | .ref k => decide (k < n)
  | .tup xs => D.lts n xs
  | .fl xs => D.lts n xs
  | _ => true
def D.lts (n : Nat) : List D → Bool
  | [] => true
  | x :: xs => D.lt n x && D.lts n xs
end
def fsLt (n : Nat) : List (Str × D) → Bool
  | [] => true
  | x :: xs => D.lt n x.2 && fsLt n xs
def kvLt (n : Nat) : List (L2.Key × D) → Bool
  | [] => true
  | x :: xs => D.lt n x.2 && kvLt n xs
def Cell.lt (n : Nat) : Cell → Bool
  | .lst xs => D.lts n xs
  | .obj _ fs => fsLt n fs
  | .dct kvs => kvLt n kvs
def fsBeq : List (Str × D) → List (Str × D) → Bool
  | [], [] => true
  | x :: xs, y :: ys => x.1 == y.1 && D.beq x.2 y.2 && fsBeq xs ys
  | _, _ => false
def kvBeq : List (L2.Key × D) → List (L2.Key × D) → Bool
  | [], [] => true
  | x :: xs, y :: ys => decide (x.1 = y.1) && D.beq x.2 y.2 && kvBeq xs ys
  | _, _ => false
theorem fsBeq_refl : ∀ xs, fsBeq xs xs = true
  | [] => rfl
  | x :: xs => by simp [fsBeq, D.beq_refl, fsBeq_refl xs]
theorem kvBeq_refl : ∀ xs, kvBeq xs xs = true
  | [] => rfl
  | x :: xs => by simp [kvBeq, D.beq_refl, kvBeq_refl xs]
theorem eq_of_fsBeq : ∀ a b, fsBeq a b = true → a = b
  | [], b, h => by cases b <;> simp [fsBeq] at h <;> rfl
  | (f, x) :: xs, b, h => by
    cases b with
    | nil => simp [fsBeq] at h
    | cons y ys =>
      obtain ⟨g, y⟩ := y
      simp only [fsBeq, Bool.and_eq_true, beq_iff_eq] at h
      rw [h.1.1, D.eq_of_beq x y h.1.2, eq_of_fsBeq xs ys h.2]
theorem eq_of_kvBeq : ∀ a b, kvBeq a b = true → a = b
  | [], b, h => by cases b <;> simp [kvBeq] at h <;> rfl
  | (f, x) :: xs, b, h => by
    cases b with
    | nil => simp [kvBeq] at h
    | cons y ys =>
      obtain ⟨g, y⟩ := y
      simp only [kvBeq, Bool.and_eq_true, decide_eq_true_eq] at h
      rw [h.1.1, D.eq_of_beq x y h.1.2, eq_of_kvBeq xs ys h.2]
def Cell.beq : Cell → Cell → Bool
  | .lst a, .lst b => D.beqs a b
  | .obj C a, .obj E b => C == E && fsBeq a b
  | .dct a, .dct b => kvBeq a b
  | _, _ => false
theorem Cell.beq_refl : ∀ c : Cell, Cell.beq c c = true
  | .lst xs => D.beqs_refl xs
  | .obj C fs => by simp [Cell.beq, fsBeq_refl]
  | .dct kvs => kvBeq_refl kvs
theorem Cell.eq_of_beq : ∀ a b : Cell, Cell.beq a b = true → a = b
  | .lst xs, b, h => by cases b <;> simp [Cell.beq] at h; rw [D.eq_of_beqs _ _ h]
  | .obj C fs, b, h => by
    cases b <;> simp [Cell.beq] at h
    rw [h.1, eq_of_fsBeq _ _ h.2]
  | .dct kvs, b, h => by cases b <;> simp [Cell.beq] at h; rw [eq_of_kvBeq _ _ h]

/-! ### a def's end: what it made and let go is dropped -/
def keepsCells (n : Nat) : Hd → Hd → Bool
  | [], _ => true
  | _ :: _, [] => false
  | a :: r, b :: s => (Cell.beq a b || Cell.lt n b) && keepsCells n r s
/-- h: the heap at the entry -/
def gcOk (h : Hd) (h' : Hd) : Bool := keepsCells h.length h h'
def gc (h : Hd) (d : D) (h' : Hd) : Out D := if gcOk h h' && D.lt h.length d then .ok d (h'.take h.length) else .ok d h'
def gcE (h : Hd) (e : Exn) (h' : Hd) : Out D := if gcOk h h' && fsLt h.length e.fs then .ex e (h'.take h.length) else .ex e h'

/-! ### operations by values -/
abbrev line : Nat := 16777216
def mulOk (i j : Int) : Bool := decide (i.natAbs.log2 + j.natAbs.log2 < 100000000)
def divOk (i j : Int) : Bool := decide (j ≠ 0) && !Builtin.divisionGoesByPylong i j
def powOk (i j : Int) : Bool := decide (0 ≤ j) && decide (((i.natAbs.log2 + 1 : Nat) : Int) * j ≤ 100000000)
def shlOk (i j : Int) : Bool := decide (0 ≤ j) && decide (((i.natAbs.log2 + 1 : Nat) : Int) + j ≤ 100000000)
def ret {α : Type} (c : Bool) (a : α) (h : Hd) : Out α := match c with
  | true => .ok a h
  | false => .no
def newL (xs : List D) (h : Hd) : Out D := .ok (.ref h.length) (h ++ [.lst xs])
def newLc (c : Bool) (xs : List D) (h : Hd) : Out D := match c with
  | true => newL xs h
  | false => .no
/-- the list at a place -/
def lstAt (h : Hd) (n : Nat) : Option (List D) := match h[n]? with
  | some (.lst xs) => some xs
  | _ => none

def addV (x y : D) (h : Hd) : Out D := match x, y with
  | .int i, .int j => .ok (.int (i + j)) h
  | .str a, .str b => ret (decide (a.length + b.length ≤ line)) (.str (a ++ b)) h
  | .tup a, .tup b => ret (decide (a.length + b.length ≤ line)) (.tup (a ++ b)) h
  | .ref a, .ref b => match lstAt h a, lstAt h b with
    | some xs, some ys => newLc (decide (xs.length + ys.length ≤ line)) (xs ++ ys) h
    | _, _ => .no
  | _, _ => .no
def mulV (x y : D) (h : Hd) : Out D := match x, y with
  | .int i, .int j => ret (mulOk i j) (.int (i * j)) h
  | .tup xs, .int k => ret (decide (k ≤ 1000) && decide (-1000 ≤ k) && decide (xs.length ≤ 1000)) (.tup (List.replicate k.toNat xs).flatten) h
  | .ref a, .int k => match lstAt h a with
    | some xs => newLc (decide (k ≤ 1000) && decide (-1000 ≤ k) && decide (xs.length ≤ 1000)) (List.replicate k.toNat xs).flatten h
    | _ => .no
  | _, _ => .no
def binV (op : Operator) (x y : D) (h : Hd) : Out D := match op with
  | .Add => addV x y h
  | .Mult => mulV x y h
  | .Sub => match x, y with
    | .int i, .int j => .ok (.int (i - j)) h
    | _, _ => .no
  | .FloorDiv => match x, y with
    | .int i, .int j => ret (divOk i j) (.int (i.fdiv j)) h
    | _, _ => .no
  | .Mod => match x, y with
    | .int i, .int j => ret (decide (j ≠ 0)) (.int (i.fmod j)) h
    | _, _ => .no
  | .Pow => match x, y with
    | .int i, .int j => ret (powOk i j) (.int (i ^ j.toNat)) h
    | _, _ => .no
  | .LShift => match x, y with
    | .int i, .int j => ret (shlOk i j) (.int (i * 2 ^ j.toNat)) h
    | _, _ => .no
  | _ => .no
def negV (x : D) (h : Hd) : Out D := match x with
  | .int i => .ok (.int (-i)) h
  | _ => .no

mutual
def toPy (h : Hd) : D → PyData
  | .non => .none
  | .bl b => .bool b
  | .int i => .int i
  | .str s => .str s
  | .tup xs => .tuple (toPys h xs)
  | .fl xs => .list (toPys h xs)
  | .ref _ => .dict []
def toPys (h : Hd) : List D → List PyData
  | [] => []
  | x :: xs => toPy h x :: toPys h xs
end
/-! with the lists of the heap, down to a depth -/
mutual
def toPyF (f : Nat → PyData) : D → PyData
  | .non => .none
  | .bl b => .bool b
  | .int i => .int i
  | .str s => .str s
  | .tup xs => .tuple (toPysF f xs)
  | .fl xs => .list (toPysF f xs)
  | .ref n => f n
def toPysF (f : Nat → PyData) : List D → List PyData
  | [] => []
  | x :: xs => toPyF f x :: toPysF f xs
end
def refPy (h : Hd) : Nat → Nat → PyData
  | 0, _ => .dict []
  | k + 1, n => match lstAt h n with
    | some xs => .list (toPysF (refPy h k) xs)
    | none => .dict []
def toPyT (h : Hd) (d : D) : PyData := toPyF (refPy h 4) d

def flatD : D → Bool
  | .non | .bl _ | .int _ | .str _ => true
  | _ => false
def toV : D → L2.V
  | .bl b => .bl b
  | .int i => .int i
  | .str s => .str s
  | _ => .non
def truthD (h : Hd) : D → Option Bool
  | .non => some false
  | .bl b => some b
  | .int i => some (i != 0)
  | .str s => if s.length ≤ line then some ((s.length : Int) != 0) else none
  | .tup xs => some (!xs.isEmpty)
  | .fl xs => some (!xs.isEmpty)
  | .ref n => match lstAt h n with
    | some xs => some (!xs.isEmpty)
    | none => none
def eqV (h : Hd) (x y : D) : Option Bool :=
  if SeqAt.shaped (toPyT h x) && SeqAt.shaped (toPyT h y) then some (PyData.eqv (toPyT h x) (toPyT h y)) else none
/-- x in y -/
def inV (h : Hd) (x y : D) : Option Bool := match y with
  | .tup xs => if flatD x && xs.all flatD then some (L2.inV (toV x) (xs.map toV)) else none
  | .fl xs => if flatD x && xs.all flatD then some (L2.inV (toV x) (xs.map toV)) else none
  | .ref n => match lstAt h n with
    | some xs => if flatD x && xs.all flatD then some (L2.inV (toV x) (xs.map toV)) else none
    | none => none
  | .str z => match x with
    | .str i => some (!(Builtin.Str.occurrences z i 0 z.length 1).isEmpty)
    | _ => none
  | _ => none
def isV (x y : D) : Option Bool := match x, y with
  | .non, .non => some true
  | .bl a, .bl b => some (a == b)
  | .non, .bl _ => some false
  | .bl _, .non => some false
  | .int _, .non => some false
  | .str _, .non => some false
  | .tup _, .non => some false
  | .fl _, .non => some false
  | .ref _, .non => some false
  | _, _ => none
def cmpV (op : CmpOp) (h : Hd) (x y : D) : Option Bool := match op with
  | .Eq => eqV h x y
  | .NotEq => (eqV h x y).map not
  | .Lt => match x, y with
    | .int i, .int j => some (decide (i < j))
    | _, _ => none
  | .LtE => match x, y with
    | .int i, .int j => some (decide (i ≤ j))
    | _, _ => none
  | .Gt => match x, y with
    | .int i, .int j => some (decide (j < i))
    | _, _ => none
  | .GtE => match x, y with
    | .int i, .int j => some (decide (j ≤ i))
    | _, _ => none
  | .Is => isV x y
  | .IsNot => (isV x y).map not
  | .In => inV h x y
  | .NotIn => (inV h x y).map not
def boolO (h : Hd) : Option Bool → Out D
  | some b => .ok (.bl b) h
  | none => .no
def testO (h : Hd) : Option Bool → Out Bool
  | some b => .ok b h
  | none => .no
/-- x[i] -/
def idxV (x i : D) (h : Hd) : Out D := match i with
  | .int k => match x with
    | .tup xs => match L2.atI xs k with
      | some d => .ok d h
      | none => .no
    | .fl xs => match L2.atI xs k with
      | some d => .ok d h
      | none => .no
    | .ref n => match lstAt h n with
      | some xs => match L2.atI xs k with
        | some d => .ok d h
        | none => .no
      | none => .no
    | .str z => match L2.atI z.cps.toList k with
      | some c => ret (decide (z.length ≤ line)) (.str ⟨#[c]⟩) h
      | none => .no
    | _ => .no
  | _ => .no
def cut {α : Type} (xs : List α) (lo hi : Option Int) : List α := (xs.drop (HT.sIx xs.length 0 lo)).take (HT.sIx xs.length xs.length hi - HT.sIx xs.length 0 lo)
def slV (x : D) (lo hi : Option Int) (h : Hd) : Out D := match x with
  | .tup xs => .ok (.tup (cut xs lo hi)) h
  | .fl xs => newL (cut xs lo hi) h
  | .ref n => match lstAt h n with
    | some xs => newL (cut xs lo hi) h
    | none => .no
  | .str z => ret (decide (z.length ≤ line)) (.str ⟨(cut z.cps.toList lo hi).toArray⟩) h
  | _ => .no

/-! ### built-in functions -/
inductive BI where
  | int | abs | len | tuple | list | max | min | all | any | gcd | str
inductive Ty where
  | int | bool | str | tuple | list | cls (n : Nat)
def bls : List D → Option (List Bool)
  | [] => some []
  | .bl b :: r => (bls r).map (b :: ·)
  | _ => none
def biV (b : BI) (xs : List D) (h : Hd) : Out D := match b, xs with
  | .int, [.int i] => .ok (.int i) h
  | .int, [.bl k] => .ok (.int (if k then 1 else 0)) h
  | .abs, [.int i] => .ok (.int (if i < 0 then -i else i)) h
  | .len, [.tup xs] => .ok (.int xs.length) h
  | .len, [.fl xs] => .ok (.int xs.length) h
  | .len, [.str z] => ret (decide (z.length ≤ line)) (.int z.length) h
  | .len, [.ref n] => match lstAt h n with
    | some xs => .ok (.int xs.length) h
    | none => .no
  | .tuple, [.tup xs] => .ok (.tup xs) h
  | .tuple, [.fl xs] => .ok (.tup xs) h
  | .tuple, [.ref n] => match lstAt h n with
    | some xs => .ok (.tup xs) h
    | none => .no
  | .list, [.tup xs] => newL xs h
  | .list, [.fl xs] => newL xs h
  | .list, [.ref n] => match lstAt h n with
    | some xs => newL xs h
    | none => .no
  | .max, [.int i, .int j] => .ok (.int (if j > i then j else i)) h
  | .min, [.int i, .int j] => .ok (.int (if j < i then j else i)) h
  | .all, [.ref n] => match (lstAt h n).bind bls with
    | some bs => .ok (.bl (bs.all id)) h
    | none => .no
  | .any, [.ref n] => match (lstAt h n).bind bls with
    | some bs => .ok (.bl (bs.any id)) h
    | none => .no
  | .gcd, [.int a, .int b] => .ok (.int ((Nat.gcd a.natAbs b.natAbs : Nat) : Int)) h
  | .str, [.int i] => ret (decide (i.natAbs.log2 < 1920)) (.str (toString i)) h
  | _, _ => .no
def isiV (x : D) (t : Ty) (h : Hd) : Option Bool := match t, x with
  | .int, .int _ => some true
  | .int, .bl _ => some true
  | .bool, .bl _ => some true
  | .str, .str _ => some true
  | .tuple, .tup _ => some true
  | .list, .ref n => (lstAt h n).map fun _ => true
  | .list, .fl _ => some true
  | .int, .ref n => (lstAt h n).map fun _ => false
  | .bool, .ref n => (lstAt h n).map fun _ => false
  | .str, .ref n => (lstAt h n).map fun _ => false
  | .tuple, .ref n => (lstAt h n).map fun _ => false
  | .cls _, _ => none
  | _, _ => some false

/-! ### code -/
/-- targets -/
inductive QG where
  | nm (i : Nat) | tp (gs : List QG)
mutual
inductive QE where
  | var (i : Nat) | con (d : D)
  | bin (op : Operator) (a b : QE) | neg (a : QE) | nott (a : QE) | andv (a b : QE) | orv (a b : QE)
  | cmp (op : CmpOp) (a b : QE) | chain (op op' : CmpOp) (a b c : QE)
  | ife (t : QT) (a b : QE)
  | tup (es : QEs) | lst (es : QEs)
  | idx (a i : QE) | slc (a : QE) (lo hi : QO)
  | call (f : Nat) (es kes : QEs) (arr : List (Sum (Sum Nat Nat) D))
  | bi (b : BI) (es : QEs)
  | isi (a : QE) (t : Ty)
  | lc (elt : QE) (g : QG) (it : QI) (own : List Nat) (cond : QT)
  | mth (m : Nat) (o : QE) (es : QEs)
  | excIs (c : Nat) | excF (f : Str)
  | fld (a : QE) (f : Str) | make (C i : Nat) (es : QEs) | mcall (C i : Nat) (m : Str) (o : QE) (es : QEs)
  | dget (kvs : List (Str × D)) (a : QE)
inductive QEs where
  | nil | cons (e : QE) (es : QEs)
inductive QO where
  | none | some (e : QE)
inductive QT where
  | v (e : QE) | not (t : QT) | and (a b : QT) | or (a b : QT) | yes
inductive QI where
  | v (e : QE) | rng1 (a : QE) | rng2 (a b : QE) | rng3 (a b c : QE) | zip (a b : QE) | enum (a : QE)
end
mutual
inductive QS where
  | expr (e : QE) | asg (g : QG) (e : QE) | sub (o i e : QE) | par (i j : Nat) (a b : QE)
  | aug (i : Nat) (op : Operator) (e : QE)
  | ret (e : QE) | retN | ife (t : QT) (a b : QSs) | whl (t : QT) (b : QSs) | for (g : QG) (it : QI) (b : QSs)
  | raise (c : Nat) (fs : List Str) (es : QEs) | try (b : QSs) (c : Nat) (xi : Option Nat) (su : QSs)
  | pass | brk | cnt
  | fset (o : QE) (f : Str) (e : QE)
inductive QSs where
  | nil | cons (s : QS) (r : QSs)
end

/-- what the evaluator stands on: the defs' values, the turns a while may take, the exception of the suite, the classes' order -/
structure Ev where
  call : Nat → List D → Hd → Out D
  fuel : Nat
  exn : Option Exn
  sub : Nat → Nat → Bool

def bindG : QG → D → Sl → Option Sl
  | .nm i, d, s => some (s.set i (some d))
  | .tp gs, .tup ds, s => bindGs gs ds s
  | .tp _, _, _ => none
where
  bindGs : List QG → List D → Sl → Option Sl
  | [], [], s => some s
  | g :: gs, d :: ds, s => (bindG g d s).bind fun s' => bindGs gs ds s'
  | _, _, _ => none
def wipeD (s : Sl) : List Nat → Sl
  | [] => s
  | v :: vs => (wipeD s vs).set v none
def rng (a : Int) (c : Int) : Nat → List D
  | 0 => []
  | n + 1 => .int a :: rng (a + c) c n
def zipD : List D → List D → List D
  | x :: xs, y :: ys => .tup [x, y] :: zipD xs ys
  | _, _ => []
def enumD (k : Int) : List D → List D
  | [] => []
  | x :: xs => .tup [.int k, x] :: enumD (k + 1) xs
/-- what is walked: its items, the lists that must stay as they are -/
structure Walk where
  items : List D
  fix : List (Nat × List D)
def fixOk (h : Hd) : List (Nat × List D) → Bool
  | [] => true
  | (n, xs) :: r => (match lstAt h n with
    | some ys => D.beqs xs ys
    | none => false) && fixOk h r
def smallI (i : Int) : Bool := decide (i.natAbs.log2 < 62)
def rngN (a b c : Int) : Nat := if 0 < c then ((b - a + c - 1) / c).toNat else ((a - b - c - 1) / (-c)).toNat
def strD (z : Str) : List D := z.cps.toList.map fun c => .str ⟨#[c]⟩
def walkV (d : D) (h : Hd) : Out Walk := match d with
  | .tup xs => .ok ⟨xs, []⟩ h
  | .fl xs => .ok ⟨xs, []⟩ h
  | .ref n => match lstAt h n with
    | some xs => .ok ⟨xs, [(n, xs)]⟩ h
    | none => .no
  | .str z => .ok ⟨strD z, []⟩ h
  | _ => .no
def seqOf (d : D) (h : Hd) : Option Walk := match d with
  | .tup xs => some ⟨xs, []⟩
  | .fl xs => some ⟨xs, []⟩
  | .ref n => match lstAt h n with
    | some xs => some ⟨xs, [(n, xs)]⟩
    | none => none
  | _ => none
def isTup : D → Bool
  | .tup _ => true
  | _ => false
def zipV (x y : D) (h : Hd) : Out Walk := match seqOf x h, seqOf y h with
  | some a, some b => ret (isTup x == isTup y) ⟨zipD a.items b.items, a.fix ++ b.fix⟩ h
  | _, _ => .no
def enumV (x : D) (h : Hd) : Out Walk := match seqOf x h with
  | some a => .ok ⟨enumD 0 a.items, a.fix⟩ h
  | none => .no
def rngV (xs : List D) (h : Hd) : Out Walk := match xs with
  | [.int b] => ret (smallI b) ⟨rng 0 1 b.toNat, []⟩ h
  | [.int a, .int b] => ret (smallI a && smallI b) ⟨rng a 1 (b - a).toNat, []⟩ h
  | [.int a, .int b, .int c] => ret (smallI a && smallI b && decide (c ≠ 0) && decide (c.natAbs < 1000000)) ⟨rng a c (rngN a b c), []⟩ h
  | _ => .no
/-- methods: 0 append, 1 extend -/
def appV (o : D) (xs : List D) (h : Hd) : Out D := match o, xs with
  | .ref n, [y] => match lstAt h n with
    | some ys => ret (decide (ys.length < line)) .non (h.set n (.lst (ys ++ [y])))
    | none => .no
  | _, _ => .no
def extV (o : D) (xs : List D) (h : Hd) : Out D := match o, xs with
  | .ref n, [.ref b] => match lstAt h n, lstAt h b with
    | some ys, some zs => ret (decide (ys.length + zs.length ≤ line)) .non (h.set n (.lst (ys ++ zs)))
    | _, _ => .no
  | _, _ => .no
def isLst (h : Hd) : D → Bool
  | .ref n => (lstAt h n).isSome
  | _ => false
def mthV (m : Nat) (o : D) (xs : List D) (h : Hd) : Out D := match m with
  | 0 => appV o xs h
  | 1 => extV o xs h
  | _ => .no
def arrD (arr : List (Sum (Sum Nat Nat) D)) (xs ys : List D) : List D := arr.map fun a => match a with
  | .inl (.inl i) => xs.getD i .non
  | .inl (.inr i) => ys.getD i .non
  | .inr d => d
/-- the object at a place: its class, its fields -/
def objAt (h : Hd) (n : Nat) : Option (Nat × List (Str × D)) := match h[n]? with
  | some (.obj C fs) => some (C, fs)
  | _ => none
def putD (f : Str) (d : D) : List (Str × D) → List (Str × D)
  | [] => [(f, d)]
  | (g, x) :: r => if g = f then (g, d) :: r else (g, x) :: putD f d r
def fldV (f : Str) (x : D) (h : Hd) : Out D := match x with
  | .ref n => match objAt h n with
    | some (_, fs) => match fs.lookup f with
      | some d => .ok d h
      | none => .no
    | none => .no
  | _ => .no
/-- d.get(x), d a dict of the module with texts as keys -/
def dgetV (kvs : List (Str × D)) (x : D) (h : Hd) : Out D := match x with
  | .str z => .ok ((kvs.lookup z).getD .non) h
  | _ => .no
/-- a new object behind its __init__ -/
def mkO (n : Nat) : Out D → Out D
  | .ok .non h => .ok (.ref n) h
  | .ok _ _ => .no
  | .ex e h => .ex e h
  | .no => .no
/-- an object of the class C without a field m of its own -/
def isObj (C : Nat) (m : Str) (h : Hd) : D → Bool
  | .ref n => match objAt h n with
    | some (C', fs) => decide (C' = C) && (fs.lookup m).isNone
    | none => false
  | _ => false
/-- a comprehension's turns: b binds, c tests, e makes -/
def loopC (fix : List (Nat × List D)) (b : D → Option Sl) (c : Sl → Hd → Out Bool) (e : Sl → Hd → Out D) : List D → List D → Hd → Out (List D)
  | [], acc, h => ret (fixOk h fix) acc h
  | x :: xs, acc, h => match fixOk h fix, b x with
    | true, some s => (c s h).bind fun t h1 => match t with
      | true => (e s h1).bind fun y h2 => match decide (acc.length < line) with
        | true => loopC fix b c e xs (acc ++ [y]) h2
        | false => .no
      | false => loopC fix b c e xs acc h1
    | _, _ => .no
/-- no exception leaves a comprehension -/
def noEx {α : Type} : Out α → Out α
  | .ex _ _ => .no
  | o => o
def toI : D → Hd → Out (Option Int)
  | .int i, h => .ok (some i) h
  | _, _ => .no
def pureTrue : Option Bool → Hd → Out Bool := fun o h => testO h o
mutual
def evE (ev : Ev) : QE → Sl → Hd → Out D
  | .var i, s, h => match s[i]? with
    | some (some d) => .ok d h
    | _ => .no
  | .con d, _, h => .ok d h
  | .bin op a b, s, h => (evE ev a s h).bind fun x h1 => (evE ev b s h1).bind fun y h2 => binV op x y h2
  | .neg a, s, h => (evE ev a s h).bind fun x h1 => negV x h1
  | .nott a, s, h => (evE ev a s h).bind fun x h1 => match truthD h1 x with
    | some k => .ok (.bl (!k)) h1
    | none => .no
  | .andv a b, s, h => (evE ev a s h).bind fun x h1 => match truthD h1 x with
    | some true => evE ev b s h1
    | some false => .ok x h1
    | none => .no
  | .orv a b, s, h => (evE ev a s h).bind fun x h1 => match truthD h1 x with
    | some true => .ok x h1
    | some false => evE ev b s h1
    | none => .no
  | .cmp op a b, s, h => (evE ev a s h).bind fun x h1 => (evE ev b s h1).bind fun y h2 => boolO h2 (cmpV op h2 x y)
  | .chain op op' a b c, s, h => (evE ev a s h).bind fun x h1 => (evE ev b s h1).bind fun y h2 => match cmpV op h2 x y with
    | some true => (evE ev c s h2).bind fun z h3 => boolO h3 (cmpV op' h3 y z)
    | some false => .ok (.bl false) h2
    | none => .no
  | .ife t a b, s, h => (evT ev t s h).bind fun k h1 => match k with
    | true => evE ev a s h1
    | false => evE ev b s h1
  | .tup es, s, h => (evEs ev es s h).bind fun xs h1 => ret (decide (xs.length ≤ line)) (.tup xs) h1
  | .lst es, s, h => (evEs ev es s h).bind fun xs h1 => newLc (decide (xs.length ≤ line)) xs h1
  | .idx a i, s, h => (evE ev a s h).bind fun x h1 => (evE ev i s h1).bind fun y h2 => idxV x y h2
  | .slc a lo hi, s, h => (evE ev a s h).bind fun x h1 => (evO ev lo s h1).bind fun l h2 => (evO ev hi s h2).bind fun u h3 => slV x l u h3
  | .call f es kes arr, s, h => (evEs ev es s h).bind fun xs h1 => (evEs ev kes s h1).bind fun ys h2 => ev.call f (arrD arr xs ys) h2
  | .bi b es, s, h => (evEs ev es s h).bind fun xs h1 => biV b xs h1
  | .isi a t, s, h => (evE ev a s h).bind fun x h1 => boolO h1 (isiV x t h1)
  | .lc elt g it own cond, s, h => (evI ev it s h).bind fun w h1 => (noEx (loopC w.fix (fun d => bindG g d (wipeD s own)) (evT ev cond) (evE ev elt) w.items [] h1)).bind fun xs h2 => newL xs h2
  | .mth m o es, s, h => (evE ev o s h).bind fun x h1 => match isLst h1 x with
    | true => (evEs ev es s h1).bind fun xs h2 => mthV m x xs h2
    | false => .no
  | .excIs c, _, h => match ev.exn with
    | some e => .ok (.bl (ev.sub e.cls c)) h
    | none => .no
  | .excF f, _, h => match ev.exn with
    | some e => match e.fs.lookup f with
      | some d => .ok d h
      | none => .no
    | none => .no
  | .fld a f, s, h => (evE ev a s h).bind fun x h1 => fldV f x h1
  | .make C i es, s, h => (evEs ev es s h).bind fun xs h1 => mkO h1.length (ev.call i (.ref h1.length :: xs) (h1 ++ [.obj C []]))
  | .mcall C i m o es, s, h => (evE ev o s h).bind fun x h1 => match isObj C m h1 x with
    | true => (evEs ev es s h1).bind fun xs h2 => ev.call i (x :: xs) h2
    | false => .no
  | .dget kvs a, s, h => (evE ev a s h).bind fun x h1 => dgetV kvs x h1
def evEs (ev : Ev) : QEs → Sl → Hd → Out (List D)
  | .nil, _, h => .ok [] h
  | .cons e es, s, h => (evE ev e s h).bind fun x h1 => (evEs ev es s h1).bind fun xs h2 => .ok (x :: xs) h2
def evO (ev : Ev) : QO → Sl → Hd → Out (Option Int)
  | .none, _, h => .ok none h
  | .some e, s, h => (evE ev e s h).bind fun x h1 => toI x h1
def evT (ev : Ev) : QT → Sl → Hd → Out Bool
  | .v e, s, h => (evE ev e s h).bind fun x h1 => testO h1 (truthD h1 x)
  | .not t, s, h => (evT ev t s h).bind fun k h1 => .ok (!k) h1
  | .and a b, s, h => (evT ev a s h).bind fun k h1 => match k with
    | true => evT ev b s h1
    | false => .ok false h1
  | .or a b, s, h => (evT ev a s h).bind fun k h1 => match k with
    | true => .ok true h1
    | false => evT ev b s h1
  | .yes, _, h => .ok true h
def evI (ev : Ev) : QI → Sl → Hd → Out Walk
  | .v e, s, h => (evE ev e s h).bind fun x h1 => walkV x h1
  | .rng1 a, s, h => (evE ev a s h).bind fun x h1 => rngV [x] h1
  | .rng2 a b, s, h => (evE ev a s h).bind fun x h1 => (evE ev b s h1).bind fun y h2 => rngV [x, y] h2
  | .rng3 a b c, s, h => (evE ev a s h).bind fun x h1 => (evE ev b s h1).bind fun y h2 => (evE ev c s h2).bind fun z h3 => rngV [x, y, z] h3
  | .zip a b, s, h => (evE ev a s h).bind fun x h1 => (evE ev b s h1).bind fun y h2 => zipV x y h2
  | .enum a, s, h => (evE ev a s h).bind fun x h1 => enumV x h1
end

/-! ### statements -/
inductive SOut where
  | nx (s : Sl) (h : Hd) | rt (d : D) (h : Hd) | bk (s : Sl) (h : Hd) | ct (s : Sl) (h : Hd) | ex (e : Exn) (s : Sl) (h : Hd) | no
/-- an expression's end within a statement -/
def Out.st {α : Type} (o : Out α) (s : Sl) (f : α → Hd → SOut) : SOut := match o with
  | .ok a h => f a h
  | .ex e h => .ex e s h
  | .no => .no
/-- the slot of a suite's exception -/
def inS (xi : Option Nat) (s : Sl) : Bool := match xi with
  | none => true
  | some i => decide (i < s.length)
def goS (xi : Option Nat) (s : Sl) : Sl := match xi with
  | none => s
  | some i => s.set i none
/-- what leaves the suite; nothing may be raised there -/
def SOut.gone (xi : Option Nat) : SOut → SOut
  | .nx s h => .nx (goS xi s) h
  | .bk s h => .bk (goS xi s) h
  | .ct s h => .ct (goS xi s) h
  | .rt d h => .rt d h
  | .ex _ _ _ => .no
  | .no => .no
def SOut.then (o : SOut) (f : Sl → Hd → SOut) : SOut := match o with
  | .nx s h => f s h
  | o => o
def loopW (t : Sl → Hd → Out Bool) (b : Sl → Hd → SOut) : Nat → Sl → Hd → SOut
  | 0, _, _ => .no
  | n + 1, s, h => (t s h).st s fun k h1 => match k with
    | true => match b s h1 with
      | .nx s2 h2 => loopW t b n s2 h2
      | .ct s2 h2 => loopW t b n s2 h2
      | .bk s2 h2 => .nx s2 h2
      | o => o
    | false => .nx s h1
def loopF (fix : List (Nat × List D)) (g : D → Sl → Option Sl) (b : Sl → Hd → SOut) : List D → Sl → Hd → SOut
  | [], s, h => match fixOk h fix with
    | true => .nx s h
    | false => .no
  | x :: xs, s, h => match fixOk h fix, g x s with
    | true, some s1 => match b s1 h with
      | .nx s2 h2 => loopF fix g b xs s2 h2
      | .ct s2 h2 => loopF fix g b xs s2 h2
      | .bk s2 h2 => .nx s2 h2
      | o => o
    | _, _ => .no
def asgO (o : Option Sl) (h : Hd) : SOut := match o with
  | some s => .nx s h
  | none => .no
/-- o[i] = d -/
def subV (o i d : D) (s : Sl) (h : Hd) : SOut := match o, i with
  | .ref n, .int k => match lstAt h n with
    | some xs => match L2.ixN xs.length k with
      | some j => .nx s (h.set n (.lst (xs.set j d)))
      | none => .no
    | none => .no
  | _, _ => .no
/-- o.f = d -/
def setF (f : Str) (d : D) (s : Sl) (x : D) (h : Hd) : SOut := match x with
  | .ref n => match objAt h n with
    | some (C, fs) => match decide (fs.length < 1000) with
      | true => .nx s (h.set n (.obj C (putD f d fs)))
      | false => .no
    | none => .no
  | _ => .no
def augV (op : Operator) (x y : D) (h : Hd) : Out D := match op, x, y with
  | .Add, .int i, .int j => .ok (.int (i + j)) h
  | .Sub, .int i, .int j => .ok (.int (i - j)) h
  | _, _, _ => .no
mutual
def exS (ev : Ev) : QS → Sl → Hd → SOut
  | .expr e, s, h => (evE ev e s h).st s fun _ h1 => .nx s h1
  | .asg g e, s, h => (evE ev e s h).st s fun d h1 => asgO (bindG g d s) h1
  | .sub o i e, s, h => (evE ev e s h).st s fun d h1 => (evE ev o s h1).st s fun x h2 => (evE ev i s h2).st s fun y h3 => subV x y d s h3
  | .par i j a b, s, h => (evE ev a s h).st s fun x h1 => (evE ev b s h1).st s fun y h2 => .nx ((s.set i (some x)).set j (some y)) h2
  | .aug i op e, s, h => match s[i]? with
    | some (some x) => (evE ev e s h).st s fun y h1 => (augV op x y h1).st s fun z h2 => .nx (s.set i (some z)) h2
    | _ => .no
  | .ret e, s, h => (evE ev e s h).st s fun d h1 => .rt d h1
  | .retN, _, h => .rt .non h
  | .ife t a b, s, h => (evT ev t s h).st s fun k h1 => match k with
    | true => exSs ev a s h1
    | false => exSs ev b s h1
  | .whl t b, s, h => loopW (evT ev t) (exSs ev b) ev.fuel s h
  | .for g it b, s, h => (evI ev it s h).st s fun w h1 => loopF w.fix (bindG g) (exSs ev b) w.items s h1
  | .raise c fs es, s, h => (evEs ev es s h).st s fun xs h1 => match decide (fs.length = xs.length) && xs.all flatD with
    | true => .ex ⟨c, fs.zip xs⟩ s h1
    | false => .no
  | .try b c xi su, s, h => match exSs ev b s h with
    | .ex e s1 h1 => match ev.sub e.cls c with
      | true => match inS xi s1 with
        | true => (exSs { ev with exn := some e } su (goS xi s1) h1).gone xi
        | false => .no
      | false => .ex e s1 h1
    | o => o
  | .pass, s, h => .nx s h
  | .brk, s, h => .bk s h
  | .cnt, s, h => .ct s h
  | .fset o f e, s, h => (evE ev e s h).st s fun d h1 => (evE ev o s h1).st s fun x h2 => setF f d s x h2
def exSs (ev : Ev) : QSs → Sl → Hd → SOut
  | .nil, s, h => .nx s h
  | .cons a r, s, h => match exS ev a s h with
    | .nx s1 h1 => exSs ev r s1 h1
    | o => o
end

/-- a def: how many parameters, how many names, its code -/
structure FnC where
  np : Nat
  nn : Nat
  code : QSs
def startD (n : Nat) (ds : List D) : Sl := ds.map some ++ List.replicate (n - ds.length) none
def callI (fns : List FnC) (sub : Nat → Nat → Bool) (fuel : Nat) : Nat → Nat → List D → Hd → Out D
  | 0, _, _, _ => .no
  | k + 1, f, ds, h => match fns[f]? with
    | none => .no
    | some fn => match decide (ds.length = fn.np) with
      | false => .no
      | true => match exSs ⟨callI fns sub fuel k, fuel, none, sub⟩ fn.code (startD fn.nn ds) h with
        | .rt d h' => gc h d h'
        | .nx _ h' => gc h .non h'
        | .ex e _ h' => gcE h e h'
        | _ => .no
end PV
/-! PVB: deep state and abstract heap; the operations by values. -/
namespace PV
open PySem PySem.Spec PyProof.Rows L2

/-- what the deep values stand on: the written part, the classes' objects -/
structure GW where
  K : PySem.W.Frag
  cl : Nat → Option Addr
  oc : Nat → Option Addr
  pins : List (Addr × List (Str × V))

/-! ### values -/
/-- a list that is never written -/
def FrL (K : PySem.W.Frag) (H : Hp) (a : Addr) (vs : List V) : Prop := (∃ o, H a = some (.frz o (.lst vs))) ∨ ∀ H' : Hp, SqL K H' a vs
theorem FrL.sq {K : PySem.W.Frag} {H : Hp} {a : Addr} {vs : List V} (f : FrL K H a vs) : SqL K H a vs := f.elim (fun ⟨o, e⟩ => .inl (.inr ⟨o, e⟩)) fun g => g H
mutual
inductive DR (K : PySem.W.Frag) (m : List Addr) (H : Hp) : D → V → Prop
  | non : DR K m H .non .non
  | bl (b : Bool) : DR K m H (.bl b) (.bl b)
  | int (i : Int) : DR K m H (.int i) (.int i)
  | str (s : Str) : DR K m H (.str s) (.str s)
  | tup {a : Addr} {ds : List D} {vs : List V} : SqT K H a vs → DRs K m H ds vs → DR K m H (.tup ds) (.ref a)
  | fl {a : Addr} {ds : List D} {vs : List V} : FrL K H a vs → DRs K m H ds vs → DR K m H (.fl ds) (.ref a)
  | ref {n : Nat} {a : Addr} : m[n]? = some a → DR K m H (.ref n) (.ref a)
inductive DRs (K : PySem.W.Frag) (m : List Addr) (H : Hp) : List D → List V → Prop
  | nil : DRs K m H [] []
  | cons {d : D} {v : V} {ds : List D} {vs : List V} : DR K m H d v → DRs K m H ds vs → DRs K m H (d :: ds) (v :: vs)
end
/-- what lies behind keeps what lay ahead: m the tracked places ahead, m' behind -/
structure Step (m : List Addr) (H : Hp) (m' : List Addr) (H' : Hp) : Prop where
  pre : ∃ l, m' = m ++ l ∧ ∀ a ∈ l, H a = none
  live : ∀ a ∈ m', H' a ≠ none
  keep : ∀ b o, H b = some o → b ∉ m → H' b = some o
  tups : ∀ b xs, H b = some (.tup xs) → H' b = some (.tup xs)
  frzs : ∀ b o u, H b = some (.frz o u) → H' b = some (.frz o u)
theorem Step.refl {m : List Addr} {H : Hp} (h : ∀ a ∈ m, H a ≠ none) : Step m H m H := ⟨⟨[], by simp, fun _ h => by cases h⟩, h, fun _ _ e _ => e, fun _ _ e => e, fun _ _ _ e => e⟩
theorem Step.trans {m m1 m2 : List Addr} {H H1 H2 : Hp} (a : Step m H m1 H1) (b : Step m1 H1 m2 H2) : Step m H m2 H2 := by
  obtain ⟨l1, e1, n1⟩ := a.pre
  obtain ⟨l2, e2, n2⟩ := b.pre
  refine ⟨⟨l1 ++ l2, by rw [e2, e1, List.append_assoc], fun c hc => ?_⟩, b.live, fun c o e hc => ?_, fun c xs e => b.tups c xs (a.tups c xs e), fun c o u e => b.frzs c o u (a.frzs c o u e)⟩
  · rcases List.mem_append.mp hc with h | h
    · exact n1 c h
    · have h1 := n2 c h
      cases q : H c with
      | none => rfl
      | some o =>
        by_cases hm : c ∈ m
        · exact absurd h1 (a.live c (by rw [e1]; exact List.mem_append_left _ hm))
        · rw [a.keep c o q hm] at h1; cases h1
  · refine b.keep c o (a.keep c o e hc) fun h => ?_
    rw [e1] at h
    rcases List.mem_append.mp h with h | h
    · exact hc h
    · rw [n1 c h] at e; cases e

section
variable {K : PySem.W.Frag} {m m' : List Addr} {H H' : Hp}
theorem FrL.step {a : Addr} {vs : List V} (f : FrL K H a vs) (fz : ∀ b o u, H b = some (.frz o u) → H' b = some (.frz o u)) : FrL K H' a vs := f.elim (fun ⟨o, e⟩ => .inl ⟨o, fz _ _ _ e⟩) .inr
theorem sqT_step {a : Addr} {vs : List V} (t : SqT K H a vs) (tp : ∀ b xs, H b = some (.tup xs) → H' b = some (.tup xs)) (fz : ∀ b o u, H b = some (.frz o u) → H' b = some (.frz o u)) : SqT K H' a vs := by
  rcases t with (t | ⟨o, t⟩) | t
  · exact .inl (.inl (tp _ _ t))
  · exact .inl (.inr ⟨o, fz _ _ _ t⟩)
  · exact .inr t
mutual
theorem DR.mono (pre : ∀ (n : Nat) (a : Addr), m[n]? = some a → m'[n]? = some a) (tp : ∀ b xs, H b = some (.tup xs) → H' b = some (.tup xs)) (fz : ∀ b o u, H b = some (.frz o u) → H' b = some (.frz o u)) :
    ∀ {d : D} {v : V}, DR K m H d v → DR K m' H' d v
  | _, _, .non => .non
  | _, _, .bl b => .bl b
  | _, _, .int i => .int i
  | _, _, .str s => .str s
  | _, _, .tup t r => .tup (sqT_step t tp fz) (DRs.mono pre tp fz r)
  | _, _, .fl t r => .fl (t.step fz) (DRs.mono pre tp fz r)
  | _, _, .ref e => .ref (pre _ _ e)
theorem DRs.mono (pre : ∀ (n : Nat) (a : Addr), m[n]? = some a → m'[n]? = some a) (tp : ∀ b xs, H b = some (.tup xs) → H' b = some (.tup xs)) (fz : ∀ b o u, H b = some (.frz o u) → H' b = some (.frz o u)) :
    ∀ {ds : List D} {vs : List V}, DRs K m H ds vs → DRs K m' H' ds vs
  | _, _, .nil => .nil
  | _, _, .cons a r => .cons (DR.mono pre tp fz a) (DRs.mono pre tp fz r)
end
theorem Step.get (s : Step m H m' H') (n : Nat) (a : Addr) (e : m[n]? = some a) : m'[n]? = some a := by
  obtain ⟨l, e1, _⟩ := s.pre
  rw [e1, List.getElem?_append_left (List.getElem?_eq_some_iff.mp e).1]
  exact e
theorem DR.step {d : D} {v : V} (r : DR K m H d v) (s : Step m H m' H') : DR K m' H' d v := r.mono s.get s.tups s.frzs
theorem DRs.step {d : List D} {v : List V} (r : DRs K m H d v) (s : Step m H m' H') : DRs K m' H' d v := r.mono s.get s.tups s.frzs
theorem DRs.length : ∀ {ds : List D} {vs : List V}, DRs K m H ds vs → ds.length = vs.length
  | _, _, .nil => rfl
  | _, _, .cons _ r => congrArg Nat.succ (DRs.length r)
theorem DRs.get : ∀ {ds : List D} {vs : List V} {i : Nat} {d : D}, DRs K m H ds vs → ds[i]? = some d → ∃ v, vs[i]? = some v ∧ DR K m H d v
  | _, _, _, _, .nil, e => by simp at e
  | _, _, 0, _, .cons a _, e => by simp at e; subst e; exact ⟨_, rfl, a⟩
  | _, _, i + 1, d, .cons _ r, e => by
    obtain ⟨v, h1, h2⟩ := DRs.get (i := i) (d := d) r (by simpa using e)
    exact ⟨v, by simpa using h1, h2⟩
theorem DRs.getV : ∀ {ds : List D} {vs : List V} {i : Nat} {v : V}, DRs K m H ds vs → vs[i]? = some v → ∃ d, ds[i]? = some d ∧ DR K m H d v
  | _, _, _, _, .nil, e => by simp at e
  | _, _, 0, _, .cons a _, e => by simp at e; subst e; exact ⟨_, rfl, a⟩
  | _, _, i + 1, d, .cons _ r, e => by
    obtain ⟨v, h1, h2⟩ := DRs.getV (i := i) (v := d) r (by simpa using e)
    exact ⟨v, by simpa using h1, h2⟩
theorem DRs.append : ∀ {ds es : List D} {vs ws : List V}, DRs K m H ds vs → DRs K m H es ws → DRs K m H (ds ++ es) (vs ++ ws)
  | _, _, _, _, .nil, s => s
  | _, _, _, _, .cons a r, s => .cons a (DRs.append r s)
theorem DRs.take : ∀ {ds : List D} {vs : List V} (n : Nat), DRs K m H ds vs → DRs K m H (ds.take n) (vs.take n)
  | _, _, 0, _ => .nil
  | _, _, _ + 1, .nil => .nil
  | _, _, n + 1, .cons a r => .cons a (DRs.take n r)
theorem DRs.drop : ∀ {ds : List D} {vs : List V} (n : Nat), DRs K m H ds vs → DRs K m H (ds.drop n) (vs.drop n)
  | _, _, 0, r => r
  | _, _, _ + 1, .nil => .nil
  | _, _, n + 1, .cons _ r => DRs.drop n r
theorem DRs.set {d : D} {v : V} (a : DR K m H d v) : ∀ {ds : List D} {vs : List V} (i : Nat), DRs K m H ds vs → DRs K m H (ds.set i d) (vs.set i v)
  | _, _, _, .nil => .nil
  | _, _, 0, .cons _ r => .cons a r
  | _, _, i + 1, .cons b r => .cons b (DRs.set a i r)
theorem DRs.rep {ds : List D} {vs : List V} (r : DRs K m H ds vs) : ∀ n : Nat, DRs K m H (List.replicate n ds).flatten (List.replicate n vs).flatten
  | 0 => .nil
  | n + 1 => by
    rw [List.replicate_succ, List.replicate_succ, List.flatten_cons, List.flatten_cons]
    exact r.append (DRs.rep r n)
theorem DRs.empty {ds : List D} {vs : List V} (r : DRs K m H ds vs) : ds.isEmpty = vs.isEmpty := by
  cases r <;> rfl
theorem DRs.nil_iff {ds : List D} {vs : List V} (r : DRs K m H ds vs) : ds = [] ↔ vs = [] := by
  cases r <;> simp
/-- the flat ones are the same in every heap -/
theorem DR.flat {d : D} {v : V} (r : DR K m H d v) (f : flatD d = true) : v = toV d := by
  cases r <;> first | rfl | cases f
theorem DRs.flat : ∀ {ds : List D} {vs : List V}, DRs K m H ds vs → ds.all flatD = true → vs = ds.map toV
  | _, _, .nil, _ => rfl
  | _, _, .cons a r, f => by
    rw [List.all_cons, Bool.and_eq_true] at f
    rw [List.map_cons, a.flat f.1, DRs.flat r f.2]
theorem dr_toV {d : D} (f : flatD d = true) : DR K m H d (toV d) := by
  cases d <;> first | exact .non | exact .bl _ | exact .int _ | exact .str _ | cases f
theorem flatV_toV {d : D} (f : flatD d = true) : flatV (toV d) = true := by
  cases d <;> first | rfl | cases f
/-- what a value names lies below -/
theorem DR.lt {d : D} {v : V} (r : DR K m H d v) : D.lt m.length d = true := by
  refine DR.rec (motive_1 := fun d v _ => D.lt m.length d = true) (motive_2 := fun ds vs _ => D.lts m.length ds = true) ?_ ?_ ?_ ?_ ?_ ?_ ?_ ?_ ?_ r
  · simp [D.lt]
  · intros; simp [D.lt]
  · intros; simp [D.lt]
  · intros; simp [D.lt]
  · intro a ds vs _ _ ih; simpa [D.lt] using ih
  · intro a ds vs _ _ ih; simpa [D.lt] using ih
  · intro n a e; simp [D.lt, (List.getElem?_eq_some_iff.mp e).1]
  · simp [D.lts]
  · intro d v ds vs _ _ i1 i2; simp [D.lts, i1, i2]
theorem DRs.lts {ds : List D} {vs : List V} (r : DRs K m H ds vs) : D.lts m.length ds = true := by
  induction ds generalizing vs with
  | nil => simp [D.lts]
  | cons d ds ih =>
    cases r with
    | cons a r => simp [D.lts, a.lt, ih r]
/-- .. and then the places behind do not matter -/
theorem DR.cut {l : List Addr} {d : D} {v : V} (r : DR K (m ++ l) H d v) (h : D.lt m.length d = true) : DR K m H d v := by
  refine DR.rec (motive_1 := fun d v _ => D.lt m.length d = true → DR K m H d v) (motive_2 := fun ds vs _ => D.lts m.length ds = true → DRs K m H ds vs) ?_ ?_ ?_ ?_ ?_ ?_ ?_ ?_ ?_ r h
  · intros; exact .non
  · intros; exact .bl _
  · intros; exact .int _
  · intros; exact .str _
  · intro a ds vs t _ ih q; exact .tup t (ih (by simpa [D.lt] using q))
  · intro a ds vs t _ ih q; exact .fl t (ih (by simpa [D.lt] using q))
  · intro n a e q
    have q' : n < m.length := by simpa [D.lt] using q
    rw [List.getElem?_append_left q'] at e
    exact .ref e
  · intros; exact .nil
  · intro d v ds vs _ _ i1 i2 q
    have q' : D.lt m.length d = true ∧ D.lts m.length ds = true := by simpa [D.lts] using q
    exact .cons (i1 q'.1) (i2 q'.2)
theorem DRs.cut {l : List Addr} {ds : List D} {vs : List V} (r : DRs K (m ++ l) H ds vs) (h : D.lts m.length ds = true) : DRs K m H ds vs := by
  induction ds generalizing vs with
  | nil => cases r; exact .nil
  | cons d ds ih =>
    cases r with
    | cons a r =>
      have q' : D.lt m.length d = true ∧ D.lts m.length ds = true := by simpa [D.lts] using h
      exact .cons (a.cut q'.1) (ih r q'.2)
end

/-! ### cells -/
def FsR (K : PySem.W.Frag) (m : List Addr) (H : Hp) : List (Str × D) → List (Str × V) → Prop := Paired fun p q => p.1 = q.1 ∧ DR K m H p.2 q.2
def KvR (K : PySem.W.Frag) (m : List Addr) (H : Hp) : List (L2.Key × D) → List (L2.Key × V) → Prop := Paired fun p q => p.1 = q.1 ∧ DR K m H p.2 q.2
def CellR (G : GW) (m : List Addr) (H : Hp) (a : Addr) : Cell → Prop
  | .lst ds => ∃ vs, H a = some (.lst vs) ∧ DRs G.K m H ds vs
  | .obj C fs => ∃ Ca dx vs, G.oc C = some Ca ∧ H a = some (.ins Ca dx vs) ∧ FsR G.K m H fs vs
  | .dct kvs => ∃ vs, H a = some (.dK vs) ∧ KvR G.K m H kvs vs
structure Rel (G : GW) (m : List Addr) (h : Hd) (H : Hp) : Prop where
  len : m.length = h.length
  nd : m.Nodup
  cell : ∀ (n : Nat) (c : Cell) (a : Addr), h[n]? = some c → m[n]? = some a → CellR G m H a c
  pin : ∀ p ∈ G.pins, H p.1 = some (.xd p.2) ∧ p.1 ∉ m
section
variable {G : GW} {m m' : List Addr} {h h' : Hd} {H H' : Hp}
theorem CellR.live {a : Addr} {c : Cell} (r : CellR G m H a c) : H a ≠ none := by
  cases c with
  | lst ds => obtain ⟨vs, e, _⟩ := r; rw [e]; intro z; cases z
  | obj C fs => obtain ⟨_, _, _, _, e, _⟩ := r; rw [e]; intro z; cases z
  | dct kvs => obtain ⟨vs, e, _⟩ := r; rw [e]; intro z; cases z
theorem Rel.live (r : Rel G m h H) : ∀ a ∈ m, H a ≠ none := fun a ha => by
  obtain ⟨n, hn, e⟩ := List.getElem_of_mem ha
  have e1 : m[n]? = some a := by rw [List.getElem?_eq_getElem hn, e]
  have hl : n < h.length := by rw [← r.len]; exact hn
  exact (r.cell n h[n] a (List.getElem?_eq_getElem hl) e1).live
theorem Rel.step (r : Rel G m h H) : Step m H m H := Step.refl r.live
theorem Rel.notin (r : Rel G m h H) {p : Addr} (hp : H p = none) : p ∉ m := fun z => r.live p z hp
theorem FsR.mono (pre : ∀ (n : Nat) (a : Addr), m[n]? = some a → m'[n]? = some a) (tp : ∀ b xs, H b = some (.tup xs) → H' b = some (.tup xs)) (fz : ∀ b o u, H b = some (.frz o u) → H' b = some (.frz o u)) {K : PySem.W.Frag}
    {fs : List (Str × D)} {vs : List (Str × V)} (r : FsR K m H fs vs) : FsR K m' H' fs vs := Paired.mapP r fun _ _ q => ⟨q.1, q.2.mono pre tp fz⟩
theorem KvR.mono (pre : ∀ (n : Nat) (a : Addr), m[n]? = some a → m'[n]? = some a) (tp : ∀ b xs, H b = some (.tup xs) → H' b = some (.tup xs)) (fz : ∀ b o u, H b = some (.frz o u) → H' b = some (.frz o u)) {K : PySem.W.Frag}
    {fs : List (L2.Key × D)} {vs : List (L2.Key × V)} (r : KvR K m H fs vs) : KvR K m' H' fs vs := Paired.mapP r fun _ _ q => ⟨q.1, q.2.mono pre tp fz⟩
/-- a cell where its own object stands as it was -/
theorem CellR.mono {a : Addr} {c : Cell} (r : CellR G m H a c) (e : H' a = H a) (pre : ∀ (n : Nat) (a : Addr), m[n]? = some a → m'[n]? = some a) (tp : ∀ b xs, H b = some (.tup xs) → H' b = some (.tup xs)) (fz : ∀ b o u, H b = some (.frz o u) → H' b = some (.frz o u)) : CellR G m' H' a c := by
  cases c with
  | lst ds => obtain ⟨vs, q, d⟩ := r; exact ⟨vs, e.trans q, d.mono pre tp fz⟩
  | obj C fs => obtain ⟨Ca, dx, vs, k, q, d⟩ := r; exact ⟨Ca, dx, vs, k, e.trans q, d.mono pre tp fz⟩
  | dct kvs => obtain ⟨vs, q, d⟩ := r; exact ⟨vs, e.trans q, d.mono pre tp fz⟩
/-- a new object that is not tracked by the deep heap -/
theorem new_step (r : Rel G m h H) {p : Addr} {o : HO} (hp : H p = none) : Step m H m (upd H p o) ∧ Rel G m h (upd H p o) := by
  have hk : ∀ b u, H b = some u → upd H p o b = some u := fun b u e => by rw [upd_ne (ne_of_none e hp)]; exact e
  refine ⟨⟨⟨[], by simp, fun _ h => by cases h⟩, fun a ha z => ?_, fun b u e _ => hk b u e, fun b u e => hk b _ e, fun b o u e => hk b _ e⟩, r.len, r.nd, fun n c a e1 e2 => ?_, fun q hq => ⟨hk _ _ (r.pin q hq).1, (r.pin q hq).2⟩⟩
  · cases q : H a with
    | none => exact r.live a ha q
    | some u => rw [hk a u q] at z; cases z
  · refine (r.cell n c a e1 e2).mono ?_ (fun _ _ e => e) (fun b xs e => hk b _ e) (fun b o u e => hk b _ e)
    exact upd_ne fun z => r.notin hp (by rw [← z]; exact List.mem_of_getElem? e2)
/-- a new tracked cell -/
theorem newc_step (r : Rel G m h H) {p : Addr} {o : HO} {c : Cell} (hp : H p = none) (hc : CellR G (m ++ [p]) (upd H p o) p c) : Step m H (m ++ [p]) (upd H p o) ∧ Rel G (m ++ [p]) (h ++ [c]) (upd H p o) := by
  have hk : ∀ b u, H b = some u → upd H p o b = some u := fun b u e => by rw [upd_ne (ne_of_none e hp)]; exact e
  have pr : ∀ (n : Nat) (a : Addr), m[n]? = some a → (m ++ [p])[n]? = some a := fun n a e => by rw [List.getElem?_append_left (List.getElem?_eq_some_iff.mp e).1]; exact e
  have nm := r.notin hp
  have rl : Rel G (m ++ [p]) (h ++ [c]) (upd H p o) := by
    refine ⟨by simp [r.len], ?_, fun n c' a e1 e2 => ?_, fun q hq => ⟨hk _ _ (r.pin q hq).1, fun z => ?_⟩⟩
    rotate_left 2
    · rcases List.mem_append.mp z with z | z
      · exact (r.pin q hq).2 z
      · have z : q.1 = p := by simpa using z
        have := (r.pin q hq).1
        rw [z, hp] at this
        cases this
    · rw [List.nodup_append]
      refine ⟨r.nd, by simp, fun x hx y hy z => ?_⟩
      have : y = p := by simpa using hy
      exact nm (by rw [← this, ← z]; exact hx)
    · by_cases hn : n < h.length
      · rw [List.getElem?_append_left hn] at e1
        rw [List.getElem?_append_left (by rw [r.len]; exact hn)] at e2
        refine (r.cell n c' a e1 e2).mono ?_ pr (fun b xs e => hk b _ e) (fun b o u e => hk b _ e)
        exact upd_ne fun z => nm (by rw [← z]; exact List.mem_of_getElem? e2)
      · rw [List.getElem?_append_right (by omega)] at e1
        rw [List.getElem?_append_right (by rw [r.len]; omega), r.len] at e2
        cases k : n - h.length with
        | zero =>
          rw [k] at e1 e2
          cases e1
          cases e2
          exact hc
        | succ j => rw [k] at e1; cases e1
  exact ⟨⟨⟨[p], rfl, fun a ha => by have : a = p := by simpa using ha
                                    rw [this]; exact hp⟩, rl.live, fun b u e _ => hk b u e, fun b u e => hk b _ e, fun b o u e => hk b _ e⟩, rl⟩
theorem newL_step (r : Rel G m h H) {p : Addr} {ds : List D} {vs : List V} (hp : H p = none) (d : DRs G.K m H ds vs) :
    Step m H (m ++ [p]) (upd H p (.lst vs)) ∧ Rel G (m ++ [p]) (h ++ [.lst ds]) (upd H p (.lst vs)) := by
  have hk : ∀ b u, H b = some u → upd H p (.lst vs) b = some u := fun b u e => by rw [upd_ne (ne_of_none e hp)]; exact e
  have pr : ∀ (n : Nat) (a : Addr), m[n]? = some a → (m ++ [p])[n]? = some a := fun n a e => by rw [List.getElem?_append_left (List.getElem?_eq_some_iff.mp e).1]; exact e
  exact newc_step r hp ⟨vs, upd_same, d.mono pr (fun b xs e => hk b _ e) (fun b o u e => hk b _ e)⟩
/-- a tracked cell is written -/
theorem set_step (r : Rel G m h H) {n : Nat} {p : Addr} {o u : HO} {c : Cell} (e : m[n]? = some p) (ho : H p = some u) (nt : ∀ xs, u ≠ .tup xs) (nf : ∀ ob w, u ≠ .frz ob w) (hc : CellR G m (upd H p o) p c) : Step m H m (upd H p o) ∧ Rel G m (h.set n c) (upd H p o) := by
  have tp : ∀ b xs, H b = some (.tup xs) → upd H p o b = some (.tup xs) := fun b xs q => by
    rw [upd_ne fun z => ?_]; exact q
    rw [z, ho] at q
    exact nt xs (Option.some.inj q)
  have fz : ∀ b ob w, H b = some (.frz ob w) → upd H p o b = some (.frz ob w) := fun b ob w q => by
    rw [upd_ne fun z => ?_]; exact q
    rw [z, ho] at q
    exact nf ob w (Option.some.inj q)
  have rl : Rel G m (h.set n c) (upd H p o) := by
    refine ⟨by simp [r.len], r.nd, fun j c' a e1 e2 => ?_, fun q hq => ⟨?_, (r.pin q hq).2⟩⟩
    rotate_left 1
    · rw [upd_ne fun z => (r.pin q hq).2 (by rw [z]; exact List.mem_of_getElem? e)]
      exact (r.pin q hq).1
    by_cases hj : n = j
    · subst hj
      rw [e] at e2
      cases e2
      rw [List.getElem?_set_self (by rw [← r.len]; exact (List.getElem?_eq_some_iff.mp e).1)] at e1
      cases e1
      exact hc
    · rw [List.getElem?_set_ne hj] at e1
      refine (r.cell j c' a e1 e2).mono (upd_ne fun z => ?_) (fun _ _ q => q) tp fz
      subst z
      obtain ⟨h1, e3⟩ := List.getElem?_eq_some_iff.mp e
      obtain ⟨h2, e4⟩ := List.getElem?_eq_some_iff.mp e2
      exact hj ((List.getElem_inj r.nd).mp (e3.trans e4.symm))
  exact ⟨⟨⟨[], by simp, fun _ z => by cases z⟩, rl.live, fun b w q hb => by
    rw [upd_ne fun z => hb (by rw [z]; exact List.mem_of_getElem? e)]; exact q, tp, fz⟩, rl⟩
theorem Rel.lst (r : Rel G m h H) {n : Nat} {xs : List D} {a : Addr} (e : lstAt h n = some xs) (ea : m[n]? = some a) : ∃ vs, H a = some (.lst vs) ∧ DRs G.K m H xs vs := by
  unfold lstAt at e
  split at e
  · rename_i ys q
    cases e
    exact r.cell n _ a q ea
  · cases e
theorem Rel.at (r : Rel G m h H) {n : Nat} {v : V} (d : DR G.K m H (.ref n) v) : ∃ a, v = .ref a ∧ m[n]? = some a := by
  cases d with
  | ref e => exact ⟨_, rfl, e⟩
/-- of a place that holds a list -/
theorem Rel.lstV (r : Rel G m h H) {n : Nat} {xs : List D} {v : V} (d : DR G.K m H (.ref n) v) (e : lstAt h n = some xs) : ∃ a vs, v = .ref a ∧ m[n]? = some a ∧ H a = some (.lst vs) ∧ DRs G.K m H xs vs := by
  obtain ⟨a, e1, e2⟩ := r.at d
  obtain ⟨vs, e3, e4⟩ := r.lst e e2
  exact ⟨a, vs, e1, e2, e3, e4⟩
end

/-! ### what an evaluation's end asks -/
def ExR (G : GW) (m : List Addr) (H : Hp) (e : Exn) (cls : Value) (dx : Option Addr) : Prop :=
  ∃ Ca, cls = .ref Ca ∧ G.cl e.cls = some Ca ∧ ((dx = none ∧ e.fs = []) ∨ ∃ d vs, dx = some d ∧ H d = some (.xd vs) ∧ ∀ f x, e.fs.lookup f = some x → flatD x = true ∧ vs.lookup f = some (toV x))
abbrev XKE := Value → Option Addr → Hp → Prop
def Sat {α β : Type} (G : GW) (R : List Addr → Hp → α → β → Prop) (m : List Addr) (H : Hp) (o : Out α) (Q : β → Hp → Prop) (E : XKE) : Prop := match o with
  | .ok d h => ∀ m' H' v, Step m H m' H' → Rel G m' h H' → R m' H' d v → Q v H'
  | .ex e h => ∀ m' H' cls dx, Step m H m' H' → Rel G m' h H' → ExR G m' H' e cls dx → E cls dx H'
  | .no => False
section
variable {G : GW} {α β γ δ : Type} {R : List Addr → Hp → α → β → Prop} {S : List Addr → Hp → γ → δ → Prop} {m m' : List Addr} {H H' : Hp} {h : Hd} {Q : β → Hp → Prop} {Q2 : δ → Hp → Prop} {E : XKE}
theorem Sat.trans {o : Out α} (s : Sat G R m H o Q E) (t : Step m H m' H') : Sat G R m' H' o Q E := by
  cases o with
  | ok d h => exact fun m2 H2 v t2 => s m2 H2 v (t.trans t2)
  | ex e h => exact fun m2 H2 c d t2 => s m2 H2 c d (t.trans t2)
  | no => exact s
theorem Sat.bind {o : Out α} {f : α → Hd → Out γ} (s : Sat G S m H (o.bind f) Q2 E) (k : ∀ d h1 m1 H1 v, Step m H m1 H1 → Rel G m1 h1 H1 → R m1 H1 d v → Sat G S m1 H1 (f d h1) Q2 E → Q v H1) : Sat G R m H o Q E := by
  cases o with
  | ok d h => exact fun m1 H1 v t r q => k d h m1 H1 v t r q (Sat.trans (o := f d h) s t)
  | ex e h => exact s
  | no => exact s
theorem Sat.imp {o : Out α} {Q' : β → Hp → Prop} (s : Sat G R m H o Q E) (k : ∀ v H, Q v H → Q' v H) : Sat G R m H o Q' E := by
  cases o with
  | ok d h => exact fun m1 H1 v t r q => k v H1 (s m1 H1 v t r q)
  | ex e h => exact s
  | no => exact s
theorem Sat.ok {d : α} {v : β} (s : Sat G R m H (.ok d h) Q E) (r : Rel G m h H) (q : R m H d v) : Q v H := s m H v r.step r q
theorem Sat.ret {c : Bool} {d : α} (s : Sat G R m H (ret c d h) Q E) : c = true ∧ Sat G R m H (.ok d h) Q E := by
  cases c with
  | true => exact ⟨rfl, s⟩
  | false => exact s.elim
end
abbrev RD (G : GW) : List Addr → Hp → D → V → Prop := DR G.K
abbrev RDs (G : GW) : List Addr → Hp → List D → List V → Prop := DRs G.K
abbrev RB : List Addr → Hp → Bool → Bool → Prop := fun _ _ a b => a = b
abbrev RO : List Addr → Hp → Option Int → Option Int → Prop := fun _ _ a b => a = b
theorem Sat.newL {G : GW} {m : List Addr} {h : Hd} {H : Hp} {xs : List D} {vs : List V} {Q : V → Hp → Prop} {E : XKE} {p : Addr} (s : Sat G (RD G) m H (PV.newL xs h) Q E) (r : Rel G m h H) (d : DRs G.K m H xs vs) (hp : H p = none) : Q (.ref p) (upd H p (.lst vs)) := by
  obtain ⟨t, r'⟩ := newL_step r hp d
  refine s _ _ _ t r' (.ref ?_)
  rw [List.getElem?_append_right (by rw [r.len]; exact Nat.le_refl _), r.len, Nat.sub_self]
  rfl
theorem Sat.tup {G : GW} {m : List Addr} {h : Hd} {H : Hp} {xs : List D} {vs : List V} {Q : V → Hp → Prop} {E : XKE} {p : Addr} (s : Sat G (RD G) m H (.ok (.tup xs) h) Q E) (r : Rel G m h H) (d : DRs G.K m H xs vs) (hp : H p = none) : Q (.ref p) (upd H p (.tup vs)) := by
  obtain ⟨t, r'⟩ := new_step (o := .tup vs) r hp
  exact s _ _ _ t r' (.tup (SqT.of upd_same) (d.step t))
theorem Sat.newLc {G : GW} {m : List Addr} {h : Hd} {H : Hp} {c : Bool} {xs : List D} {Q : V → Hp → Prop} {E : XKE} (s : Sat G (RD G) m H (PV.newLc c xs h) Q E) : c = true ∧ Sat G (RD G) m H (PV.newL xs h) Q E := by
  cases c with
  | true => exact ⟨rfl, s⟩
  | false => exact s.elim
end PV
/-! PVC: each operation by values keeps what the pure one says. -/
namespace PV
open PySem PySem.Spec PyProof.Rows L2
/-- the reading of a two-place operation -/
def r2 (G : GW) (F : D → D → Hd → Out D) : R2 := fun x y H Q => ∃ m h a b NoE, Rel G m h H ∧ DR G.K m H a x ∧ DR G.K m H b y ∧ Sat G (RD G) m H (F a b h) Q NoE
section
variable {X : Cx} {G : GW}
theorem line_eq : line = sizeLine := sizeLine_eq.symm
theorem intBits_le (i : Int) : Builtin.Int.intBits i ≤ i.natAbs.log2 + 1 := by
  unfold Builtin.Int.intBits
  split <;> omega
theorem mulOk_of {i j : Int} (h : mulOk i j = true) : IntMulOk i j := by
  have h3 := of_decide_eq_true h
  have h1 := intBits_le i
  have h2 := intBits_le j
  have e : bitsLine = 134217728 := by decide
  unfold IntMulOk
  intro z
  rw [Bool.and_eq_true] at z
  have z2 := z.2
  unfold Builtin.Int.intTooBig at z2
  have z3 := of_decide_eq_true z2
  rw [e] at z3
  omega
theorem add_ok (hK : X.K = G.K) : OpR X (binaryOp .Add) (r2 G addV) := by
  intro pins s σ H x y v u Q I rx ry ⟨m, h, a, b, NoE, r, da, db, q⟩
  cases a with
  | int i =>
    cases b with
    | int j =>
      cases da
      cases db
      exact op_add pins s σ H _ _ v u Q I rx ry ⟨i, j, rfl, rfl, q.ok r (.int _)⟩
    | _ => exact False.elim q
  | str i =>
    cases b with
    | str j =>
      cases da
      cases db
      obtain ⟨hz, q⟩ := Sat.ret q
      exact op_add_str pins s σ H _ _ v u Q I rx ry ⟨i, j, rfl, rfl, by rw [← line_eq]; exact of_decide_eq_true hz, q.ok r (.str _)⟩
    | _ => exact False.elim q
  | tup xs =>
    cases b with
    | tup ys =>
      cases da with
      | tup ta ra =>
        cases db with
        | tup tb rb =>
          obtain ⟨hz, q⟩ := Sat.ret q
          have hz' := of_decide_eq_true hz
          refine op_catA pins s σ H _ _ v u Q I rx ry ⟨_, _, _, _, rfl, rfl, hK ▸ ta, hK ▸ tb, by rw [← ra.length, ← rb.length, ← line_eq]; exact hz', fun e => ?_, fun _ e => ?_, fun _ _ p hp => ?_⟩
          · have e' := ra.nil_iff.mpr e
            subst e'
            exact q.ok r (.tup tb rb)
          · have e' := rb.nil_iff.mpr e
            subst e'
            exact q.ok r (.tup ta (by rw [List.append_nil]; exact ra))
          · exact q.tup r (ra.append rb) hp
    | _ => exact False.elim q
  | ref n =>
    cases b with
    | ref k =>
      have q' : Sat G (RD G) m H (match lstAt h n, lstAt h k with
        | some xs, some ys => newLc (decide (xs.length + ys.length ≤ line)) (xs ++ ys) h
        | _, _ => .no) Q NoE := q
      split at q'
      · rename_i xs ys e1 e2
        obtain ⟨hz, q2⟩ := Sat.newLc q'
        obtain ⟨a, vs, rfl, _, h1, d1⟩ := r.lstV da e1
        obtain ⟨b, ws, rfl, _, h2, d2⟩ := r.lstV db e2
        exact op_cat pins s σ H _ _ v u Q I rx ry ⟨a, b, vs, ws, rfl, rfl, h1, h2, by rw [← d1.length, ← d2.length, ← line_eq]; exact of_decide_eq_true hz, fun p hp => q2.newL r (d1.append d2) hp⟩
      · exact False.elim q'
    | _ => exact False.elim q
  | _ => exact False.elim q
end
/-! tuple * n, the other ways -/
section
theorem tuple_mulE (l : Addr) (items : Array Value) (n : Nat) (dd : Option Addr) (sl : Array (Option Value)) (x : Int) (u : Tok) (c0 : (decide (x < -(2 ^ 63)) || decide (x ≥ 2 ^ 63)) = false) (c1 : (items.isEmpty || x == 1) = true) :
    Meets (Builtin.«tuple.__mul__» ⟨[.ref l, .int x u], []⟩) (fun _ R s => s.heap.get? l = some { cls := .type "tuple", dict := dd, data := .seq items n, slots := sl } ∧
      R (.ok (.ret (Value.ref l))) s) :=
  .of_wp fun prog w A R s h => by
    obtain ⟨hp, g, d, tk, os⟩ := s
    obtain ⟨hl, h⟩ := h
    have f1 := AutoSeq1.idx_int
    wp_walk using wpAny_loadPart' hl
    refine wpAny_ite_false (decide_eq_false (by rw [c0]; exact Bool.false_ne_true)) ?_
    wp_walk using wpAny_loadPart' hl
    exact ⟨_, rfl, h⟩
theorem tuple_mulZ (l : Addr) (items : Array Value) (n : Nat) (dd : Option Addr) (sl : Array (Option Value)) (x : Int) (u : Tok) (c0 : (decide (x < -(2 ^ 63)) || decide (x ≥ 2 ^ 63)) = false) (c1 : (items.isEmpty || x == 1) = false) (c2 : (decide (x ≤ 0) || items.isEmpty) = true) :
    Meets (Builtin.«tuple.__mul__» ⟨[.ref l, .int x u], []⟩) (fun _ R s => s.heap.get? l = some { cls := .type "tuple", dict := dd, data := .seq items n, slots := sl } ∧
      R (.ok (.ret (Value.ref s.heap.objs.size))) { s with heap := s.heap.push { cls := Value.type "tuple", data := Data.seq #[] }, toks := s.toks }) :=
  .of_wp fun prog w A R s h => by
    obtain ⟨hp, g, d, tk, os⟩ := s
    obtain ⟨hl, h⟩ := h
    have f1 := AutoSeq1.idx_int
    wp_walk using wpAny_loadPart' hl
    repeat (first
      | (refine wpAny_ite_false (decide_eq_false (by rw [c0]; exact Bool.false_ne_true)) ?_; wp_walk using wpAny_loadPart' hl)
      | (refine wpAny_ite_false (decide_eq_false (by rw [c1]; exact Bool.false_ne_true)) ?_; wp_walk using wpAny_loadPart' hl)
      | (refine wpAny_ite_true (decide_eq_true (by rw [c2])) ?_; wp_walk using wpAny_loadPart' hl))
    all_goals first
      | exact ⟨_, rfl, h⟩
      | (show (0 : Nat) ≤ sizeLine; exact Nat.zero_le _)
      | skip
end
section
variable {X : Cx} {G : GW}
/-- the machine's part of tuple * n -/
theorem tup_mul {pins : List (Addr × Obj)} {s : Shared} {σ : L2.St} {H : Hp} {l : Addr} {k : Int} {t : Tok} {xs : List V} {Q : VK} (I : Inv X pins σ H s) (hT : SqT X.K H l xs) (h1 : k ≤ 1000) (h2 : -1000 ≤ k) (hz : xs.length ≤ 1000)
    (q : xs = [] ∨ k = 1 → Q (.ref l) H) (q2 : ∀ p, H p = none → Q (.ref p) (upd H p (.tup (List.replicate k.toNat xs).flatten))) : wpAny (model X.prog X.w) X.A (binaryOp .Mult (.ref l) (.int k t)) (EP X pins σ Q) X.xe s := by
  by_cases he : xs = [] ∨ k = 1
  · obtain ⟨its, r, ⟨⟨cls, dd, data, sl⟩, ho, hc, n, hd⟩, hs⟩ := I.tuple hT
    simp only at hc hd
    subst hc hd
    have c0 : (decide (k < -(2 ^ 63)) || decide (k ≥ 2 ^ 63)) = false := by
      rw [decide_eq_false (by omega), decide_eq_false (by omega)] <;> rfl
    have c1 : (its.toArray.isEmpty || k == 1) = true := by
      rcases he with e | e
      · rw [e] at r
        cases r
        rfl
      · rw [e]
        simp
    exact wpAny_binaryOp_repeat_ref (T := "tuple") (U := "int") (by decide) ⟨_, ho, rfl⟩ (fun s' => typeIs_int s' k t) noFill_tuple_mul F.fills_int_mul F.slot_int_rmul repeat_tuple F.slot_int_index.lookup
      (call_meets F.slot_int_rmul (typeIs_int s k t) F.entry_int_rmul (F.args_int_rmul_2 _ _) (int_rmul_tuple k t l its.toArray n dd sl)
        ⟨ho, rfl, ⟨_, ho, rfl⟩, call_meets F.slot_tuple_mul ⟨_, ho, rfl⟩ F.entry_tuple_mul (F.args_tuple_mul_2 _ _) (tuple_mulE l its.toArray n dd sl k t c0 c1) ⟨ho, .ref l, H, I, rfl, q he⟩⟩)
  · by_cases h0 : k ≤ 0
    · obtain ⟨its, r, ⟨⟨cls, dd, data, sl⟩, ho, hc, n, hd⟩, hs⟩ := I.tuple hT
      simp only at hc hd
      subst hc hd
      have c0 : (decide (k < -(2 ^ 63)) || decide (k ≥ 2 ^ 63)) = false := by
        rw [decide_eq_false (by omega), decide_eq_false (by omega)] <;> rfl
      have c1 : (its.toArray.isEmpty || k == 1) = false := by
        have : its ≠ [] := fun e => he (.inl (by rw [e] at r; cases r; rfl))
        cases its with
        | nil => exact absurd rfl this
        | cons a b =>
          have : (k == 1) = false := beq_eq_false_iff_ne.mpr (by omega)
          rw [this]
          rfl
      have c2 : (decide (k ≤ 0) || its.toArray.isEmpty) = true := by rw [decide_eq_true h0]; rfl
      refine wpAny_binaryOp_repeat_ref (T := "tuple") (U := "int") (by decide) ⟨_, ho, rfl⟩ (fun s' => typeIs_int s' k t) noFill_tuple_mul F.fills_int_mul F.slot_int_rmul repeat_tuple F.slot_int_index.lookup
        (call_meets F.slot_int_rmul (typeIs_int s k t) F.entry_int_rmul (F.args_int_rmul_2 _ _) (int_rmul_tuple k t l its.toArray n dd sl)
          ⟨ho, rfl, ⟨_, ho, rfl⟩, call_meets F.slot_tuple_mul ⟨_, ho, rfl⟩ F.entry_tuple_mul (F.args_tuple_mul_2 _ _) (tuple_mulZ l its.toArray n dd sl k t c0 c1 c2) ⟨ho, ?_⟩⟩)
      have e : k.toNat = 0 := by omega
      have qq := q2 s.heap.objs.size (I.hok.fresh (Nat.le_refl _))
      rw [e] at qq
      refine ⟨.ref s.heap.objs.size, _, I.laid (t' := s.toks) (o := .tup (List.replicate 0 xs).flatten) (fun b ob q => Heap.get?_push_of_some _ q) (Nat.le_refl _) ?_, rfl, qq⟩
      exact ⟨Nat.zero_le _, [], .nil, IsTup.new _ _⟩
    · have h3 : ¬ k = 1 := fun e => he (.inr e)
      exact op_repT pins s σ H (.ref l) (.int k) _ _ Q I rfl ⟨_, rfl⟩ ⟨l, k, xs, rfl, rfl, hT, fun e => he (.inl e), by omega, h1, hz, q2⟩
theorem mul_ok (hK : X.K = G.K) : OpR X (binaryOp .Mult) (r2 G mulV) := by
  intro pins s σ H x y v u Q I rx ry ⟨m, h, a, b, NoE, r, da, db, q⟩
  cases a with
  | int i =>
    cases b with
    | int j =>
      cases da
      cases db
      obtain ⟨t, rfl⟩ := rx
      obtain ⟨t', rfl⟩ := ry
      obtain ⟨hz, q⟩ := Sat.ret q
      exact mul_int ⟨.int _, H, I.tok _, ⟨_, rfl⟩, q.ok r (.int _)⟩ (mulOk_of hz)
    | _ => exact False.elim q
  | tup xs =>
    cases b with
    | int k =>
      cases da with
      | @tup l _ vs ta ra =>
        cases db
        cases rx
        obtain ⟨t', rfl⟩ := ry
        obtain ⟨hz, q⟩ := Sat.ret q
        simp only [Bool.and_eq_true, decide_eq_true_eq] at hz
        refine tup_mul I (hK ▸ ta) hz.1.1 hz.1.2 (by rw [← ra.length]; exact hz.2) (fun e => ?_) fun p hp => q.tup r (ra.rep _) hp
        rcases e with e | e
        · have e' := ra.nil_iff.mpr e
          subst e'
          rw [show (List.replicate k.toNat ([] : List D)).flatten = [] by simp] at q
          exact q.ok r (.tup ta ra)
        · subst e
          rw [show (List.replicate (1 : Int).toNat xs).flatten = xs by simp] at q
          exact q.ok r (.tup ta ra)
    | _ => exact False.elim q
  | ref n =>
    cases b with
    | int k =>
      have q' : Sat G (RD G) m H (match lstAt h n with
        | some xs => newLc (decide (k ≤ 1000) && decide (-1000 ≤ k) && decide (xs.length ≤ 1000)) (List.replicate k.toNat xs).flatten h
        | _ => .no) Q NoE := q
      split at q'
      · rename_i xs e1
        obtain ⟨hz, q2⟩ := Sat.newLc q'
        simp only [Bool.and_eq_true, decide_eq_true_eq] at hz
        obtain ⟨a, vs, rfl, _, h1, d1⟩ := r.lstV da e1
        cases db
        have hl : xs.length * k.toNat ≤ 1000 * 1000 := Nat.mul_le_mul hz.2 (by omega)
        exact op_rep pins s σ H _ _ v u Q I rx ry ⟨a, k, vs, rfl, rfl, h1, by omega, by omega, by rw [← d1.length, sizeLine_eq]; omega, fun p hp => q2.newL r (d1.rep _) hp⟩
      · exact False.elim q'
    | _ => exact False.elim q
  | _ => exact False.elim q
theorem int2_ok {op : Operator} {F : D → D → Hd → Out D} {C : Int → Int → Bool} {g : Int → Int → Int}
    (hF : ∀ a b h, F a b h = match a, b with
      | .int i, .int j => ret (C i j) (.int (g i j)) h
      | _, _ => .no)
    (rule : ∀ (i j : Int) (t u : Tok) (s : Shared) (Q : Value → Shared → Prop) (E : Value → Shared → Prop), C i j = true → Q (.int (g i j) s.toks) { s with toks := s.toks + 1 } → wpAny (model X.prog X.w) X.A (binaryOp op (.int i t) (.int j u)) Q E s) : OpR X (binaryOp op) (r2 G F) := by
  intro pins s σ H x y v u Q I rx ry ⟨m, h, a, b, NoE, r, da, db, q⟩
  rw [hF] at q
  cases a with
  | int i =>
    cases b with
    | int j =>
      cases da
      cases db
      obtain ⟨t, rfl⟩ := rx
      obtain ⟨t', rfl⟩ := ry
      obtain ⟨hz, q⟩ := Sat.ret q
      exact rule i j t t' s _ _ hz ⟨.int _, H, I.tok _, ⟨_, rfl⟩, q.ok r (.int _)⟩
    | _ => exact False.elim q
  | _ => exact False.elim q
theorem bin_ok (hK : X.K = G.K) (op : Operator) : OpR X (binaryOp op) (r2 G (binV op)) := by
  have no : ∀ {op : Operator}, (∀ a b h, binV op a b h = .no) → OpR X (binaryOp op) (r2 G (binV op)) := fun {op} e pins s σ H x y v u Q I rx ry ⟨m, h, a, b, NoE, r, da, db, q⟩ => by
    rw [e] at q
    exact False.elim q
  cases op with
  | Add => exact add_ok hK
  | Mult => exact mul_ok hK
  | Sub => exact int2_ok (C := fun _ _ => true) (g := fun i j => i - j) (fun a b h => by cases a <;> cases b <;> rfl) fun i j t u s Q E _ q => sub_int q
  | FloorDiv =>
    exact int2_ok (C := divOk) (g := fun i j => i.fdiv j) (fun a b h => by cases a <;> cases b <;> rfl) fun i j t u s Q E hc q => by
      unfold divOk at hc
      rw [Bool.and_eq_true, decide_eq_true_eq, Bool.not_eq_true'] at hc
      exact floordiv_int hc.1 q (.inl hc.2)
  | Mod => exact int2_ok (C := fun _ j => decide (j ≠ 0)) (g := fun i j => i.fmod j) (fun a b h => by cases a <;> cases b <;> rfl) fun i j t u s Q E hc q => mod_int' (of_decide_eq_true hc) q
  | Pow =>
    exact int2_ok (C := powOk) (g := fun i j => i ^ j.toNat) (fun a b h => by cases a <;> cases b <;> rfl) fun i j t u s Q E hc q => by
      unfold powOk at hc
      simp only [Bool.and_eq_true, decide_eq_true_eq] at hc
      refine pow_int hc.1 ?_ q
      have h1 : (Builtin.Int.intBits i : Int) ≤ ((i.natAbs.log2 + 1 : Nat) : Int) := Int.ofNat_le.mpr (intBits_le i)
      have h2 := Int.mul_le_mul_of_nonneg_right h1 hc.1
      have h3 : (2 : Int) ^ 27 = 134217728 := by decide
      omega
  | LShift =>
    exact int2_ok (C := shlOk) (g := fun i j => i * 2 ^ j.toNat) (fun a b h => by cases a <;> cases b <;> rfl) fun i j t u s Q E hc q => by
      unfold shlOk at hc
      simp only [Bool.and_eq_true, decide_eq_true_eq] at hc
      refine lshift_int hc.1 ?_ q
      have h1 : (Builtin.Int.intBits i : Int) ≤ ((i.natAbs.log2 + 1 : Nat) : Int) := Int.ofNat_le.mpr (intBits_le i)
      have h3 : (2 : Int) ^ 27 = 134217728 := by decide
      omega
  | _ => exact no fun a b h => rfl
/-- -x -/
def r1 (G : GW) (F : D → Hd → Out D) : V → Hp → VK → Prop := fun x H Q => ∃ m h a NoE, Rel G m h H ∧ DR G.K m H a x ∧ Sat G (RD G) m H (F a h) Q NoE
theorem neg_ok : UnR X (unaryOp .USub) (r1 G negV) := by
  intro pins s σ H x v Q I rx ⟨m, h, a, NoE, r, da, q⟩
  cases a with
  | int i =>
    cases da
    exact un_neg pins s σ H _ v Q I rx ⟨i, rfl, q.ok r (.int _)⟩
  | _ => exact False.elim q
/-! ### truth, comparisons -/
theorem tru_of {m : List Addr} {h : Hd} {H : Hp} {d : D} {v : V} {k : Bool} (hK : X.K = G.K) (r : Rel G m h H) (da : DR G.K m H d v) (e : truthD h d = some k) : TruV X.K v H k := by
  cases d with
  | non => cases da; cases e; rfl
  | bl b => cases da; cases e; rfl
  | int i => cases da; cases e; rfl
  | str z =>
    cases da
    have e' : (if z.length ≤ line then some ((z.length : Int) != 0) else none) = some k := e
    split at e'
    · rename_i hz
      cases e'
      exact ⟨by rw [← line_eq]; exact hz, rfl⟩
    · cases e'
  | tup xs =>
    cases da with
    | tup t d =>
      cases e
      exact .inr (.inl ⟨_, hK ▸ t, by rw [d.empty]⟩)
  | fl xs =>
    cases da with
    | fl t d =>
      cases e
      exact .inl ⟨_, hK ▸ t.sq, by rw [d.empty]⟩
  | ref n =>
    have e' : (match lstAt h n with
      | some xs => some (!xs.isEmpty)
      | none => none) = some k := e
    split at e'
    · rename_i xs e1
      cases e'
      obtain ⟨a, vs, rfl, _, h1, d1⟩ := r.lstV da e1
      exact .inl ⟨vs, SqL.of h1, by rw [d1.empty]⟩
    · cases e'
end
section
variable {K : PySem.W.Frag} {m : List Addr} {H : Hp} {h : Hd}
mutual
theorem dp_of {f : Nat → PyData} (hf : ∀ (n : Nat) (v : V), DR K m H (.ref n) v → (f n).canLay0 = true → Dp K H v (f n)) : ∀ {d : D} {v : V}, DR K m H d v → (toPyF f d).canLay0 = true → Dp K H v (toPyF f d)
  | _, _, .non, _ => by simp only [toPyF]; exact .non
  | _, _, .bl b, _ => by simp only [toPyF]; exact .bl b
  | _, _, .int i, _ => by simp only [toPyF]; exact .int i
  | _, _, .str s, _ => by simp only [toPyF]; exact .str s
  | _, _, .tup t d, c => by
    simp only [toPyF] at c ⊢
    exact .tup t (dps_of hf d (by simpa [PyData.canLay0] using c))
  | _, _, .fl t d, c => by
    simp only [toPyF] at c ⊢
    exact .lst t.sq (dps_of hf d (by simpa [PyData.canLay0] using c))
  | _, _, .ref e, c => by
    simp only [toPyF] at c ⊢
    exact hf _ _ (.ref e) c
theorem dps_of {f : Nat → PyData} (hf : ∀ (n : Nat) (v : V), DR K m H (.ref n) v → (f n).canLay0 = true → Dp K H v (f n)) : ∀ {ds : List D} {vs : List V}, DRs K m H ds vs → PyData.canLayAll0 (toPysF f ds) = true → DpAll K H vs (toPysF f ds)
  | _, _, .nil, _ => by simp only [toPysF]; exact .nil
  | _, _, .cons a r, c => by
    simp only [toPysF] at c ⊢
    rw [PyData.canLayAll0, Bool.and_eq_true] at c
    exact .cons (dp_of hf a c.1) (dps_of hf r c.2)
end
theorem dpR_of {G : GW} (r : Rel G m h H) : ∀ (k n : Nat) (v : V), DR G.K m H (.ref n) v → (refPy h k n).canLay0 = true → Dp G.K H v (refPy h k n)
  | 0, _, _, _, c => by simp [refPy, PyData.canLay0] at c
  | k + 1, n, v, a, c => by
    unfold refPy at c ⊢
    split at c
    · rename_i xs e
      obtain ⟨p, vs, rfl, _, h1, d1⟩ := r.lstV a e
      exact .lst (SqL.of h1) (dps_of (dpR_of r k) d1 (by simpa [PyData.canLay0] using c))
    · simp [PyData.canLay0] at c
theorem dpT_of {G : GW} {d : D} {v : V} (r : Rel G m h H) (a : DR G.K m H d v) (c : SeqAt.shaped (toPyT h d) = true) : Dp G.K H v (toPyT h d) := by
  have c1 : (toPyT h d).canLay0 = true := by
    unfold SeqAt.shaped at c
    rw [Bool.and_eq_true] at c
    exact c.1
  exact dp_of (dpR_of r 4) a c1
end
section
variable {X : Cx} {G : GW}
/-- the reading of a comparison -/
def rc (G : GW) (F : Hd → D → D → Option Bool) : R2 := r2 G fun x y h => boolO h (F h x y)
theorem rc_out {F : Hd → D → D → Option Bool} {x y : V} {H : Hp} {Q : VK} (q : rc G F x y H Q) : ∃ m h a b c, Rel G m h H ∧ DR G.K m H a x ∧ DR G.K m H b y ∧ F h a b = some c ∧ Q (.bl c) H := by
  obtain ⟨m, h, a, b, NoE, r, da, db, q⟩ := q
  have q : Sat G (RD G) m H (boolO h (F h a b)) Q NoE := q
  cases e : F h a b with
  | none =>
    rw [e] at q
    exact False.elim q
  | some c =>
    rw [e] at q
    exact ⟨m, h, a, b, c, r, da, db, e, Sat.ok (G := G) q r (.bl c)⟩
theorem eq_ok (hK : X.K = G.K) (hu : X.A.units + 64 < cLine) : OpR X (compareOp .Eq) (rc G eqV) := by
  intro pins s σ H x y v u Q I rx ry q
  obtain ⟨m, h, a, b, c, r, da, db, e, q⟩ := rc_out q
  unfold eqV at e
  split at e
  · rename_i hs
    rw [Bool.and_eq_true] at hs
    cases e
    exact op_eqD hu pins s σ H x y v u Q I rx ry ⟨_, _, hK ▸ dpT_of r da hs.1, hK ▸ dpT_of r db hs.2, hs.1, hs.2, q⟩
  · cases e
theorem ne_ok (hK : X.K = G.K) (hu : X.A.units + 64 < cLine) : OpR X (compareOp .NotEq) (rc G fun h x y => (eqV h x y).map not) := by
  intro pins s σ H x y v u Q I rx ry q
  obtain ⟨m, h, a, b, c, r, da, db, e, q⟩ := rc_out q
  unfold eqV at e
  split at e
  · rename_i hs
    rw [Bool.and_eq_true] at hs
    cases e
    exact op_neD hu pins s σ H x y v u Q I rx ry ⟨_, _, hK ▸ dpT_of r da hs.1, hK ▸ dpT_of r db hs.2, hs.1, hs.2, q⟩
  · cases e
theorem ord_ok {op : CmpOp} {F : Hd → D → D → Option Bool} {g : Int → Int → Bool} (hF : ∀ h a b, F h a b = match a, b with
      | .int i, .int j => some (g i j)
      | _, _ => none) (ho : OpR X (compareOp op) (rI0 fun i j => .bl (g i j))) : OpR X (compareOp op) (rc G F) := by
  intro pins s σ H x y v u Q I rx ry q
  obtain ⟨m, h, a, b, c, r, da, db, e, q⟩ := rc_out q
  rw [hF] at e
  cases a with
  | int i =>
    cases b with
    | int j =>
      cases da
      cases db
      cases e
      exact ho pins s σ H _ _ v u Q I rx ry ⟨i, j, rfl, rfl, q⟩
    | _ => cases e
  | _ => cases e
theorem is_none_bl {M : Model} {A : Around} {E : Value → Shared → Prop} {s : Shared} {Q : Value → Shared → Prop} {c : Bool} (h : Q (.bool false) s) : wpAny M A (compareOp .Is .none (.bool c)) Q E s :=
  wpAny_pure (a := Value.bool (Value.none == Value.bool c)) h
theorem isnot_none_bl {M : Model} {A : Around} {E : Value → Shared → Prop} {s : Shared} {Q : Value → Shared → Prop} {c : Bool} (h : Q (.bool true) s) : wpAny M A (compareOp .IsNot .none (.bool c)) Q E s :=
  wpAny_pure (a := Value.bool (!(Value.none == Value.bool c))) h
theorem is_ok : OpR X (compareOp .Is) (rc G fun _ => isV) := by
  intro pins s σ H x y v u Q I rx ry q
  obtain ⟨m, h, a, b, c, r, da, db, e, q⟩ := rc_out q
  cases b with
  | non =>
    cases db
    have e' : isV a .non = some c := e
    refine op_isN pins s σ H _ _ v u Q I rx ry ⟨rfl, ?_⟩
    cases a <;> cases da <;> first | (cases e'; exact q) | cases e'
  | bl k =>
    cases db
    cases ry
    have e' : isV a (.bl k) = some c := e
    cases a with
    | bl j =>
      cases da
      cases rx
      cases e'
      exact is_bool ⟨.bl _, H, I, rfl, q⟩
    | non =>
      cases da
      cases rx
      cases e'
      exact is_none_bl ⟨.bl _, H, I, rfl, q⟩
    | _ => cases e'
  | _ => cases a <;> cases e
theorem isnot_ok : OpR X (compareOp .IsNot) (rc G fun _ x y => (isV x y).map not) := by
  intro pins s σ H x y v u Q I rx ry q
  obtain ⟨m, h, a, b, c, r, da, db, e, q⟩ := rc_out q
  cases b with
  | non =>
    cases db
    have e' : (isV a .non).map not = some c := e
    refine op_notN pins s σ H _ _ v u Q I rx ry ⟨rfl, ?_⟩
    cases a <;> cases da <;> first | (cases e'; exact q) | cases e'
  | bl k =>
    cases db
    cases ry
    have e' : (isV a (.bl k)).map not = some c := e
    cases a with
    | bl j =>
      cases da
      cases rx
      cases e'
      exact isnot_bool ⟨.bl _, H, I, rfl, by
        have : (j != k) = !(j == k) := rfl
        rw [this]
        exact q⟩
    | non =>
      cases da
      cases rx
      cases e'
      exact isnot_none_bl ⟨.bl _, H, I, rfl, q⟩
    | _ => cases e'
  | _ => cases a <;> cases e
theorem all_flatV : ∀ {xs : List D}, xs.all flatD = true → (xs.map toV).all flatV = true
  | [], _ => rfl
  | x :: xs, f => by
    rw [List.all_cons, Bool.and_eq_true] at f
    rw [List.map_cons, List.all_cons, flatV_toV f.1, all_flatV f.2]
    rfl
theorem in_gen (hK : X.K = G.K) {op : CmpOp} {neg : Bool} (ho : OpR X (compareOp op) (rIn X.K neg))
    (hs : ∀ {pins s σ H i z v u Q}, Inv X pins σ H s → RelV (.str i) v → RelV (.str z) u → Q (V.bl (if neg then !(!(Builtin.Str.occurrences z i 0 z.length 1).isEmpty) else !(Builtin.Str.occurrences z i 0 z.length 1).isEmpty)) H → wpAny (model X.prog X.w) X.A (compareOp op v u) (EP X pins σ Q) X.xe s) :
    OpR X (compareOp op) (rc G fun h x y => (inV h x y).map fun b => if neg then !b else b) := by
  intro pins s σ H x y v u Q I rx ry q
  obtain ⟨m, h, a, b, c, r, da, db, e, qq⟩ := rc_out q
  cases e1 : inV h a b with
  | none => rw [e1] at e; cases e
  | some k =>
    rw [e1] at e
    cases e
    have q := qq
    cases b with
    | tup xs =>
      cases db with
      | tup t d =>
        have e2 : (if flatD a && xs.all flatD then some (L2.inV (toV a) (xs.map toV)) else none) = some k := e1
        split at e2
        · rename_i f
          rw [Bool.and_eq_true] at f
          cases e2
          rw [d.flat f.2] at t
          rw [da.flat f.1] at rx
          exact ho pins s σ H _ _ v u Q I rx ry ⟨_, _, rfl, .inr (hK ▸ t), flatV_toV f.1, all_flatV f.2, qq⟩
        · cases e2
    | fl xs =>
      cases db with
      | fl t d =>
        have e2 : (if flatD a && xs.all flatD then some (L2.inV (toV a) (xs.map toV)) else none) = some k := e1
        split at e2
        · rename_i f
          rw [Bool.and_eq_true] at f
          cases e2
          rw [d.flat f.2] at t
          rw [da.flat f.1] at rx
          exact ho pins s σ H _ _ v u Q I rx ry ⟨_, _, rfl, .inl (hK ▸ t.sq), flatV_toV f.1, all_flatV f.2, qq⟩
        · cases e2
    | ref n =>
      have e2 : (match lstAt h n with
        | some xs => if flatD a && xs.all flatD then some (L2.inV (toV a) (xs.map toV)) else none
        | none => none) = some k := e1
      split at e2
      · rename_i xs e3
        split at e2
        · rename_i f
          rw [Bool.and_eq_true] at f
          cases e2
          obtain ⟨p, vs, rfl, _, h1, d⟩ := r.lstV db e3
          rw [d.flat f.2] at h1
          rw [da.flat f.1] at rx
          exact ho pins s σ H _ _ v u Q I rx ry ⟨_, _, rfl, .inl (SqL.of h1), flatV_toV f.1, all_flatV f.2, qq⟩
        · cases e2
      · cases e2
    | str z =>
      cases a with
      | str i =>
        cases da
        cases db
        cases e1
        exact hs I rx ry qq
      | _ => cases e1
    | _ => cases e1
theorem in_ok (hK : X.K = G.K) : OpR X (compareOp .In) (rc G inV) := by
  have := in_gen (G := G) (neg := false) hK op_in_seq fun {pins s σ H i z v u Q} I rx ry q => op_in_str pins s σ H (.str i) (.str z) v u Q I rx ry ⟨i, z, rfl, rfl, q⟩
  have e : (fun h x y => (inV h x y).map fun b => if false = true then !b else b) = inV := by
    funext h x y
    cases inV h x y <;> rfl
  rw [e] at this
  exact this
theorem notin_ok (hK : X.K = G.K) : OpR X (compareOp .NotIn) (rc G fun h x y => (inV h x y).map not) :=
  in_gen (neg := true) hK op_notIn_seq fun {pins s σ H i z v u Q} I rx ry q => op_notin_str pins s σ H (.str i) (.str z) v u Q I rx ry ⟨i, z, rfl, rfl, q⟩
theorem cmp_ok (hK : X.K = G.K) (hu : X.A.units + 64 < cLine) (op : CmpOp) : OpR X (compareOp op) (rc G (cmpV op)) := by
  cases op with
  | Eq => exact eq_ok hK hu
  | NotEq => exact ne_ok hK hu
  | Lt => exact ord_ok (fun h a b => by cases a <;> cases b <;> rfl) op_lt
  | LtE => exact ord_ok (fun h a b => by cases a <;> cases b <;> rfl) op_le
  | Gt => exact ord_ok (fun h a b => by cases a <;> cases b <;> rfl) op_gt
  | GtE => exact ord_ok (fun h a b => by cases a <;> cases b <;> rfl) op_ge
  | Is => exact is_ok
  | IsNot => exact isnot_ok
  | In => exact in_ok hK
  | NotIn => exact notin_ok hK
/-! ### subscripts -/
theorem atI_of {m : List Addr} {H : Hp} {K : PySem.W.Frag} {ds : List D} {vs : List V} {k : Int} {d : D} (r : DRs K m H ds vs) (e : L2.atI ds k = some d) : ∃ v, L2.atI vs k = some v ∧ DR K m H d v := by
  unfold L2.atI at e ⊢
  rw [← r.length]
  cases q : L2.ixN ds.length k with
  | none => rw [q] at e; cases e
  | some j =>
    rw [q] at e
    exact r.get e
theorem idx_ok (hK : X.K = G.K) : IxR X (r2 G idxV) := by
  intro value slice pins s σ H x y v u Q I rx ry ⟨m, h, a, b, NoE, r, da, db, q⟩ hs
  cases b with
  | int k =>
    cases db
    cases a with
    | tup xs =>
      cases da with
      | tup t d =>
        have q' : Sat G (RD G) m H (match L2.atI xs k with
          | some d => .ok d h
          | none => .no) Q NoE := q
        split at q'
        · rename_i d' e
          obtain ⟨w', e2, dw⟩ := atI_of d e
          exact ix_tup value slice pins s σ H _ _ v u Q I rx ry ⟨_, _, k, w', rfl, rfl, hK ▸ t, e2, q'.ok r dw⟩ hs
        · exact False.elim q'
    | fl xs =>
      cases da with
      | fl t d =>
        have q' : Sat G (RD G) m H (match L2.atI xs k with
          | some d => .ok d h
          | none => .no) Q NoE := q
        split at q'
        · rename_i d' e
          obtain ⟨w', e2, dw⟩ := atI_of d e
          exact ix_list value slice pins s σ H _ _ v u Q I rx ry ⟨_, _, k, w', rfl, rfl, hK ▸ t.sq, e2, q'.ok r dw⟩ hs
        · exact False.elim q'
    | ref n =>
      have q' : Sat G (RD G) m H (match lstAt h n with
        | some xs => match L2.atI xs k with
          | some d => .ok d h
          | none => .no
        | none => .no) Q NoE := q
      split at q'
      · rename_i xs e1
        split at q'
        · rename_i d' e
          obtain ⟨p, vs, rfl, _, h1, d⟩ := r.lstV da e1
          obtain ⟨w', e2, dw⟩ := atI_of d e
          exact ix_list value slice pins s σ H _ _ v u Q I rx ry ⟨_, _, k, w', rfl, rfl, SqL.of h1, e2, q'.ok r dw⟩ hs
        · exact False.elim q'
      · exact False.elim q'
    | str z =>
      have q' : Sat G (RD G) m H (match L2.atI z.cps.toList k with
        | some c => PV.ret (decide (z.length ≤ line)) (.str ⟨#[c]⟩) h
        | none => .no) Q NoE := q
      split at q'
      · rename_i c e
        obtain ⟨hz, q2⟩ := Sat.ret q'
        cases da
        exact ix_str value slice pins s σ H _ _ v u Q I rx ry ⟨z, k, c, rfl, rfl, by rw [← line_eq]; exact of_decide_eq_true hz, e, q2.ok r (.str _)⟩ hs
      · exact False.elim q'
    | _ => exact False.elim q
  | _ => exact False.elim q
def rsl (G : GW) : V → Option Int → Option Int → Hp → VK → Prop := fun x lo hi H Q => ∃ m h a NoE, Rel G m h H ∧ DR G.K m H a x ∧ Sat G (RD G) m H (slV a lo hi h) Q NoE
theorem cut_of {m : List Addr} {H : Hp} {K : PySem.W.Frag} {ds : List D} {vs : List V} (lo hi : Option Int) (r : DRs K m H ds vs) : DRs K m H (cut ds lo hi) (cutV vs lo hi) := by
  unfold cut cutV
  rw [r.length]
  exact (r.drop _).take _
theorem cut_whole {ds : List D} {lo hi : Option Int} (h : HT.sIx ds.length 0 lo = 0 ∧ HT.sIx ds.length ds.length hi = ds.length) : cut ds lo hi = ds := by
  unfold cut
  rw [h.1, h.2]
  simp
theorem sl_ok (hK : X.K = G.K) : SlR X (rsl G) := by
  intro pins s σ H x v vl vu lo hi sl Q I rx hs pl pu ⟨m, h, a, NoE, r, da, q⟩
  cases a with
  | tup xs =>
    cases da with
    | tup t d =>
      refine sl_tupA pins s σ H _ v vl vu lo hi sl Q I rx hs pl pu ⟨_, _, rfl, hK ▸ t, fun hw => ?_, fun _ p hp => q.tup r (cut_of lo hi d) hp⟩
      rw [← d.length] at hw
      have q' : Sat G (RD G) m H (.ok (.tup (cut xs lo hi)) h) Q NoE := q
      rw [cut_whole hw] at q'
      exact q'.ok r (.tup t d)
  | fl xs =>
    cases da with
    | fl t d => exact sl_list pins s σ H _ v vl vu lo hi sl Q I rx hs pl pu ⟨_, _, rfl, hK ▸ t.sq, fun p hp => Sat.newL (xs := cut xs lo hi) q r (cut_of lo hi d) hp⟩
  | ref n =>
    have q' : Sat G (RD G) m H (match lstAt h n with
      | some xs => PV.newL (cut xs lo hi) h
      | none => .no) Q NoE := q
    split at q'
    · rename_i xs e1
      obtain ⟨p, vs, rfl, _, h1, d⟩ := r.lstV da e1
      exact sl_list pins s σ H _ v vl vu lo hi sl Q I rx hs pl pu ⟨_, _, rfl, SqL.of h1, fun p hp => q'.newL r (cut_of lo hi d) hp⟩
    · exact False.elim q'
  | str z =>
    cases da
    obtain ⟨hz, q2⟩ := Sat.ret q
    exact sl_str pins s σ H _ v vl vu lo hi sl Q I rx hs pl pu ⟨z, rfl, by rw [← line_eq]; exact of_decide_eq_true hz, q2.ok r (.str _)⟩
  | _ => exact False.elim q
/-! ### built-in functions -/
def rbi (G : GW) (b : BI) : List V → Hp → VK → Prop := fun vs H Q => ∃ m h xs NoE, Rel G m h H ∧ DRs G.K m H xs vs ∧ Sat G (RD G) m H (biV b xs h) Q NoE
def BI.val : BI → Value
  | .int => .type "int" | .abs => .builtin "abs" | .len => .builtin "len" | .tuple => .type "tuple" | .list => .type "list" | .max => .builtin "max" | .min => .builtin "min" | .all => .builtin "all" | .any => .builtin "any" | .gcd => .builtin "math.gcd" | .str => .type "str"
theorem bls_of {m : List Addr} {H : Hp} {K : PySem.W.Frag} : ∀ {ds : List D} {vs : List V} {bs : List Bool}, DRs K m H ds vs → bls ds = some bs → vs = bs.map V.bl
  | _, _, _, .nil, e => by cases e; rfl
  | _, _, bs, .cons (d := d) (ds := ds) a r, e => by
    cases d with
    | bl b =>
      cases a
      have e' : (bls ds).map (b :: ·) = some bs := e
      cases q : bls ds with
      | none => rw [q] at e'; cases e'
      | some cs =>
        rw [q] at e'
        cases e'
        rw [bls_of r q]
        rfl
    | _ => cases e
theorem one_of {m : List Addr} {H : Hp} {K : PySem.W.Frag} {d : D} {vs : List V} (r : DRs K m H [d] vs) : ∃ v, vs = [v] ∧ DR K m H d v := by
  cases r with
  | cons a r => cases r; exact ⟨_, rfl, a⟩
theorem two_of {m : List Addr} {H : Hp} {K : PySem.W.Frag} {d e : D} {vs : List V} (r : DRs K m H [d, e] vs) : ∃ v w, vs = [v, w] ∧ DR K m H d v ∧ DR K m H e w := by
  cases r with
  | cons a r =>
    cases r with
    | cons b r => cases r; exact ⟨_, _, rfl, a, b⟩
theorem bi_ok (hK : X.K = G.K) (hc : X.calm = true) (b : BI) : CallR X b.val (rbi G b) := by
  intro pins s σ H vs us Q I rv ⟨m, h, xs, NoE, r, d, q⟩
  unfold biV at q
  split at q
  · obtain ⟨v, rfl, a⟩ := one_of d
    cases a
    exact call_int1 pins s σ H _ us Q I rv (.inl ⟨_, rfl, q.ok r (.int _)⟩)
  · obtain ⟨v, rfl, a⟩ := one_of d
    cases a
    exact call_int1 pins s σ H _ us Q I rv (.inr ⟨_, rfl, q.ok r (.int _)⟩)
  · obtain ⟨v, rfl, a⟩ := one_of d
    cases a
    exact call_abs pins s σ H _ us Q I rv ⟨_, rfl, q.ok r (.int _)⟩
  · obtain ⟨v, rfl, a⟩ := one_of d
    cases a with
    | tup t d' => exact call_len_seq pins s σ H _ us Q I rv ⟨_, _, rfl, .inr (hK ▸ t), by rw [← d'.length]; exact q.ok r (.int _)⟩
  · obtain ⟨v, rfl, a⟩ := one_of d
    cases a with
    | fl t d' => exact call_len_seq pins s σ H _ us Q I rv ⟨_, _, rfl, .inl (hK ▸ t.sq), by rw [← d'.length]; exact q.ok r (.int _)⟩
  · obtain ⟨v, rfl, a⟩ := one_of d
    cases a
    obtain ⟨hz, q2⟩ := Sat.ret q
    exact call_len_str pins s σ H _ us Q I rv ⟨_, rfl, by rw [← line_eq]; exact of_decide_eq_true hz, q2.ok r (.int _)⟩
  · split at q
    · rename_i e1
      obtain ⟨v, rfl, a⟩ := one_of d
      obtain ⟨p, ws, rfl, _, h1, d'⟩ := r.lstV a e1
      exact call_len_seq pins s σ H _ us Q I rv ⟨_, _, rfl, .inl (SqL.of h1), by rw [← d'.length]; exact q.ok r (.int _)⟩
    · exact False.elim q
  · obtain ⟨v, rfl, a⟩ := one_of d
    cases a with
    | tup t d' => exact call_tuple_of pins s σ H _ us Q I rv ⟨_, _, rfl, .inr ⟨hK ▸ t, q.ok r (.tup t d')⟩⟩
  · obtain ⟨v, rfl, a⟩ := one_of d
    cases a with
    | fl t d' => exact call_tuple_of pins s σ H _ us Q I rv ⟨_, _, rfl, .inl ⟨hK ▸ t.sq, fun p hp => q.tup r d' hp⟩⟩
  · split at q
    · rename_i e1
      obtain ⟨v, rfl, a⟩ := one_of d
      obtain ⟨p, ws, rfl, _, h1, d'⟩ := r.lstV a e1
      exact call_tuple_of pins s σ H _ us Q I rv ⟨_, _, rfl, .inl ⟨SqL.of h1, fun p hp => q.tup r d' hp⟩⟩
    · exact False.elim q
  · obtain ⟨v, rfl, a⟩ := one_of d
    cases a with
    | tup t d' => exact call_list_of pins s σ H _ us Q I rv ⟨_, _, rfl, .inr (hK ▸ t), fun p hp => q.newL r d' hp⟩
  · obtain ⟨v, rfl, a⟩ := one_of d
    cases a with
    | fl t d' => exact call_list_of pins s σ H _ us Q I rv ⟨_, _, rfl, .inl (hK ▸ t.sq), fun p hp => q.newL r d' hp⟩
  · split at q
    · rename_i e1
      obtain ⟨v, rfl, a⟩ := one_of d
      obtain ⟨p, ws, rfl, _, h1, d'⟩ := r.lstV a e1
      exact call_list_of pins s σ H _ us Q I rv ⟨_, _, rfl, .inl (SqL.of h1), fun p hp => q.newL r d' hp⟩
    · exact False.elim q
  · obtain ⟨v, w, rfl, a, b⟩ := two_of d
    cases a
    cases b
    exact call_max2 hc pins s σ H _ us Q I rv ⟨_, _, rfl, q.ok r (.int _)⟩
  · obtain ⟨v, w, rfl, a, b⟩ := two_of d
    cases a
    cases b
    exact call_min2 hc pins s σ H _ us Q I rv ⟨_, _, rfl, q.ok r (.int _)⟩
  · split at q
    · rename_i bs e1
      obtain ⟨v, rfl, a⟩ := one_of d
      cases e2 : lstAt h _ with
      | none => rw [e2] at e1; cases e1
      | some ys =>
        rw [e2] at e1
        obtain ⟨p, ws, rfl, _, h1, d'⟩ := r.lstV a e2
        exact cr_all hc pins s σ H _ us Q I rv ⟨_, bs, rfl, by rw [← bls_of d' e1]; exact SqL.of h1, q.ok r (.bl _)⟩
    · exact False.elim q
  · split at q
    · rename_i bs e1
      obtain ⟨v, rfl, a⟩ := one_of d
      cases e2 : lstAt h _ with
      | none => rw [e2] at e1; cases e1
      | some ys =>
        rw [e2] at e1
        obtain ⟨p, ws, rfl, _, h1, d'⟩ := r.lstV a e2
        exact cr_any hc pins s σ H _ us Q I rv ⟨_, bs, rfl, by rw [← bls_of d' e1]; exact SqL.of h1, q.ok r (.bl _)⟩
    · exact False.elim q
  · obtain ⟨v, w, rfl, a, b⟩ := two_of d
    cases a
    cases b
    exact cr_gcd pins s σ H _ us Q I rv ⟨_, _, rfl, q.ok r (.int _)⟩
  · obtain ⟨v, rfl, a⟩ := one_of d
    cases a
    obtain ⟨hz, q2⟩ := Sat.ret q
    exact call_str_int pins s σ H _ us Q I rv ⟨_, rfl, of_decide_eq_true hz, q2.ok r (.str _)⟩
  · exact False.elim q
/-! ### isinstance, built-in types -/
def Ty.nm : Ty → String
  | .int => "int" | .bool => "bool" | .str => "str" | .tuple => "tuple" | .list => "list" | .cls _ => ""
theorem tyX_tup {m : List Addr} {H : Hp} {a : Addr} {vs : List V} {K : PySem.W.Frag} (t : SqT K H a vs) : TyX K H (.ref a) (.type "tuple") := by
  rcases t with (t | ⟨o, t⟩) | ⟨o, its, n, hk, hc, _⟩
  · exact .base (.tup t)
  · exact .fTuple t
  · exact .kTuple hk hc
theorem tyX_lst {H : Hp} {a : Addr} {vs : List V} {K : PySem.W.Frag} (t : SqL K H a vs) : TyX K H (.ref a) (.type "list") := by
  rcases t with (t | ⟨o, t⟩) | ⟨o, its, n, hk, hc, _⟩
  · exact .base (.lst t)
  · exact .base (.frz t)
  · exact .kList hk hc
/-- isinstance(x, T): the arguments as they stand -/
def risi (G : GW) (t : Ty) : List V → Hp → VK → Prop := fun vs H Q => ∃ m h a v NoE, vs = [v, .ty t.nm] ∧ (∀ n, t ≠ .cls n) ∧ Rel G m h H ∧ DR G.K m H a v ∧ Sat G (RD G) m H (boolO h (isiV a t h)) Q NoE
theorem isi_ok (hK : X.K = G.K) (t : Ty) : CallR X (.builtin "isinstance") (risi G t) := by
  intro pins s σ H vs us Q I rv ⟨m, h, a, v, NoE, e, nc, r, d, q⟩
  subst e
  have go : ∀ {T : String} {b : Bool}, TyX X.K H v (.type T) → kitB T t.nm = some b → isiV a t h = some b → wpAny (model X.prog X.w) X.A (call (.builtin "isinstance") us) (EP X pins σ Q) X.xe s := fun {T b} ty k e => by
    rw [e] at q
    exact call_isi pins s σ H _ us Q I rv ⟨v, .ty t.nm, .type T, .type t.nm, b, rfl, .ty _, ty, kit_ty k, Sat.ok (G := G) q r (.bl b)⟩
  have ref : ∀ {n : Nat}, a = .ref n → ∃ xs, lstAt h n = some xs := fun {n} e => by
    subst e
    cases e2 : lstAt h n with
    | some xs => exact ⟨xs, rfl⟩
    | none =>
      exfalso
      cases t <;> first
        | exact nc _ rfl
        | (have q' : Sat G (RD G) m H (boolO h ((lstAt h n).map fun _ => true)) Q NoE := q
           rw [e2] at q'
           exact False.elim q')
        | (have q' : Sat G (RD G) m H (boolO h ((lstAt h n).map fun _ => false)) Q NoE := q
           rw [e2] at q'
           exact False.elim q')
  cases a with
  | non => cases d; cases t <;> first | exact absurd rfl (nc _) | exact go (.base .non) (by decide +kernel) rfl
  | bl k => cases d; cases t <;> first | exact absurd rfl (nc _) | exact go (.base (.bl _)) (by decide +kernel) rfl
  | int k => cases d; cases t <;> first | exact absurd rfl (nc _) | exact go (.base (.int _)) (by decide +kernel) rfl
  | str k => cases d; cases t <;> first | exact absurd rfl (nc _) | exact go (.base (.str _)) (by decide +kernel) rfl
  | tup xs =>
    cases d with
    | tup tt d' =>
      have ty := tyX_tup (m := m) (hK ▸ tt)
      cases t <;> first | exact absurd rfl (nc _) | exact go ty (by decide +kernel) rfl
  | fl xs =>
    cases d with
    | fl tt d' =>
      have ty := tyX_lst (K := X.K) (hK ▸ tt.sq)
      cases t <;> first | exact absurd rfl (nc _) | exact go ty (by decide +kernel) rfl
  | ref n =>
    obtain ⟨xs, e⟩ := ref rfl
    obtain ⟨p, ws, rfl, _, h1, d'⟩ := r.lstV d e
    have ty := tyX_lst (K := X.K) (SqL.of h1)
    cases t <;> first
      | exact absurd rfl (nc _)
      | exact go (b := true) ty (by decide +kernel) (by unfold isiV; dsimp only; rw [e]; rfl)
      | exact go (b := false) ty (by decide +kernel) (by unfold isiV; dsimp only; rw [e]; rfl)
/-! ### methods of lists, stores, augmented assignments -/
def rmt (G : GW) (F : D → List D → Hd → Out D) : V → List V → Hp → VK → Prop := fun x vs H Q => ∃ m h a xs NoE, Rel G m h H ∧ DR G.K m H a x ∧ DRs G.K m H xs vs ∧ Sat G (RD G) m H (F a xs h) Q NoE
/-- a tracked list is written -/
theorem lst_set {m : List Addr} {h : Hd} {H : Hp} {n : Nat} {p : Addr} {ws ws' : List V} {ys' : List D} (r : Rel G m h H) (ep : m[n]? = some p) (h1 : H p = some (.lst ws)) (d : DRs G.K m H ys' ws') : Step m H m (upd H p (.lst ws')) ∧ Rel G m (h.set n (.lst ys')) (upd H p (.lst ws')) := by
  have hw : ∀ b u, b ≠ p → H b = some u → upd H p (.lst ws') b = some u := fun b u hb e => by rw [upd_ne hb]; exact e
  have tp : ∀ b xs, H b = some (.tup xs) → upd H p (.lst ws') b = some (.tup xs) := fun b xs e => hw b _ (fun z => by rw [z, h1] at e; cases e) e
  have fz : ∀ b o u, H b = some (.frz o u) → upd H p (.lst ws') b = some (.frz o u) := fun b o u e => hw b _ (fun z => by rw [z, h1] at e; cases e) e
  exact set_step (o := .lst ws') (c := .lst ys') r ep h1 (fun _ z => by cases z) (fun _ _ z => by cases z) ⟨_, upd_same, d.mono (fun _ _ e => e) tp fz⟩
theorem append_ok : MtM X "list.append" (rmt G appV) := by
  intro pins s σ H x vs v us Q I rx rv ⟨m, h, a, xs, NoE, r, da, d, q⟩
  unfold appV at q
  split at q
  · split at q
    · rename_i ys e1
      obtain ⟨hz, q2⟩ := Sat.ret q
      obtain ⟨p, ws, rfl, ep, h1, d1⟩ := r.lstV da e1
      obtain ⟨w', rfl, dy⟩ := one_of d
      refine mt_append pins s σ H _ _ v us Q I rx rv ⟨p, ws, w', rfl, rfl, h1, by rw [← d1.length, ← line_eq]; exact of_decide_eq_true hz, ?_⟩
      obtain ⟨st, r'⟩ := lst_set r ep h1 (d1.append (.cons dy .nil))
      exact q2 m _ _ st r' .non
    · exact False.elim q
  · exact False.elim q
theorem extend_ok : MtM X "list.extend" (rmt G extV) := by
  intro pins s σ H x vs v us Q I rx rv ⟨m, h, a, xs, NoE, r, da, d, q⟩
  unfold extV at q
  split at q
  · split at q
    · rename_i ys zs e1 e2
      obtain ⟨hz, q2⟩ := Sat.ret q
      obtain ⟨p, ws, rfl, ep, h1, d1⟩ := r.lstV da e1
      obtain ⟨w', rfl, dy⟩ := one_of d
      obtain ⟨p2, ws2, rfl, ep2, h2, d2⟩ := r.lstV dy e2
      refine mt_extend pins s σ H _ _ v us Q I rx rv ⟨p, p2, ws, ws2, rfl, rfl, h1, h2, by rw [← d1.length, ← d2.length, ← line_eq]; exact of_decide_eq_true hz, ?_⟩
      obtain ⟨st, r'⟩ := lst_set r ep h1 (d1.append d2)
      exact q2 m _ _ st r' .non
    · exact False.elim q
  · exact False.elim q
theorem aug_ok (op : Operator) : PIp X op (r2 G (augV op)) := by
  intro pins s σ H x y v u Q I rx ry ⟨m, h, a, b, NoE, r, da, db, q⟩
  unfold augV at q
  split at q
  · cases da
    cases db
    exact ip_add pins s σ H _ _ v u Q I rx ry ⟨_, _, rfl, rfl, q.ok r (.int _)⟩
  · cases da
    cases db
    exact ip_sub pins s σ H _ _ v u Q I rx ry ⟨_, _, rfl, rfl, q.ok r (.int _)⟩
  · exact False.elim q
end
end PV
/-! PVD: from the text's expressions to code, and that the machine does what the code says. -/
namespace PV
open PySem PySem.Spec PyProof.Rows L2

/-- what a global name stands for -/
abbrev Arr := List (Sum (Sum Nat Nat) D)
inductive Gv where
  | con (d : D) | fn (i np : Nat) (shapes : List (Nat × List Str × Arr)) | bi (b : BI) | ty (t : Ty) | isi | rng | zip | enum | exc (c : Nat) (fs : List Str)
  | own (C i np : Nat) | met (C i np : Nat) (m : Str) | flds (fs : List Str) | xin (c : Nat) (fs : List Str) | dct (kvs : List (Str × D))
/-- where a piece of text stands: the names by slot, the scope, the names that may be stored, the globals, whether in an except suite, the exception's slot -/
structure CC where
  N : List Str
  sc : Scope
  as : List Str
  gl : List (Str × Gv)
  hot : Bool
  xi : Option Nat

def ixOf (N : List Str) (x : Str) : Option Nat := match N with
  | [] => none
  | y :: r => if x = y then some 0 else (ixOf r x).map (· + 1)
theorem ixOf_get : ∀ {N : List Str} {x : Str} {i : Nat}, ixOf N x = some i → N[i]? = some x
  | [], _, _, e => by cases e
  | y :: r, x, i, e => by
    unfold ixOf at e
    split at e
    · rename_i h
      cases e
      rw [h]
      rfl
    · cases q : ixOf r x with
      | none => rw [q] at e; cases e
      | some j =>
        rw [q] at e
        cases e
        show r[j]? = some x
        exact ixOf_get q
def plainName (x : Str) : Bool := !(x == ("__debug__" : Str)) && !(x == ("__classdict__" : Str)) && decide (x ≠ "__name__")
def visB (sc : Scope) (x : Str) : Bool := match sc.names.lookup x with
  | some .local => true
  | some .cell => true
  | some .free => true
  | _ => false
def glB (sc : Scope) (x : Str) : Bool := match sc.names.lookup x with
  | some .globalImplicit => true
  | _ => false
def cConst : Const → Option D
  | .none => some .non
  | .bool b => some (.bl b)
  | .int i => some (.int i)
  | .str s => some (.str s)
  | _ => none
def cName (cc : CC) (x : Str) : Option QE :=
  if plainName x then
    if visB cc.sc x then match ixOf cc.N x with
      | some i => if cc.xi = some i then none else some (.var i)
      | none => none
    else if glB cc.sc x then match cc.gl.lookup x with
      | some (.con d) => some (.con d)
      | _ => none
    else none
  else none
def foldB (f : Expr → Option QE) (mk : QE → QE → QE) : List Expr → Option QE
  | [] => none
  | [a] => f a
  | a :: b :: r => match f a, foldB f mk (b :: r) with
    | some p, some q => some (mk p q)
    | _, _ => none
def foldT (f : Expr → Option QT) (mk : QT → QT → QT) : List Expr → Option QT
  | [] => none
  | [a] => f a
  | a :: b :: r => match f a, foldT f mk (b :: r) with
    | some p, some q => some (mk p q)
    | _, _ => none
def cList (f : Expr → Option QE) : List Expr → Option QEs
  | [] => some .nil
  | a :: r => match f a, cList f r with
    | some p, some q => some (.cons p q)
    | _, _ => none
def cKws (f : Expr → Option QE) : List Keyword → Option QEs
  | [] => some .nil
  | ⟨some _, a, _⟩ :: r => match f a, cKws f r with
    | some p, some q => some (.cons p q)
    | _, _ => none
  | _ => none
def kwNames (ks : List Keyword) : List Str := ks.filterMap (·.arg)
def cOpt (f : Expr → Option QE) : Option Expr → Option QO
  | none => some .none
  | some e => (f e).map .some
def tyBI : Ty → Option BI
  | .int => some .int
  | .str => some .str
  | .tuple => some .tuple
  | .list => some .list
  | _ => none
def shapeOf (shapes : List (Nat × List Str × Arr)) (n : Nat) (ks : List Str) : Option Arr := match shapes with
  | [] => none
  | (m, ls, a) :: r => if m = n ∧ ls = ks then some a else shapeOf r n ks
theorem shapeOf_mem : ∀ {shapes : List (Nat × List Str × Arr)} {n : Nat} {ks : List Str} {a : Arr}, shapeOf shapes n ks = some a → (n, ks, a) ∈ shapes
  | (m, ls, b) :: r, n, ks, a, e => by
    unfold shapeOf at e
    split at e
    · rename_i h
      cases e
      rw [h.1, h.2]
      exact List.mem_cons_self
    · exact List.mem_cons_of_mem _ (shapeOf_mem e)
/-- targets -/
def cTgts (f : Expr → Option QG) : List Expr → Option (List QG)
  | [] => some []
  | e :: r => match f e, cTgts f r with
    | some g, some gs => some (g :: gs)
    | _, _ => none
def cTgt (cc : CC) : Nat → Expr → Option QG
  | 0, _ => none
  | n + 1, e => match e with
    | .Name x _ => if cc.as.contains x then match ixOf cc.N x with
      | some i => if cc.xi = some i then none else some (.nm i)
      | none => none
      else none
    | .Tuple es _ _ => if cc.hot then none else (cTgts (cTgt cc n) es).map .tp
    | _ => none
def cBi (cc : CC) (f : Expr → Option QE) (b : BI) (args : List Expr) : Option QE := match args with
  | [] => none
  | a :: r => if cc.hot then none else (cList f (a :: r)).map (.bi b)
def tyOf (cc : CC) (e : Expr) : Option Ty := match e with
  | .Name x _ => if plainName x && glB cc.sc x then match cc.gl.lookup x with
    | some (.ty t) => match t with
      | .cls _ => none
      | t => some t
    | _ => none
    else none
  | _ => none
/-- the fields of own exceptions -/
def xFlds : List Str := ["layer", "reason", "row", "place"]
/-- the name of the exception that the suite holds -/
def isXi (cc : CC) (e : Expr) : Bool := cc.hot && (match e with
  | .Name y _ => plainName y && visB cc.sc y && decide (ixOf cc.N y = cc.xi) && cc.xi.isSome
  | _ => false)
def excOf (cc : CC) (e : Expr) : Option Nat := match e with
  | .Name c _ => if plainName c && glB cc.sc c then match cc.gl.lookup c with
    | some (.exc n _) => some n
    | _ => none
    else none
  | _ => none
def cCall (cc : CC) (f : Expr → Option QE) (x : Str) (args : List Expr) (kws : List Keyword) : Option QE :=
  if plainName x && glB cc.sc x then match cc.gl.lookup x with
    | some (.fn i np shapes) => if cc.hot then none else match args, kws with
      | [], _ :: _ => none
      | args, kws => match cList f args, cKws f kws, shapeOf shapes args.length (kwNames kws) with
        | some es, some ks, some arr => some (.call i es ks arr)
        | _, _, _ => none
    | some (.bi b) => match kws with
      | [] => cBi cc f b args
      | _ => none
    | some (.ty t) => match kws, tyBI t with
      | [], some b => cBi cc f b args
      | _, _ => none
    | some (.own C i np) => if cc.hot then none else match kws with
      | [] => if args.length + 1 = np then (cList f args).map (.make C i) else none
      | _ => none
    | some .isi => match kws, args with
      | [], [a, t] => if isXi cc a then (excOf cc t).map .excIs else match f a, tyOf cc t with
        | some p, some t => some (.isi p t)
        | _, _ => none
      | _, _ => none
    | _ => none
  else none
/-- the key of a method among the globals -/
def mkey (m : Str) : Str := ⟨(46 :: m.cps.toList).toArray⟩
/-- nothing but the object is asked (no super()) -/
def baseOk : Expr → Bool
  | .Call (.Name id _) [] [] _ => id != ("super" : Str)
  | _ => true
def cDget (cc : CC) (f : Expr → Option QE) (o : Expr) (m : Str) (ap cp : Pos) (args : List Expr) (kws : List Keyword) : Option QE := match o, args, kws with
  | .Name d _, [a], [] => match cc.gl.lookup d with
    | some (.dct kvs) => if m = ("get" : Str) ∧ plainName d = true ∧ glB cc.sc d = true ∧ (ap.endLine == cp.line) = true then (f a).map (.dget kvs) else none
    | _ => none
  | _, _, _ => none
def cMeth (cc : CC) (f : Expr → Option QE) (o : Expr) (m : Str) (ap cp : Pos) (args : List Expr) (kws : List Keyword) : Option QE := match cc.gl.lookup (mkey m), kws with
  | some (.met C i np m'), [] => if m' = m ∧ baseOk o = true ∧ (ap.endLine == cp.line) = true ∧ args.length + 1 = np ∧ args.length < 29 ∧ cc.hot = false then match f o, cList f args with
      | some p, some es => some (.mcall C i m p es)
      | _, _ => none
    else none
  | _, _ => none
def cFld (cc : CC) (f : Expr → Option QE) (o : Expr) (n : Str) : Option QE := match cc.gl.lookup ("." : Str) with
  | some (.flds fs) => if fs.contains n ∧ baseOk o = true ∧ cc.hot = false then (f o).map fun p => .fld p n else none
  | _ => none
def mthOf (m : Str) : Option Nat := if m = ("append" : Str) then some 0 else if m = ("extend" : Str) then some 1 else none
/-- the iterables that are walked -/
def cIter (cc : CC) (f : Expr → Option QE) (tg : QG) (e : Expr) : Option QI := match e with
  | .Call (.Name x p) args kws pos => if plainName x && glB cc.sc x then match cc.gl.lookup x, kws with
    | some .rng, [] => match args with
      | [a] => (f a).map .rng1
      | [a, b] => match f a, f b with
        | some p, some q => some (.rng2 p q)
        | _, _ => none
      | _ => none
    | some .zip, [] => match args, tg with
      | [a, b], .tp _ => match f a, f b with
        | some p, some q => some (.zip p q)
        | _, _ => none
      | _, _ => none
    | some .enum, [] => match args, tg with
      | [a], .tp _ => (f a).map .enum
      | _, _ => none
    | _, _ => (f e).map .v
    else none
  | .Set .. => none
  | e => (f e).map .v
def ownOf (N : List Str) : List (Str × NameKind) → Option (List (Str × Nat))
  | [] => some []
  | (x, k) :: r => match k with
    | .local | .cell => match ixOf N x, ownOf N r with
      | some i, some l => some ((x, i) :: l)
      | none, some l => some l
      | _, none => none
    | _ => ownOf N r
def cBlk (cc : CC) (scope : Scope) (own : List (Str × Nat)) : CC := { cc with sc := relS scope cc.sc, as := own.map (·.1), hot := false, xi := none }
def notCall : Expr → Bool
  | .Call .. => false
  | _ => true
mutual
def cE : Nat → CC → Expr → Option QE
  | 0, _, _ => none
  | n + 1, cc, e => match e with
    | .Constant c _ _ => (cConst c).map .con
    | .Name x _ => cName cc x
    | .BinOp a op b _ => match cE n cc a, cE n cc b with
      | some p, some q => some (.bin op p q)
      | _, _ => none
    | .UnaryOp op a _ => match op with
      | .USub => (cE n cc a).map .neg
      | .Not => (cE n cc a).map .nott
      | _ => none
    | .BoolOp op vs _ => match op with
      | .And => foldB (cE n cc) .andv vs
      | .Or => foldB (cE n cc) .orv vs
    | .Compare a ops bs _ => match ops, bs with
      | [op], [b] => match cE n cc a, cE n cc b with
        | some p, some q => some (.cmp op p q)
        | _, _ => none
      | [op, op'], [b, c] => match cE n cc a, cE n cc b, cE n cc c with
        | some p, some q, some r => some (.chain op op' p q r)
        | _, _, _ => none
      | _, _ => none
    | .IfExp t a b _ => match cT n cc t, cE n cc a, cE n cc b with
      | some t, some p, some q => some (.ife t p q)
      | _, _, _ => none
    | .Tuple es _ _ => (cList (cE n cc) es).map .tup
    | .List es _ => (cList (cE n cc) es).map .lst
    | .Subscript a i _ => match i with
      | .Slice lo hi st _ => match st, cE n cc a, cOpt (cE n cc) lo, cOpt (cE n cc) hi with
        | none, some p, some l, some u => some (.slc p l u)
        | _, _, _, _ => none
      | i => match cE n cc a, cE n cc i with
        | some p, some q => some (.idx p q)
        | _, _ => none
    | .Call f args kws cp => match f with
      | .Name x _ => cCall cc (cE n cc) x args kws
      | .Attribute o m ap => match mthOf m with
        | some k => match args, kws with
          | [a], [] => match (ap.endLine == cp.line) && notCall o, cE n cc o, cE n cc a with
            | true, some p, some q => some (.mth k p (.cons q .nil))
            | _, _, _ => none
          | _, _ => none
        | none => match cDget cc (cE n cc) o m ap cp args kws with
          | some p => some p
          | none => cMeth cc (cE n cc) o m ap cp args kws
      | _ => none
    | .Attribute o f _ => if isXi cc o && xFlds.contains f then some (.excF f) else cFld cc (cE n cc) o f
    | .ListComp elt gs scope _ => match gs with
      | [⟨tg, it, ifs, as⟩] => match decide (as = 0) && !cc.hot, ownOf cc.N scope.names with
        | true, some own => match blkC cc.N cc.sc scope own with
          | true => match cTgt (cBlk cc scope own) 4 tg with
            | some g => match cIter cc (cE n cc) g it, cE n (cBlk cc scope own) elt with
              | some i, some el => match ifs with
                | [] => some (.lc el g i (own.map (·.2)) .yes)
                | [c] => match cT n (cBlk cc scope own) c with
                  | some t => some (.lc el g i (own.map (·.2)) t)
                  | none => none
                | _ => none
              | _, _ => none
            | none => none
          | false => none
        | _, _ => none
      | _ => none
    | _ => none
def cT : Nat → CC → Expr → Option QT
  | 0, _, _ => none
  | n + 1, cc, e => match e with
    | .UnaryOp op a p => match op with
      | .Not => (cT n cc a).map .not
      | op => (cE n cc (.UnaryOp op a p)).map .v
    | .BoolOp op vs _ => match op with
      | .And => foldT (cT n cc) .and vs
      | .Or => foldT (cT n cc) .or vs
    | .IfExp .. => none
    | e => (cE n cc e).map .v
end

/-! ### the slots -/
def SR (G : GW) (m : List Addr) (H : Hp) (s : Sl) (σ : L2.St) : Prop := s.length = σ.length ∧ ∀ (i : Nat) (d : D), s[i]? = some (some d) → ∃ v, σ[i]? = some (some v) ∧ DR G.K m H d v
section
variable {G : GW} {m m' : List Addr} {H H' : Hp} {s : Sl} {σ : L2.St}
theorem SR.step (r : SR G m H s σ) (t : Step m H m' H') : SR G m' H' s σ := ⟨r.1, fun i d e => let ⟨v, e1, d1⟩ := r.2 i d e; ⟨v, e1, d1.step t⟩⟩
theorem SR.set {d : D} {v : V} (r : SR G m H s σ) (a : DR G.K m H d v) (i : Nat) : SR G m H (s.set i (some d)) (σ.set i (some v)) := by
  refine ⟨by rw [List.length_set, List.length_set, r.1], fun j e he => ?_⟩
  by_cases hj : i = j
  · subst hj
    by_cases hl : i < s.length
    · rw [List.getElem?_set_self hl] at he
      cases he
      exact ⟨v, List.getElem?_set_self (by rw [← r.1]; exact hl), a⟩
    · rw [List.getElem?_eq_none (by simpa using hl)] at he
      cases he
  · rw [List.getElem?_set_ne hj] at he ⊢
    exact r.2 j e he
theorem SR.unset (r : SR G m H s σ) (i : Nat) (o : Option V) : SR G m H (s.set i none) (σ.set i o) := by
  refine ⟨by rw [List.length_set, List.length_set, r.1], fun j e he => ?_⟩
  by_cases hj : i = j
  · subst hj
    by_cases hl : i < s.length
    · rw [List.getElem?_set_self hl] at he
      cases he
    · rw [List.getElem?_eq_none (by simpa using hl)] at he
      cases he
  · rw [List.getElem?_set_ne hj] at he ⊢
    exact r.2 j e he
theorem SR.wipe (r : SR G m H s σ) : ∀ vs : List Nat, SR G m H (wipeD s vs) (L2.wipe σ vs)
  | [] => r
  | v :: vs => (SR.wipe r vs).unset v none
end

/-! ### the context of a piece of code -/
structure WD where
  P : Program
  w : World
  mg : Str → Option Value
  base : Heap
  G : GW
  xa : Addr
def arrV (arr : Arr) (vs zs : List V) : List V := arr.map fun a => match a with
  | .inl (.inl i) => vs.getD i .non
  | .inl (.inr i) => zs.getD i .non
  | .inr d => toV d
def arrFlat (arr : Arr) : Bool := arr.all fun a => match a with
  | .inr d => flatD d
  | _ => true
theorem getD_rel {K : PySem.W.Frag} {m : List Addr} {H : Hp} {xs : List D} {vs : List V} (r : DRs K m H xs vs) (i : Nat) : DR K m H (xs.getD i .non) (vs.getD i .non) := by
  rw [List.getD_eq_getElem?_getD, List.getD_eq_getElem?_getD]
  cases e : xs[i]? with
  | some d =>
    obtain ⟨v, e1, d1⟩ := r.get e
    rw [e1]
    exact d1
  | none =>
    have h1 : xs.length ≤ i := List.getElem?_eq_none_iff.mp e
    rw [List.getElem?_eq_none (by rw [← r.length]; exact h1)]
    exact .non
theorem arr_rel {K : PySem.W.Frag} {m : List Addr} {H : Hp} {xs ys : List D} {vs zs : List V} (r : DRs K m H xs vs) (q : DRs K m H ys zs) : ∀ {arr : Arr}, arrFlat arr = true → DRs K m H (arrD arr xs ys) (arrV arr vs zs)
  | [], _ => .nil
  | a :: r', f => by
    unfold arrFlat at f
    rw [List.all_cons, Bool.and_eq_true] at f
    refine .cons ?_ (arr_rel r q (arr := r') f.2)
    match a, f.1 with
    | .inl (.inl i), _ => exact getD_rel r i
    | .inl (.inr i), _ => exact getD_rel q i
    | .inr d, f => exact dr_toV f
/-- what a def's promise says: what the pure call gives -/
def spF (G : GW) (np : Nat) (F : List D → Hd → Out D) : Sp := fun vs H Q E => ∃ m h ds, Rel G m h H ∧ DRs G.K m H ds vs ∧ ds.length = np ∧ Sat G (RD G) m H (F ds h) Q E
/-- what the __init__ of an own exception keeps: its parameters become its fields -/
def spI (C : Addr) (fs : List Str) : Sp := fun vs H Q _ => ∃ (a : Addr) (ws : List V), vs = .ref a :: ws ∧ ws.length = fs.length ∧ H a = some (exo a C none) ∧ ∀ dx, H dx = none → dx ≠ a → Q .non (upd (upd H dx (exd dx (fs.zip ws).reverse)) a (exo a C (some dx)))
def GvOk (W : WD) (k : Nat) (ev : Ev) (x : Str) : Gv → Prop
  | .con d => ∃ u v, W.mg x = some u ∧ RelV v u ∧ ∀ m H, DR W.G.K m H d v
  | .fn i np shapes => ∃ f fd ps, W.mg x = some (.ref f) ∧ PySem.W.keepIn W.G.K (.ref f) = true ∧ ps.length = np ∧ FnOk W.P W.w W.G.K W.mg W.base (L2.CX W.P W.w) (3 * k) f fd ps (spF W.G np (ev.call i)) ∧
      ∀ n ks arr, (n, ks, arr) ∈ shapes → arr.length = np ∧ arrFlat arr = true ∧ ∃ g, KBn W.G.K fd ps n ks g (arrV arr)
  | .bi b => match b with
    | .gcd => W.mg x = some (.builtin "math.gcd")
    | b => W.mg x = none ∧ bootBuiltins x = some b.val
  | .ty t => W.mg x = none ∧ bootBuiltins x = some (.type t.nm)
  | .isi => W.mg x = none ∧ bootBuiltins x = some (.builtin "isinstance")
  | .rng => x = "range" ∧ W.mg x = none
  | .zip => x = "zip" ∧ W.mg x = none
  | .enum => x = "enumerate" ∧ W.mg x = none
  | .exc c fs => ∃ Ca, W.mg x = some (.ref Ca) ∧ W.G.cl c = some Ca ∧ (fs = [] → PySem.W.excIn W.G.K Ca [.type "ValueError", .type "Exception", .type "BaseException", .type "object"] "ValueError.__new__" = true)
  | .own C i np => ∃ Ca f fd ps, W.mg x = some (.ref Ca) ∧ W.G.oc C = some Ca ∧ Mk W.G.K Ca f ∧ ps.length = np ∧ FnOk W.P W.w W.G.K W.mg W.base (L2.CX W.P W.w) (3 * k) f fd ps (spF W.G np (ev.call i)) ∧ Binds W.G.K fd ps []
  | .met C i np m => ∃ Ca f fd ps, W.G.oc C = some Ca ∧ Cls W.G.K Ca ∧ Meth W.G.K Ca m f ∧ ps.length = np ∧ FnOk W.P W.w W.G.K W.mg W.base (L2.CX W.P W.w) (3 * k) f fd ps (spF W.G np (ev.call i)) ∧ Binds W.G.K fd ps []
  | .xin c fs => ∃ Ca fI fd ps, W.G.cl c = some Ca ∧ OexC W.G.K Ca ∧ PySem.W.findIn W.G.K (.ref Ca) "__init__" = some (some (.ref fI)) ∧ PySem.W.typeIn W.G.K (.ref fI) = some (.type "function") ∧ FnOk W.P W.w W.G.K W.mg W.base (L2.CX W.P W.w) 1 fI fd ps (spI Ca fs) ∧ Binds W.G.K fd ps []
  | .dct kvs => ∃ a es n, W.mg x = some (.ref a) ∧ KDict W.G.K W.w a es n ∧ ∀ z, match kvs.lookup z with
    | some d => flatD d = true ∧ ∃ u, PySem.W.nsIn W.G.K a z = some (some u) ∧ RelV (toV d) u
    | none => PySem.W.nsIn W.G.K a z = some none
  | .flds fs => ∀ C Ca, W.G.oc C = some Ca → Cls W.G.K Ca ∧ ∀ f ∈ fs, NoAttr W.G.K Ca f
/-- what is asked of an own exception class -/
structure ClsOk (W : WD) (ev : Ev) (c : Nat) (Ca : Addr) : Prop where
  kp : PySem.W.keepIn W.G.K (.ref Ca) = true
  ec : ExcC W.G.K Ca
  ty : PySem.W.typeIn W.G.K (.ref Ca) = some (.type "type")
  exm : ∀ d Da, W.G.cl d = some Da → PySem.W.exmOne W.G.K (.ref Ca) (.ref Da) = some (ev.sub c d)
  kit : ∀ d Da, W.G.cl d = some Da → PySem.W.kitOne W.G.K (.ref Ca) (.ref Da) = some (ev.sub c d)
  nof : ∀ f ∈ xFlds, PySem.W.findIn W.G.K (.ref Ca) f = some none
structure XG (W : WD) (cc : CC) (k : Nat) (ev : Ev) (X : Cx) (E : WX) : Prop where
  prog : X.prog = W.P
  wd : X.w = W.w
  K : X.K = W.G.K
  mg : X.mg = W.mg
  base : X.base = W.base
  N : X.N = cc.N
  nd : cc.N.Nodup
  sc : X.env.scope = cc.sc
  asg : ∀ x, x ∈ cc.as → Loc cc.sc x ∧ (X.fn x = true ∨ cc.sc.names.lookup x = some .local)
  room : cc.hot = false → X.calm = true ∧ Room (3 * k + 2) X.A
  units : X.A.units + 64 < cLine
  tk : Takes X E
  gl : ∀ x v, cc.gl.lookup x = some v → GvOk W k ev x v
  cls : ∀ c Ca, W.G.cl c = some Ca → ClsOk W ev c Ca
  hx : cc.hot = true → ∃ (X0 : Cx) (oe : Obj) (pn : List (Addr × Obj)) (d : Option Addr) (ex : Exn) (Ca : Addr), X = Cx.suite X0 W.xa ((W.xa, oe) :: pn) ∧ Zc (.ref Ca) d oe ∧ (∃ vs, oe.data = .fields vs) ∧ ev.exn = some ex ∧ W.G.cl ex.cls = some Ca ∧
    ((d = none ∧ ex.fs = []) ∨ ∃ dd fs, d = some dd ∧ (dd, fs) ∈ W.G.pins ∧ ∀ f x, ex.fs.lookup f = some x → flatD x = true ∧ fs.lookup f = some (toV x))
/-- the exception's slot holds it -/
def XiOk (xi : Option Nat) (a : Addr) (σ : L2.St) : Prop := match xi with
  | none => True
  | some i => σ[i]? = some (some (.ref a))
/-- the reading of a piece of code -/
def rdg {α β : Type} (G : GW) (xi : Option Nat) (a : Addr) (E : WX) (R : List Addr → Hp → α → β → Prop) (F : Sl → Hd → Out α) : L2.St → Hp → (β → Hp → Prop) → Prop := fun σ H Q =>
  ∃ m h s, Rel G m h H ∧ SR G m H s σ ∧ XiOk xi a σ ∧ Sat G R m H (F s h) Q fun c d H' => E c d σ H'
theorem PE.imp {X : Cx} {e : Expr} {t t' : TE} (p : PE X e t) (h : ∀ σ H Q, t' σ H Q → t σ H Q) : PE X e t' := ⟨fun pins s σ H Q I q => p.run pins s σ H Q I (h σ H Q q)⟩
theorem PT.imp {X : Cx} {e : Expr} {t t' : TT} (p : PT X e t) (h : ∀ σ H Q, t' σ H Q → t σ H Q) : PT X e t' := ⟨fun pins s σ H Q I q => p.run pins s σ H Q I (h σ H Q q)⟩
theorem PW.imp {X : Cx} {e : Expr} {t t' : TT} (p : PW X e t) (h : ∀ σ H Q, t' σ H Q → t σ H Q) : PW X e t' := ⟨fun wh pins s σ H Q I q => p.run wh pins s σ H Q I (h σ H Q q)⟩
theorem PA.imp {X : Cx} {e : List Expr} {t t' : TA} (p : PA X e t) (h : ∀ σ H Q, t' σ H Q → t σ H Q) : PA X e t' := ⟨fun po pins s σ H Q I q => p.run po pins s σ H Q I (h σ H Q q)⟩
theorem PK.imp {X : Cx} {e : List Keyword} {t t' : TA} (p : PK X e t) (h : ∀ σ H Q, t' σ H Q → t σ H Q) : PK X e t' := ⟨fun po pins s σ H Q I q => p.run po pins s σ H Q I (h σ H Q q)⟩
end PV
/-! PVE: an expression's code says what the machine does. -/
namespace PV
open PySem PySem.Spec PyProof.Rows L2
section
variable {W : WD} {cc : CC} {k : Nat} {ev : Ev} {X : Cx} {E : WX} {a : Addr}
abbrev RE (W : WD) (cc : CC) (a : Addr) (E : WX) (ev : Ev) (p : QE) : TE := rdg W.G cc.xi W.xa E (RD W.G) (evE ev p)
abbrev RT (W : WD) (cc : CC) (a : Addr) (E : WX) (ev : Ev) (p : QT) : TT := rdg W.G cc.xi W.xa E RB (evT ev p)
abbrev REs (W : WD) (cc : CC) (a : Addr) (E : WX) (ev : Ev) (p : QEs) : TA := rdg W.G cc.xi W.xa E (RDs W.G) (evEs ev p)
abbrev ROp (W : WD) (cc : CC) (a : Addr) (E : WX) (ev : Ev) (p : QO) : TO := rdg W.G cc.xi W.xa E RO (evO ev p)
variable {e e1 e2 e3 : Expr} {p q r : QE} {pos : Pos}

theorem k_con {d : D} {v : V} (h : ∀ m H, DR W.G.K m H d v) {σ : L2.St} {H : Hp} {Q : VK} (z : RE W cc a E ev (.con d) σ H Q) : Q v H := by
  obtain ⟨m, hh, s, rl, sr, xi, z⟩ := z
  have z : Sat W.G (RD W.G) m H (.ok d hh) Q _ := z
  exact z.ok rl (h m H)
theorem k_const {c : Const} {d : D} {j : Nat} (h : cConst c = some d) : PE X (.Constant c j pos) (RE W cc a E ev (.con d)) := by
  cases c <;> cases h
  · exact PE.imp pe_non fun σ H Q z => k_con (v := .non) (fun _ _ => .non) z
  · exact PE.imp pe_bl fun σ H Q z => k_con (v := .bl _) (fun _ _ => .bl _) z
  · exact PE.imp pe_int fun σ H Q z => k_con (v := .int _) (fun _ _ => .int _) z
  · exact PE.imp pe_str fun σ H Q z => k_con (v := .str _) (fun _ _ => .str _) z
theorem vis_of {sc : Scope} {x : Str} (h : visB sc x = true) : Vis sc x := by
  unfold visB at h
  split at h
  · exact .inl (by assumption)
  · exact .inr (.inl (by assumption))
  · exact .inr (.inr (by assumption))
  · cases h
theorem gl_of (x : XG W cc k ev X E) {y : Str} (h : glB cc.sc y = true) : Gl X y := by
  unfold glB at h
  split at h
  · show X.env.scope.names.lookup y = _
    rw [x.sc]
    assumption
  · cases h
theorem pn1 {x : Str} (h : plainName x = true) : (x == ("__debug__" : Str)) = false ∧ (x == ("__classdict__" : Str)) = false ∧ x ≠ "__name__" := by
  unfold plainName at h
  simp only [Bool.and_eq_true, Bool.not_eq_true', decide_eq_true_eq] at h
  exact ⟨h.1.1, h.1.2, h.2⟩
theorem k_name (x : XG W cc k ev X E) {y : Str} (h : cName cc y = some p) : PE X (.Name y pos) (RE W cc a E ev p) := by
  unfold cName at h
  split at h
  · rename_i hp
    obtain ⟨n1, n2, n3⟩ := pn1 hp
    split at h
    · rename_i hv
      split at h
      · rename_i i hi
        split at h
        · cases h
        · cases h
          have hN : X.N[i]? = some y := by rw [x.N]; exact ixOf_get hi
          refine PE.imp (pe_var hN (by rw [x.sc]; exact vis_of hv) n1 n2) fun σ H Q ⟨m, hh, s, rl, sr, xi, z⟩ => ?_
          have z : Sat W.G (RD W.G) m H (match s[i]? with
            | some (some d) => .ok d hh
            | _ => .no) Q _ := z
          split at z
          · rename_i d e
            obtain ⟨v, e1, d1⟩ := sr.2 i d e
            exact ⟨v, e1, z.ok rl d1⟩
          · exact False.elim z
      · cases h
    · split at h
      · rename_i hg
        split at h
        · rename_i d hd
          cases h
          obtain ⟨u, v, e1, e2, e3⟩ := x.gl y _ hd
          exact PE.imp (pe_glob (gl_of x hg) (by rw [x.mg]; exact e1) e2 n1) fun σ H Q z => k_con e3 z
        · cases h
      · cases h
  · cases h
theorem k_bin (x : XG W cc k ev X E) {op : Operator} (ha : PE X e1 (RE W cc a E ev p)) (hb : PE X e2 (RE W cc a E ev q)) : PE X (.BinOp e1 op e2 pos) (RE W cc a E ev (.bin op p q)) :=
  PE.imp (pe_op (bin_ok x.K op) ha hb) fun σ H Q ⟨m, h, s, r, sr, xi, z⟩ => by
    have z : Sat W.G (RD W.G) m H ((evE ev p s h).bind fun x h1 => (evE ev q s h1).bind fun y h2 => binV op x y h2) Q _ := z
    exact ⟨m, h, s, r, sr, xi, z.bind fun d h1 m1 H1 v st r1 dv q1 => ⟨m1, h1, s, r1, sr.step st, xi, q1.bind fun d2 h2 m2 H2 v2 st2 r2 dv2 q2 => ⟨m2, h2, d, d2, _, r2, dv.step st2, dv2, q2⟩⟩⟩
theorem k_neg (x : XG W cc k ev X E) (ha : PE X e1 (RE W cc a E ev p)) : PE X (.UnaryOp .USub e1 pos) (RE W cc a E ev (.neg p)) :=
  PE.imp (pe_un (neg_ok (G := W.G)) ha) fun σ H Q ⟨m, h, s, r, sr, xi, z⟩ => by
    have z : Sat W.G (RD W.G) m H ((evE ev p s h).bind fun x h1 => negV x h1) Q _ := z
    exact ⟨m, h, s, r, sr, xi, z.bind fun d h1 m1 H1 v st r1 dv q1 => ⟨m1, h1, d, _, r1, dv, q1⟩⟩
theorem k_nott (x : XG W cc k ev X E) (ha : PE X e1 (RE W cc a E ev p)) : PE X (.UnaryOp .Not e1 pos) (RE W cc a E ev (.nott p)) :=
  PE.imp (pe_notT ha) fun σ H Q ⟨m, h, s, r, sr, xi, z⟩ => by
    have z : Sat W.G (RD W.G) m H ((evE ev p s h).bind fun x h1 => match truthD h1 x with
      | some k => .ok (.bl (!k)) h1
      | none => .no) Q _ := z
    refine ⟨m, h, s, r, sr, xi, z.bind fun d h1 m1 H1 v st r1 dv q1 => ?_⟩
    split at q1
    · rename_i kk e
      exact ⟨kk, tru_of x.K r1 dv e, q1.ok r1 (.bl _)⟩
    · exact False.elim q1
theorem k_andv (x : XG W cc k ev X E) {rest : List Expr} (ha : PE X e1 (RE W cc a E ev p)) (hb : PE X (.BoolOp .And (e2 :: rest) pos) (RE W cc a E ev q)) : PE X (.BoolOp .And (e1 :: e2 :: rest) pos) (RE W cc a E ev (.andv p q)) :=
  PE.imp (pe_andT ha hb) fun σ H Q ⟨m, h, s, r, sr, xi, z⟩ => by
    have z : Sat W.G (RD W.G) m H ((evE ev p s h).bind fun x h1 => match truthD h1 x with
      | some true => evE ev q s h1
      | some false => .ok x h1
      | none => .no) Q _ := z
    refine ⟨m, h, s, r, sr, xi, z.bind fun d h1 m1 H1 v st r1 dv q1 => ?_⟩
    split at q1
    · rename_i e
      exact ⟨true, tru_of x.K r1 dv e, iteT ⟨m1, h1, s, r1, sr.step st, xi, q1⟩⟩
    · rename_i e
      exact ⟨false, tru_of x.K r1 dv e, iteF (q1.ok r1 dv)⟩
    · exact False.elim q1
theorem k_orv (x : XG W cc k ev X E) {rest : List Expr} (ha : PE X e1 (RE W cc a E ev p)) (hb : PE X (.BoolOp .Or (e2 :: rest) pos) (RE W cc a E ev q)) : PE X (.BoolOp .Or (e1 :: e2 :: rest) pos) (RE W cc a E ev (.orv p q)) :=
  PE.imp (pe_orT ha hb) fun σ H Q ⟨m, h, s, r, sr, xi, z⟩ => by
    have z : Sat W.G (RD W.G) m H ((evE ev p s h).bind fun x h1 => match truthD h1 x with
      | some true => .ok x h1
      | some false => evE ev q s h1
      | none => .no) Q _ := z
    refine ⟨m, h, s, r, sr, xi, z.bind fun d h1 m1 H1 v st r1 dv q1 => ?_⟩
    split at q1
    · rename_i e
      exact ⟨true, tru_of x.K r1 dv e, iteT (q1.ok r1 dv)⟩
    · rename_i e
      exact ⟨false, tru_of x.K r1 dv e, iteF ⟨m1, h1, s, r1, sr.step st, xi, q1⟩⟩
    · exact False.elim q1
def notSet : Expr → Bool
  | .Set .. => false
  | _ => true
theorem nomarkS {op : CmpOp} {e : Expr} (h : notSet e = true) : behindInMarks op e = false := by
  cases e <;> first | rfl | cases h
theorem k_cmp (x : XG W cc k ev X E) {op : CmpOp} (hs : notSet e2 = true) (ha : PE X e1 (RE W cc a E ev p)) (hb : PE X e2 (RE W cc a E ev q)) : PE X (.Compare e1 [op] [e2] pos) (RE W cc a E ev (.cmp op p q)) :=
  PE.imp (pe_cmpR (cmp_ok x.K x.units op) ha hb (nomarkS hs)) fun σ H Q ⟨m, h, s, r, sr, xi, z⟩ => by
    have z : Sat W.G (RD W.G) m H ((evE ev p s h).bind fun x h1 => (evE ev q s h1).bind fun y h2 => boolO h2 (cmpV op h2 x y)) Q _ := z
    exact ⟨m, h, s, r, sr, xi, z.bind fun d h1 m1 H1 v st r1 dv q1 => ⟨m1, h1, s, r1, sr.step st, xi, q1.bind fun d2 h2 m2 H2 v2 st2 r2 dv2 q2 => ⟨m2, h2, d, d2, _, r2, dv.step st2, dv2, q2⟩⟩⟩
theorem bool_test {m : List Addr} {h : Hd} {H : Hp} {c : Option Bool} {Q : Bool → Hp → Prop} {E' : XKE} (z : Sat W.G RB m H ((boolO h c).bind fun x h1 => testO h1 (truthD h1 x)) Q E') : Sat W.G (RD W.G) m H (boolO h c) (fun x H' => ∃ k, x = .bl k ∧ Q k H') E' := by
  cases c with
  | none => exact False.elim z
  | some b =>
    intro m' H' v st r' dv
    cases dv
    exact ⟨b, rfl, z m' H' b st r' rfl⟩
theorem t_cmp (x : XG W cc k ev X E) {op : CmpOp} (hs : notSet e2 = true) (ha : PE X e1 (RE W cc a E ev p)) (hb : PE X e2 (RE W cc a E ev q)) : PT X (.Compare e1 [op] [e2] pos) (RT W cc a E ev (.v (.cmp op p q))) :=
  PT.imp (pt_cmpR (cmp_ok x.K x.units op) ha hb (nomarkS hs)) fun σ H Q ⟨m, h, s, r, sr, xi, z⟩ => by
    have z : Sat W.G RB m H (((evE ev p s h).bind fun x h1 => (evE ev q s h1).bind fun y h2 => boolO h2 (cmpV op h2 x y)).bind fun x h1 => testO h1 (truthD h1 x)) Q _ := z
    refine ⟨m, h, s, r, sr, xi, ?_⟩
    cases e0 : evE ev p s h with
    | no => rw [e0] at z; exact False.elim z
    | ex e h' => rw [e0] at z; exact z
    | ok d h1 =>
      rw [e0] at z
      intro m1 H1 v st r1 dv
      have z : Sat W.G RB m H (((evE ev q s h1).bind fun y h2 => boolO h2 (cmpV op h2 d y)).bind fun x h1 => testO h1 (truthD h1 x)) Q _ := z
      have z := z.trans st
      refine ⟨m1, h1, s, r1, sr.step st, xi, ?_⟩
      cases e0' : evE ev q s h1 with
      | no => rw [e0'] at z; exact False.elim z
      | ex e h' => rw [e0'] at z; exact z
      | ok d2 h2 =>
        rw [e0'] at z
        intro m2 H2 v2 st2 r2 dv2
        exact ⟨m2, h2, d, d2, _, r2, dv.step st2, dv2, bool_test (z.trans st2)⟩
theorem k_ife (x : XG W cc k ev X E) {c : Expr} {t : QT} (hc : PT X c (RT W cc a E ev t)) (ha : PE X e1 (RE W cc a E ev p)) (hb : PE X e2 (RE W cc a E ev q)) : PE X (.IfExp c e1 e2 pos) (RE W cc a E ev (.ife t p q)) :=
  PE.imp (pe_ifExp hc ha hb) fun σ H Q ⟨m, h, s, r, sr, xi, z⟩ => by
    have z : Sat W.G (RD W.G) m H ((evT ev t s h).bind fun k h1 => match k with
      | true => evE ev p s h1
      | false => evE ev q s h1) Q _ := z
    refine ⟨m, h, s, r, sr, xi, z.bind fun d h1 m1 H1 v st r1 dv q1 => ?_⟩
    have dv : d = v := dv
    subst dv
    cases d with
    | true => exact iteT ⟨m1, h1, s, r1, sr.step st, xi, q1⟩
    | false => exact iteF ⟨m1, h1, s, r1, sr.step st, xi, q1⟩
/-! ### tests -/
theorem t_v (x : XG W cc k ev X E) (he : ∀ whole, isTrue e X.env whole = (do let v ← whole; standAt e.pos; holding [v] (truthy v))) (ha : PE X e (RE W cc a E ev p)) : PT X e (RT W cc a E ev (.v p)) :=
  PT.imp (pt_truth ha he) fun σ H Q ⟨m, h, s, r, sr, xi, z⟩ => by
    have z : Sat W.G RB m H ((evE ev p s h).bind fun x h1 => testO h1 (truthD h1 x)) Q _ := z
    refine ⟨m, h, s, r, sr, xi, z.bind fun d h1 m1 H1 v st r1 dv q1 => ?_⟩
    cases e0 : truthD h1 d with
    | none => rw [e0] at q1; exact False.elim q1
    | some b =>
      rw [e0] at q1
      exact ⟨b, tru_of x.K r1 dv e0, Sat.ok (G := W.G) q1 r1 rfl⟩
theorem t_not {t : QT} (ha : PT X e (RT W cc a E ev t)) : PT X (.UnaryOp .Not e pos) (RT W cc a E ev (.not t)) :=
  PT.imp (pt_not ha) fun σ H Q ⟨m, h, s, r, sr, xi, z⟩ => by
    have z : Sat W.G RB m H ((evT ev t s h).bind fun k h1 => .ok (!k) h1) Q _ := z
    refine ⟨m, h, s, r, sr, xi, z.bind fun d h1 m1 H1 v st r1 dv q1 => ?_⟩
    have dv : d = v := dv
    subst dv
    exact q1.ok r1 rfl
theorem t_and {t u : QT} {rest : List Expr} (ha : PT X e1 (RT W cc a E ev t)) (hb : PW X (.BoolOp .And (e2 :: rest) pos) (RT W cc a E ev u)) : PW X (.BoolOp .And (e1 :: e2 :: rest) pos) (RT W cc a E ev (.and t u)) :=
  PW.imp (pw_and ha hb) fun σ H Q ⟨m, h, s, r, sr, xi, z⟩ => by
    have z : Sat W.G RB m H ((evT ev t s h).bind fun k h1 => match k with
      | true => evT ev u s h1
      | false => .ok false h1) Q _ := z
    refine ⟨m, h, s, r, sr, xi, z.bind fun d h1 m1 H1 v st r1 dv q1 => ?_⟩
    have dv : d = v := dv
    subst dv
    cases d with
    | true => exact iteT ⟨m1, h1, s, r1, sr.step st, xi, q1⟩
    | false => exact iteF (Sat.ok (G := W.G) q1 r1 rfl)
theorem t_or {t u : QT} {rest : List Expr} (ha : PT X e1 (RT W cc a E ev t)) (hb : PW X (.BoolOp .Or (e2 :: rest) pos) (RT W cc a E ev u)) : PW X (.BoolOp .Or (e1 :: e2 :: rest) pos) (RT W cc a E ev (.or t u)) :=
  PW.imp (pw_or ha hb) fun σ H Q ⟨m, h, s, r, sr, xi, z⟩ => by
    have z : Sat W.G RB m H ((evT ev t s h).bind fun k h1 => match k with
      | true => .ok true h1
      | false => evT ev u s h1) Q _ := z
    refine ⟨m, h, s, r, sr, xi, z.bind fun d h1 m1 H1 v st r1 dv q1 => ?_⟩
    have dv : d = v := dv
    subst dv
    cases d with
    | true => exact iteT (Sat.ok (G := W.G) q1 r1 rfl)
    | false => exact iteF ⟨m1, h1, s, r1, sr.step st, xi, q1⟩
/-! ### lists of expressions, displays -/
def notStar : Expr → Bool
  | .Starred .. => false
  | _ => true
theorem star1 {env : Env} {es : List Expr} (h : notStar e = true) : starEach (e :: es) env = (false, eval e env) :: starEach es env := by
  cases e <;> first | rfl | cases h
theorem as_nil : PA X [] (REs W cc a E ev .nil) := PA.imp pa_nil fun σ H Q ⟨m, h, s, r, sr, xi, z⟩ => by
  have z : Sat W.G (RDs W.G) m H (.ok [] h) Q _ := z
  exact z.ok r .nil
theorem as_cons {es : List Expr} {ps : QEs} (hs : notStar e = true) (ha : PE X e (RE W cc a E ev p)) (hb : PA X es (REs W cc a E ev ps)) : PA X (e :: es) (REs W cc a E ev (.cons p ps)) :=
  PA.imp (pa_cons ha hb (star1 hs)) fun σ H Q ⟨m, h, s, r, sr, xi, z⟩ => by
    have z : Sat W.G (RDs W.G) m H ((evE ev p s h).bind fun x h1 => (evEs ev ps s h1).bind fun xs h2 => .ok (x :: xs) h2) Q _ := z
    exact ⟨m, h, s, r, sr, xi, z.bind fun d h1 m1 H1 v st r1 dv q1 => ⟨m1, h1, s, r1, sr.step st, xi, q1.bind fun d2 h2 m2 H2 v2 st2 r2 dv2 q2 => q2.ok r2 (.cons (dv.step st2) dv2)⟩⟩
theorem ks_nil : PK X [] (REs W cc a E ev .nil) := PK.imp pk_nil fun σ H Q ⟨m, h, s, r, sr, xi, z⟩ => by
  have z : Sat W.G (RDs W.G) m H (.ok [] h) Q _ := z
  exact z.ok r .nil
theorem ks_cons {es : List Keyword} {ps : QEs} {nm : Option Str} {kp : Pos} (ha : PE X e (RE W cc a E ev p)) (hb : PK X es (REs W cc a E ev ps)) : PK X (⟨nm, e, kp⟩ :: es) (REs W cc a E ev (.cons p ps)) :=
  PK.imp (pk_cons ha hb) fun σ H Q ⟨m, h, s, r, sr, xi, z⟩ => by
    have z : Sat W.G (RDs W.G) m H ((evE ev p s h).bind fun x h1 => (evEs ev ps s h1).bind fun xs h2 => .ok (x :: xs) h2) Q _ := z
    exact ⟨m, h, s, r, sr, xi, z.bind fun d h1 m1 H1 v st r1 dv q1 => ⟨m1, h1, s, r1, sr.step st, xi, q1.bind fun d2 h2 m2 H2 v2 st2 r2 dv2 q2 => q2.ok r2 (.cons (dv.step st2) dv2)⟩⟩
theorem k_tup {es : List Expr} {ps : QEs} {j : Nat} (h : PA X es (REs W cc a E ev ps)) : PE X (.Tuple es j pos) (RE W cc a E ev (.tup ps)) :=
  PE.imp (pe_tup h) fun σ H Q ⟨m, h, s, r, sr, xi, z⟩ => by
    have z : Sat W.G (RD W.G) m H ((evEs ev ps s h).bind fun xs h1 => ret (decide (xs.length ≤ line)) (.tup xs) h1) Q _ := z
    refine ⟨m, h, s, r, sr, xi, z.bind fun d h1 m1 H1 v st r1 dv q1 => ?_⟩
    obtain ⟨hz, q1⟩ := Sat.ret q1
    exact ⟨by rw [← dv.length, ← line_eq]; exact of_decide_eq_true hz, fun p hp => q1.tup r1 dv hp⟩
theorem k_lst {es : List Expr} {ps : QEs} (h : PA X es (REs W cc a E ev ps)) : PE X (.List es pos) (RE W cc a E ev (.lst ps)) :=
  PE.imp (pe_lst h) fun σ H Q ⟨m, h, s, r, sr, xi, z⟩ => by
    have z : Sat W.G (RD W.G) m H ((evEs ev ps s h).bind fun xs h1 => newLc (decide (xs.length ≤ line)) xs h1) Q _ := z
    refine ⟨m, h, s, r, sr, xi, z.bind fun d h1 m1 H1 v st r1 dv q1 => ?_⟩
    obtain ⟨hz, q1⟩ := Sat.newLc q1
    exact ⟨by rw [← dv.length, ← line_eq]; exact of_decide_eq_true hz, fun p hp => q1.newL r1 dv hp⟩
/-! ### subscripts -/
def notSlice : Expr → Bool
  | .Slice .. => false
  | _ => true
theorem plainIx {e : Expr} (h : notSlice e = true) : PlainIx e := fun o i => by
  cases e <;> first | rfl | cases h
theorem k_idx (x : XG W cc k ev X E) (hs : notSlice e2 = true) (ha : PE X e1 (RE W cc a E ev p)) (hb : PE X e2 (RE W cc a E ev q)) : PE X (.Subscript e1 e2 pos) (RE W cc a E ev (.idx p q)) :=
  PE.imp (pe_ix (idx_ok x.K) ha hb (plainIx hs)) fun σ H Q ⟨m, h, s, r, sr, xi, z⟩ => by
    have z : Sat W.G (RD W.G) m H ((evE ev p s h).bind fun x h1 => (evE ev q s h1).bind fun y h2 => idxV x y h2) Q _ := z
    exact ⟨m, h, s, r, sr, xi, z.bind fun d h1 m1 H1 v st r1 dv q1 => ⟨m1, h1, s, r1, sr.step st, xi, q1.bind fun d2 h2 m2 H2 v2 st2 r2 dv2 q2 => ⟨m2, h2, d, d2, _, r2, dv.step st2, dv2, q2⟩⟩⟩
theorem PO.imp {o : Option Expr} {t t' : TO} (p : PO X o t) (h : ∀ σ H Q, t' σ H Q → t σ H Q) : PO X o t' := ⟨fun pins s σ H Q I q => p.run pins s σ H Q I (h σ H Q q)⟩
theorem o_none : PO X none (ROp W cc a E ev .none) := PO.imp po_none fun σ H Q ⟨m, h, s, r, sr, xi, z⟩ => by
  have z : Sat W.G RO m H (.ok none h) Q _ := z
  exact z.ok r rfl
theorem o_some (ha : PE X e (RE W cc a E ev p)) : PO X (some e) (ROp W cc a E ev (.some p)) := PO.imp (po_some ha) fun σ H Q ⟨m, h, s, r, sr, xi, z⟩ => by
  have z : Sat W.G RO m H ((evE ev p s h).bind fun x h1 => toI x h1) Q _ := z
  refine ⟨m, h, s, r, sr, xi, z.bind fun d h1 m1 H1 v st r1 dv q1 => ?_⟩
  cases d with
  | int i => cases dv; exact ⟨i, rfl, Sat.ok (G := W.G) q1 r1 rfl⟩
  | _ => exact False.elim q1
theorem k_slc (x : XG W cc k ev X E) {lo hi : Option Expr} {l u : QO} {pos2 : Pos} (ha : PE X e1 (RE W cc a E ev p)) (hl : PO X lo (ROp W cc a E ev l)) (hu : PO X hi (ROp W cc a E ev u)) : PE X (.Subscript e1 (.Slice lo hi none pos2) pos) (RE W cc a E ev (.slc p l u)) :=
  PE.imp (pe_slice (sl_ok x.K) ha hl hu) fun σ H Q ⟨m, h, s, r, sr, xi, z⟩ => by
    have z : Sat W.G (RD W.G) m H ((evE ev p s h).bind fun x h1 => (evO ev l s h1).bind fun l h2 => (evO ev u s h2).bind fun u h3 => slV x l u h3) Q _ := z
    refine ⟨m, h, s, r, sr, xi, z.bind fun d h1 m1 H1 v st r1 dv q1 => ⟨m1, h1, s, r1, sr.step st, xi, q1.bind fun d2 h2 m2 H2 v2 st2 r2 dv2 q2 => ⟨m2, h2, s, r2, (sr.step st).step st2, xi, q2.bind fun d3 h3 m3 H3 v3 st3 r3 dv3 q3 => ?_⟩⟩⟩
    have e2 : d2 = v2 := dv2
    have e3 : d3 = v3 := dv3
    subst e2 e3
    exact ⟨m3, h3, d, _, r3, (dv.step st2).step st3, q3⟩
end
end PV
/-! PVF: chains, calls, what is walked, comprehensions. -/
namespace PV
open PySem PySem.Spec PyProof.Rows L2
section
variable {W : WD} {cc : CC} {k : Nat} {ev : Ev} {X : Cx} {E : WX} {a : Addr}
variable {e e1 e2 e3 : Expr} {p q r : QE} {pos : Pos}
theorem lastS {op op' : CmpOp} (h3 : notSet e3 = true) : lastMarks [op, op'] [e2, e3] = false := nomarkS h3
/-- the two comparisons of a chain -/
theorem chain_go {m : List Addr} {h2 : Hd} {H2 : Hp} {s : Sl} {σ : L2.St} {d d2 : D} {v v2 : V} {op op' : CmpOp} {Q : VK} (r2 : Rel W.G m h2 H2) (sr : SR W.G m H2 s σ) (xi : XiOk cc.xi W.xa σ) (dv : DR W.G.K m H2 d v) (dv2 : DR W.G.K m H2 d2 v2)
    (z : Sat W.G (RD W.G) m H2 (match cmpV op h2 d d2 with
      | some true => (evE ev r s h2).bind fun z h3 => boolO h3 (cmpV op' h3 d2 z)
      | some false => .ok (.bl false) h2
      | none => .no) Q fun c d H' => E c d σ H') :
    rc W.G (cmpV op) v v2 H2 fun z H3 => ∃ k, z = .bl k ∧ (if k = true then RE W cc a E ev r σ H3 fun w' H4 => rc W.G (cmpV op') v2 w' H4 Q else Q (.bl false) H3) := by
  refine ⟨m, h2, d, d2, (fun c d H' => E c d σ H'), r2, dv, dv2, ?_⟩
  show Sat W.G (RD W.G) m H2 (boolO h2 (cmpV op h2 d d2)) _ _
  split at z
  · rename_i e0
    rw [e0]
    intro m' H' u st r' du
    cases du
    refine ⟨true, rfl, iteT ⟨m', h2, s, r', sr.step st, xi, ?_⟩⟩
    exact (z.trans st).bind fun d3 h3 m3 H3 v3 st3 r3 dv3 q3 => ⟨m3, h3, d2, d3, _, r3, (dv2.step st).step st3, dv3, q3⟩
  · rename_i e0
    rw [e0]
    intro m' H' u st r' du
    cases du
    exact ⟨false, rfl, iteF (z m' H' _ st r' (.bl _))⟩
  · exact False.elim z
theorem k_chain (x : XG W cc k ev X E) {op op' : CmpOp} (hs : notSet e3 = true) (ha : PE X e1 (RE W cc a E ev p)) (hb : PE X e2 (RE W cc a E ev q)) (hc : PE X e3 (RE W cc a E ev r)) : PE X (.Compare e1 [op, op'] [e2, e3] pos) (RE W cc a E ev (.chain op op' p q r)) :=
  PE.imp (pe_chain (cmp_ok x.K x.units op) (cmp_ok x.K x.units op') ha hb hc (lastS hs)) fun σ H Q ⟨m, h, s, r, sr, xi, z⟩ =>
    ⟨m, h, s, r, sr, xi, Sat.bind (S := RD W.G) (f := fun x h1 => (evE ev q s h1).bind fun y h2 => match cmpV op h2 x y with
      | some true => (evE ev _ s h2).bind fun z h3 => boolO h3 (cmpV op' h3 y z)
      | some false => .ok (.bl false) h2
      | none => .no) z fun d h1 m1 H1 v st r1 dv q1 => ⟨m1, h1, s, r1, sr.step st, xi, q1.bind fun d2 h2 m2 H2 v2 st2 r2 dv2 q2 => chain_go r2 ((sr.step st).step st2) xi (dv.step st2) dv2 q2⟩⟩
theorem t_chain (x : XG W cc k ev X E) {op op' : CmpOp} (hs : notSet e3 = true) (ha : PE X e1 (RE W cc a E ev p)) (hb : PE X e2 (RE W cc a E ev q)) (hc : PE X e3 (RE W cc a E ev r)) : PT X (.Compare e1 [op, op'] [e2, e3] pos) (RT W cc a E ev (.v (.chain op op' p q r))) := by
  refine PT.imp (pt_chain (cmp_ok x.K x.units op) (cmp_ok x.K x.units op') ha hb hc (lastS hs)) fun σ H Q ⟨m, h, s, rl, sr, xi, z⟩ => ?_
  have z : Sat W.G RB m H (((evE ev p s h).bind fun x h1 => (evE ev q s h1).bind fun y h2 => match cmpV op h2 x y with
      | some true => (evE ev r s h2).bind fun z h3 => boolO h3 (cmpV op' h3 y z)
      | some false => .ok (.bl false) h2
      | none => .no).bind fun x h1 => testO h1 (truthD h1 x)) Q _ := z
  refine ⟨m, h, s, rl, sr, xi, ?_⟩
  cases e0 : evE ev p s h with
  | no => rw [e0] at z; exact False.elim z
  | ex e h' => rw [e0] at z; exact z
  | ok d h1 =>
    rw [e0] at z
    intro m1 H1 v st r1 dv
    have z : Sat W.G RB m H (((evE ev q s h1).bind fun y h2 => match cmpV op h2 d y with
      | some true => (evE ev r s h2).bind fun z h3 => boolO h3 (cmpV op' h3 y z)
      | some false => .ok (.bl false) h2
      | none => .no).bind fun x h1 => testO h1 (truthD h1 x)) Q _ := z
    have z := z.trans st
    refine ⟨m1, h1, s, r1, sr.step st, xi, ?_⟩
    cases e0' : evE ev q s h1 with
    | no => rw [e0'] at z; exact False.elim z
    | ex e h' => rw [e0'] at z; exact z
    | ok d2 h2 =>
      rw [e0'] at z
      intro m2 H2 v2 st2 r2 dv2
      have z : Sat W.G RB m1 H1 ((match cmpV op h2 d d2 with
        | some true => (evE ev r s h2).bind fun z h3 => boolO h3 (cmpV op' h3 d2 z)
        | some false => .ok (.bl false) h2
        | none => .no).bind fun x h1 => testO h1 (truthD h1 x)) Q _ := z
      have z := z.trans st2
      refine chain_go (Q := fun x H' => ∃ k, x = .bl k ∧ Q k H') r2 ((sr.step st).step st2) xi (dv.step st2) dv2 ?_
      split at z
      · cases e3 : evE ev r s h2 with
        | no => rw [e3] at z; exact False.elim z
        | ex e h' => rw [e3] at z; exact z
        | ok d3 h3 =>
          rw [e3] at z
          exact bool_test z
      · intro m' H' u st' r' du
        cases du
        exact ⟨false, rfl, z m' H' false st' r' rfl⟩
      · exact False.elim z
/-! ### calls -/
theorem run_fnKS {pins : List (Addr × Obj)} {σ : L2.St} {H : Hp} {s : Shared} {Q : VK} {CX : CXT} {j n : Nat} {f : Addr} {fd : FuncData} {ps ks : List Str} {sp : Sp} {F : XK} {us ws : List Value} {vs zs : List V} {g : List Value → List Value → List Value} {gV : List V → List V → List V}
    (Fo : FnOk X.prog X.w X.K X.mg X.base CX j f fd ps sp) (hr : Room j X.A) (hb : KBn X.K fd ps n ks g gV) (hx : PassesAt CX X σ F)
    (I : Inv X pins σ H s) (r : Vals vs us) (rz : Vals zs ws) (l1 : vs.length = n) (l2 : zs.length = ks.length) (h : sp (gV vs zs) H Q F) : wpAny (model X.prog X.w) X.A (call (.ref f) us (ks.zip ws)) (EP X pins σ Q) X.xe s := by
  have r2 := hb.rel r rz
  refine wpAny_call (codeAny_mono (Fo.run X.A X.stack s H ⟨us, ks.zip ws⟩ (g us ws) (gV vs zs) Q F hr I.env0 (hb.to s us ws I.kIn (r.length.symm.trans l1) (rz.length.symm.trans l2)) r2 h) fun r s' hq => ?_)
  cases r with
  | error e => exact hx pins H s e s' I hq
  | ok fl =>
    cases fl with
    | ret u => exact I.after hq
    | next => exact False.elim hq
    | brk => exact False.elim hq
    | cont => exact False.elim hq
theorem starAll {env : Env} : ∀ {es : List Expr}, es.all notStar = true → ∀ po : Pos, (backTo po (starEach es env)).any (·.1) = false
  | [], _, _ => rfl
  | e :: es, h, po => by
    rw [List.all_cons, Bool.and_eq_true] at h
    rw [star1 h.1]
    show (false || (backTo po (starEach es env)).any (·.1)) = false
    rw [starAll h.2 po]
    rfl
def kwAll : List Keyword → Bool
  | [] => true
  | ⟨some _, _, _⟩ :: r => kwAll r
  | _ => false
theorem kwFacts {env : Env} (po : Pos) : ∀ {ks : List Keyword}, kwAll ks = true → (backToKw po (keywordEach ks env)).all (·.1.isSome) = true ∧ (backToKw po (keywordEach ks env)).filterMap (·.1) = kwNames ks ∧ (backToKw po (keywordEach ks env)).any (·.1.isNone) = false
  | [], _ => ⟨rfl, rfl, rfl⟩
  | ⟨some n, v, kp⟩ :: r, h => by
    obtain ⟨h1, h2, h3⟩ := kwFacts po (ks := r) h
    refine ⟨?_, ?_, ?_⟩
    · show (true && (backToKw po (keywordEach r env)).all (·.1.isSome)) = true
      rw [h1]
      rfl
    · show n :: (backToKw po (keywordEach r env)).filterMap (·.1) = n :: kwNames r
      rw [h2]
    · show (false || (backToKw po (keywordEach r env)).any (·.1.isNone)) = false
      rw [h3]
      rfl
theorem kwNames_len : ∀ {ks : List Keyword}, kwAll ks = true → (kwNames ks).length = ks.length
  | [], _ => rfl
  | ⟨some n, v, kp⟩ :: r, h => by
    show ((kwNames r).length + 1) = r.length + 1
    rw [kwNames_len (ks := r) h]
def QEs.len : QEs → Nat
  | .nil => 0
  | .cons _ r => r.len + 1
theorem evEs_len {s : Sl} : ∀ {ps : QEs} {h h' : Hd} {xs : List D}, evEs ev ps s h = .ok xs h' → xs.length = ps.len
  | .nil, h, h', xs, e => by
    have e : Out.ok [] h = Out.ok xs h' := e
    cases e
    rfl
  | .cons p ps, h, h', xs, e => by
    have e : ((evE ev p s h).bind fun x h1 => (evEs ev ps s h1).bind fun xs h2 => .ok (x :: xs) h2) = Out.ok xs h' := e
    cases e1 : evE ev p s h with
    | no => rw [e1] at e; cases e
    | ex _ _ => rw [e1] at e; cases e
    | ok d h1 =>
      rw [e1] at e
      have e : ((evEs ev ps s h1).bind fun xs h2 => .ok (d :: xs) h2) = Out.ok xs h' := e
      cases e2 : evEs ev ps s h1 with
      | no => rw [e2] at e; cases e
      | ex _ _ => rw [e2] at e; cases e
      | ok ys h2 =>
        rw [e2] at e
        have e : Out.ok (d :: ys) h2 = Out.ok xs h' := e
        cases e
        show ys.length + 1 = ps.len + 1
        rw [evEs_len e2]
/-- a list of expressions, its length told -/
theorem Sat.bindL {ps : QEs} {s : Sl} {m : List Addr} {h : Hd} {H : Hp} {f : List D → Hd → Out D} {Q : VK} {F : XKE} {Q1 : List V → Hp → Prop} (z : Sat W.G (RD W.G) m H ((evEs ev ps s h).bind f) Q F)
    (kk : ∀ d h1 m1 H1 v, d.length = ps.len → Step m H m1 H1 → Rel W.G m1 h1 H1 → DRs W.G.K m1 H1 d v → Sat W.G (RD W.G) m1 H1 (f d h1) Q F → Q1 v H1) : Sat W.G (RDs W.G) m H (evEs ev ps s h) Q1 F := by
  cases e : evEs ev ps s h with
  | no => rw [e] at z; exact False.elim z
  | ex _ _ => rw [e] at z; exact z
  | ok d h1 =>
    rw [e] at z
    exact fun m1 H1 v t r q => kk d h1 m1 H1 v (evEs_len e) t r q (Sat.trans (o := f d h1) z t)
theorem k_call (x : XG W cc k ev X E) {y : Str} {i np : Nat} {shapes : List (Nat × List Str × Arr)} {args : List Expr} {kws : List Keyword} {es kes : QEs} {arr : Arr} {p1 : Pos} (hcold : cc.hot = false) (hn : plainName y = true) (hg : glB cc.sc y = true) (hl : cc.gl.lookup y = some (.fn i np shapes))
    (hs : args.all notStar = true) (hk : kwAll kws = true) (h0 : args = [] → kws = []) (l1 : es.len = args.length) (l2 : kes.len = kws.length) (hsh : shapeOf shapes args.length (kwNames kws) = some arr)
    (ha : PA X args (REs W cc a E ev es)) (hb : PK X kws (REs W cc a E ev kes)) : PE X (.Call (.Name y p1) args kws pos) (RE W cc a E ev (.call i es kes arr)) := by
  obtain ⟨f, fd, ps, e1, kp, lps, Fo, hsp⟩ := x.gl y _ hl
  obtain ⟨la, fa, g, KB⟩ := hsp _ _ _ (shapeOf_mem hsh)
  obtain ⟨n1, n2, n3⟩ := pn1 hn
  have Fo : FnOk X.prog X.w X.K X.mg X.base (L2.CX X.prog X.w) (3 * k) f fd ps (spF W.G np (ev.call i)) := by
    rw [x.prog, x.wd, x.K, x.mg, x.base]; exact Fo
  have KB : KBn X.K fd ps args.length (kwNames kws) g (arrV arr) := by rw [x.K]; exact KB
  have kp : PySem.W.keepIn X.K (.ref f) = true := by rw [x.K]; exact kp
  have hgl := gl_of x hg
  have hmg : X.mg y = some (.ref f) := by rw [x.mg]; exact e1
  have hr : Room (3 * k) X.A := (x.room hcold).2.mono (by omega)
  refine ⟨fun pins s σ H Q I ⟨m, h, sl, rl, sr, xi, z⟩ => ?_⟩
  have z : Sat W.G (RD W.G) m H ((evEs ev es sl h).bind fun xs h1 => (evEs ev kes sl h1).bind fun ys h2 => ev.call i (arrD arr xs ys) h2) Q _ := z
  have rd : REs W cc a E ev es σ H fun vs H1 => vs.length = args.length ∧ REs W cc a E ev kes σ H1 fun zs H2 => zs.length = kws.length ∧ spF W.G np (ev.call i) (arrV arr vs zs) H2 Q (WE E σ) :=
    ⟨m, h, sl, rl, sr, xi, z.bindL fun d h1 m1 H1 v ld st r1 dv q1 => ⟨by rw [← dv.length, ld, l1], m1, h1, sl, r1, sr.step st, xi, q1.bindL fun d2 h2 m2 H2 v2 ld2 st2 r2 dv2 q2 => ⟨by rw [← dv2.length, ld2, l2], m2, h2, _, r2, arr_rel (dv.step st2) dv2 fa, by
      unfold arrD
      rw [List.length_map, la], q2⟩⟩⟩
  refine wpAny_Call_Name_kw (ld_glob I hgl hmg ?_ n1)
  have fin : ∀ {s2 H2 us ws vs zs}, Inv X pins σ H2 s2 → Vals vs us → Vals zs ws → vs.length = args.length → zs.length = kws.length → spF W.G np (ev.call i) (arrV arr vs zs) H2 Q (WE E σ) → wpAny (model X.prog X.w) X.A (call (.ref f) us ((kwNames kws).zip ws)) (EP X pins σ Q) X.xe s2 :=
    fun {s2 H2 us ws vs zs} I2 r rz l1 l2 q => run_fnKS Fo hr KB (passAt x.tk σ) I2 r rz l1 (by rw [l2, kwNames_len hk]) q
  cases args with
  | nil =>
    have hk0 := h0 rfl
    subst hk0
    cases es with
    | cons _ _ => cases l1
    | nil =>
      cases kes with
      | cons _ _ => cases l2
      | nil =>
        have q1 := ha.run pos pins s σ H _ I rd
        refine PySem.W.callWith_K0 I.kIn kp (fin (us := []) (ws := []) (vs := []) (zs := []) I .nil .nil rfl rfl ?_)
        obtain ⟨m', h', s', r', sr', xi', z'⟩ := rd
        have z' : Sat W.G (RDs W.G) m' H (.ok [] h') _ _ := z'
        obtain ⟨_, m2, h2, s2, r2, sr2, xi2, z2⟩ := z'.ok r' .nil
        have z2 : Sat W.G (RDs W.G) m2 H (.ok [] h2) _ _ := z2
        exact (z2.ok r2 .nil).2
  | cons e0 rest =>
    rw [List.all_cons, Bool.and_eq_true] at hs
    have he := star1 (env := X.env) (es := rest) hs.1
    cases kws with
    | nil =>
      cases kes with
      | cons _ _ => cases l2
      | nil =>
        refine PySem.W.callWith_K (h₀ := X.base) I.ok.mod.kin kp (thn (ha.run pos pins s σ H _ I rd) fun us s1 ⟨vs, H1, I1, r, l, m2, h2, s2, r2, sr2, xi2, z2⟩ => ⟨I1.kIn, ?_⟩) he (starAll hs.2 pos)
        have z2 : Sat W.G (RDs W.G) m2 H1 (.ok [] h2) _ _ := z2
        exact fin (ws := []) (zs := []) I1 r .nil l rfl (z2.ok r2 .nil).2
    | cons kw kws =>
      obtain ⟨k1, k2, k3⟩ := kwFacts (env := X.env) pos hk
      refine PySem.W.callWith_KW (h₀ := X.base) I.ok.mod.kin kp k1 (thn (ha.run pos pins s σ H _ I rd) fun us s1 ⟨vs, H1, I1, r, l, q⟩ => ?_) ?_ he
      · refine thn (hb.run pos pins s1 σ H1 _ I1 q) fun ws s2 ⟨zs, H2, I2, rz, l2', q2⟩ => ⟨I2.kIn, ?_⟩
        rw [k2]
        exact fin I2 r rz l l2' q2
      · rw [k3, he]
        show ((false || (backTo pos (starEach rest X.env)).any (·.1)) || false) = false
        rw [starAll hs.2 pos]
        rfl
theorem k_bi (x : XG W cc k ev X E) {y : Str} {b : BI} {es : QEs} {rest : List Expr} {p1 : Pos} (hcold : cc.hot = false) (hn : plainName y = true) (hg : glB cc.sc y = true) (hv : match b with
      | .gcd => X.mg y = some (.builtin "math.gcd")
      | b => X.mg y = none ∧ bootBuiltins y = some b.val) (hs : (e :: rest).all notStar = true) (ha : PA X (e :: rest) (REs W cc a E ev es)) : PE X (.Call (.Name y p1) (e :: rest) [] pos) (RE W cc a E ev (.bi b es)) := by
  obtain ⟨n1, n2, n3⟩ := pn1 hn
  have hgl := gl_of x hg
  have co := bi_ok (G := W.G) x.K (x.room hcold).1 b
  rw [List.all_cons, Bool.and_eq_true] at hs
  have he := star1 (env := X.env) (es := rest) hs.1
  have hpl := starAll (env := X.env) hs.2 pos
  have key : ∀ σ H Q, RE W cc a E ev (.bi b es) σ H Q → tCB (rbi W.G b) (REs W cc a E ev es) σ H Q := fun σ H Q ⟨m, h, s, r, sr, xi, z⟩ => by
    have z : Sat W.G (RD W.G) m H ((evEs ev es s h).bind fun xs h1 => biV b xs h1) Q _ := z
    exact ⟨m, h, s, r, sr, xi, z.bind fun d h1 m1 H1 v st r1 dv q1 => ⟨m1, h1, d, _, r1, dv, q1⟩⟩
  cases b with
  | gcd => exact PE.imp (pe_callBfun co hgl hv ha n1 he hpl) key
  | int => exact PE.imp (pe_callTy co hgl hv.1 hv.2 ha n3 n1 he hpl) key
  | tuple => exact PE.imp (pe_callTy co hgl hv.1 hv.2 ha n3 n1 he hpl) key
  | list => exact PE.imp (pe_callTy co hgl hv.1 hv.2 ha n3 n1 he hpl) key
  | str => exact PE.imp (pe_callTy co hgl hv.1 hv.2 ha n3 n1 he hpl) key
  | abs => exact PE.imp (pe_callB co hgl hv.1 hv.2 ha n3 n1 he hpl) key
  | len => exact PE.imp (pe_callB co hgl hv.1 hv.2 ha n3 n1 he hpl) key
  | max => exact PE.imp (pe_callB co hgl hv.1 hv.2 ha n3 n1 he hpl) key
  | min => exact PE.imp (pe_callB co hgl hv.1 hv.2 ha n3 n1 he hpl) key
  | all => exact PE.imp (pe_callB co hgl hv.1 hv.2 ha n3 n1 he hpl) key
  | any => exact PE.imp (pe_callB co hgl hv.1 hv.2 ha n3 n1 he hpl) key
theorem k_isi (x : XG W cc k ev X E) {y : Str} {t : Ty} {e2 : Expr} {p1 : Pos} (hn : plainName y = true) (hg : glB cc.sc y = true) (hv : X.mg y = none ∧ bootBuiltins y = some (.builtin "isinstance")) (hs : notStar e1 = true) (ht : tyOf cc e2 = some t) (ha : PE X e1 (RE W cc a E ev p)) :
    PE X (.Call (.Name y p1) [e1, e2] [] pos) (RE W cc a E ev (.isi p t)) := by
  obtain ⟨n1, n2, n3⟩ := pn1 hn
  have hgl := gl_of x hg
  have nc : (∀ n, t ≠ .cls n) ∧ notStar e2 = true ∧ PE X e2 (tC (.ty t.nm)) := by
    unfold tyOf at ht
    split at ht
    · split at ht
      · rename_i hp
        rw [Bool.and_eq_true] at hp
        obtain ⟨m1, m2, m3⟩ := pn1 hp.1
        split at ht
        · rename_i t' e0
          obtain ⟨g1, g2⟩ := x.gl _ _ e0
          split at ht
          · cases ht
          · rename_i t2 hne
            cases ht
            exact ⟨fun n z => hne n z, rfl, pe_bltn (gl_of x hp.2) (by rw [x.mg]; exact g1) g2 rfl m3 m1⟩
        · cases ht
      · cases ht
    · cases ht
  obtain ⟨nc, hs2, ht⟩ := nc
  refine PE.imp (pe_callB (isi_ok (G := W.G) x.K t) hgl hv.1 hv.2 (pa_cons ha (pa_cons ht pa_nil (star1 hs2)) (star1 hs)) n3 n1 (star1 hs) (by
    rw [star1 hs2]
    rfl)) fun σ H Q ⟨m, h, s, r, sr, xi, z⟩ => ?_
  have z : Sat W.G (RD W.G) m H ((evE ev p s h).bind fun x h1 => boolO h1 (isiV x t h1)) Q _ := z
  exact ⟨m, h, s, r, sr, xi, z.bind fun d h1 m1 H1 v st r1 dv q1 => ⟨m1, h1, d, v, _, rfl, nc, r1, dv, q1⟩⟩
end
end PV
/-! PVG: methods of lists, what is walked, comprehensions. -/
namespace PV
open PySem PySem.Spec PyProof.Rows L2
section
variable {W : WD} {cc : CC} {k : Nat} {ev : Ev} {X : Cx} {E : WX} {a : Addr}
variable {e e1 e2 e3 : Expr} {p q r : QE} {pos : Pos}
/-! ### methods -/
theorem baseC {o : Expr} {md : Str} {env : Env} {wh : Sem Value} (h : notCall o = true) : attributeBase o md env wh = wh := by
  cases o <;> first | rfl | cases h
theorem k_mthG (x : XG W cc k ev X E) {o : Expr} {md : Str} {j : Nat} {ap : Pos} {id : String} {F : D → List D → Hd → Out D} (hl : (ap.endLine == pos.line) = true) (hc : notCall o = true) (hs : notStar e1 = true) (sl : Slot "list" md id) (hty : typeOf (.builtin id) = pure (.type "method_descriptor")) (hm : MtM X id (rmt W.G F)) (hj : mthV j = F)
    (ho : PE X o (RE W cc a E ev p)) (ha : PE X e1 (RE W cc a E ev q)) : PE X (.Call (.Attribute o md ap) [e1] [] pos) (RE W cc a E ev (.mth j p (.cons q .nil))) := by
  have hst := star1 (env := X.env) (es := []) hs
  refine PE.imp (pe_bm PySem.F.plainAttrs_list sl hty hm ho (as_cons hs ha as_nil) (baseC hc) (by rw [hst]; rfl) hl hst rfl) fun σ H Q ⟨m, h, s, rl, sr, xi, z⟩ => ?_
  have z : Sat W.G (RD W.G) m H ((evE ev p s h).bind fun x h1 => match isLst h1 x with
    | true => (evEs ev (.cons q .nil) s h1).bind fun xs h2 => mthV j x xs h2
    | false => .no) Q _ := z
  refine ⟨m, h, s, rl, sr, xi, z.bind fun d h1 m1 H1 v st r1 dv q1 => ?_⟩
  cases e0 : isLst h1 d with
  | false => rw [e0] at q1; exact False.elim q1
  | true =>
    rw [e0] at q1
    cases d with
    | ref n =>
      cases e5 : lstAt h1 n with
      | none =>
        have e0 : (lstAt h1 n).isSome = true := e0
        rw [e5] at e0
        cases e0
      | some xs =>
        obtain ⟨b, vs, rfl, _, hb, _⟩ := r1.lstV dv e5
        refine ⟨.inl ⟨rfl, vs, SqL.of hb⟩, m1, h1, s, r1, sr.step st, xi, Sat.bind (S := RD W.G) q1 fun d2 h2 m2 H2 v2 st2 r2 dv2 q2 => ?_⟩
        rw [hj] at q2
        exact ⟨m2, h2, _, d2, _, r2, dv.step st2, dv2, q2⟩
    | _ => cases e0
theorem k_mth (x : XG W cc k ev X E) {o : Expr} {md : Str} {j : Nat} {ap : Pos} (hm : mthOf md = some j) (hl : (ap.endLine == pos.line) = true) (hc : notCall o = true) (hs : notStar e1 = true)
    (ho : PE X o (RE W cc a E ev p)) (ha : PE X e1 (RE W cc a E ev q)) : PE X (.Call (.Attribute o md ap) [e1] [] pos) (RE W cc a E ev (.mth j p (.cons q .nil))) := by
  unfold mthOf at hm
  split at hm
  · rename_i e0
    cases hm
    subst e0
    exact k_mthG x hl hc hs PySem.F.slot_list_append PySem.F.type_list_append append_ok rfl ho ha
  · split at hm
    · rename_i e0
      cases hm
      subst e0
      exact k_mthG x hl hc hs PySem.F.slot_list_extend PySem.F.type_list_extend extend_ok rfl ho ha
    · cases hm
/-! ### what is walked -/
/-- J walks w's items, as long as the lists stand -/
def WalkR (G : GW) : List Addr → Hp → Walk → It → Prop := fun m H w J => ∀ m' h' H', Step m H m' H' → Rel G m' h' H' → fixOk h' w.fix = true → ∀ i : Nat,
  (∀ d, w.items[i]? = some d → J.go i H' ∧ ∀ x H'', J.yld i H' x H'' → Rel G m' h' H'' ∧ Step m' H' m' H'' ∧ DR G.K m' H'' d x) ∧ (w.items[i]? = none → J.stop i H')
abbrev RI (W : WD) (cc : CC) (a : Addr) (E : WX) (ev : Ev) (p : QI) : TI := rdg W.G cc.xi W.xa E (WalkR W.G) (evI ev p)
theorem PI.imp {tg : Expr} {t t' : TI} (p : PI X tg e t) (h : ∀ σ H Q, t' σ H Q → t σ H Q) : PI X tg e t' := ⟨fun pins s σ H Q I q => p.run pins s σ H Q I (h σ H Q q)⟩
theorem walk_tup {G : GW} {m : List Addr} {H : Hp} {b : Addr} {ds : List D} {vs : List V} (t : SqT G.K H b vs) (d : DRs G.K m H ds vs) : WalkR G m H ⟨ds, []⟩ (Itt G.K b) := fun m' h' H' st r' _ i => by
  have t' := sqT_step t st.tups st.frzs
  have d' := d.step st
  refine ⟨fun x e0 => ?_, fun e0 => ⟨vs, t', by rw [← d'.length]; exact List.getElem?_eq_none_iff.mp e0⟩⟩
  obtain ⟨v, e1, dv⟩ := d'.get e0
  refine ⟨⟨vs, v, t', e1⟩, fun y H'' ⟨e2, e3⟩ => ?_⟩
  subst e2
  have := e3 vs t'
  rw [e1] at this
  cases this
  exact ⟨r', r'.step, dv⟩
theorem walk_fl {G : GW} {m : List Addr} {H : Hp} {b : Addr} {ds : List D} {vs : List V} (t : FrL G.K H b vs) (d : DRs G.K m H ds vs) : WalkR G m H ⟨ds, []⟩ (Itl G.K b) := fun m' h' H' st r' _ i => by
  have t' := (t.step st.frzs).sq
  have d' := d.step st
  refine ⟨fun x e0 => ?_, fun e0 => ⟨vs, t', by rw [← d'.length]; exact List.getElem?_eq_none_iff.mp e0⟩⟩
  obtain ⟨v, e1, dv⟩ := d'.get e0
  refine ⟨⟨vs, v, t', e1⟩, fun y H'' ⟨e2, e3⟩ => ?_⟩
  subst e2
  have := e3 vs t'
  rw [e1] at this
  cases this
  exact ⟨r', r'.step, dv⟩
theorem fix_cons {h : Hd} {n : Nat} {xs : List D} {r : List (Nat × List D)} (f : fixOk h ((n, xs) :: r) = true) : lstAt h n = some xs ∧ fixOk h r = true := by
  unfold fixOk at f
  rw [Bool.and_eq_true] at f
  refine ⟨?_, f.2⟩
  have f1 := f.1
  split at f1
  · rename_i ys e
    rw [e, D.eq_of_beqs _ _ f1]
  · cases f1
theorem fix_app {h : Hd} : ∀ {l r : List (Nat × List D)}, fixOk h (l ++ r) = true → fixOk h l = true ∧ fixOk h r = true
  | [], _, f => ⟨rfl, f⟩
  | (n, xs) :: l, r, f => by
    rw [List.cons_append] at f
    unfold fixOk at f
    rw [Bool.and_eq_true] at f
    obtain ⟨f2, f3⟩ := fix_app f.2
    exact ⟨by unfold fixOk; rw [Bool.and_eq_true]; exact ⟨f.1, f2⟩, f3⟩
theorem ref_get {G : GW} {m m' : List Addr} {H H' : Hp} {n : Nat} {b : Addr} {h' : Hd} {ds : List D} (e1 : m[n]? = some b) (st : Step m H m' H') (r' : Rel G m' h' H') (f : lstAt h' n = some ds) : ∃ vs, SqL G.K H' b vs ∧ DRs G.K m' H' ds vs := by
  obtain ⟨vs, h1, d1⟩ := r'.lst f (st.get n b e1)
  exact ⟨vs, SqL.of h1, d1⟩
/-- a list that is tracked is read one way -/
theorem sq_one {G : GW} {m : List Addr} {H : Hp} {n : Nat} {b : Addr} {h : Hd} {ds : List D} (e1 : m[n]? = some b) (r : Rel G m h H) (f : lstAt h n = some ds) : ∃ vs, H b = some (.lst vs) ∧ DRs G.K m H ds vs := r.lst f e1
theorem walk_ref {G : GW} {m : List Addr} {H : Hp} {b : Addr} {n : Nat} {ds : List D} (e0 : m[n]? = some b) : WalkR G m H ⟨ds, [(n, ds)]⟩ (Itl G.K b) := fun m' h' H' st r' f i => by
  obtain ⟨f1, _⟩ := fix_cons f
  obtain ⟨vs, t', d'⟩ := ref_get e0 st r' f1
  refine ⟨fun x e0 => ?_, fun e0 => ⟨vs, t', by rw [← d'.length]; exact List.getElem?_eq_none_iff.mp e0⟩⟩
  obtain ⟨v, e1, dv⟩ := d'.get e0
  refine ⟨⟨vs, v, t', e1⟩, fun y H'' ⟨e2, e3⟩ => ?_⟩
  subst e2
  have := e3 vs t'
  rw [e1] at this
  cases this
  exact ⟨r', r'.step, dv⟩
theorem walk_str {G : GW} {m : List Addr} {H : Hp} {z : Str} : WalkR G m H ⟨strD z, []⟩ (Its z) := fun m' h' H' st r' _ i => by
  have get : (strD z)[i]? = (z.cps[i]?).map fun c => D.str ⟨#[c]⟩ := by
    unfold strD
    rw [List.getElem?_map]
    simp
  refine ⟨fun d e0 => ?_, fun e0 => ?_⟩
  · have e0 : (strD z)[i]? = some d := e0
    rw [get] at e0
    cases e1 : z.cps[i]? with
    | none => rw [e1] at e0; cases e0
    | some c =>
      rw [e1] at e0
      cases e0
      refine ⟨(Array.getElem?_eq_some_iff.mp e1).1, fun y H'' ⟨e2, c', e3, e4⟩ => ?_⟩
      subst e2 e4
      rw [e1] at e3
      cases e3
      exact ⟨r', r'.step, .str _⟩
  · have e0 : (strD z)[i]? = none := e0
    rw [get] at e0
    cases e1 : z.cps[i]? with
    | none => exact Array.getElem?_eq_none_iff.mp e1
    | some c => rw [e1] at e0; cases e0
theorem rng_get : ∀ (n : Nat) (lo c : Int) (i : Nat), (rng lo c n)[i]? = if i < n then some (.int (lo + i * c)) else none
  | 0, lo, c, i => by simp [rng]
  | n + 1, lo, c, 0 => by simp [rng]
  | n + 1, lo, c, i + 1 => by
    show (rng (lo + c) c n)[i]? = _
    rw [rng_get n (lo + c) c i]
    by_cases h : i < n
    · rw [if_pos h, if_pos (by omega)]
      have : lo + c + (i : Int) * c = lo + ((i + 1 : Nat) : Int) * c := by
        rw [Int.natCast_add, Int.add_mul]
        simp
        omega
      rw [this]
    · rw [if_neg h, if_neg (by omega)]
theorem walk_rng {G : GW} {m : List Addr} {H : Hp} {lo : Int} {n : Nat} : WalkR G m H ⟨rng lo 1 n, []⟩ (Itr lo n) := fun m' h' H' st r' _ i => by
  refine ⟨fun d e0 => ?_, fun e0 => ?_⟩
  · have e0 : (rng lo 1 n)[i]? = some d := e0
    rw [rng_get] at e0
    split at e0
    · rename_i hi
      cases e0
      refine ⟨hi, fun y H'' ⟨e2, e3⟩ => ?_⟩
      subst e2 e3
      rw [Int.mul_one]
      exact ⟨r', r'.step, .int _⟩
    · cases e0
  · have e0 : (rng lo 1 n)[i]? = none := e0
    rw [rng_get] at e0
    split at e0
    · cases e0
    · rename_i hi
      exact Nat.le_of_not_lt hi
theorem zip_get : ∀ (xs ys : List D) (i : Nat), (zipD xs ys)[i]? = match xs[i]?, ys[i]? with
    | some x, some y => some (.tup [x, y])
    | _, _ => none
  | [], ys, i => by simp [zipD]
  | x :: xs, [], i => by cases i <;> simp [zipD]
  | x :: xs, y :: ys, 0 => by simp [zipD]
  | x :: xs, y :: ys, i + 1 => by
    show (zipD xs ys)[i]? = _
    rw [zip_get xs ys i]
    simp
/-- the pair that zip makes -/
theorem pair_new {G : GW} {m : List Addr} {h : Hd} {H : Hp} {T : Addr} {x y : V} {d1 d2 : D} (r : Rel G m h H) (hT : H T = none) (a1 : DR G.K m H d1 x) (a2 : DR G.K m H d2 y) : Rel G m h (upd H T (.tup [x, y])) ∧ Step m H m (upd H T (.tup [x, y])) ∧ DR G.K m (upd H T (.tup [x, y])) (.tup [d1, d2]) (.ref T) := by
  obtain ⟨st, r'⟩ := new_step (o := .tup [x, y]) r hT
  exact ⟨r', st, .tup (SqT.of upd_same) (.cons (a1.step st) (.cons (a2.step st) .nil))⟩
theorem walk_zipL {G : GW} {m : List Addr} {H : Hp} {b c : Addr} {ds es : List D} {fx : List (Nat × List D)} (hb : ∀ m' h' H', Step m H m' H' → Rel G m' h' H' → fixOk h' fx = true → ∃ vs ws, SqL G.K H' b vs ∧ DRs G.K m' H' ds vs ∧ SqL G.K H' c ws ∧ DRs G.K m' H' es ws) : WalkR G m H ⟨zipD ds es, fx⟩ (Itz G.K b c) := fun m' h' H' st r' f i => by
  obtain ⟨vs, ws, t1, d1, t2, d2⟩ := hb m' h' H' st r' f
  refine ⟨fun d e0 => ?_, fun e0 => ?_⟩
  · have e0 : (zipD ds es)[i]? = some d := e0
    rw [zip_get] at e0
    split at e0
    · rename_i x y e1 e2
      cases e0
      obtain ⟨v, e3, dv⟩ := d1.get e1
      obtain ⟨w', e4, dw⟩ := d2.get e2
      refine ⟨⟨vs, ws, v, w', t1, t2, e3, e4⟩, fun u H'' ⟨T, x', y', e5, hT, e6, e7, e8⟩ => ?_⟩
      have a1 := e7 vs t1
      have a2 := e8 ws t2
      rw [e3] at a1
      rw [e4] at a2
      cases a1
      cases a2
      subst e5 e6
      exact pair_new r' hT dv dw
    · cases e0
  · have e0 : (zipD ds es)[i]? = none := e0
    rw [zip_get] at e0
    refine ⟨vs, ws, t1, t2, ?_⟩
    rw [← d1.length, ← d2.length]
    cases e1 : ds[i]? with
    | none => exact .inl (List.getElem?_eq_none_iff.mp e1)
    | some x =>
      cases e2 : es[i]? with
      | none => exact .inr (List.getElem?_eq_none_iff.mp e2)
      | some y => rw [e1, e2] at e0; cases e0
theorem walk_zipT {G : GW} {m : List Addr} {H : Hp} {b c : Addr} {ds es : List D} {vs ws : List V} (t1 : SqT G.K H b vs) (d1 : DRs G.K m H ds vs) (t2 : SqT G.K H c ws) (d2 : DRs G.K m H es ws) : WalkR G m H ⟨zipD ds es, []⟩ (RZ.ItzT G.K b c) := fun m' h' H' st r' f i => by
  have t1 := sqT_step t1 st.tups st.frzs
  have t2 := sqT_step t2 st.tups st.frzs
  have d1 := d1.step st
  have d2 := d2.step st
  refine ⟨fun d e0 => ?_, fun e0 => ?_⟩
  · have e0 : (zipD ds es)[i]? = some d := e0
    rw [zip_get] at e0
    split at e0
    · rename_i x y e1 e2
      cases e0
      obtain ⟨v, e3, dv⟩ := d1.get e1
      obtain ⟨w', e4, dw⟩ := d2.get e2
      refine ⟨⟨vs, ws, v, w', t1, t2, e3, e4⟩, fun u H'' ⟨T, x', y', e5, hT, e6, e7, e8⟩ => ?_⟩
      have a1 := e7 vs t1
      have a2 := e8 ws t2
      rw [e3] at a1
      rw [e4] at a2
      cases a1
      cases a2
      subst e5 e6
      exact pair_new r' hT dv dw
    · cases e0
  · have e0 : (zipD ds es)[i]? = none := e0
    rw [zip_get] at e0
    refine ⟨vs, ws, t1, t2, ?_⟩
    rw [← d1.length, ← d2.length]
    cases e1 : ds[i]? with
    | none => exact .inl (List.getElem?_eq_none_iff.mp e1)
    | some x =>
      cases e2 : es[i]? with
      | none => exact .inr (List.getElem?_eq_none_iff.mp e2)
      | some y => rw [e1, e2] at e0; cases e0
/-- a value is walked -/
theorem i_v (x : XG W cc k ev X E) {tg : Expr} (ha : PE X e (RE W cc a E ev p)) : PI X tg e (RI W cc a E ev (.v p)) := by
  refine ⟨fun pins st0 σ H R I ⟨m, h, s, r, sr, xi, z⟩ => ?_⟩
  have z : Sat W.G (WalkR W.G) m H ((evE ev p s h).bind fun x h1 => walkV x h1) R _ := z
  have hK := x.K
  cases e0 : evE ev p s h with
  | no => rw [e0] at z; exact False.elim z
  | ex ex h' =>
    rw [e0] at z
    refine (pi_tup (tg := tg) ha).run pins st0 σ H R I ?_
    exact ⟨m, h, s, r, sr, xi, by rw [e0]; exact z⟩
  | ok d h1 =>
    rw [e0] at z
    have z : Sat W.G (WalkR W.G) m H (walkV d h1) R _ := z
    have go : ∀ (t : V → Hp → Prop), (∀ m1 H1 v, Step m H m1 H1 → Rel W.G m1 h1 H1 → DR W.G.K m1 H1 d v → t v H1) → RE W cc a E ev p σ H t := fun t ht => ⟨m, h, s, r, sr, xi, by rw [e0]; exact fun m1 H1 v st r1 dv => ht m1 H1 v st r1 dv⟩
    cases d with
    | tup ds =>
      refine (pi_tup (tg := tg) ha).run pins st0 σ H R I (go _ fun m1 H1 v st r1 dv => ?_)
      cases dv with
      | tup t dd => exact ⟨_, rfl, ⟨_, hK ▸ t⟩, z m1 H1 _ st r1 (hK ▸ walk_tup t dd)⟩
    | fl ds =>
      refine (pi_list (tg := tg) ha).run pins st0 σ H R I (go _ fun m1 H1 v st r1 dv => ?_)
      cases dv with
      | fl t dd => exact ⟨_, rfl, ⟨_, hK ▸ t.sq⟩, z m1 H1 _ st r1 (hK ▸ walk_fl t dd)⟩
    | ref n =>
      have z : Sat W.G (WalkR W.G) m H (match lstAt h1 n with
        | some xs => .ok ⟨xs, [(n, xs)]⟩ h1
        | none => .no) R _ := z
      split at z
      · rename_i xs e1
        refine (pi_list (tg := tg) ha).run pins st0 σ H R I (go _ fun m1 H1 v st r1 dv => ?_)
        obtain ⟨b, vs, rfl, e2, h3, d3⟩ := r1.lstV dv e1
        exact ⟨_, rfl, ⟨_, SqL.of h3⟩, z m1 H1 _ st r1 (hK ▸ walk_ref e2)⟩
      · exact False.elim z
    | str zz =>
      refine (pi_str (tg := tg) ha).run pins st0 σ H R I (go _ fun m1 H1 v st r1 dv => ?_)
      cases dv
      exact ⟨_, rfl, z m1 H1 _ st r1 walk_str⟩
    | _ => exact False.elim z
theorem small_of {i : Int} (h : smallI i = true) : -(2 ^ 62) ≤ i ∧ i < 2 ^ 62 := by
  have h1 : i.natAbs.log2 < 62 := of_decide_eq_true h
  have h2 : i.natAbs < 2 ^ 62 := by
    by_cases z : i.natAbs = 0
    · rw [z]; decide
    · exact (Nat.log2_lt z).mp h1
  have e : (2 : Int) ^ 62 = ((2 ^ 62 : Nat) : Int) := by rw [Int.natCast_pow]; rfl
  rw [e]
  omega
theorem i_rng1 (x : XG W cc k ev X E) {tg : Expr} {p1 : Pos} (hg : glB cc.sc "range" = true) (hm : W.mg "range" = none) (hs : notStar e1 = true) (ha : PE X e1 (RE W cc a E ev p)) : PI X tg (.Call (.Name "range" p1) [e1] [] pos) (RI W cc a E ev (.rng1 p)) :=
  PI.imp (pi_range1 (gl_of x hg) (by rw [x.mg]; exact hm) (as_cons hs ha as_nil) (star1 hs)) fun σ H R ⟨m, h, s, r, sr, xi, z⟩ => by
    have z : Sat W.G (WalkR W.G) m H ((evE ev p s h).bind fun x h1 => rngV [x] h1) R _ := z
    refine ⟨m, h, s, r, sr, xi, ?_⟩
    show Sat W.G (RDs W.G) m H ((evE ev p s h).bind fun x h1 => (Out.ok [] h1).bind fun xs h2 => .ok (x :: xs) h2) _ _
    cases e0 : evE ev p s h with
    | no => rw [e0] at z; exact False.elim z
    | ex _ _ => rw [e0] at z; exact z
    | ok d h1 =>
      rw [e0] at z
      intro m1 H1 v st r1 dv
      have z : Sat W.G (WalkR W.G) m H (rngV [d] h1) R _ := z
      cases d with
      | int i =>
        obtain ⟨hz, z⟩ := Sat.ret z
        obtain ⟨b1, b2⟩ := small_of hz
        cases dv with
        | cons d1 d2 =>
          cases d1
          cases d2
          exact ⟨i, rfl, b1, b2, z m1 H1 _ st r1 walk_rng⟩
      | _ => exact False.elim z
theorem i_rng2 (x : XG W cc k ev X E) {tg : Expr} {p1 : Pos} (hg : glB cc.sc "range" = true) (hm : W.mg "range" = none) (hs : notStar e1 = true) (hs2 : notStar e2 = true) (ha : PE X e1 (RE W cc a E ev p)) (hb : PE X e2 (RE W cc a E ev q)) : PI X tg (.Call (.Name "range" p1) [e1, e2] [] pos) (RI W cc a E ev (.rng2 p q)) :=
  PI.imp (pi_range2 (gl_of x hg) (by rw [x.mg]; exact hm) (as_cons hs ha (as_cons hs2 hb as_nil)) (by rw [star1 hs, star1 hs2]; rfl) (star1 hs2)) fun σ H R ⟨m, h, s, r, sr, xi, z⟩ => by
    have z : Sat W.G (WalkR W.G) m H ((evE ev p s h).bind fun x h1 => (evE ev q s h1).bind fun y h2 => rngV [x, y] h2) R _ := z
    refine ⟨m, h, s, r, sr, xi, ?_⟩
    show Sat W.G (RDs W.G) m H ((evE ev p s h).bind fun x h1 => ((evE ev q s h1).bind fun y h2 => (Out.ok [] h2).bind fun xs h3 => .ok (y :: xs) h3).bind fun xs h2 => .ok (x :: xs) h2) _ _
    cases e0 : evE ev p s h with
    | no => rw [e0] at z; exact False.elim z
    | ex _ _ => rw [e0] at z; exact z
    | ok d h1 =>
      rw [e0] at z
      have z : Sat W.G (WalkR W.G) m H ((evE ev q s h1).bind fun y h2 => rngV [d, y] h2) R _ := z
      show Sat W.G (RDs W.G) m H (((evE ev q s h1).bind fun y h2 => (Out.ok [] h2).bind fun xs h3 => .ok (y :: xs) h3).bind fun xs h2 => .ok (d :: xs) h2) _ _
      cases e1 : evE ev q s h1 with
      | no => rw [e1] at z; exact False.elim z
      | ex _ _ => rw [e1] at z; exact z
      | ok d2 h2 =>
        rw [e1] at z
        intro m1 H1 v st r1 dv
        have z : Sat W.G (WalkR W.G) m H (rngV [d, d2] h2) R _ := z
        cases d with
        | int i =>
          cases d2 with
          | int j =>
            obtain ⟨hz, z⟩ := Sat.ret z
            rw [Bool.and_eq_true] at hz
            obtain ⟨b1, b2⟩ := small_of hz.1
            obtain ⟨b3, b4⟩ := small_of hz.2
            obtain ⟨v1, v2, rfl, d1, d3⟩ := two_of dv
            cases d1
            cases d3
            exact ⟨i, j, rfl, ⟨b1, b2, b3, b4⟩, z m1 H1 _ st r1 walk_rng⟩
          | _ => exact False.elim z
        | _ => exact False.elim z
/-- what zip walks -/
theorem seq_of {G : GW} {m : List Addr} {h : Hd} {H : Hp} {d : D} {w : Walk} {v : V} (r : Rel G m h H) (e : seqOf d h = some w) (dv : DR G.K m H d v) : ∃ b, v = .ref b ∧ ((isTup d = true ∧ ∃ vs, SqT G.K H b vs ∧ DRs G.K m H w.items vs ∧ w.fix = []) ∨
    (isTup d = false ∧ (∃ vs, SqL G.K H b vs) ∧ ∀ m' h' H', Step m H m' H' → Rel G m' h' H' → fixOk h' w.fix = true → ∃ vs, SqL G.K H' b vs ∧ DRs G.K m' H' w.items vs)) := by
  cases d with
  | tup ds =>
    cases e
    cases dv with
    | tup t dd => exact ⟨_, rfl, .inl ⟨rfl, _, t, dd, rfl⟩⟩
  | fl ds =>
    cases e
    cases dv with
    | fl t dd => exact ⟨_, rfl, .inr ⟨rfl, ⟨_, t.sq⟩, fun m' h' H' st _ _ => ⟨_, (t.step st.frzs).sq, dd.step st⟩⟩⟩
  | ref n =>
    have e : (match lstAt h n with
      | some xs => some (⟨xs, [(n, xs)]⟩ : Walk)
      | none => none) = some w := e
    split at e
    · rename_i xs e1
      cases e
      obtain ⟨b, vs, rfl, e2, h3, d3⟩ := r.lstV dv e1
      exact ⟨b, rfl, .inr ⟨rfl, ⟨_, SqL.of h3⟩, fun m' h' H' st r' f => ref_get e2 st r' (fix_cons f).1⟩⟩
    · cases e
  | _ => cases e
theorem i_zip (x : XG W cc k ev X E) {elts : List Expr} {kk : Nat} {tpos : Pos} {p1 : Pos} (hg : glB cc.sc "zip" = true) (hm : W.mg "zip" = none) (hs : notStar e1 = true) (hs2 : notStar e2 = true) (ha : PE X e1 (RE W cc a E ev p)) (hb : PE X e2 (RE W cc a E ev q)) : PI X (.Tuple elts kk tpos) (.Call (.Name "zip" p1) [e1, e2] [] pos) (RI W cc a E ev (.zip p q)) :=
  PI.imp (RZ.pi_zipA (gl_of x hg) (by rw [x.mg]; exact hm) (as_cons hs ha (as_cons hs2 hb as_nil)) (star1 hs) (by rw [star1 hs2]; rfl)) fun σ H R ⟨m, h, s, r, sr, xi, z⟩ => by
    have z : Sat W.G (WalkR W.G) m H ((evE ev p s h).bind fun x h1 => (evE ev q s h1).bind fun y h2 => zipV x y h2) R _ := z
    refine ⟨m, h, s, r, sr, xi, ?_⟩
    show Sat W.G (RDs W.G) m H ((evE ev p s h).bind fun x h1 => ((evE ev q s h1).bind fun y h2 => (Out.ok [] h2).bind fun xs h3 => .ok (y :: xs) h3).bind fun xs h2 => .ok (x :: xs) h2) _ _
    cases e0 : evE ev p s h with
    | no => rw [e0] at z; exact False.elim z
    | ex _ _ => rw [e0] at z; exact z
    | ok d h1 =>
      rw [e0] at z
      have z : Sat W.G (WalkR W.G) m H ((evE ev q s h1).bind fun y h2 => zipV d y h2) R _ := z
      show Sat W.G (RDs W.G) m H (((evE ev q s h1).bind fun y h2 => (Out.ok [] h2).bind fun xs h3 => .ok (y :: xs) h3).bind fun xs h2 => .ok (d :: xs) h2) _ _
      cases e1 : evE ev q s h1 with
      | no => rw [e1] at z; exact False.elim z
      | ex _ _ => rw [e1] at z; exact z
      | ok d2 h2 =>
        rw [e1] at z
        intro m1 H1 v st r1 dv
        have z : Sat W.G (WalkR W.G) m H (match seqOf d h2, seqOf d2 h2 with
          | some a, some b => ret (isTup d == isTup d2) ⟨zipD a.items b.items, a.fix ++ b.fix⟩ h2
          | _, _ => .no) R _ := z
        split at z
        · rename_i wa wb ea eb
          obtain ⟨hz, z⟩ := Sat.ret z
          obtain ⟨v1, v2, rfl, d1, d3⟩ := two_of dv
          have hK := x.K
          obtain ⟨b, rfl, s1⟩ := seq_of r1 ea d1
          obtain ⟨c, rfl, s2⟩ := seq_of r1 eb d3
          rcases s1 with ⟨i1, vs, t1, q1, f1⟩ | ⟨i1, ⟨vs, t1⟩, q1⟩
          · rcases s2 with ⟨i2, ws, t2, q2, f2⟩ | ⟨i2, _, _⟩
            · rw [f1, f2] at z
              exact ⟨b, c, vs, ws, rfl, .inr ⟨hK ▸ t1, hK ▸ t2, z m1 H1 _ st r1 (hK ▸ walk_zipT t1 q1 t2 q2)⟩⟩
            · rw [i1, i2] at hz
              cases hz
          · rcases s2 with ⟨i2, _⟩ | ⟨i2, ⟨ws, t2⟩, q2⟩
            · rw [i1, i2] at hz
              cases hz
            · refine ⟨b, c, vs, ws, rfl, .inl ⟨hK ▸ t1, hK ▸ t2, z m1 H1 _ st r1 (hK ▸ walk_zipL fun m' h' H' st' r' f => ?_)⟩⟩
              obtain ⟨f1, f2⟩ := fix_app f
              obtain ⟨vs', a1, a2⟩ := q1 m' h' H' st' r' f1
              obtain ⟨ws', a3, a4⟩ := q2 m' h' H' st' r' f2
              exact ⟨vs', ws', a1, a2, a3, a4⟩
        · exact False.elim z
end
end PV
/-! PVH: targets, comprehensions. -/
namespace PV
open PySem PySem.Spec PyProof.Rows L2
section
variable {W : WD} {cc : CC} {k : Nat} {ev : Ev} {X : Cx} {E : WX} {a : Addr}
variable {e e1 e2 e3 : Expr} {p q r : QE} {pos : Pos}
/-! ### targets -/
mutual
def gIx : QG → List Nat
  | .nm i => [i]
  | .tp gs => gsIx gs
def gsIx : List QG → List Nat
  | [] => []
  | g :: gs => gIx g ++ gsIx gs
end
/-- the slots outside stay -/
def Fr (l : List Nat) (σ σ2 : L2.St) : Prop := σ2.length = σ.length ∧ ∀ i, i ∉ l → σ2[i]? = σ[i]?
theorem Fr.refl {l : List Nat} {σ : L2.St} : Fr l σ σ := ⟨rfl, fun _ _ => rfl⟩
theorem Fr.trans {l l' : List Nat} {σ σ2 σ3 : L2.St} (f : Fr l σ σ2) (g : Fr l' σ2 σ3) : Fr (l ++ l') σ σ3 := ⟨g.1.trans f.1, fun i h => (g.2 i fun z => h (List.mem_append_right _ z)).trans (f.2 i fun z => h (List.mem_append_left _ z))⟩
theorem Fr.wipe {l vs : List Nat} {σ σ2 : L2.St} (f : Fr l σ σ2) (h : ∀ i ∈ l, i ∈ vs) : L2.wipe σ2 vs = L2.wipe σ vs := by
  refine List.ext_getElem? fun i => ?_
  have key : ∀ (ws : List Nat) (τ : L2.St) (i : Nat), (L2.wipe τ ws)[i]? = if i ∈ ws then (τ[i]?).map (fun _ => none) else τ[i]? := by
    intro ws
    induction ws with
    | nil => intro τ i; simp [L2.wipe]
    | cons w ws ih =>
      intro τ i
      unfold L2.wipe
      by_cases hw : w = i
      · subst hw
        rw [if_pos List.mem_cons_self]
        by_cases hl : w < (L2.wipe τ ws).length
        · rw [List.getElem?_set_self hl]
          rw [L2.wipe_length] at hl
          rw [List.getElem?_eq_getElem hl]
          rfl
        · rw [List.getElem?_eq_none (by simpa using hl)]
          rw [L2.wipe_length] at hl
          rw [List.getElem?_eq_none (Nat.le_of_not_lt hl)]
          rfl
      · rw [List.getElem?_set_ne hw, ih]
        have : i ∈ w :: ws ↔ i ∈ ws := by
          rw [List.mem_cons]
          exact ⟨fun z => z.elim (fun z => absurd z.symm hw) id, .inr⟩
        simp only [this]
  rw [key, key]
  by_cases hv : i ∈ vs
  · rw [if_pos hv, if_pos hv]
    by_cases hi : i < σ.length
    · rw [List.getElem?_eq_getElem hi, List.getElem?_eq_getElem (by rw [f.1]; exact hi)]
      rfl
    · rw [List.getElem?_eq_none (Nat.le_of_not_lt hi), List.getElem?_eq_none (by rw [f.1]; exact Nat.le_of_not_lt hi)]
  · rw [if_neg hv, if_neg hv]
    exact f.2 i fun z => hv (h i z)
/-- v is d, and it is stored -/
def rg (G : GW) (g : QG) : TG := fun v σ H Q => ∃ m h s d s2, Rel G m h H ∧ SR G m H s σ ∧ DR G.K m H d v ∧ bindG g d s = some s2 ∧ ∀ σ2, SR G m H s2 σ2 → Fr (gIx g) σ σ2 → Q σ2 H
def rgs (G : GW) (gs : List QG) : TGs := fun vs σ H Q => ∃ m h s ds s2, Rel G m h H ∧ SR G m H s σ ∧ DRs G.K m H ds vs ∧ bindG.bindGs gs ds s = some s2 ∧ ∀ σ2, SR G m H s2 σ2 → Fr (gsIx gs) σ σ2 → Q σ2 H
theorem PG.imp {e : Expr} {t t' : TG} (p : PG X e t) (h : ∀ v σ H Q, t' v σ H Q → t v σ H Q) : PG X e t' := ⟨fun pins s σ H v u Q I r q => p.run pins s σ H v u Q I r (h v σ H Q q)⟩
theorem PGs.imp {e : List Expr} {t t' : TGs} (p : PGs X e t) (h : ∀ v σ H Q, t' v σ H Q → t v σ H Q) : PGs X e t' := ⟨fun pins s σ H v u Q I r q => p.run pins s σ H v u Q I r (h v σ H Q q)⟩
theorem g_name (x : XG W cc k ev X E) {y : Str} {i : Nat} (hy : y ∈ cc.as) (hi : ixOf cc.N y = some i) : PG X (.Name y pos) (rg W.G (.nm i)) := by
  obtain ⟨h1, h2⟩ := x.asg y hy
  refine PG.imp (pg_name (by rw [x.N]; exact x.nd) (by rw [x.N]; exact ixOf_get hi) (by rw [x.sc]; exact h1) (by rw [x.sc]; exact h2)) fun v σ H Q ⟨m, h, s, d, s2, r, sr, dv, e, hq⟩ => ?_
  have e : some (s.set i (some d)) = some s2 := by simpa [bindG] using e
  cases e
  refine hq _ (sr.set dv i) ⟨by rw [List.length_set], fun j hj => ?_⟩
  rw [List.getElem?_set_ne]
  intro z
  exact hj (by simp [gIx, z])
theorem assignEach1 (h : notStar e = true) (es : List Expr) (env : Env) : assignEach (e :: es) env = (false, assign e env) :: assignEach es env := by
  cases e <;> first | rfl | cases h
theorem tgt_notStar : ∀ {n : Nat} {e : Expr} {g : QG}, cTgt cc n e = some g → notStar e = true
  | 0, _, _, h => by simp [cTgt] at h
  | n + 1, e, g, h => by
    cases e <;> first | rfl | (simp [cTgt] at h)
theorem g_all (x : XG W cc k ev X E) : ∀ (n : Nat) {e : Expr} {g : QG}, cTgt cc n e = some g → PG X e (rg W.G g)
  | 0, _, _, h => by simp [cTgt] at h
  | n + 1, e, g, h => by
    have recu : ∀ (es : List Expr) (gs : List QG), cTgts (cTgt cc n) es = some gs → PGs X es (rgs W.G gs) ∧ (assignEach es X.env).length = gs.length ∧ (assignEach es X.env).findIdx? (·.1) = none := by
      intro es
      induction es with
      | nil =>
        intro gs h
        cases h
        refine ⟨PGs.imp pgs_nil fun vs σ H Q ⟨m, h, s, ds, s2, r, sr, dv, e, hq⟩ => ?_, rfl, rfl⟩
        cases dv with
        | nil =>
          have e : some s = some s2 := by simpa [bindG.bindGs] using e
          cases e
          exact ⟨rfl, hq σ sr Fr.refl⟩
        | cons _ _ => simp [bindG.bindGs] at e
      | cons e es ih =>
        intro gs h
        unfold cTgts at h
        split at h
        · rename_i g gs' h1 h2
          cases h
          obtain ⟨p, l, f⟩ := ih gs' h2
          have ns := tgt_notStar h1
          have ae := assignEach1 ns es X.env
          refine ⟨PGs.imp (pgs_cons (g_all x n h1) p (by rw [ae]; rfl)) fun vs σ H Q ⟨m, h, s, ds, s2, r, sr, dv, e, hq⟩ => ?_, by rw [ae]; simp [l], by rw [ae]; simp [List.findIdx?_cons, f]⟩
          cases dv with
          | nil => simp [bindG.bindGs] at e
          | @cons d v ds vs dv dvs =>
            have e : ((bindG g d s).bind fun s' => bindG.bindGs gs' ds s') = some s2 := by simpa [bindG.bindGs] using e
            cases e1 : bindG g d s with
            | none => rw [e1] at e; cases e
            | some s1 =>
              rw [e1] at e
              have e : bindG.bindGs gs' ds s1 = some s2 := e
              refine ⟨v, vs, rfl, m, _, s, d, s1, r, sr, dv, e1, fun σ1 sr1 f1 => ⟨m, _, s1, ds, s2, r, sr1, dvs, e, fun σ2 sr2 f2 => hq σ2 sr2 ?_⟩⟩
              have := f1.trans f2
              simpa [gsIx] using this
        · cases h
    cases e with
    | Name y py =>
      have h : (if cc.as.contains y then match ixOf cc.N y with
        | some i => if cc.xi = some i then none else some (QG.nm i)
        | none => none
        else none) = some g := h
      split at h
      · rename_i hy
        split at h
        · rename_i i hi
          split at h
          · cases h
          · cases h
            exact g_name x (by simpa using hy) hi
        · cases h
      · cases h
    | Tuple es kk py =>
      have h : (if cc.hot then none else (cTgts (cTgt cc n) es).map QG.tp) = some g := h
      split at h
      · cases h
      · rename_i hc
        cases e1 : cTgts (cTgt cc n) es with
        | none => rw [e1] at h; cases h
        | some gs =>
          rw [e1] at h
          cases h
          obtain ⟨p, l, f⟩ := recu es gs e1
          have hcold : cc.hot = false := by simpa using hc
          refine PG.imp (pg_tup (n := gs.length) (x.room hcold).1 p l f) fun v σ H Q ⟨m, h, s, d, s2, r, sr, dv, e, hq⟩ => ?_
          cases d with
          | tup ds =>
            have e : bindG.bindGs gs ds s = some s2 := by simpa [bindG] using e
            cases dv with
            | @tup b _ vs t dd =>
              have len : ∀ (gs : List QG) (ds : List D) (s : Sl), bindG.bindGs gs ds s = some s2 → ds.length = gs.length := by
                intro gs
                induction gs with
                | nil => intro ds s e; cases ds <;> simp [bindG.bindGs] at e ⊢
                | cons g gs ih =>
                  intro ds s e
                  cases ds with
                  | nil => simp [bindG.bindGs] at e
                  | cons d ds =>
                    have e : ((bindG g d s).bind fun s' => bindG.bindGs gs ds s') = some s2 := by simpa [bindG.bindGs] using e
                    cases e1 : bindG g d s with
                    | none => rw [e1] at e; cases e
                    | some s1 =>
                      rw [e1] at e
                      simp [ih ds s1 e]
              refine ⟨b, vs, rfl, by rw [x.K]; exact t, by rw [← dd.length]; exact len gs ds s e, m, _, s, ds, s2, r, sr, dd, e, fun σ2 sr2 f2 => hq σ2 sr2 ?_⟩
              simpa [gIx] using f2
          | _ => simp [bindG] at e
    | _ => simp [cTgt] at h
/-- the slots it stores at -/
theorem tgt_ix (P : Nat → Prop) (hP : ∀ y ∈ cc.as, ∀ i, ixOf cc.N y = some i → cc.xi ≠ some i → P i) : ∀ (n : Nat) {e : Expr} {g : QG}, cTgt cc n e = some g → ∀ i ∈ gIx g, P i
  | 0, _, _, h => by simp [cTgt] at h
  | n + 1, e, g, h => by
    cases e with
    | Name y py =>
      have h : (if cc.as.contains y then match ixOf cc.N y with
        | some i => if cc.xi = some i then none else some (QG.nm i)
        | none => none
        else none) = some g := h
      split at h
      · rename_i hy
        split at h
        · rename_i i hi
          split at h
          · cases h
          · rename_i hx
            cases h
            intro j hj
            have : j = i := by simpa [gIx] using hj
            subst this
            exact hP y (by simpa using hy) _ hi hx
        · cases h
      · cases h
    | Tuple es kk py =>
      have h : (if cc.hot then none else (cTgts (cTgt cc n) es).map QG.tp) = some g := h
      split at h
      · cases h
      · have recu : ∀ (es : List Expr) (gs : List QG), cTgts (cTgt cc n) es = some gs → ∀ i ∈ gsIx gs, P i := by
          intro es
          induction es with
          | nil => intro gs h; cases h; intro i hi; simp [gsIx] at hi
          | cons e es ih =>
            intro gs h
            unfold cTgts at h
            split at h
            · rename_i g gs' h1 h2
              cases h
              intro i hi
              have hi : i ∈ gIx g ++ gsIx gs' := by simpa [gsIx] using hi
              rcases List.mem_append.mp hi with z | z
              · exact tgt_ix P hP n h1 i z
              · exact ih gs' h2 i z
            · cases h
        cases e1 : cTgts (cTgt cc n) es with
        | none => rw [e1] at h; cases h
        | some gs =>
          rw [e1] at h
          cases h
          intro i hi
          exact recu es gs e1 i (by simpa [gIx] using hi)
    | _ => simp [cTgt] at h
theorem xi_fr {xi : Option Nat} {l : List Nat} {σ σ2 : L2.St} (f : Fr l σ σ2) (h : ∀ i ∈ l, xi ≠ some i) (o : XiOk xi a σ) : XiOk xi a σ2 := by
  cases xi with
  | none => trivial
  | some i =>
    have o : σ[i]? = some (some (.ref a)) := o
    show σ2[i]? = _
    rw [f.2 i fun z => h i z rfl]
    exact o

/-! ### comprehensions -/
theorem tk0 {X : Cx} : Takes X (fun _ _ _ _ => False) := fun _ _ x => by
  obtain ⟨_, _, _, _, _, _, _, _, _, _, _, _, _, _, _, _, z⟩ := x
  exact z.elim
abbrev F0 : WX := fun _ _ _ _ => False
theorem own_mem {N : List Str} : ∀ {l : List (Str × NameKind)} {own : List (Str × Nat)}, ownOf N l = some own → ∀ y i, (y, i) ∈ own → ixOf N y = some i ∧ ((y, NameKind.local) ∈ l ∨ (y, NameKind.cell) ∈ l)
  | [], own, h, y, i, hy => by cases h; cases hy
  | (x, kd) :: r, own, h, y, i, hy => by
    have up : ∀ own', ownOf N r = some own' → (y, i) ∈ own' → ixOf N y = some i ∧ ((y, NameKind.local) ∈ (x, kd) :: r ∨ (y, NameKind.cell) ∈ (x, kd) :: r) := fun own' h1 h2 =>
      let ⟨a1, a2⟩ := own_mem h1 y i h2
      ⟨a1, a2.imp (List.mem_cons_of_mem _) (List.mem_cons_of_mem _)⟩
    have gen : ∀ (hk : kd = .local ∨ kd = .cell), (match ixOf N x, ownOf N r with
      | some i, some l => some ((x, i) :: l)
      | none, some l => some l
      | _, none => none) = some own → ixOf N y = some i ∧ ((y, NameKind.local) ∈ (x, kd) :: r ∨ (y, NameKind.cell) ∈ (x, kd) :: r) := fun hk h => by
      split at h
      · rename_i j l e1 e2
        cases h
        rcases List.mem_cons.mp hy with z | z
        · cases z
          refine ⟨e1, ?_⟩
          rcases hk with rfl | rfl
          · exact .inl List.mem_cons_self
          · exact .inr List.mem_cons_self
        · exact up _ e2 z
      · rename_i l e1 e2
        cases h
        exact up _ e2 hy
      · cases h
    cases kd with
    | «local» => exact gen (.inl rfl) h
    | cell => exact gen (.inr rfl) h
    | _ => exact up own h hy
theorem xg_blk (x : XG W cc k ev X E) (hcold : cc.hot = false) {scope : Scope} {own : List (Str × Nat)} (hown : ownOf cc.N scope.names = some own) (hb : blkC cc.N cc.sc scope own = true) (s : Shared) (H : Hp) (C : Addr) (cl : List (Str × Addr)) (fp : List Addr) :
    XG W (cBlk cc scope own) k ev (X.blk s H scope (compEnvC scope cl C X.env) fp) F0 := by
  have bo := blkOk_by hb
  have hsc : relS scope cc.sc = relS scope X.env.scope := by rw [x.sc]
  refine ⟨x.prog, x.wd, x.K, x.mg, x.base, x.N, x.nd, ?_, fun y hy => ?_, fun _ => x.room hcold, x.units, tk0, x.gl, x.cls, fun z => by cases z⟩
  · show relS scope X.env.scope = relS scope cc.sc
    rw [x.sc]
  · obtain ⟨⟨y', i⟩, hm, e⟩ := List.mem_map.mp hy
    have e : y' = y := e
    subst e
    obtain ⟨h1, h2⟩ := own_mem hown _ _ hm
    show Loc (relS scope cc.sc) y' ∧ ((scope.names.lookup y' == some NameKind.cell) = true ∨ (relS scope cc.sc).names.lookup y' = some .local)
    rcases h2 with h2 | h2
    · have l1 := bo.uniq _ h2
      have l2 : (relS scope cc.sc).names.lookup y' = some .local := lookup_relS_keep (by intro z; cases z) l1
      exact ⟨.inl l2, .inr l2⟩
    · have l1 : scope.names.lookup y' = some .cell := bo.uniq _ h2
      have l2 : (relS scope cc.sc).names.lookup y' = some .cell := lookup_relS_keep (by intro z; cases z) l1
      exact ⟨.inr l2, .inl (by rw [l1]; rfl)⟩
/-- a list that was made on the side is taken up -/
theorem adopt {G : GW} {m : List Addr} {h : Hd} {H : Hp} {p : Addr} {ds : List D} {vs : List V} (r : Rel G m h H) (hm : p ∉ m) (hp : H p = some (.lst vs)) (d : DRs G.K m H ds vs) : Rel G (m ++ [p]) (h ++ [.lst ds]) H := by
  have pr : ∀ (n : Nat) (a : Addr), m[n]? = some a → (m ++ [p])[n]? = some a := fun n a e => by rw [List.getElem?_append_left (List.getElem?_eq_some_iff.mp e).1]; exact e
  refine ⟨by simp [r.len], ?_, fun n c' a e1 e2 => ?_, fun q hq => ⟨(r.pin q hq).1, fun z => ?_⟩⟩
  rotate_left 2
  · rcases List.mem_append.mp z with z | z
    · exact (r.pin q hq).2 z
    · have z : q.1 = p := by simpa using z
      have := (r.pin q hq).1
      rw [z, hp] at this
      cases this
  · rw [List.nodup_append]
    refine ⟨r.nd, by simp, fun x hx y hy z => ?_⟩
    have : y = p := by simpa using hy
    exact hm (by rw [← this, ← z]; exact hx)
  · by_cases hn : n < h.length
    · rw [List.getElem?_append_left hn] at e1
      rw [List.getElem?_append_left (by rw [r.len]; exact hn)] at e2
      exact (r.cell n c' a e1 e2).mono rfl pr (fun b xs e => e) (fun b o u e => e)
    · rw [List.getElem?_append_right (by omega)] at e1
      rw [List.getElem?_append_right (by rw [r.len]; omega), r.len] at e2
      cases k : n - h.length with
      | zero =>
        rw [k] at e1 e2
        cases e1
        cases e2
        exact ⟨vs, hp, d.mono pr (fun b xs e => e) (fun b o u e => e)⟩
      | succ j => rw [k] at e1; cases e1
/-- .. and grows -/
theorem grow {G : GW} {m : List Addr} {h : Hd} {H : Hp} {p : Addr} {us vs : List V} (r : Rel G m h H) (hm : p ∉ m) (hp : H p = some (.lst us)) : Rel G m h (upd H p (.lst vs)) ∧ (∀ b xs, H b = some (.tup xs) → upd H p (.lst vs) b = some (.tup xs)) ∧ (∀ b o u, H b = some (.frz o u) → upd H p (.lst vs) b = some (.frz o u)) := by
  have tp : ∀ b xs, H b = some (.tup xs) → upd H p (.lst vs) b = some (.tup xs) := fun b xs q => by
    rw [upd_ne fun z => ?_]; exact q
    rw [z, hp] at q
    cases q
  have fz : ∀ b ob w, H b = some (.frz ob w) → upd H p (.lst vs) b = some (.frz ob w) := fun b ob w q => by
    rw [upd_ne fun z => ?_]; exact q
    rw [z, hp] at q
    cases q
  refine ⟨⟨r.len, r.nd, fun n c a e1 e2 => ?_, fun q hq => ⟨?_, (r.pin q hq).2⟩⟩, tp, fz⟩
  rotate_left 1
  · have h1 := (r.pin q hq).1
    rw [upd_ne fun z => ?_]; exact h1
    rw [z, hp] at h1
    cases h1
  refine (r.cell n c a e1 e2).mono (upd_ne fun z => hm (by rw [← z]; exact List.mem_of_getElem? e2)) (fun _ _ q => q) tp fz
theorem Step.grow {m0 m : List Addr} {H0 H : Hp} {p : Addr} {us vs : List V} (st : Step m0 H0 m H) (h0 : H0 p = none) (hp : H p = some (.lst us)) : Step m0 H0 m (upd H p (.lst vs)) := by
  refine ⟨st.pre, fun b hb z => ?_, fun b o e hb => ?_, fun b xs e => ?_, fun b o u e => ?_⟩
  · by_cases hq : b = p
    · rw [hq, upd_same] at z; cases z
    · rw [upd_ne hq] at z; exact st.live b hb z
  · rw [upd_ne (ne_of_none e h0)]; exact st.keep b o e hb
  · rw [upd_ne (ne_of_none e h0)]; exact st.tups b xs e
  · rw [upd_ne (ne_of_none e h0)]; exact st.frzs b o u e
theorem Step.side {m m' : List Addr} {H H' : Hp} {p : Addr} {us : List V} (st : Step m H m' H') (hm : p ∉ m) (hp : H p = some (.lst us)) : p ∉ m' ∧ H' p = some (.lst us) := by
  refine ⟨fun z => ?_, st.keep p _ hp hm⟩
  obtain ⟨l, e, n⟩ := st.pre
  rw [e] at z
  rcases List.mem_append.mp z with z | z
  · exact hm z
  · rw [n p z] at hp; cases hp
theorem loopC_cons {fix : List (Nat × List D)} {b : D → Option Sl} {c : Sl → Hd → Out Bool} {e : Sl → Hd → Out D} {x : D} {xs acc ys : List D} {h h' : Hd} (hh : loopC fix b c e (x :: xs) acc h = .ok ys h') : fixOk h fix = true ∧ ∃ s, b x = some s ∧ ∃ t h1, c s h = .ok t h1 ∧
    ((t = true ∧ ∃ y h2, e s h1 = .ok y h2 ∧ acc.length < line ∧ loopC fix b c e xs (acc ++ [y]) h2 = .ok ys h') ∨ (t = false ∧ loopC fix b c e xs acc h1 = .ok ys h')) := by
  unfold loopC at hh
  split at hh
  · rename_i s e1 e2
    refine ⟨e1, s, e2, ?_⟩
    cases ec : c s h with
    | no => rw [ec] at hh; cases hh
    | ex _ _ => rw [ec] at hh; cases hh
    | ok t h1 =>
      rw [ec] at hh
      refine ⟨t, h1, rfl, ?_⟩
      cases t with
      | false => exact .inr ⟨rfl, hh⟩
      | true =>
        have hh : ((e s h1).bind fun y h2 => match decide (acc.length < line) with
          | true => loopC fix b c e xs (acc ++ [y]) h2
          | false => .no) = .ok ys h' := hh
        cases ee : e s h1 with
        | no => rw [ee] at hh; cases hh
        | ex _ _ => rw [ee] at hh; cases hh
        | ok y h2 =>
          rw [ee] at hh
          have hh : (match decide (acc.length < line) with
            | true => loopC fix b c e xs (acc ++ [y]) h2
            | false => .no) = .ok ys h' := hh
          split at hh
          · rename_i hd
            exact .inl ⟨rfl, y, h2, rfl, of_decide_eq_true hd, hh⟩
          · cases hh
  · cases hh
/-- the reading of the turns -/
theorem lc_turns {G : GW} {cx : CC} {m1 : List Addr} {H1 : Hp} {σ : L2.St} {s : Sl} {w : Walk} {J : It} {g : QG} {ct : QT} {el : QE} {vs : List Nat} {h1 h' : Hd} {xs : List D} {Q : V → Hp → Prop} {b : Addr} {Dl : Addr} (hxi : cx.xi = none) (hg : ∀ i ∈ gIx g, i ∈ vs) (r1 : Rel G m1 h1 H1) (sr : SR G m1 H1 s σ) (wj : WalkR G m1 H1 w J)
    (ok : loopC w.fix (fun d => bindG g d (wipeD s vs)) (evT ev ct) (evE ev el) w.items [] h1 = .ok xs h') (fin : ∀ m H v, Step m1 H1 (m ++ [Dl]) H → Rel G (m ++ [Dl]) (h' ++ [.lst xs]) H → v = .ref Dl → Q v H) (hD : H1 Dl = none) :
    ∃ W : Nat → Nat → Hp → Prop, (∃ m, W 0 m (upd H1 Dl (.lst []))) ∧ ∀ i m H, W i m H →
  (J.stop i H ∧ Q (.ref Dl) H) ∨ (J.go i H ∧ ∃ Nx : Hp → Prop, (∀ H', Nx H' → ∃ m', m' < m ∧ W (i + 1) m' H') ∧ ∀ x H', J.yld i H x H' → rg G g x (wipe σ vs) H' fun σ2 H2 => wipe σ2 vs = wipe σ vs ∧ rdg G cx.xi b F0 RB (evT ev ct) σ2 H2 fun b' H3 =>
    if b' = true then rdg G cx.xi b F0 (RD G) (evE ev el) σ2 H3 fun y H4 => ∃ acc, H4 Dl = some (.lst acc) ∧ acc.length < sizeLine ∧ Nx (upd H4 Dl (.lst (acc ++ [y]))) else Nx H3) := by
  refine ⟨fun i n H => n = w.items.length - i ∧ i ≤ w.items.length ∧ ∃ m h acc us, Step m1 H1 m H ∧ Rel G m h H ∧ Dl ∉ m ∧ H Dl = some (.lst us) ∧ DRs G.K m H acc us ∧ loopC w.fix (fun d => bindG g d (wipeD s vs)) (evT ev ct) (evE ev el) (w.items.drop i) acc h = .ok xs h',
    ⟨_, rfl, Nat.zero_le _, m1, h1, [], [], ?_⟩, ?_⟩
  · obtain ⟨st, r⟩ := new_step (o := .lst []) r1 hD
    exact ⟨st, r, r1.notin hD, upd_same, .nil, ok⟩
  · rintro i n H ⟨rfl, hi, m, h, acc, us, st, r, hm, hd, da, lp⟩
    by_cases hlt : i < w.items.length
    · have eg : w.items[i]? = some w.items[i] := List.getElem?_eq_getElem hlt
      rw [List.drop_eq_getElem_cons hlt] at lp
      obtain ⟨fx, s1, hb, t, h2, hc, rest⟩ := loopC_cons lp
      obtain ⟨go, yl⟩ := (wj m h H st r fx i).1 _ eg
      refine .inr ⟨go, fun H' => ∃ m h acc us, Step m1 H1 m H' ∧ Rel G m h H' ∧ Dl ∉ m ∧ H' Dl = some (.lst us) ∧ DRs G.K m H' acc us ∧ loopC w.fix (fun d => bindG g d (wipeD s vs)) (evT ev ct) (evE ev el) (w.items.drop (i + 1)) acc h = .ok xs h', fun H' q => ⟨_, by omega, rfl, hlt, q⟩, fun x H' y => ?_⟩
      obtain ⟨r', st', dx⟩ := yl x H' y
      obtain ⟨hm', hd'⟩ := st'.side hm hd
      have st1 := st.trans st'
      refine ⟨m, h, wipeD s vs, w.items[i], s1, r', (sr.step st1).wipe vs, dx, hb, fun σ2 sr2 fr => ⟨?_, m, h, s1, r', sr2, by rw [hxi]; trivial, ?_⟩⟩
      · have e1 := fr.wipe hg
        rw [e1]
        refine List.ext_getElem? fun j => ?_
        exact congrArg (·[j]?) (Fr.wipe (l := vs) (vs := vs) (σ := σ) (σ2 := wipe σ vs) ⟨L2.wipe_length _ _, fun j hj => wipe_out hj⟩ fun _ h => h)
      · rw [hc]
        intro m3 H3 v3 st3 r3 e3
        have e3 : t = v3 := e3
        subst e3
        obtain ⟨hm3, hd3⟩ := st3.side hm' hd'
        rcases rest with ⟨rfl, y, h4, he, hl, lp⟩ | ⟨rfl, lp⟩
        · refine iteT ⟨m3, h2, s1, r3, sr2.step st3, by rw [hxi]; trivial, ?_⟩
          rw [he]
          intro m4 H4 v4 st4 r4 d4
          obtain ⟨hm4, hd4⟩ := st4.side hm3 hd3
          have da4 := ((da.step st').step st3).step st4
          refine ⟨us, hd4, by rw [← da4.length]; exact hl, ?_⟩
          obtain ⟨r5, tp, fz⟩ := grow (vs := us ++ [v4]) r4 hm4 hd4
          refine ⟨m4, h4, acc ++ [y], us ++ [v4], ((st1.trans st3).trans st4).grow hD hd4, r5, hm4, upd_same, ?_, lp⟩
          have d5 : DRs G.K m4 H4 (acc ++ [y]) (us ++ [v4]) := da4.append (.cons d4 .nil)
          exact d5.mono (fun _ _ e => e) tp fz
        · exact iteF ⟨m3, h2, acc, us, st1.trans st3, r3, hm3, hd3, (da.step st').step st3, lp⟩
    · have ei : i = w.items.length := by omega
      rw [List.drop_eq_nil_of_le (by omega)] at lp
      unfold loopC at lp
      have lp2 : (match fixOk h w.fix with
        | true => Out.ok acc h
        | false => Out.no) = .ok xs h' := lp
      split at lp2
      · rename_i fx
        cases lp2
        have sp := (wj m _ H st r fx i).2 (List.getElem?_eq_none (by omega))
        refine .inl ⟨sp, fin m H _ ?_ (adopt r hm hd da) rfl⟩
        obtain ⟨l, e, n⟩ := st.pre
        refine ⟨⟨l ++ [Dl], by rw [e, List.append_assoc], fun c hc => ?_⟩, fun c hc => ?_, st.keep, st.tups, st.frzs⟩
        · rcases List.mem_append.mp hc with z | z
          · exact n c z
          · have : c = Dl := by simpa using z
            rw [this]; exact hD
        · rcases List.mem_append.mp hc with z | z
          · exact st.live c z
          · have : c = Dl := by simpa using z
            rw [this, hd]; intro z; cases z
      · cases lp2
where
  wipe_out {σ : L2.St} {j : Nat} : ∀ {vs : List Nat}, j ∉ vs → (wipe σ vs)[j]? = σ[j]?
  | [], _ => rfl
  | v :: vs, h => by
    unfold wipe
    rw [List.getElem?_set_ne fun z => h (by rw [z]; exact List.mem_cons_self)]
    exact wipe_out fun z => h (List.mem_cons_of_mem _ z)
/-- [elt for tg in iter if ..] -/
theorem lc_read (x : XG W cc k ev X E) {scope : Scope} {own : List (Str × Nat)} {g : QG} {ct : QT} {el : QE} {it : QI} (hg : ∀ i ∈ gIx g, i ∈ own.map (·.2)) {σ : L2.St} {H : Hp} {Q : VK} (z : RE W cc a E ev (.lc el g it (own.map (·.2)) ct) σ H Q) :
    tLc (RI W cc a E ev it) (rg W.G g) (RT W (cBlk cc scope own) a F0 ev ct) (RE W (cBlk cc scope own) a F0 ev el) (own.map (·.2)) σ H Q := by
  obtain ⟨m, h, s, r, sr, xi, z⟩ := z
  have z : Sat W.G (RD W.G) m H ((evI ev it s h).bind fun w h1 => (noEx (loopC w.fix (fun d => bindG g d (wipeD s (own.map (·.2)))) (evT ev ct) (evE ev el) w.items [] h1)).bind fun xs h2 => newL xs h2) Q _ := z
  refine ⟨m, h, s, r, sr, xi, z.bind fun w h1 m1 H1 J st r1 wj q1 => ?_⟩
  intro Dl hD
  cases e0 : loopC w.fix (fun d => bindG g d (wipeD s (own.map (·.2)))) (evT ev ct) (evE ev el) w.items [] h1 with
  | no => rw [e0] at q1; exact False.elim q1
  | ex _ _ => rw [e0] at q1; exact False.elim q1
  | ok xs h' =>
    rw [e0] at q1
    have q1 : Sat W.G (RD W.G) m1 H1 (.ok (.ref h'.length) (h' ++ [.lst xs])) Q _ := q1
    refine lc_turns (cx := cBlk cc scope own) rfl hg r1 (sr.step st) wj e0 (fun m2 H2 v st2 r2 ev' => ?_) hD
    subst ev'
    refine q1 _ H2 _ st2 r2 (.ref ?_)
    have len : m2.length = h'.length := by
      have := r2.len
      simp at this
      exact this
    rw [List.getElem?_append_right (by omega), len, Nat.sub_self]
    rfl
theorem k_lc (x : XG W cc k ev X E) (hcold : cc.hot = false) {elt tg iter : Expr} {ifs : List Expr} {scope : Scope} {own : List (Str × Nat)} {g : QG} {ct : QT} {el : QE} {it : QI} {n : Nat} (hown : ownOf cc.N scope.names = some own) (hb : blkC cc.N cc.sc scope own = true) (hg : cTgt (cBlk cc scope own) n tg = some g)
    (hi : PI X tg iter (RI W cc a E ev it)) (hel : ∀ X', XG W (cBlk cc scope own) k ev X' F0 → PE X' elt (RE W (cBlk cc scope own) a F0 ev el)) (hts : ∀ X', XG W (cBlk cc scope own) k ev X' F0 → PTs X' ifs (RT W (cBlk cc scope own) a F0 ev ct)) (hs : ∀ x, foldedSetIterable iter X.env x = pure x) :
    PE X (.ListComp elt [⟨tg, iter, ifs, 0⟩] scope pos) (RE W cc a E ev (.lc el g it (own.map (·.2)) ct)) := by
  have xb := xg_blk x hcold hown hb
  have hix : ∀ i ∈ gIx g, i ∈ own.map (·.2) := tgt_ix (fun i => i ∈ own.map (·.2)) (fun y hy i hi _ => by
    obtain ⟨⟨y', j⟩, hm, e⟩ := List.mem_map.mp hy
    have e : y' = y := e
    subst e
    have h1 := (own_mem hown _ _ hm).1
    have hi : ixOf cc.N y' = some i := hi
    rw [h1] at hi
    cases hi
    exact List.mem_map.mpr ⟨_, hm, rfl⟩) n hg
  refine PE.imp (pe_lc (x.room hcold).1 (by rw [x.N]; exact x.nd) hi (by rw [x.N, x.sc]; exact blkOk_by hb) (fun s H C cl fp => g_all (xb s H C cl fp) n hg) (fun s H C cl fp => hts _ (xb s H C cl fp)) (fun s H C cl fp => hel _ (xb s H C cl fp)) hs) fun σ H Q z => lc_read x hix z
/-- y = [..] on one line -/
theorem k_setLc (x : XG W cc k ev X E) (hcold : cc.hot = false) {elt tg iter : Expr} {ifs : List Expr} {scope : Scope} {own : List (Str × Nat)} {g : QG} {ct : QT} {el : QE} {it : QI} {n i : Nat} {y : Str} {py spos : Pos} (hy : cc.N[i]? = some y) (hyl : cc.sc.names.lookup y = some .local) (hsw : swapsWith (.ListComp elt [⟨tg, iter, ifs, 0⟩] scope pos) (some (.Name y py)) spos.line X.env = pure true)
    (hown : ownOf cc.N scope.names = some own) (hb : blkC cc.N cc.sc scope own = true) (hg : cTgt (cBlk cc scope own) n tg = some g)
    (hi : PI X tg iter (RI W cc a E ev it)) (hel : ∀ X', XG W (cBlk cc scope own) k ev X' F0 → PE X' elt (RE W (cBlk cc scope own) a F0 ev el)) (hts : ∀ X', XG W (cBlk cc scope own) k ev X' F0 → PTs X' ifs (RT W (cBlk cc scope own) a F0 ev ct)) (hs : ∀ x, foldedSetIterable iter X.env x = pure x) :
    PS X (.Assign [.Name y py] (.ListComp elt [⟨tg, iter, ifs, 0⟩] scope pos) spos) (tAsg (RE W cc a E ev (.lc el g it (own.map (·.2)) ct)) (gName i)) := by
  have xb := xg_blk x hcold hown hb
  have hix : ∀ i ∈ gIx g, i ∈ own.map (·.2) := tgt_ix (fun i => i ∈ own.map (·.2)) (fun y hy i hi _ => by
    obtain ⟨⟨y', j⟩, hm, e⟩ := List.mem_map.mp hy
    have e : y' = y := e
    subst e
    have h1 := (own_mem hown _ _ hm).1
    have hi : ixOf cc.N y' = some i := hi
    rw [h1] at hi
    cases hi
    exact List.mem_map.mpr ⟨_, hm, rfl⟩) n hg
  have base := ps_setLc (X := X) (i := i) (y := y) (py := py) (spos := spos) (pos := pos) (x.room hcold).1 (by rw [x.N]; exact x.nd) (by rw [x.N]; exact hy) (by rw [x.sc]; exact hyl) hsw hi (by rw [x.N, x.sc]; exact blkOk_by hb) (fun s H C cl fp => g_all (xb s H C cl fp) n hg) (fun s H C cl fp => hts _ (xb s H C cl fp)) (fun s H C cl fp => hel _ (xb s H C cl fp)) hs
  exact ⟨fun pins s σ H Dl I z => base.run pins s σ H Dl I (lc_read x hix z)⟩
end
end PV
/-! PVX: the caught exception: isinstance, its fields. -/
namespace PV
open PySem PySem.Spec PyProof.Rows L2
section
open PySem.W PySem.Calls
variable {prog : Program} {w : World} {A : Around} {E : Value → Shared → Prop} {s : Shared} {K : Frag} {x D : Addr} {ox : Obj} {od : Option Obj}
/-- the class of an instance, its own dict or none -/
theorem find_class (T : ExcC K D) : findObj K D od "__class__" = some (.bind (.builtin "getset_descriptor.__get__") (.builtin "object.__class__")) := by
  obtain ⟨cd, hc, _⟩ := any_some T.hd
  unfold findObj
  rw [hc, Option.bind_some, T.ha, Option.bind_some]
  simp [T.hn, T.ht]
theorem class_is {Q : Option Value → Shared → Prop} (T : ExcC K D) (X : K.In s.heap) (I : InstAt s.heap x ox D od) (h : Q (some (.ref D)) { s with toks := s.toks + 1 }) : wpAny (model prog w) A (getAttr? (.ref x) "__class__") Q E s := by
  have hf := find_class (od := od) T
  obtain ⟨hp, g, d, t, os⟩ := s
  have L0 := I.type (M := model prog w)
  have L1 := looks_findIn (M := model prog w) X T.hg
  have L2 := looks_findIn (M := model prog w) X T.hk
  have L3 := looks_find (M := model prog w) X I hf
  have sub : Looks (model prog w) hp (isInstance (.ref x) (.type "BaseException")) true := L0.andThen (looks_subIn X T.hs)
  have hx0 : (false && onTheHeap (Value.builtin "BaseException.__getattribute__")) = false := rfl
  have hx1 : (onTheHeap (Value.ref D) && Value.builtin "BaseException.__getattribute__" == Value.builtin "object.__getattribute__") = false := by
    have h2 : (Value.builtin "BaseException.__getattribute__" == Value.builtin "object.__getattribute__") = false := by decide +kernel
    rw [h2]
    rfl
  unfold getAttr? getAttrBy? getAttrBy
  refine wpAny_bind (wpAny_mkText (wpAny_bind (wpAny_attempt (wpAny_holding (wpAny_bind (L0.at (wpAny_bind (L1.at ?_))))))))
  show wpAny _ _ (if (onTheHeap (Value.ref D) && Value.builtin "BaseException.__getattribute__" == Value.builtin "object.__getattribute__") = true then _ else _) _ _ _
  rw [hx1, if_neg Bool.false_ne_true]
  unfold getAttrByItsOwn hookBefore
  refine wpAny_bind ?_
  rw [if_pos (show onTheHeap (Value.ref D) = true from rfl)]
  refine L2.at ?_
  refine wpAny_bind (wpAny_attempt (wpAny_holding ?_))
  unfold callGetattribute
  rw [hx0, if_neg Bool.false_ne_true]
  unfold boundAndCalled
  rw [PySem.F.excAttr_ValueError.ga.bind (.ref x)]
  refine wpAny_bind (wpAny_pure ?_)
  show wpAny _ _ (call (.builtin "BaseException.__getattribute__") [.ref x, .str "__class__" t]) _ _ _
  refine wpAny_call (codeAny_call_builtin PySem.F.excAttr_ValueError.ga.plain PySem.F.entry_bexc_ga ?_)
  refine @check_slot (model prog w) _ _ ⟨hp, g, d, t + 1, os⟩ "BaseException.__getattribute__" "BaseException" "__getattribute__" (.ref x) [.str "__class__" t] [] _ (by decide +kernel) (by decide +kernel) sub (PySem.F.args_bexc_ga (.ref x) (.str "__class__" t)) ?_
  unfold Builtin.«object.__getattribute__»
  refine wpAny_bind (wpAny_of_eq (a := ((Value.ref x : Value), [Value.str "__class__" t])) (by first | rfl | (simp only [slotArgs]; rfl)) ?_)
  refine wpAny_bind (wpAny_pure (wpAny_bind (L0.at (wpAny_bind (L3.at ?_)))))
  show wpAny _ _ (holding [Value.builtin "object.__class__"] (call (.builtin "getset_descriptor.__get__") [.builtin "object.__class__", .ref x, .ref D]) >>= PySem.ret) _ _ _
  refine wpAny_bind (wpAny_holding (wpAny_call (class_get (s := ⟨hp, g, d, t + 1, os⟩) (ox := ox) (od := od) X I T.hm ?_)))
  refine wpAny_pure ?_
  show wpAny _ _ (handedOut (.ref D)) _ _ _
  rw [handedOut_of (v := .ref D) rfl]
  first
    | exact wpAny_pure (wpAny_pure h)
    | exact wpAny_pure h
    | exact wpAny_pure (wpAny_bind (wpAny_pure (wpAny_pure h)))
theorem kit_exc (T : ExcC K D) : KitX K (.ref x) (.ref D) (fun h => InstAt h x ox D od) := by
  obtain ⟨cd, hc, _⟩ := any_some T.hd
  have T' := T
  unfold clsIn at hc
  split at hc
  · rename_i c' d' cd' sl' ho
    refine ⟨fun _ _ _ I => I.type, fun _ _ X _ => ?_, fun h tp dd its n sl X htp => ?_, fun X I k => class_is T' X I k⟩
    · intro A' Q' E' s' k q
      unfold isType loadHead
      exact wpAny_bind (wpAny_loadPart (k _ _ (X _ _ ho)) (wpAny_pure q))
    · refine Bool.eq_false_iff.mpr fun q => ?_
      have e : D = tp := Value.ref.inj (beq_iff_eq.mp q)
      subst e
      have z := (X _ _ ho).symm.trans htp
      cases z
  · cases hc
end
/-- what of the exception is known: without a dict, or it is tracked -/
def DxOk (H : Hp) (d : Option Addr) : Prop := d = none ∨ ∃ dd fs, d = some dd ∧ H dd = some (.xd fs)
def rIs (K : PySem.W.Frag) (D a : Addr) (d : Option Addr) : List V → Hp → VK → Prop := fun xs H Q => ∃ (c : V) (cv : Value) (b : Bool), xs = [.ref a, c] ∧ (∀ u, RelV c u → u = cv) ∧ PySem.W.kitOne K (.ref D) cv = some b ∧ DxOk H d ∧ Q (.bl b) H
theorem call_is {X : Cx} {a D : Addr} {d : Option Addr} {oe : Obj} {pn : List (Addr × Obj)} (C : ExcC X.K D) (hz : Zc (.ref D) d oe) (hf : ∃ vs, oe.data = .fields vs) : CallR (X.suite a ((a, oe) :: pn)) (.builtin "isinstance") (rIs X.K D a d) := by
  intro pins s σ H xs us Q I r h
  obtain ⟨c, cv, b, rfl, hcv, e, dx, q⟩ := h
  obtain ⟨u1, u2, rfl, r1, r2⟩ : ∃ u1 u2, us = [u1, u2] ∧ RelV (.ref a) u1 ∧ RelV c u2 := by
    cases r with
    | cons rx rr =>
      cases rr with
      | cons rt rr =>
        cases rr
        exact ⟨_, _, rfl, rx, rt⟩
  obtain rfl : u1 = Value.ref a := r1
  obtain rfl := hcv _ r2
  obtain ⟨hget, _⟩ := I.pin (a, oe) (List.mem_append.mpr (.inl List.mem_cons_self))
  obtain ⟨vs, hv⟩ := hf
  have J : ∃ od, PySem.W.InstAt s.heap a oe D od := by
    rcases dx with rfl | ⟨dd, fs, rfl, hd⟩
    · exact ⟨none, hget, hz.1, by unfold PySem.W.notCls; rw [hv] <;> rfl, by rw [hz.2]; trivial⟩
    · obtain ⟨mA, hns, hr⟩ : ObjOk X.prog X.w H s.heap dd (.xd fs) := I.hok dd _ hd
      obtain ⟨od, ho, _⟩ := lookIn_ns hns
      exact ⟨some od, hget, hz.1, by unfold PySem.W.notCls; rw [hv] <;> rfl, by rw [hz.2]; exact ho⟩
  obtain ⟨od, J⟩ := J
  exact PySem.W.kia_one (kit_exc C) I.kIn J e (fun z => nomatch z) fun tk => ⟨.bl b, H, I.kept (t' := tk) fun _ _ z => z, rfl, q⟩
section
variable {W : WD} {cc : CC} {k : Nat} {ev : Ev} {X : Cx} {E : WX} {a : Addr} {e t : Expr} {pos p1 : Pos}
/-- the suite's exception by its name -/
theorem k_xi (x : XG W cc k ev X E) (h : isXi cc e = true) : cc.hot = true ∧ notStar e = true ∧ (∀ n env w, attributeBase e n env w = w) ∧ PE X e (fun σ H Q => XiOk cc.xi W.xa σ ∧ Q (.ref W.xa) H) := by
  unfold isXi at h
  rw [Bool.and_eq_true] at h
  obtain ⟨h0, h⟩ := h
  cases e with
  | Name y py =>
    have h : (plainName y && visB cc.sc y && decide (ixOf cc.N y = cc.xi) && cc.xi.isSome) = true := h
    simp only [Bool.and_eq_true, decide_eq_true_eq] at h
    obtain ⟨⟨⟨hp, hv⟩, hi⟩, hs⟩ := h
    obtain ⟨i, e1⟩ := Option.isSome_iff_exists.mp hs
    obtain ⟨n1, n2, n3⟩ := pn1 hp
    refine ⟨h0, rfl, fun _ _ _ => rfl, PE.imp (pe_var (i := i) (by rw [x.N]; exact ixOf_get (hi.trans e1)) (by rw [x.sc]; exact vis_of hv) n1 n2) fun σ H Q ⟨xi, q⟩ => ?_⟩
    rw [e1] at xi
    exact ⟨_, xi, q⟩
  | _ => cases h
theorem k_xcls (x : XG W cc k ev X E) {c : Nat} (h : excOf cc e = some c) : notStar e = true ∧ ∃ Ca, W.G.cl c = some Ca ∧ PE X e (tC (.ref Ca)) := by
  unfold excOf at h
  split at h
  · rename_i y py
    split at h
    · rename_i hp
      rw [Bool.and_eq_true] at hp
      obtain ⟨n1, n2, n3⟩ := pn1 hp.1
      split at h
      · rename_i n fs e0
        cases h
        obtain ⟨Ca, h1, h2, _⟩ := x.gl _ _ e0
        exact ⟨rfl, Ca, h2, pe_glob (gl_of x hp.2) (by rw [x.mg]; exact h1) rfl n1⟩
      · cases h
    · cases h
  · cases h
theorem k_excIs (x : XG W cc k ev X E) {y : Str} {c : Nat} (hn : plainName y = true) (hg : glB cc.sc y = true) (hv : X.mg y = none ∧ bootBuiltins y = some (.builtin "isinstance")) (h1 : isXi cc e = true) (h2 : excOf cc t = some c) : PE X (.Call (.Name y p1) [e, t] [] pos) (RE W cc a E ev (.excIs c)) := by
  obtain ⟨n1, n2, n3⟩ := pn1 hn
  obtain ⟨hot, s1, _, pe⟩ := k_xi x h1
  obtain ⟨s2, Ca, hc, pt⟩ := k_xcls x h2
  have hgl := gl_of x hg
  obtain ⟨X0, oe, pn, d, ex, Da, rfl, hz, hf, hex, hcl, hd⟩ := x.hx hot
  have co := x.cls _ _ hcl
  have hK : X0.K = W.G.K := x.K
  refine PE.imp (pe_callB (call_is (X := X0) (by rw [hK]; exact co.ec) hz hf) hgl hv.1 hv.2 (pa_cons pe (pa_cons pt pa_nil (star1 s2)) (star1 s1)) n3 n1 (star1 s1) (by
    rw [star1 s2]
    rfl)) fun σ H Q ⟨m, h, s, r, sr, xi, z⟩ => ?_
  have z : Sat W.G (RD W.G) m H (match ev.exn with
    | some e => .ok (.bl (ev.sub e.cls c)) h
    | none => .no) Q _ := z
  rw [hex] at z
  refine ⟨xi, .ref Ca, .ref Ca, ev.sub ex.cls c, rfl, fun u hu => hu, by rw [hK]; exact co.kit _ _ hc, ?_, z.ok r (.bl _)⟩
  rcases hd with ⟨hd, _⟩ | ⟨dd, fs, hd, hp, _⟩
  · exact .inl hd
  · exact .inr ⟨dd, fs, hd, (r.pin _ hp).1⟩
theorem k_excF (x : XG W cc k ev X E) {f : Str} (h1 : isXi cc e = true) (hf : f ∈ xFlds) : PE X (.Attribute e f pos) (RE W cc a E ev (.excF f)) := by
  obtain ⟨hot, s1, ab, pe⟩ := k_xi x h1
  obtain ⟨X0, oe, pn, d, ex, Da, rfl, hz, hfs, hex, hcl, hd⟩ := x.hx hot
  have co := x.cls _ _ hcl
  have hK : X0.K = W.G.K := x.K
  refine PE.imp (pe_xf (T := ⟨by rw [hK]; exact co.ec.hg, by rw [hK]; exact co.ec.hk, by rw [hK]; exact co.ec.hs, by rw [hK]; exact co.ec.hd⟩) (by rw [hK]; exact co.nof f hf) hz hfs pe (ab _ _ _)) fun σ H Q ⟨m, h, s, r, sr, xi, z⟩ => ?_
  have z : Sat W.G (RD W.G) m H (match ev.exn with
    | some e => match e.fs.lookup f with
      | some d => .ok d h
      | none => .no
    | none => .no) Q _ := z
  rw [hex] at z
  have z : Sat W.G (RD W.G) m H (match ex.fs.lookup f with
      | some d => .ok d h
      | none => .no) Q _ := z
  split at z
  · rename_i dv e0
    refine ⟨xi, rfl, rfl, ?_⟩
    rcases hd with ⟨_, hn⟩ | ⟨dd, fs, hd, hp, hl⟩
    · rw [hn] at e0; cases e0
    · obtain ⟨fl, lk⟩ := hl f dv e0
      exact ⟨dd, fs, _, hd, (r.pin _ hp).1, lk, z.ok r (dr_toV fl)⟩
  · exact False.elim z
end
end PV
/-! PVU: enumerate over a tuple. -/
namespace PV
open PySem PySem.Spec PyProof.Rows L2
open AutoSeq1 (wpAny_loadPart')
theorem meets_enumT (l : Addr) (items : Array Value) (n : Nat) (dct : Option Addr) (sl : Array (Option Value)) : Meets (Builtin.«enumerate.__new__» ⟨[.type "enumerate", .ref l], []⟩)
    (fun _ R s => s.heap.get? l = some { cls := .type "tuple", dict := dct, data := .seq items n, slots := sl } ∧ R (.ok (.ret (.ref (s.heap.push { cls := .type "tuple_iterator", data := .fields #[.ref l, .int 0 0] }).objs.size)))
      { s with heap := (s.heap.push { cls := .type "tuple_iterator", data := .fields #[.ref l, .int 0 0] }).push { cls := .type "enumerate", data := .fields #[.none, .bool false, .ref s.heap.objs.size, rawInt 0, .none, .none] } }) :=
  .of_wp fun prog w A R s h => by
    obtain ⟨hp, g, d, tk, os⟩ := s
    obtain ⟨hl, h⟩ := h
    have sub := sub_enumerate
    have tup : Heap.IsTuple (Shared.heap ⟨hp, g, d, tk, os⟩) l items := ⟨_, hl, rfl, n, rfl⟩
    wp_walk using wpAny_loadPart' hl
    refine wpAny_stack_any fun st => wpAny_pure ?_
    split
    · rename_i c _ _ _ _ _
      cases (c == Value.type "enumerate") <;>
      · wp_walk using wpAny_loadPart' hl, wpAny_pyIter_tuple tup
        exact ⟨_, rfl, h⟩
    · wp_walk using wpAny_loadPart' hl, wpAny_pyIter_tuple tup
      exact ⟨_, rfl, h⟩
section
variable {prog : Program} {w : World} {A : Around} {E : Value → Shared → Prop} {s : Shared}
theorem call_enumT {l : Addr} {items : Array Value} {Q : Value → Shared → Prop} (tup : s.heap.IsTuple l items)
    (h : ∀ h', IsEnum h' (s.heap.objs.size + 1) s.heap.objs.size 0 .none → h'.IsTupleIter s.heap.objs.size l 0 → (∀ b o, s.heap.get? b = some o → h'.get? b = some o) → Q (.ref (s.heap.objs.size + 1)) { s with heap := h' }) :
    wpAny (model prog w) A (call (.type "enumerate") [.ref l]) Q E s := by
  obtain ⟨⟨c, dct, dt, sl⟩, hl, hc, n, hd⟩ := tup
  replace hc : c = .type "tuple" := hc
  replace hd : dt = .seq items n := hd
  subst hc hd
  refine callType_new F.called_enumerate (by decide) (F.typeCall_enumerate_1 _) (F.newCall_enumerate_1 _) (fun obj => F.args_object_init_2 obj _) F.entry_enumerate_new (meets_enumT l items n dct sl) ⟨hl, ?_⟩
  have size : (s.heap.push { cls := .type "tuple_iterator", data := .fields #[.ref l, .int 0 0] }).objs.size = s.heap.objs.size + 1 := Heap.size_push ..
  show _ ∧ _
  rw [size]
  have en : IsEnum ((s.heap.push { cls := .type "tuple_iterator", data := .fields #[.ref l, .int 0 0] }).push { cls := .type "enumerate", data := .fields #[.none, .bool false, .ref s.heap.objs.size, rawInt 0, .none, .none] }) (s.heap.objs.size + 1) s.heap.objs.size 0 .none := by
    have at_ := Heap.get?_push_size (s.heap.push { cls := .type "tuple_iterator", data := .fields #[.ref l, .int 0 0] }) (o := { cls := .type "enumerate", data := .fields #[.none, .bool false, .ref s.heap.objs.size, rawInt 0, .none, .none] }) rfl
    rw [size] at at_
    exact at_
  exact ⟨⟨_, en, rfl⟩, h _ en ⟨_, Heap.get?_push_of_some _ (Heap.get?_push_size _ rfl), rfl, rfl⟩ fun b o x => Heap.get?_push_of_some _ (Heap.get?_push_of_some _ x)⟩
end
/-- the tuple at a, each item with its place in a new pair -/
def IteT (K : PySem.W.Frag) (a : Addr) : It :=
  ⟨fun i H => ∃ (xs : List V) (x : V), SqT K H a xs ∧ xs[i]? = some x, fun i H v H' => ∃ T x, v = .ref T ∧ H T = none ∧ H' = upd H T (.tup [.int (i : Nat), x]) ∧ ∀ xs, SqT K H a xs → xs[i]? = some x, fun i H => ∃ xs : List V, SqT K H a xs ∧ xs.length ≤ i⟩
theorem turn_enumT {P : Program} {w : World} {K : PySem.W.Frag} {elts : List Expr} {kk : Nat} {tpos : Pos} (a e it : Addr) (hai : a ≠ it) (hae : a ≠ e) :
    Turn P w K (.Tuple elts kk tpos) (IteT K a) [e, it] e (fun i h => (∃ old, IsEnum h e it ((i : Nat) : Int) old) ∧ h.IsTupleIter it a i ∧ e ≠ it) where
  mem := by simp
  obj := fun i h st b hb => by
    obtain ⟨⟨old, he⟩, ⟨o, ho, hc, hd⟩, _⟩ := st
    have e' : b = e ∨ b = it := by simpa using hb
    rcases e' with z | z
    · rw [z]; exact ⟨_, he, fun v q => nomatch q⟩
    · rw [z]; exact ⟨o, ho, fun v q => by rw [hd] at q; cases q⟩
  keep := fun i h h' st k => by
    obtain ⟨⟨old, he⟩, hi, hne⟩ := st
    exact ⟨⟨old, k e (by simp) _ he⟩, hi.at fun o q => k it (by simp) o q, hne⟩
  item := by
    intro X hP hw hK hc i pins s σ H E I hf st hg
    subst hP hw hK
    obtain ⟨⟨old, he⟩, hit, hne⟩ := st
    obtain ⟨xs, x, hq, hx⟩ := hg
    obtain ⟨its, rv, p, hz⟩ := I.tuple hq
    obtain ⟨u, hu, ru⟩ := rv.get hx
    have hel : e < s.heap.objs.size := Heap.lt_size he
    have hil : it < s.heap.objs.size := by obtain ⟨_, q, _⟩ := hit; exact Heap.lt_size q
    have hlt : i < its.toArray.size := by
      have := (List.getElem?_eq_some_iff.mp hu).1
      simpa using this
    have hef : e ∉ [it, a] := by
      intro z
      have z : e = it ∨ e = a := by simpa using z
      rcases z with z | z
      · exact hne z
      · exact hae z.symm
    refine wpAny_pyNext_enum_itemD (Draws.tuple (show X.A.in1.handled = none from I.ok.hd hc) it a hai its.toArray) he ⟨hit, p⟩ hlt hne hef fun y h' tk hy ho hs' hT hsz hk => ?_
    have hy : its.toArray[i]? = some y := hy
    have hu' : its.toArray[i]? = some u := by simpa using hu
    rw [hu'] at hy
    cases hy
    refine ⟨_, rfl, wpAny_letOwnedTupleGo_enum (s := { s with heap := h', toks := tk + 1 }) ho fun h'' he' sb => ?_⟩
    have hT2 : h''.get? s.heap.objs.size = some { cls := .type "tuple", data := .seq #[.int i tk, u] } := (sb.2 _ (Nat.ne_of_gt hel)).trans hT
    have new : ObjOk X.prog X.w (upd H s.heap.objs.size (.tup [.int (i : Nat), x])) h'' s.heap.objs.size (.tup [.int (i : Nat), x]) :=
      ⟨by show 2 ≤ sizeLine; decide, [.int i tk, u], .cons ⟨_, rfl⟩ (.cons ru .nil), ⟨_, hT2, rfl, _, rfl⟩⟩
    have I1 : Inv X pins σ (upd H s.heap.objs.size (.tup [.int (i : Nat), x])) { s with heap := h'', toks := tk + 1 } :=
      I.turnedNew (ch := [e, it]) (fun b ob hb q => (sb.2 b (fun z => hb (by simp [z]))).trans (hk b ob (fun z => hb (by simp [z])) (fun z => hb (by simp [z])) q)) hf (Nat.le_refl _) new
    refine ⟨.ref s.heap.objs.size, _, I1, rfl, ⟨_, x, rfl, I.hok.fresh (Nat.le_refl _), rfl, fun ys hy => by rw [I.tuple_inj hy hq]; exact hx⟩, ⟨⟨u, ?_⟩, hs'.1.at fun o q => (sb.2 it (Ne.symm hne)).trans q, hne⟩, fun b hb => ?_⟩
    · have e1 : ((i + 1 : Nat) : Int) = (i : Int) + 1 := by omega
      rw [e1]; exact he'
    · have hb' : b < s.heap.objs.size := by
        have e' : b = e ∨ b = it := by simpa using hb
        rcases e' with z | z
        · rw [z]; exact hel
        · rw [z]; exact hil
      rw [upd_ne (Nat.ne_of_lt hb')]
      exact (hf b hb).1
  done := by
    intro X hP hw hK hc i pins s σ H E I hf st hg
    subst hP hw hK
    obtain ⟨⟨old, he⟩, hit, hne⟩ := st
    obtain ⟨xs, hq, hx⟩ := hg
    obtain ⟨its, rv, p, hz⟩ := I.tuple hq
    obtain ⟨f0, f1, f2, f3, f4, f5⟩ := hf it (by simp)
    have hl := rv.length
    have hh : X.A.in1.handled = none := I.ok.hd hc
    have last : its.toArray[i]? = none := by simp; omega
    have D : Draws X.prog X.w X.A.in1 it [it, a] i (fun _ _ => False) (fun j h => j = i ∧ h.IsTupleIter it a i ∧ h.IsTuple a its.toArray) :=
      { live := fun _ _ st => let ⟨o, ho, _⟩ := st.2.1; ⟨o, ho⟩
        frame := fun _ _ _ st hk => ⟨st.1, st.2.1.at fun o e => hk it (by simp) o e, st.2.2.at fun o e => hk a (by simp) o e⟩
        item := fun j s Q E hj st hQ => absurd st.1 (Nat.ne_of_lt hj)
        done := fun s Q E st hE => wpAny_nextOf_tuple_end hh st.2.1 st.2.2 last hE }
    exact wpAny_pyNext_enum_endD D he ⟨rfl, hit, p⟩ fun h' eb => ⟨rfl, I.turned (t' := s.toks) (fun b o hb q => eb b o hb q) f0 f1 f3 f4 f5⟩
  self := fun A i s Q E st h => let ⟨⟨_, he⟩, _⟩ := st; wpAny_pyIter_enum he h
/-- enumerate of a list or of a tuple -/
def iEnumA (K : PySem.W.Frag) (ta : TA) : TI := fun σ H R => ta σ H fun vs H1 => ∃ a xs, vs = [.ref a] ∧ ((SqL K H1 a xs ∧ R (Ite K a) H1) ∨ (SqT K H1 a xs ∧ R (IteT K a) H1))
theorem pi_enumA {X : Cx} {e : Expr} {ta : TA} {p pos tpos : Pos} {elts : List Expr} {kk : Nat} (hg : Gl X "enumerate") (hm : X.mg "enumerate" = none) (ha : PA X [e] ta) (hs : starEach [e] X.env = [(false, eval e X.env)]) :
    PI X (.Tuple elts kk tpos) (.Call (.Name "enumerate" p) [e] [] pos) (iEnumA X.K ta) := by
  refine ⟨fun pins s σ H R I h => ?_⟩
  refine Call_ (ld_blt I hg hm boot_enumerate (PyProof.Rows.callWith_type1 (thn (ha.run pos pins s σ H _ I h) fun us s1 ⟨vs, H1, I1, r1, q1⟩ => ?_) hs rfl))
  obtain ⟨a, xs, ex, q⟩ := q1
  subst ex
  cases r1 with
  | cons r rr =>
    cases rr
    cases r
    have place : ∀ b, b ∈ [s1.heap.objs.size + 1, s1.heap.objs.size] → s1.heap.objs.size ≤ b := fun b hb => by
      have e' : b = s1.heap.objs.size + 1 ∨ b = s1.heap.objs.size := by simpa using hb
      rcases e' with z | z
      · rw [z]; exact Nat.le_add_right _ _
      · rw [z]; exact Nat.le_refl _
    rcases q with ⟨hq, q⟩ | ⟨hq, q⟩
    · obtain ⟨its, rv, p', hz⟩ := I1.list hq
      refine call_enumerate_list p'.isList fun h' he hit hsz hk => wpAny_pyIter_enum he ?_
      exact ⟨s1.heap.objs.size + 1, [s1.heap.objs.size + 1, s1.heap.objs.size], _, _, H1, rfl, I1.kept (t' := s1.toks) hk, turn_enum a (s1.heap.objs.size + 1) s1.heap.objs.size, ⟨⟨.none, he⟩, hit, Nat.succ_ne_self _⟩, fun b hb => I1.fpOk (place b hb) (I1.hok.fresh (place b hb)), q⟩
    · obtain ⟨its, rv, p', hz⟩ := I1.tuple hq
      have al : a < s1.heap.objs.size := by obtain ⟨o, y, _⟩ := p'; exact Heap.lt_size y
      refine call_enumT p' fun h' he hit hk => wpAny_pyIter_enum he ?_
      exact ⟨s1.heap.objs.size + 1, [s1.heap.objs.size + 1, s1.heap.objs.size], _, _, H1, rfl, I1.kept (t' := s1.toks) hk, turn_enumT a (s1.heap.objs.size + 1) s1.heap.objs.size (Nat.ne_of_lt al) (Nat.ne_of_lt (Nat.lt_succ_of_lt al)), ⟨⟨.none, he⟩, hit, Nat.succ_ne_self _⟩, fun b hb => I1.fpOk (place b hb) (I1.hok.fresh (place b hb)), q⟩
theorem enum_get : ∀ (xs : List D) (k i : Nat), (enumD (k : Int) xs)[i]? = (xs[i]?).map fun x => .tup [.int ((k + i : Nat) : Int), x]
  | [], k, i => by simp [enumD]
  | x :: xs, k, 0 => by simp [enumD]
  | x :: xs, k, i + 1 => by
    have e : ((k : Int) + 1) = ((k + 1 : Nat) : Int) := by omega
    show (enumD ((k : Int) + 1) xs)[i]? = _
    rw [e, enum_get xs (k + 1) i, List.getElem?_cons_succ]
    have e2 : k + 1 + i = k + (i + 1) := by omega
    rw [e2]
theorem enum_get0 (xs : List D) (i : Nat) : (enumD 0 xs)[i]? = (xs[i]?).map fun x => .tup [.int (i : Int), x] := by
  have := enum_get xs 0 i
  rw [Nat.zero_add] at this
  exact this
theorem walk_enumL {G : GW} {m : List Addr} {H : Hp} {b : Addr} {ds : List D} {fx : List (Nat × List D)} (hb : ∀ m' h' H', Step m H m' H' → Rel G m' h' H' → fixOk h' fx = true → ∃ vs, SqL G.K H' b vs ∧ DRs G.K m' H' ds vs) : WalkR G m H ⟨enumD 0 ds, fx⟩ (Ite G.K b) := fun m' h' H' st r' f i => by
  obtain ⟨vs, t1, d1⟩ := hb m' h' H' st r' f
  refine ⟨fun d e0 => ?_, fun e0 => ?_⟩
  · have e0 : (enumD 0 ds)[i]? = some d := e0
    rw [enum_get0] at e0
    cases e1 : ds[i]? with
    | none => rw [e1] at e0; cases e0
    | some x =>
      rw [e1] at e0
      cases e0
      obtain ⟨v, e3, dv⟩ := d1.get e1
      refine ⟨⟨vs, v, t1, e3⟩, fun u H'' ⟨T, x', e5, hT, e6, e7⟩ => ?_⟩
      have a1 := e7 vs t1
      rw [e3] at a1
      cases a1
      subst e5 e6
      exact pair_new r' hT (.int _) dv
  · have e0 : (enumD 0 ds)[i]? = none := e0
    rw [enum_get0] at e0
    refine ⟨vs, t1, ?_⟩
    rw [← d1.length]
    cases e1 : ds[i]? with
    | none => exact List.getElem?_eq_none_iff.mp e1
    | some x => rw [e1] at e0; cases e0
theorem walk_enumT {G : GW} {m : List Addr} {H : Hp} {b : Addr} {ds : List D} {vs : List V} (t1 : SqT G.K H b vs) (d1 : DRs G.K m H ds vs) : WalkR G m H ⟨enumD 0 ds, []⟩ (IteT G.K b) := fun m' h' H' st r' f i => by
  have t1 := sqT_step t1 st.tups st.frzs
  have d1 := d1.step st
  refine ⟨fun d e0 => ?_, fun e0 => ?_⟩
  · have e0 : (enumD 0 ds)[i]? = some d := e0
    rw [enum_get0] at e0
    cases e1 : ds[i]? with
    | none => rw [e1] at e0; cases e0
    | some x =>
      rw [e1] at e0
      cases e0
      obtain ⟨v, e3, dv⟩ := d1.get e1
      refine ⟨⟨vs, v, t1, e3⟩, fun u H'' ⟨T, x', e5, hT, e6, e7⟩ => ?_⟩
      have a1 := e7 vs t1
      rw [e3] at a1
      cases a1
      subst e5 e6
      exact pair_new r' hT (.int _) dv
  · have e0 : (enumD 0 ds)[i]? = none := e0
    rw [enum_get0] at e0
    refine ⟨vs, t1, ?_⟩
    rw [← d1.length]
    cases e1 : ds[i]? with
    | none => exact List.getElem?_eq_none_iff.mp e1
    | some x => rw [e1] at e0; cases e0
section
variable {W : WD} {cc : CC} {k : Nat} {ev : Ev} {X : Cx} {E : WX} {a : Addr} {e1 : Expr} {p : QE} {pos : Pos}
theorem i_enum (x : XG W cc k ev X E) {elts : List Expr} {kk : Nat} {tpos : Pos} {p1 : Pos} (hg : glB cc.sc "enumerate" = true) (hm : W.mg "enumerate" = none) (hs : notStar e1 = true) (ha : PE X e1 (RE W cc a E ev p)) : PI X (.Tuple elts kk tpos) (.Call (.Name "enumerate" p1) [e1] [] pos) (RI W cc a E ev (.enum p)) :=
  PI.imp (pi_enumA (gl_of x hg) (by rw [x.mg]; exact hm) (as_cons hs ha as_nil) (star1 hs)) fun σ H R ⟨m, h, s, r, sr, xi, z⟩ => by
    have z : Sat W.G (WalkR W.G) m H ((evE ev p s h).bind fun x h1 => enumV x h1) R _ := z
    refine ⟨m, h, s, r, sr, xi, ?_⟩
    show Sat W.G (RDs W.G) m H ((evE ev p s h).bind fun x h1 => (Out.ok [] h1).bind fun xs h2 => .ok (x :: xs) h2) _ _
    cases e0 : evE ev p s h with
    | no => rw [e0] at z; exact False.elim z
    | ex _ _ => rw [e0] at z; exact z
    | ok d h1 =>
      rw [e0] at z
      intro m1 H1 v st r1 dv
      have z : Sat W.G (WalkR W.G) m H (match seqOf d h1 with
        | some a => .ok ⟨enumD 0 a.items, a.fix⟩ h1
        | none => .no) R _ := z
      cases e1 : seqOf d h1 with
      | none => rw [e1] at z; exact False.elim z
      | some w =>
        rw [e1] at z
        cases dv with
        | cons d1 dn =>
          cases dn
          have hK := x.K
          obtain ⟨b, rfl, s1⟩ := seq_of r1 e1 d1
          rcases s1 with ⟨i1, vs, t1, q1, f1⟩ | ⟨i1, ⟨vs, t1⟩, q1⟩
          · have z : Sat W.G (WalkR W.G) m H (.ok ⟨enumD 0 w.items, w.fix⟩ h1) R _ := z
            rw [f1] at z
            exact ⟨b, vs, rfl, .inr ⟨hK ▸ t1, z m1 H1 _ st r1 (hK ▸ walk_enumT t1 q1)⟩⟩
          · exact ⟨b, vs, rfl, .inl ⟨hK ▸ t1, z m1 H1 _ st r1 (hK ▸ walk_enumL q1)⟩⟩
end
end PV
/-! PVY: objects of own classes: made, their fields read and set, their methods called. -/
namespace PV
open PySem PySem.Spec PyProof.Rows L2
section
variable {W : WD} {cc : CC} {k : Nat} {ev : Ev} {X : Cx} {E : WX} {a : Addr} {e o : Expr} {p : QE} {pos : Pos}
theorem baseO {md : Str} {env : Env} {wh : Sem Value} (h : baseOk o = true) : attributeBase o md env wh = wh := by
  cases o with
  | Call f args kws q =>
    cases f with
    | Name id p0 =>
      cases args with
      | cons _ _ => rfl
      | nil =>
        cases kws with
        | cons _ _ => rfl
        | nil => exact abase_call h
    | _ => rfl
  | _ => rfl
/-! ### fields -/
theorem fs_get {K : PySem.W.Frag} {m : List Addr} {H : Hp} {f : Str} : ∀ {fs : List (Str × D)} {vs : List (Str × V)}, FsR K m H fs vs → (∀ d, fs.lookup f = some d → ∃ v, vs.lookup f = some v ∧ DR K m H d v) ∧ (fs.lookup f = none → vs.lookup f = none)
  | _, _, .nil => ⟨fun d e => (by cases e), fun _ => rfl⟩
  | _, _, .cons (a := (g, x)) (b := (g', y)) q r => by
    obtain ⟨r1, r2⟩ := fs_get r
    have e : g = g' := q.1
    subst e
    cases h : f == g with
    | true =>
      refine ⟨fun d e => ?_, fun e => ?_⟩
      · rw [List.lookup_cons, h] at e
        cases e
        exact ⟨y, by rw [List.lookup_cons, h], q.2⟩
      · rw [List.lookup_cons, h] at e
        cases e
    | false =>
      refine ⟨fun d e => ?_, fun e => ?_⟩
      · rw [List.lookup_cons, h] at e
        obtain ⟨v, e1, e2⟩ := r1 d e
        exact ⟨v, by rw [List.lookup_cons, h]; exact e1, e2⟩
      · rw [List.lookup_cons, h] at e
        rw [List.lookup_cons, h]
        exact r2 e
theorem fs_put {K : PySem.W.Frag} {m : List Addr} {H : Hp} {f : Str} {d : D} {v : V} (dv : DR K m H d v) : ∀ {fs : List (Str × D)} {vs : List (Str × V)}, FsR K m H fs vs → FsR K m H (putD f d fs) (putF f v vs)
  | _, _, .nil => .cons ⟨rfl, dv⟩ .nil
  | _, _, .cons (a := (g, x)) (b := (g', y)) (l₁ := l1) (l₂ := l2) q r => by
    have e : g = g' := q.1
    subst e
    show FsR K m H (if g = f then (g, d) :: l1 else (g, x) :: putD f d l1) (if g = f then (g, v) :: l2 else (g, y) :: putF f v l2)
    by_cases h : g = f
    · rw [if_pos h, if_pos h]
      exact .cons ⟨rfl, dv⟩ r
    · rw [if_neg h, if_neg h]
      exact .cons q (fs_put dv r)
theorem fs_len {K : PySem.W.Frag} {m : List Addr} {H : Hp} : ∀ {fs : List (Str × D)} {vs : List (Str × V)}, FsR K m H fs vs → fs.length = vs.length
  | _, _, .nil => rfl
  | _, _, .cons _ r => by simp [fs_len r]
theorem Rel.obj {G : GW} {m : List Addr} {h : Hd} {H : Hp} (r : Rel G m h H) {n C : Nat} {fs : List (Str × D)} {v : V} (d : DR G.K m H (.ref n) v) (e : objAt h n = some (C, fs)) : ∃ b Ca dx vs, v = .ref b ∧ m[n]? = some b ∧ G.oc C = some Ca ∧ H b = some (.ins Ca dx vs) ∧ FsR G.K m H fs vs := by
  obtain ⟨b, e1, e2⟩ := r.at d
  unfold objAt at e
  split at e
  · rename_i C' fs' q
    cases e
    obtain ⟨Ca, dx, vs, h1, h2, h3⟩ := r.cell n _ b q e2
    exact ⟨b, Ca, dx, vs, e1, e2, h1, h2, h3⟩
  · cases e
theorem k_fld (x : XG W cc k ev X E) {f : Str} {fs : List Str} (hl : cc.gl.lookup ("." : Str) = some (.flds fs)) (hf : f ∈ fs) (hb : baseOk o = true) (ho : PE X o (RE W cc a E ev p)) : PE X (.Attribute o f pos) (RE W cc a E ev (.fld p f)) :=
  PE.imp (pe_fld ho (baseO hb)) fun σ H Q ⟨m, h, s, r, sr, xi, z⟩ => by
    have z : Sat W.G (RD W.G) m H ((evE ev p s h).bind fun x h1 => fldV f x h1) Q _ := z
    refine ⟨m, h, s, r, sr, xi, z.bind fun d h1 m1 H1 v st r1 dv q1 => ?_⟩
    cases d with
    | ref n =>
      have q1 : Sat W.G (RD W.G) m1 H1 (match objAt h1 n with
        | some (_, fs) => match fs.lookup f with
          | some d => .ok d h1
          | none => .no
        | none => .no) Q _ := q1
      cases e0 : objAt h1 n with
      | none => rw [e0] at q1; exact False.elim q1
      | some c =>
        obtain ⟨C, fs'⟩ := c
        rw [e0] at q1
        obtain ⟨b, Ca, dx, vs, rfl, eb, oc, hb, fr⟩ := r1.obj dv e0
        have q1 : Sat W.G (RD W.G) m1 H1 (match fs'.lookup f with
          | some d => .ok d h1
          | none => .no) Q _ := q1
        cases e1 : fs'.lookup f with
        | none => rw [e1] at q1; exact False.elim q1
        | some d2 =>
          rw [e1] at q1
          obtain ⟨v2, l2, dv2⟩ := (fs_get fr).1 d2 e1
          obtain ⟨c1, c2⟩ := x.gl _ _ hl C Ca oc
          exact ⟨b, Ca, dx, vs, v2, rfl, hb, by rw [x.K]; exact c1, by rw [x.K]; exact c2 f hf, l2, q1.ok r1 dv2⟩
    | _ => exact False.elim q1
/-! ### calls of methods and of classes, at one state -/
theorem go_fn {pins : List (Addr × Obj)} {σ : L2.St} {H : Hp} {s : Shared} {Q : VK} {CX : CXT} {j : Nat} {f : Addr} {fd : FuncData} {ps : List Str} {sp : Sp} {F : XK} {us : List Value} {vs : List V}
    (Fo : FnOk X.prog X.w X.K X.mg X.base CX j f fd ps sp) (hr : Room j X.A) (hb : Binds X.K fd ps []) (hx : PassesAt CX X σ F) (I : Inv X pins σ H s) (r : Vals vs us) (h : sp vs H Q F) : wpAny (model X.prog X.w) X.A (call (.ref f) us) (EP X pins σ Q) X.xe s := by
  have len : (us ++ ([] : List Value)).length = ps.length := by
    rw [List.append_nil, ← r.length]
    exact Fo.len _ _ _ _ h
  have bt := hb s us I.kIn len
  rw [List.append_nil] at bt
  refine wpAny_call (codeAny_mono (Fo.run X.A X.stack s H ⟨us, []⟩ us vs Q F hr I.env0 bt r h) fun out s' back => ?_)
  match out, back with
  | .error e, back => exact hx pins H s e s' I back
  | .ok (.ret u), back => exact I.after back
  | .ok .next, back => exact False.elim back
  | .ok .brk, back => exact False.elim back
  | .ok .cont, back => exact False.elim back
theorem go_make {pins : List (Addr × Obj)} {σ : L2.St} {H : Hp} {s : Shared} {Q : VK} {CX : CXT} {j : Nat} {f C : Addr} {fd : FuncData} {ps : List Str} {sp : Sp} {F : XK} {us : List Value} {vs : List V} (M : Mk X.K C f)
    (Fo : FnOk X.prog X.w X.K X.mg X.base CX j f fd ps sp) (hr : Room (j + 1) X.A) (hb : Binds X.K fd ps []) (hx : PassesAt CX X σ F) (I : Inv X pins σ H s) (r : Vals vs us)
    (h : ∀ x dx, H x = none → H dx = none → dx ≠ x → sp (.ref x :: vs) (upd (upd H dx (.own x)) x (.ins C dx [])) (fun v H2 => v = .non ∧ Q (.ref x) H2) F) : wpAny (model X.prog X.w) X.A (call (.ref C) us) (EP X pins σ Q) X.xe s := by
  have now := h (s.heap.objs.size + 1) s.heap.objs.size (I.hok.fresh (Nat.le_succ _)) (I.hok.fresh (Nat.le_refl _)) (Nat.ne_of_lt (Nat.lt_succ_self _))
  have J := Inv.made (C := C) I
  have r2 : Vals (V.ref (s.heap.objs.size + 1) :: vs) (Value.ref (s.heap.objs.size + 1) :: us) := .cons rfl r
  have len : ((Value.ref (s.heap.objs.size + 1) :: us) ++ ([] : List Value)).length = ps.length := by
    rw [List.append_nil, ← r2.length]
    exact Fo.len _ _ _ _ now
  have bt := hb _ (Value.ref (s.heap.objs.size + 1) :: us) J.kIn len
  rw [List.append_nil] at bt
  refine wpAny_call (make_map (f := f) I.kIn M.makes M.init (beq_iff_eq.mp M.fn) (codeAny_mono (Fo.run _ X.stack _ _ ⟨Value.ref (s.heap.objs.size + 1) :: us, []⟩ (Value.ref (s.heap.objs.size + 1) :: us) _ _ F (hr.make C us []) (J.env0.make C us []) bt r2 now) fun out s' back => ?_))
  match out, back with
  | .error e, back => exact hx pins _ _ e s' J back
  | .ok (.ret u), back =>
    obtain ⟨v, H', I3, rv, ev, q3⟩ := J.after back
    subst ev
    exact ⟨rv, ⟨V.ref (s.heap.objs.size + 1), H', I3, rfl, q3⟩⟩
  | .ok .next, back => exact False.elim back
  | .ok .brk, back => exact False.elim back
  | .ok .cont, back => exact False.elim back
/-- a new object in the deep heap -/
theorem newO_step {G : GW} {m : List Addr} {h : Hd} {H : Hp} (r : Rel G m h H) {x dx Ca : Addr} {C : Nat} (hx : H x = none) (hd : H dx = none) (ne : dx ≠ x) (oc : G.oc C = some Ca) :
    Step m H (m ++ [x]) (upd (upd H dx (.own x)) x (.ins Ca dx [])) ∧ Rel G (m ++ [x]) (h ++ [.obj C []]) (upd (upd H dx (.own x)) x (.ins Ca dx [])) := by
  obtain ⟨s1, r1⟩ := new_step (o := .own x) r hd
  have hx1 : upd H dx (.own x) x = none := by rw [upd_ne (Ne.symm ne)]; exact hx
  obtain ⟨s2, r2⟩ := newc_step (o := .ins Ca dx []) (c := .obj C []) r1 hx1 ⟨Ca, dx, [], oc, upd_same, .nil⟩
  exact ⟨s1.trans s2, r2⟩
/-- what a maker's promise is, behind its arguments -/
theorem make_go {m : List Addr} {h : Hd} {H : Hp} {C i np : Nat} {ds : List D} {vs : List V} {Ca : Addr} {Q : VK} {F : XKE} (r : Rel W.G m h H) (dv : DRs W.G.K m H ds vs) (oc : W.G.oc C = some Ca) (hn : ds.length + 1 = np)
    (z : Sat W.G (RD W.G) m H (mkO h.length (ev.call i (.ref h.length :: ds) (h ++ [.obj C []]))) Q F) (x dx : Addr) (hx : H x = none) (hd : H dx = none) (ne : dx ≠ x) : spF W.G np (ev.call i) (.ref x :: vs) (upd (upd H dx (.own x)) x (.ins Ca dx [])) (fun v H2 => v = .non ∧ Q (.ref x) H2) F := by
  obtain ⟨st, r2⟩ := newO_step r hx hd ne oc
  have me : (m ++ [x])[h.length]? = some x := by
    rw [List.getElem?_append_right (by rw [r.len]; exact Nat.le_refl _), r.len, Nat.sub_self]
    rfl
  refine ⟨m ++ [x], h ++ [.obj C []], .ref h.length :: ds, r2, .cons (.ref me) (dv.step st), by simpa using hn, ?_⟩
  have z := z.trans st
  cases e0 : ev.call i (.ref h.length :: ds) (h ++ [.obj C []]) with
  | no => rw [e0] at z; exact False.elim z
  | ex e h' => rw [e0] at z; exact z
  | ok d h' =>
    rw [e0] at z
    cases d with
    | non =>
      intro m' H' v st' r' dv'
      cases dv'
      exact ⟨rfl, z m' H' (.ref x) st' r' (.ref (st'.get _ _ me))⟩
    | _ => exact False.elim z
theorem k_make (x : XG W cc k ev X E) {y : Str} {C i np : Nat} {args : List Expr} {es : QEs} {p1 : Pos} (hcold : cc.hot = false) (hn : plainName y = true) (hg : glB cc.sc y = true) (hl : cc.gl.lookup y = some (.own C i np)) (hs : args.all notStar = true) (l1 : es.len = args.length) (hnp : args.length + 1 = np)
    (ha : PA X args (REs W cc a E ev es)) : PE X (.Call (.Name y p1) args [] pos) (RE W cc a E ev (.make C i es)) := by
  obtain ⟨Ca, f, fd, ps, e1, oc, M, lps, Fo, B⟩ := x.gl y _ hl
  obtain ⟨n1, n2, n3⟩ := pn1 hn
  have Fo : FnOk X.prog X.w X.K X.mg X.base (L2.CX X.prog X.w) (3 * k) f fd ps (spF W.G np (ev.call i)) := by
    rw [x.prog, x.wd, x.K, x.mg, x.base]; exact Fo
  have B : Binds X.K fd ps [] := by rw [x.K]; exact B
  have M : Mk X.K Ca f := by rw [x.K]; exact M
  have hgl := gl_of x hg
  have hmg : X.mg y = some (.ref Ca) := by rw [x.mg]; exact e1
  have hr : Room (3 * k + 1) X.A := (x.room hcold).2.mono (by omega)
  refine ⟨fun pins s σ H Q I ⟨m, h, sl, rl, sr, xi, z⟩ => ?_⟩
  have z : Sat W.G (RD W.G) m H ((evEs ev es sl h).bind fun xs h1 => mkO h1.length (ev.call i (.ref h1.length :: xs) (h1 ++ [.obj C []]))) Q _ := z
  have rd : REs W cc a E ev es σ H fun vs H1 => ∀ x dx, H1 x = none → H1 dx = none → dx ≠ x → spF W.G np (ev.call i) (.ref x :: vs) (upd (upd H1 dx (.own x)) x (.ins Ca dx [])) (fun v H2 => v = .non ∧ Q (.ref x) H2) (WE E σ) :=
    ⟨m, h, sl, rl, sr, xi, z.bindL fun d h1 m1 H1 v ld st r1 dv q1 => fun x dx hx hd ne => make_go r1 dv oc (by rw [ld, l1]; exact hnp) q1 x dx hx hd ne⟩
  refine wpAny_Call_Name_kw (ld_glob I hgl hmg ?_ n1)
  cases args with
  | nil =>
    cases es with
    | cons _ _ => cases l1
    | nil =>
      refine PySem.W.callWith_K0 I.kIn M.kp (go_make (us := []) (vs := []) M Fo hr B (passAt x.tk σ) I .nil ?_)
      obtain ⟨m', h', s', r', sr', xi', z'⟩ := rd
      have z' : Sat W.G (RDs W.G) m' H (.ok [] h') _ _ := z'
      exact z'.ok r' .nil
  | cons e0 rest =>
    rw [List.all_cons, Bool.and_eq_true] at hs
    have he := star1 (env := X.env) (es := rest) hs.1
    refine PySem.W.callWith_K (h₀ := X.base) I.ok.mod.kin M.kp (thn (ha.run pos pins s σ H _ I rd) fun us s1 ⟨vs, H1, I1, r, q⟩ => ⟨I1.kIn, ?_⟩) he (starAll hs.2 pos)
    exact go_make M Fo hr B (passAt x.tk σ) I1 r q
theorem mtree {m : Str} {ap : Pos} {args : List Expr} {env : Env} (hb : baseOk o = true) (hs : args.all notStar = true) (hl : (ap.endLine == pos.line) = true) (h9 : args.length < 29) : eval (.Call (.Attribute o m ap) args [] pos) env = (do
      let ov ← eval o env
      standAt ap.atName
      let (f, first) ← holding [ov] (getMethod ov m (do return (← importBound o env).getD true))
      callWith pos f first (backTo pos (starEach args env)) (backToKw pos (keywordEach [] env))) := by
  have all : ∀ l : List (Bool × Sem Value), l.any (·.1) = false → l.all (!·.1) = true := fun l h => by
    rw [List.all_eq_true]
    intro y hy
    have := List.any_eq_false.mp h y hy
    simpa using this
  have form : methodCallForm (args.length + ([] : List Keyword).length) (backTo pos (starEach args env)) (backToKw pos (keywordEach [] env)) = true := by
    unfold methodCallForm
    rw [all _ (starAll hs pos)]
    show (true && true && decide (args.length + 0 + 0 < 30)) = true
    rw [decide_eq_true (by omega)]
    rfl
  have line : methodCallPos true o env ap pos = pure pos := by
    unfold methodCallPos
    simp [hl]
  refine mcall_of (baseO hb) fun ov => ?_
  unfold methodCall
  rw [form, line]
  rfl
theorem k_mcall (x : XG W cc k ev X E) {md : Str} {C i np : Nat} {args : List Expr} {es : QEs} {ap : Pos} (hcold : cc.hot = false) (hl : cc.gl.lookup (mkey md) = some (.met C i np md)) (hb : baseOk o = true) (hli : (ap.endLine == pos.line) = true) (hs : args.all notStar = true) (l1 : es.len = args.length) (hnp : args.length + 1 = np) (h9 : args.length < 29)
    (ho : PE X o (RE W cc a E ev p)) (ha : PA X args (REs W cc a E ev es)) : PE X (.Call (.Attribute o md ap) args [] pos) (RE W cc a E ev (.mcall C i md p es)) := by
  obtain ⟨Ca, f, fd, ps, oc, cl, me, lps, Fo, B⟩ := x.gl _ _ hl
  have Fo : FnOk X.prog X.w X.K X.mg X.base (L2.CX X.prog X.w) (3 * k) f fd ps (spF W.G np (ev.call i)) := by
    rw [x.prog, x.wd, x.K, x.mg, x.base]; exact Fo
  have B : Binds X.K fd ps [] := by rw [x.K]; exact B
  have cl : Cls X.K Ca := by rw [x.K]; exact cl
  have me : Meth X.K Ca md f := by rw [x.K]; exact me
  have hr : Room (3 * k) X.A := (x.room hcold).2.mono (by omega)
  refine ⟨fun pins s σ H Q I ⟨m, h, sl, rl, sr, xi, z⟩ => ?_⟩
  have z : Sat W.G (RD W.G) m H ((evE ev p sl h).bind fun x h1 => match isObj C md h1 x with
    | true => (evEs ev es sl h1).bind fun xs h2 => ev.call i (x :: xs) h2
    | false => .no) Q _ := z
  have rd : RE W cc a E ev p σ H fun v H1 => ∃ b dx vs, v = .ref b ∧ H1 b = some (.ins Ca dx vs) ∧ vs.lookup md = none ∧ REs W cc a E ev es σ H1 fun us H2 => spF W.G np (ev.call i) (v :: us) H2 Q (WE E σ) :=
    ⟨m, h, sl, rl, sr, xi, z.bind fun d h1 m1 H1 v st r1 dv q1 => by
      cases e0 : isObj C md h1 d with
      | false => rw [e0] at q1; exact False.elim q1
      | true =>
        rw [e0] at q1
        cases d with
        | ref n =>
          have e0 : (match objAt h1 n with
            | some (C', fs) => decide (C' = C) && (fs.lookup md).isNone
            | none => false) = true := e0
          cases e1 : objAt h1 n with
          | none => rw [e1] at e0; cases e0
          | some c =>
            obtain ⟨C', fs⟩ := c
            rw [e1] at e0
            have e0 : (decide (C' = C) && (fs.lookup md).isNone) = true := e0
            simp only [Bool.and_eq_true, decide_eq_true_eq] at e0
            obtain ⟨rfl, e2⟩ := e0
            obtain ⟨b, Cb, dx, vs, rfl, eb, ob, hb', fr⟩ := r1.obj dv e1
            rw [oc] at ob
            cases ob
            refine ⟨b, dx, vs, rfl, hb', (fs_get fr).2 (by simpa using e2), m1, h1, sl, r1, sr.step st, xi, ?_⟩
            exact Sat.bindL (f := fun xs h2 => ev.call i (.ref n :: xs) h2) q1 fun d2 h2 m2 H2 v2 ld st2 r2 dv2 q2 => ⟨m2, h2, .ref n :: d2, r2, .cons (dv.step st2) dv2, by rw [List.length_cons, ld, l1]; exact hnp, q2⟩
        | _ => cases e0⟩
  refine PySem.W.methodCall_KW (thn (ho.run pins s σ H _ I rd) fun u s1 ⟨v, H1, I1, rx, b, dx, vs, ex, ea, l, q⟩ => ?_) (mtree hb hs hli h9)
  subst ex
  obtain rfl : u = Value.ref b := rx
  refine getmeth_ok I1 ea cl me l ?_
  cases args with
  | nil =>
    cases es with
    | cons _ _ => cases l1
    | nil =>
      obtain ⟨m', h', s', r', sr', xi', z'⟩ := q
      have z' : Sat W.G (RDs W.G) m' H1 (.ok [] h') _ _ := z'
      exact PySem.W.callWith_K0 (first := [.ref b]) I1.kIn me.kp (go_fn (us := [.ref b]) (vs := [.ref b]) Fo hr B (passAt x.tk σ) I1 (.cons rfl .nil) (z'.ok r' .nil))
  | cons e0 rest =>
    rw [List.all_cons, Bool.and_eq_true] at hs
    have he := star1 (env := X.env) (es := rest) hs.1
    refine PySem.W.callWith_K (first := [.ref b]) (h₀ := X.base) I.ok.mod.kin me.kp (thn (ha.run pos pins s1 σ H1 _ I1 q) fun us s2 ⟨vs2, H2, I2, r, q2⟩ => ⟨I2.kIn, ?_⟩) he (starAll hs.2 pos)
    exact go_fn (us := .ref b :: us) (vs := .ref b :: vs2) Fo hr B (passAt x.tk σ) I2 (.cons rfl r) q2
/-- d.get(e), d a dict of the module -/
theorem k_dget (x : XG W cc k ev X E) {d : Str} {kvs : List (Str × D)} {ap p1 : Pos} {e1 : Expr} (hn : plainName d = true) (hg : glB cc.sc d = true) (hl : cc.gl.lookup d = some (.dct kvs)) (hli : (ap.endLine == pos.line) = true) (hs : notStar e1 = true) (ha : PE X e1 (RE W cc a E ev p)) :
    PE X (.Call (.Attribute (.Name d p1) "get" ap) [e1] [] pos) (RE W cc a E ev (.dget kvs p)) := by
  obtain ⟨b, es, n, e1', kd, all⟩ := x.gl _ _ hl
  obtain ⟨n1, n2, n3⟩ := pn1 hn
  have hmg : X.mg d = some (.ref b) := by rw [x.mg]; exact e1'
  have kd : KDict X.K X.w b es n := by rw [x.K, x.wd]; exact kd
  have st := star1 (env := X.env) (es := []) hs
  have ho : PE X (.Name d p1) (tC (.ref b)) := pe_glob (gl_of x hg) hmg rfl n1
  refine ⟨fun pins s σ H Q I ⟨m, h, sl, rl, sr, xi, z⟩ => ?_⟩
  have z : Sat W.G (RD W.G) m H ((evE ev p sl h).bind fun x h1 => dgetV kvs x h1) Q _ := z
  have rd : RE W cc a E ev p σ H fun y H1 => ∃ z, y = .str z ∧ Q (toV ((kvs.lookup z).getD .non)) H1 := ⟨m, h, sl, rl, sr, xi, z.bind fun d h1 m1 H1 v st r1 dv q1 => by
    cases d with
    | str w =>
      cases dv
      refine ⟨w, rfl, ?_⟩
      have q1 : Sat W.G (RD W.G) m1 H1 (.ok ((kvs.lookup w).getD .non) h1) Q _ := q1
      refine q1.ok r1 (dr_toV ?_)
      have := all w
      cases e : kvs.lookup w with
      | none => rfl
      | some y => rw [e] at this; exact this.1
    | _ => exact False.elim q1⟩
  refine wpAny_Call_method rfl (by rw [st]; rfl) hli PySem.F.plainAttrs_dict PySem.F.slot_dict_get PySem.F.type_dict_get (thn (ho.run pins s σ H _ I (show tC (.ref b) σ H (fun y H1 => y = .ref b ∧ H1 = H) from ⟨rfl, rfl⟩)) fun u s1 ⟨y, H1, I1, ry, ey, eH⟩ => ?_)
  subst ey eH
  obtain rfl : u = Value.ref b := ry
  have hm := PySem.W.mapOf_K (prog := X.prog) (w := X.w) I1.kIn kd.at_ kd.lit
  refine ⟨hm.typeIs, fun c q => ?_, ?_⟩
  · cases q
    exact ⟨_, I1.kIn _ _ kd.at_, rfl⟩
  · rw [st]
    refine Calls.callWith_builtin rfl (Calls.evalArgs_plain (Calls.spliced_cons (thn (ha.run pins s1 σ _ _ I1 rd) fun iv s2 ⟨y, H2, I2, ry, z, ez, q2⟩ => Calls.spliced_nil ?_)))
    subst ez
    obtain ⟨t, rfl⟩ := (show ∃ t, iv = Value.str z t from ry)
    have hm2 := PySem.W.mapOf_K (prog := X.prog) (w := X.w) I2.kIn kd.at_ kd.lit
    refine call_meetsIn PySem.F.slot_dict_get hm2.typeIs PySem.F.entry_dict_get (PySem.F.args_dict_get_2 _ _) (meets_dict_get (strKind X.prog X.w) b (strKind_is X.prog X.w z t) kd.low) ⟨_, hm2, ?_⟩
    have al := all z
    have K1 := x.K
    cases e : kvs.lookup z with
    | none =>
      rw [e] at al q2
      have f := PySem.W.find_K kd.at_ (x := z) (r := none) (by rw [K1]; exact al)
      rw [f]
      exact ⟨.non, H2, I2.tok _, rfl, q2⟩
    | some y =>
      rw [e] at al q2
      obtain ⟨_, u, e2, ru⟩ := al
      have f := PySem.W.find_K kd.at_ (x := z) (r := some u) (by rw [K1]; exact e2)
      rw [f]
      exact ⟨toV y, H2, I2.tok _, ru, q2⟩
end
end PV
/-! PVI: every expression that has code. -/
namespace PV
open PySem PySem.Spec PyProof.Rows L2
section
variable {W : WD} {cc : CC} {k : Nat} {ev : Ev} {X : Cx} {E : WX} {a : Addr} {pos : Pos}
theorem cE_kind : ∀ {n : Nat} {e : Expr} {p : QE}, cE n cc e = some p → notStar e = true ∧ notSlice e = true ∧ notSet e = true
  | 0, _, _, h => by simp [cE] at h
  | n + 1, e, p, h => by
    cases e <;> first | exact ⟨rfl, rfl, rfl⟩ | (exfalso; cases h)
theorem list_ok {f : Expr → Option QE} (hf : ∀ e p, f e = some p → notStar e = true ∧ PE X e (RE W cc a E ev p)) : ∀ {es : List Expr} {ps : QEs}, cList f es = some ps → es.all notStar = true ∧ ps.len = es.length ∧ PA X es (REs W cc a E ev ps)
  | [], ps, h => by
    cases h
    exact ⟨rfl, rfl, as_nil⟩
  | e :: es, ps, h => by
    unfold cList at h
    split at h
    · rename_i p qs h1 h2
      cases h
      obtain ⟨n1, p1⟩ := hf e p h1
      obtain ⟨n2, l2, p2⟩ := list_ok hf h2
      exact ⟨by rw [List.all_cons, n1, n2]; rfl, by show qs.len + 1 = es.length + 1; rw [l2], as_cons n1 p1 p2⟩
    · cases h
theorem kws_ok {f : Expr → Option QE} (hf : ∀ e p, f e = some p → notStar e = true ∧ PE X e (RE W cc a E ev p)) : ∀ {ks : List Keyword} {ps : QEs}, cKws f ks = some ps → kwAll ks = true ∧ ps.len = ks.length ∧ PK X ks (REs W cc a E ev ps)
  | [], ps, h => by
    cases h
    exact ⟨rfl, rfl, ks_nil⟩
  | ⟨some nm, e, kp⟩ :: es, ps, h => by
    unfold cKws at h
    split at h
    · rename_i p qs h1 h2
      cases h
      obtain ⟨n1, p1⟩ := hf e p h1
      obtain ⟨n2, l2, p2⟩ := kws_ok hf h2
      exact ⟨n2, by show qs.len + 1 = es.length + 1; rw [l2], ks_cons p1 p2⟩
    · cases h
  | ⟨none, e, kp⟩ :: es, ps, h => by cases h
theorem opt_ok {f : Expr → Option QE} (hf : ∀ e p, f e = some p → notStar e = true ∧ PE X e (RE W cc a E ev p)) : ∀ {o : Option Expr} {p : QO}, cOpt f o = some p → PO X o (ROp W cc a E ev p)
  | none, p, h => by
    cases h
    exact o_none
  | some e, p, h => by
    have h : (f e).map QO.some = some p := h
    cases e1 : f e with
    | none => rw [e1] at h; cases h
    | some q =>
      rw [e1] at h
      cases h
      exact o_some (hf e q e1).2
theorem foldA_ok (x : XG W cc k ev X E) {f : Expr → Option QE} (hf : ∀ e p, f e = some p → notStar e = true ∧ PE X e (RE W cc a E ev p)) : ∀ {es : List Expr} {p : QE}, foldB f .andv es = some p → PE X (.BoolOp .And es pos) (RE W cc a E ev p)
  | [], p, h => by cases h
  | [e], p, h => pe_one (hf e p h).2
  | e :: e2 :: r, p, h => by
    unfold foldB at h
    split at h
    · rename_i p1 q1 h1 h2
      cases h
      exact k_andv x (hf e p1 h1).2 (foldA_ok x hf h2)
    · cases h
theorem foldO_ok (x : XG W cc k ev X E) {f : Expr → Option QE} (hf : ∀ e p, f e = some p → notStar e = true ∧ PE X e (RE W cc a E ev p)) : ∀ {es : List Expr} {p : QE}, foldB f .orv es = some p → PE X (.BoolOp .Or es pos) (RE W cc a E ev p)
  | [], p, h => by cases h
  | [e], p, h => pe_one (hf e p h).2
  | e :: e2 :: r, p, h => by
    unfold foldB at h
    split at h
    · rename_i p1 q1 h1 h2
      cases h
      exact k_orv x (hf e p1 h1).2 (foldO_ok x hf h2)
    · cases h
theorem foldTA_ok {f : Expr → Option QT} (hf : ∀ e p, f e = some p → PT X e (RT W cc a E ev p)) : ∀ {es : List Expr} {p : QT}, foldT f .and es = some p → PW X (.BoolOp .And es pos) (RT W cc a E ev p)
  | [], p, h => by cases h
  | [e], p, h => pw_and1 (hf e p h)
  | e :: e2 :: r, p, h => by
    unfold foldT at h
    split at h
    · rename_i p1 q1 h1 h2
      cases h
      exact t_and (hf e p1 h1) (foldTA_ok hf h2)
    · cases h
theorem foldTO_ok {f : Expr → Option QT} (hf : ∀ e p, f e = some p → PT X e (RT W cc a E ev p)) : ∀ {es : List Expr} {p : QT}, foldT f .or es = some p → PW X (.BoolOp .Or es pos) (RT W cc a E ev p)
  | [], p, h => by cases h
  | [e], p, h => pw_or1 (hf e p h)
  | e :: e2 :: r, p, h => by
    unfold foldT at h
    split at h
    · rename_i p1 q1 h1 h2
      cases h
      exact t_or (hf e p1 h1) (foldTO_ok hf h2)
    · cases h
theorem glb_of {y : Str} (h : (plainName y && glB cc.sc y) = true) : plainName y = true ∧ glB cc.sc y = true := by
  rw [Bool.and_eq_true] at h
  exact h
theorem bi_arg (x : XG W cc k ev X E) {y : Str} {b : BI} (hl : GvOk W k ev y (.bi b)) : (match (generalizing := false) b with
      | .gcd => X.mg y = some (.builtin "math.gcd")
      | b => X.mg y = none ∧ bootBuiltins y = some b.val) := by
  rw [x.mg]
  cases b <;> exact hl
theorem ty_arg (x : XG W cc k ev X E) {y : Str} {t : Ty} {b : BI} (hb : tyBI t = some b) (hl : GvOk W k ev y (.ty t)) : (match (generalizing := false) b with
      | .gcd => X.mg y = some (.builtin "math.gcd")
      | b => X.mg y = none ∧ bootBuiltins y = some b.val) := by
  rw [x.mg]
  cases t <;> cases hb <;> exact hl
theorem cBi_ok (x : XG W cc k ev X E) {f : Expr → Option QE} (hf : ∀ e p, f e = some p → notStar e = true ∧ PE X e (RE W cc a E ev p)) {y : Str} {b : BI} {args : List Expr} {p : QE} {p1 : Pos} (hn : plainName y = true) (hg : glB cc.sc y = true) (hv : match b with
      | .gcd => X.mg y = some (.builtin "math.gcd")
      | b => X.mg y = none ∧ bootBuiltins y = some b.val) (h : cBi cc f b args = some p) : PE X (.Call (.Name y p1) args [] pos) (RE W cc a E ev p) := by
  unfold cBi at h
  split at h
  · cases h
  · rename_i e r
    split at h
    · cases h
    · rename_i hc
      cases e1 : cList f (e :: r) with
      | none => rw [e1] at h; cases h
      | some es =>
        rw [e1] at h
        cases h
        obtain ⟨n1, l1, p1⟩ := list_ok hf e1
        exact k_bi x (by simpa using hc) hn hg hv n1 p1
theorem meth_ok (x : XG W cc k ev X E) {f : Expr → Option QE} (hf : ∀ e p, f e = some p → notStar e = true ∧ PE X e (RE W cc a E ev p)) {o : Expr} {md : Str} {ap : Pos} {args : List Expr} {kws : List Keyword} {p : QE} (h : cMeth cc f o md ap pos args kws = some p) : PE X (.Call (.Attribute o md ap) args kws pos) (RE W cc a E ev p) := by
  unfold cMeth at h
  split at h
  · rename_i C i np m' hl
    split at h
    · rename_i hc
      obtain ⟨rfl, c2, c3, c4, c5, c6⟩ := hc
      split at h
      · rename_i q es e1 e2
        cases h
        obtain ⟨n1, l1, pa⟩ := list_ok hf e2
        exact k_mcall x c6 hl c2 c3 n1 l1 c4 c5 (hf _ _ e1).2 pa
      · cases h
    · cases h
  · cases h
theorem dget_ok (x : XG W cc k ev X E) {f : Expr → Option QE} (hf : ∀ e p, f e = some p → notStar e = true ∧ PE X e (RE W cc a E ev p)) {o : Expr} {md : Str} {ap : Pos} {args : List Expr} {kws : List Keyword} {p : QE} (h : cDget cc f o md ap pos args kws = some p) : PE X (.Call (.Attribute o md ap) args kws pos) (RE W cc a E ev p) := by
  unfold cDget at h
  split at h
  · rename_i d p1 a1
    split at h
    · rename_i kvs hl
      split at h
      · rename_i hc
        obtain ⟨rfl, c2, c3, c4⟩ := hc
        cases e1 : f a1 with
        | none => rw [e1] at h; cases h
        | some q =>
          rw [e1] at h
          cases h
          exact k_dget x c2 c3 hl c4 (hf _ _ e1).1 (hf _ _ e1).2
      · cases h
    · cases h
  · cases h
theorem fld_ok (x : XG W cc k ev X E) {f : Expr → Option QE} (hf : ∀ e p, f e = some p → notStar e = true ∧ PE X e (RE W cc a E ev p)) {o : Expr} {n : Str} {p : QE} (h : cFld cc f o n = some p) : PE X (.Attribute o n pos) (RE W cc a E ev p) := by
  unfold cFld at h
  split at h
  · rename_i fs hl
    split at h
    · rename_i hc
      obtain ⟨c1, c2, c3⟩ := hc
      cases e1 : f o with
      | none => rw [e1] at h; cases h
      | some q =>
        rw [e1] at h
        cases h
        exact k_fld x hl (by simpa using c1) c2 (hf _ _ e1).2
    · cases h
  · cases h
theorem call_ok (x : XG W cc k ev X E) {f : Expr → Option QE} (hf : ∀ e p, f e = some p → notStar e = true ∧ PE X e (RE W cc a E ev p)) {y : Str} {args : List Expr} {kws : List Keyword} {p : QE} {p1 : Pos} (h : cCall cc f y args kws = some p) : PE X (.Call (.Name y p1) args kws pos) (RE W cc a E ev p) := by
  unfold cCall at h
  split at h
  · rename_i hpg
    obtain ⟨hp, hg⟩ := glb_of hpg
    split at h
    · rename_i i np shapes hl
      split at h
      · cases h
      · rename_i hc
        have hcold : cc.hot = false := by simpa using hc
        split at h
        · cases h
        · rename_i h0 
          split at h
          · rename_i es ks arr e1 e2 e3
            cases h
            obtain ⟨n1, l1, pa⟩ := list_ok hf e1
            obtain ⟨n2, l2, pk⟩ := kws_ok hf e2
            refine k_call x hcold hp hg hl n1 n2 (fun ea => ?_) l1 l2 e3 pa pk
            cases kws with
            | nil => rfl
            | cons w ws => exact (h0 w ws ea rfl).elim
          · cases h
    · rename_i b hl
      split at h
      · exact cBi_ok x hf hp hg (bi_arg x (x.gl _ _ hl)) h
      · cases h
    · rename_i t hl
      split at h
      · rename_i b e1
        exact cBi_ok x hf hp hg (ty_arg x e1 (x.gl _ _ hl)) h
      · cases h
    · rename_i C i np hl
      split at h
      · cases h
      · rename_i hc
        have hcold : cc.hot = false := by simpa using hc
        split at h
        · split at h
          · rename_i hnp
            cases e1 : cList f args with
            | none => rw [e1] at h; cases h
            | some es =>
              rw [e1] at h
              cases h
              obtain ⟨n1, l1, pa⟩ := list_ok hf e1
              exact k_make x hcold hp hg hl n1 l1 hnp pa
          · cases h
        · cases h
    · rename_i hl
      split at h
      · rename_i a1 t1
        have hv := x.gl _ _ hl
        split at h
        · rename_i hxi
          cases e1 : excOf cc t1 with
          | none => rw [e1] at h; cases h
          | some c =>
            rw [e1] at h
            cases h
            exact k_excIs x hp hg (by rw [x.mg]; exact hv) hxi e1
        · split at h
          · rename_i q t2 e1 e2
            cases h
            exact k_isi x hp hg (by rw [x.mg]; exact hv) (hf _ _ e1).1 e2 (hf _ _ e1).2
          · cases h
      · cases h
    · cases h
  · cases h
theorem tgt_tup {n : Nat} {tg : Expr} {g : QG} (hg : cTgt cc n tg = some g) : ∀ gs, g = .tp gs → ∃ es j tp, tg = .Tuple es j tp := fun gs e => by
  subst e
  cases n with
  | zero => cases hg
  | succ n =>
    cases tg with
    | Tuple es j tp => exact ⟨es, j, tp, rfl⟩
    | Name y py =>
      have hg : (if cc.as.contains y then match ixOf cc.N y with
        | some i => if cc.xi = some i then none else some (QG.nm i)
        | none => none
        else none) = some (QG.tp gs) := hg
      split at hg
      · split at hg
        · split at hg <;> cases hg
        · cases hg
      · cases hg
    | _ => cases hg
/-- what is walked; that no set display is walked -/
theorem iter_ok (x : XG W cc k ev X E) {f : Expr → Option QE} (hf : ∀ e p, f e = some p → notStar e = true ∧ PE X e (RE W cc a E ev p)) (hset : ∀ e p, f e = some p → notSet e = true) {tg : Expr} {g : QG} (hg : ∀ gs, g = .tp gs → ∃ es j tp, tg = .Tuple es j tp) {e : Expr} {p : QI} (h : cIter cc f g e = some p) : PI X tg e (RI W cc a E ev p) ∧ notSet e = true := by
  have val : ∀ e, (f e).map QI.v = some p → PI X tg e (RI W cc a E ev p) ∧ notSet e = true := fun e h => by
    cases e1 : f e with
    | none => rw [e1] at h; cases h
    | some q =>
      rw [e1] at h
      cases h
      exact ⟨i_v x (hf e q e1).2, hset e q e1⟩
  unfold cIter at h
  split at h
  · rename_i y p1 args kws pos1
    split at h
    · rename_i hpg
      obtain ⟨hp, hgl⟩ := glb_of hpg
      split at h
      · rename_i hl
        obtain ⟨rfl, hm⟩ := x.gl _ _ hl
        split at h
        · rename_i e1
          cases e2 : f e1 with
          | none => rw [e2] at h; cases h
          | some q =>
            rw [e2] at h
            cases h
            exact ⟨i_rng1 x hgl hm (hf _ _ e2).1 (hf _ _ e2).2, rfl⟩
        · rename_i e1 e2
          split at h
          · rename_i q1 q2 h1 h2
            cases h
            exact ⟨i_rng2 x hgl hm (hf _ _ h1).1 (hf _ _ h2).1 (hf _ _ h1).2 (hf _ _ h2).2, rfl⟩
          · cases h
        · cases h
      · rename_i hl
        obtain ⟨rfl, hm⟩ := x.gl _ _ hl
        split at h
        · rename_i e1 e2 gs
          split at h
          · rename_i q1 q2 h1 h2
            cases h
            have ht := hg gs rfl
            obtain ⟨es, j, tp, rfl⟩ := ht
            exact ⟨i_zip x hgl hm (hf _ _ h1).1 (hf _ _ h2).1 (hf _ _ h1).2 (hf _ _ h2).2, rfl⟩
          · cases h
        · cases h
      · rename_i hl
        obtain ⟨rfl, hm⟩ := x.gl _ _ hl
        split at h
        · rename_i e1 gs
          cases e2 : f e1 with
          | none => rw [e2] at h; cases h
          | some q =>
            rw [e2] at h
            cases h
            have ht := hg gs rfl
            obtain ⟨es, j, tp, rfl⟩ := ht
            exact ⟨i_enum x hgl hm (hf _ _ e2).1 (hf _ _ e2).2, rfl⟩
        · cases h
      · exact val _ h
    · cases h
  · cases h
  · exact val _ h
theorem setIt {e : Expr} {env : Env} (h : notSet e = true) (x : Value) : foldedSetIterable e env x = pure x := by
  cases e <;> first | rfl | cases h
def OkE (n : Nat) : Prop := ∀ (cc : CC) (e : Expr) (p : QE), cE n cc e = some p → ∀ (W : WD) (k : Nat) (ev : Ev) (X : Cx) (E : WX) (a : Addr), XG W cc k ev X E → PE X e (RE W cc a E ev p)
def OkT (n : Nat) : Prop := ∀ (cc : CC) (e : Expr) (p : QT), cT n cc e = some p → ∀ (W : WD) (k : Nat) (ev : Ev) (X : Cx) (E : WX) (a : Addr), XG W cc k ev X E → PT X e (RT W cc a E ev p)
theorem lc_parts (n : Nat) (hE : OkE n) (hT : OkT n) (x : XG W cc k ev X E) {elt tg iter : Expr} {ifs : List Expr} {scope : Scope} {own : List (Str × Nat)} {g : QG} {it : QI} {el : QE} {ct : QT} (hg : cTgt (cBlk cc scope own) 4 tg = some g) (hi : cIter cc (cE n cc) g iter = some it) (he : cE n (cBlk cc scope own) elt = some el)
    (hc : (ifs = [] ∧ ct = .yes) ∨ ∃ c, ifs = [c] ∧ cT n (cBlk cc scope own) c = some ct) (hxg : ∀ (s : Shared) (H : Hp) (C : Addr) (cl : List (Str × Addr)) (fp : List Addr), XG W (cBlk cc scope own) k ev (X.blk s H scope (compEnvC scope cl C X.env) fp) F0) :
    (∀ X', XG W (cBlk cc scope own) k ev X' F0 → PE X' elt (RE W (cBlk cc scope own) a F0 ev el)) ∧ (∀ X', XG W (cBlk cc scope own) k ev X' F0 → PTs X' ifs (RT W (cBlk cc scope own) a F0 ev ct)) := by
  refine ⟨fun X' x' => hE _ _ _ he W k ev X' F0 a x', fun X' x' => ?_⟩
  rcases hc with ⟨rfl, rfl⟩ | ⟨c, rfl, h⟩
  · exact ⟨fun pins s σ H Q I ⟨m, h, s', r, sr, xi, z⟩ => pts_nil.run pins s σ H Q I (show Q true H from by
      have z : Sat W.G RB m H (.ok true h) Q _ := z
      exact z.ok r rfl)⟩
  · exact pts_one (hT _ _ _ h W k ev X' F0 a x')
theorem all_ok : ∀ n : Nat, OkE n ∧ OkT n
  | 0 => ⟨fun cc e p h => by simp [cE] at h, fun cc e p h => by simp [cT] at h⟩
  | n + 1 => by
    obtain ⟨hE, hT⟩ := all_ok n
    have main : OkE (n + 1) := fun cc e p h W k ev X E a x => by
      have hf : ∀ e p, cE n cc e = some p → notStar e = true ∧ PE X e (RE W cc a E ev p) := fun e p h => ⟨(cE_kind h).1, hE cc e p h W k ev X E a x⟩
      have hset : ∀ e p, cE n cc e = some p → notSet e = true := fun e p h => (cE_kind h).2.2
      cases e with
      | Constant c j pos =>
        have h : (cConst c).map QE.con = some p := h
        cases e1 : cConst c with
        | none => rw [e1] at h; cases h
        | some d => rw [e1] at h; cases h; exact k_const e1
      | Name y pos => exact k_name x h
      | BinOp a1 op b1 pos =>
        change (match (generalizing := false) cE n cc a1, cE n cc b1 with
          | some p, some q => some (QE.bin op p q)
          | _, _ => none) = some p at h
        split at h
        · rename_i q1 q2 h1 h2
          cases h
          exact k_bin x (hf _ _ h1).2 (hf _ _ h2).2
        · cases h
      | UnaryOp op a1 pos =>
        cases op with
        | USub =>
          have h : (cE n cc a1).map QE.neg = some p := h
          cases e1 : cE n cc a1 with
          | none => rw [e1] at h; cases h
          | some q => rw [e1] at h; cases h; exact k_neg x (hf _ _ e1).2
        | Not =>
          have h : (cE n cc a1).map QE.nott = some p := h
          cases e1 : cE n cc a1 with
          | none => rw [e1] at h; cases h
          | some q => rw [e1] at h; cases h; exact k_nott x (hf _ _ e1).2
        | _ => cases h
      | BoolOp op vs pos =>
        cases op with
        | And => exact foldA_ok x hf h
        | Or => exact foldO_ok x hf h
      | Compare a1 ops bs pos =>
        change (match (generalizing := false) ops, bs with
          | [op], [b] => match cE n cc a1, cE n cc b with
            | some p, some q => some (QE.cmp op p q)
            | _, _ => none
          | [op, op'], [b, c] => match cE n cc a1, cE n cc b, cE n cc c with
            | some p, some q, some r => some (QE.chain op op' p q r)
            | _, _, _ => none
          | _, _ => none) = some p at h
        split at h
        · split at h
          · rename_i h1 h2
            cases h
            exact k_cmp x (cE_kind h2).2.2 (hf _ _ h1).2 (hf _ _ h2).2
          · cases h
        · split at h
          · rename_i h1 h2 h3
            cases h
            exact k_chain x (cE_kind h3).2.2 (hf _ _ h1).2 (hf _ _ h2).2 (hf _ _ h3).2
          · cases h
        · cases h
      | IfExp t1 a1 b1 pos =>
        change (match (generalizing := false) cT n cc t1, cE n cc a1, cE n cc b1 with
          | some t, some p, some q => some (QE.ife t p q)
          | _, _, _ => none) = some p at h
        split at h
        · rename_i h1 h2 h3
          cases h
          exact k_ife x (hT cc _ _ h1 W k ev X E a x) (hf _ _ h2).2 (hf _ _ h3).2
        · cases h
      | Tuple es j pos =>
        have h : (cList (cE n cc) es).map QE.tup = some p := h
        cases e1 : cList (cE n cc) es with
        | none => rw [e1] at h; cases h
        | some q => rw [e1] at h; cases h; exact k_tup (list_ok hf e1).2.2
      | List es pos =>
        have h : (cList (cE n cc) es).map QE.lst = some p := h
        cases e1 : cList (cE n cc) es with
        | none => rw [e1] at h; cases h
        | some q => rw [e1] at h; cases h; exact k_lst (list_ok hf e1).2.2
      | Subscript a1 i1 pos =>
        have idx : (match cE n cc a1, cE n cc i1 with
          | some p, some q => some (QE.idx p q)
          | _, _ => none) = some p → PE X (.Subscript a1 i1 pos) (RE W cc a E ev p) := fun h => by
          split at h
          · rename_i h1 h2
            cases h
            exact k_idx x (cE_kind h2).2.1 (hf _ _ h1).2 (hf _ _ h2).2
          · cases h
        cases i1 with
        | Slice lo hi st pos2 =>
          change (match (generalizing := false) st, cE n cc a1, cOpt (cE n cc) lo, cOpt (cE n cc) hi with
            | none, some p, some l, some u => some (QE.slc p l u)
            | _, _, _, _ => none) = some p at h
          split at h
          · rename_i h1 h2 h3
            cases h
            exact k_slc x (hf _ _ h1).2 (opt_ok hf h2) (opt_ok hf h3)
          · cases h
        | _ => exact idx h
      | Call f args kws cp =>
        cases f with
        | Name y p1 => exact call_ok x hf h
        | Attribute o md ap =>
          change (match (generalizing := false) mthOf md with
            | some k => match (generalizing := false) args, kws with
              | [a], [] => match (generalizing := false) (ap.endLine == cp.line) && notCall o, cE n cc o, cE n cc a with
                | true, some p, some q => some (QE.mth k p (.cons q .nil))
                | _, _, _ => none
              | _, _ => none
            | none => match (generalizing := false) cDget cc (cE n cc) o md ap cp args kws with
              | some p => some p
              | none => cMeth cc (cE n cc) o md ap cp args kws) = some p at h
          split at h
          · rename_i h0
            split at h
            · split at h
              · rename_i h1 h2 h3
                cases h
                rw [Bool.and_eq_true] at h1
                exact k_mth x h0 h1.1 h1.2 (hf _ _ h3).1 (hf _ _ h2).2 (hf _ _ h3).2
              · cases h
            · cases h
          · split at h
            · rename_i h0
              cases h
              exact dget_ok x hf h0
            · exact meth_ok x hf h
        | _ => cases h
      | Attribute o f pos =>
        change (if isXi cc o && xFlds.contains f then some (QE.excF f) else cFld cc (cE n cc) o f) = some p at h
        split at h
        · rename_i h0
          cases h
          rw [Bool.and_eq_true] at h0
          exact k_excF x h0.1 (by simpa using h0.2)
        · exact fld_ok x hf h
      | ListComp elt gs scope pos =>
        change (match (generalizing := false) gs with
          | [⟨tg, it, ifs, as⟩] => match decide (as = 0) && !cc.hot, ownOf cc.N scope.names with
            | true, some own => match blkC cc.N cc.sc scope own with
              | true => match cTgt (cBlk cc scope own) 4 tg with
                | some g => match cIter cc (cE n cc) g it, cE n (cBlk cc scope own) elt with
                  | some i, some el => match ifs with
                    | [] => some (QE.lc el g i (own.map (·.2)) .yes)
                    | [c] => match cT n (cBlk cc scope own) c with
                      | some t => some (QE.lc el g i (own.map (·.2)) t)
                      | none => none
                    | _ => none
                  | _, _ => none
                | none => none
              | false => none
            | _, _ => none
          | _ => none) = some p at h
        split at h
        · rename_i tg it ifs as
          split at h
          · rename_i own h0 hown
            rw [Bool.and_eq_true] at h0
            have has : as = 0 := of_decide_eq_true h0.1
            have hcold : cc.hot = false := by simpa using h0.2
            subst has
            split at h
            · rename_i hb
              split at h
              · rename_i g hg
                split at h
                · rename_i i el hi he
                  obtain ⟨pi, ns⟩ := iter_ok x hf hset (tgt_tup hg) hi
                  have fin : ∀ ct, ((ifs = [] ∧ ct = .yes) ∨ ∃ c, ifs = [c] ∧ cT n (cBlk cc scope own) c = some ct) → p = .lc el g i (own.map (·.2)) ct → PE X (.ListComp elt [⟨tg, it, ifs, 0⟩] scope pos) (RE W cc a E ev p) := fun ct hc ep => by
                    obtain ⟨pe, pt⟩ := lc_parts (a := a) n hE hT x hg hi he hc (xg_blk x hcold hown hb)
                    rw [ep]
                    exact k_lc x hcold hown hb hg pi pe pt (setIt ns)
                  split at h
                  · cases h
                    exact fin _ (.inl ⟨rfl, rfl⟩) rfl
                  · rename_i c
                    split at h
                    · rename_i t ht
                      cases h
                      exact fin _ (.inr ⟨c, rfl, ht⟩) rfl
                    · cases h
                  · cases h
                · cases h
              · cases h
            · cases h
          · cases h
        · cases h
      | _ => cases h
    refine ⟨main, fun cc e p h W k ev X E a x => ?_⟩
    have hf : ∀ e p, cE n cc e = some p → notStar e = true ∧ PE X e (RE W cc a E ev p) := fun e p h => ⟨(cE_kind h).1, hE cc e p h W k ev X E a x⟩
    have ht : ∀ e p, cT n cc e = some p → PT X e (RT W cc a E ev p) := fun e p h => hT cc e p h W k ev X E a x
    have val : ∀ e, (∀ whole, isTrue e X.env whole = (do let v ← whole; standAt e.pos; holding [v] (truthy v))) → (cE n cc e).map QT.v = some p → PT X e (RT W cc a E ev p) := fun e he h => by
      cases e1 : cE n cc e with
      | none => rw [e1] at h; cases h
      | some q =>
        rw [e1] at h
        cases h
        exact t_v x he (hf _ _ e1).2
    cases e with
    | UnaryOp op a1 pos =>
      cases op with
      | Not =>
        have h : (cT n cc a1).map QT.not = some p := h
        cases e1 : cT n cc a1 with
        | none => rw [e1] at h; cases h
        | some q => rw [e1] at h; cases h; exact t_not (ht _ _ e1)
      | _ => exact val _ (fun _ => rfl) h
    | BoolOp op vs pos =>
      cases op with
      | And => exact (foldTA_ok ht h).pt
      | Or => exact (foldTO_ok ht h).pt
    | Compare a1 ops bs pos =>
      have h : (cE n cc (.Compare a1 ops bs pos)).map QT.v = some p := h
      cases e1 : cE n cc (.Compare a1 ops bs pos) with
      | none => rw [e1] at h; cases h
      | some q0 =>
        rw [e1] at h
        cases h
        cases n with
        | zero => cases e1
        | succ n' =>
          have lift : ∀ e p, cE n' cc e = some p → PE X e (RE W cc a E ev p) := fun e p h => (all_ok n').1 cc e p h W k ev X E a x
          have h : (match (generalizing := false) ops, bs with
            | [op], [b] => match cE n' cc a1, cE n' cc b with
              | some p, some q => some (QE.cmp op p q)
              | _, _ => none
            | [op, op'], [b, c] => match cE n' cc a1, cE n' cc b, cE n' cc c with
              | some p, some q, some r => some (QE.chain op op' p q r)
              | _, _, _ => none
            | _, _ => none) = some q0 := e1
          split at h
          · split at h
            · rename_i h1 h2
              cases h
              exact t_cmp x (cE_kind h2).2.2 (lift _ _ h1) (lift _ _ h2)
            · cases h
          · split at h
            · rename_i h1 h2 h3
              cases h
              exact t_chain x (cE_kind h3).2.2 (lift _ _ h1) (lift _ _ h2) (lift _ _ h3)
            · cases h
          · cases h
    | IfExp t1 a1 b1 pos => cases h
    | _ => exact val _ (fun _ => rfl) h
end
end PV
/-! PVJ: statements: what their code says. -/
namespace PV
open PySem PySem.Spec PyProof.Rows L2
/-- a statement's end, asked -/
def SatS (G : GW) (xi : Option Nat) (a : Addr) (m : List Addr) (H : Hp) (o : SOut) (D : Ends) (E : WX) : Prop := match o with
  | .nx s h => ∀ m' H' σ', Step m H m' H' → Rel G m' h H' → SR G m' H' s σ' → XiOk xi a σ' → D.nx σ' H'
  | .bk s h => ∀ m' H' σ', Step m H m' H' → Rel G m' h H' → SR G m' H' s σ' → XiOk xi a σ' → D.bk σ' H'
  | .ct s h => ∀ m' H' σ', Step m H m' H' → Rel G m' h H' → SR G m' H' s σ' → XiOk xi a σ' → D.ct σ' H'
  | .rt d h => ∀ m' H' v, Step m H m' H' → Rel G m' h H' → DR G.K m' H' d v → D.rt v H'
  | .ex e s h => ∀ m' H' σ' cls dx, Step m H m' H' → Rel G m' h H' → SR G m' H' s σ' → XiOk xi a σ' → ExR G m' H' e cls dx → E cls dx σ' H'
  | .no => False
section
variable {G : GW} {xi : Option Nat} {a : Addr} {m m1 : List Addr} {H H1 : Hp} {D : Ends} {E : WX}
theorem SatS.trans {o : SOut} (z : SatS G xi a m H o D E) (t : Step m H m1 H1) : SatS G xi a m1 H1 o D E := by
  cases o with
  | nx s h => exact fun m' H' σ' st => z m' H' σ' (t.trans st)
  | bk s h => exact fun m' H' σ' st => z m' H' σ' (t.trans st)
  | ct s h => exact fun m' H' σ' st => z m' H' σ' (t.trans st)
  | rt d h => exact fun m' H' v st => z m' H' v (t.trans st)
  | ex e s h => exact fun m' H' σ' c d st => z m' H' σ' c d (t.trans st)
  | no => exact z
/-- an expression within a statement -/
theorem SatS.st {α β : Type} {R : List Addr → Hp → α → β → Prop} {o : Out α} {s : Sl} {σ : L2.St} {f : α → Hd → SOut} {Q : β → Hp → Prop} (z : SatS G xi a m H (o.st s f) D E) (sr : SR G m H s σ) (x : XiOk xi a σ)
    (k : ∀ d h1 m1 H1 v, Step m H m1 H1 → Rel G m1 h1 H1 → R m1 H1 d v → SatS G xi a m1 H1 (f d h1) D E → Q v H1) : Sat G R m H o Q (fun c d H' => E c d σ H') := by
  cases o with
  | ok d h => exact fun m1 H1 v t r q => k d h m1 H1 v t r q (SatS.trans (o := f d h) z t)
  | ex e h => exact fun m1 H1 c dx t r q => z m1 H1 σ c dx t r (sr.step t) x q
  | no => exact z
theorem SatS.nx {s : Sl} {h : Hd} {σ : L2.St} (z : SatS G xi a m H (.nx s h) D E) (r : Rel G m h H) (sr : SR G m H s σ) (x : XiOk xi a σ) : D.nx σ H := z m H σ r.step r sr x
end
/-- the reading of a piece of code -/
def rdS (W : WD) (cc : CC) (E : WX) (F : Sl → Hd → SOut) : TS := fun D σ H => ∃ m h s, Rel W.G m h H ∧ SR W.G m H s σ ∧ XiOk cc.xi W.xa σ ∧ SatS W.G cc.xi W.xa m H (F s h) D E
/-- where a statement stands -/
structure XS (W : WD) (cc : CC) (k : Nat) (ev : Ev) (X : Cx) (E : WX) : Prop extends XG W cc k ev X E where
  po : cc.hot = false → PassesOwn (model X.prog X.w) X.A X.env X.xe
  stk : cc.hot = false → X.stack = X.env :: X.outer ∧ X.env.frame = some X.env.locals
  fun_ : cc.sc.kind = .function
theorem PS.imp {X : Cx} {e : Stmt} {t t' : TS} (p : PS X e t) (h : ∀ D σ H, t' D σ H → t D σ H) : PS X e t' := ⟨fun pins s σ H D I q => p.run pins s σ H D I (h D σ H q)⟩
theorem PSs.imp {X : Cx} {e : List Stmt} {t t' : TS} (p : PSs X e t) (h : ∀ D σ H, t' D σ H → t D σ H) : PSs X e t' := ⟨fun pins s σ H D I q => p.run pins s σ H D I (h D σ H q)⟩
section
variable {W : WD} {cc : CC} {k : Nat} {ev : Ev} {X : Cx} {E : WX} {a : Addr}
variable {e e1 e2 e3 : Expr} {p q r : QE} {pos : Pos} {st : Stmt} {sts : List Stmt}
abbrev RSt (W : WD) (cc : CC) (E : WX) (ev : Ev) (c : QS) : TS := rdS W cc E (exS ev c)
abbrev RSs (W : WD) (cc : CC) (E : WX) (ev : Ev) (c : QSs) : TS := rdS W cc E (exSs ev c)
theorem ss_nil : PSs X [] (RSs W cc E ev .nil) := PSs.imp pss_nil fun D σ H ⟨m, h, s, r, sr, xi, z⟩ => by
  have z : SatS W.G cc.xi W.xa m H (.nx s h) D E := z
  exact z.nx r sr xi
theorem ss_cons {c : QS} {cs : QSs} (h1 : PS X st (RSt W cc E ev c)) (h2 : PSs X sts (RSs W cc E ev cs)) : PSs X (st :: sts) (RSs W cc E ev (.cons c cs)) :=
  PSs.imp (pss_cons h1 h2) fun D σ H ⟨m, h, s, r, sr, xi, z⟩ => by
    have z : SatS W.G cc.xi W.xa m H (match exS ev c s h with
      | .nx s1 h1 => exSs ev cs s1 h1
      | o => o) D E := z
    refine ⟨m, h, s, r, sr, xi, ?_⟩
    cases e0 : exS ev c s h with
    | nx s1 h1 =>
      rw [e0] at z
      exact fun m1 H1 σ1 st r1 sr1 x1 => ⟨m1, h1, s1, r1, sr1, x1, SatS.trans (o := exSs ev cs s1 h1) z st⟩
    | bk s1 h1 => rw [e0] at z; exact z
    | ct s1 h1 => rw [e0] at z; exact z
    | rt d h1 => rw [e0] at z; exact z
    | ex ex s1 h1 => rw [e0] at z; exact z
    | no => rw [e0] at z; exact z
theorem s_pass : PS X (.Pass pos) (RSt W cc E ev .pass) := PS.imp ps_pass fun D σ H ⟨m, h, s, r, sr, xi, z⟩ => by
  have z : SatS W.G cc.xi W.xa m H (.nx s h) D E := z
  exact z.nx r sr xi
theorem s_doc {x : Str} {j : Nat} {pos' : Pos} : PS X (.Expr (.Constant (.str x) j pos) pos') (RSt W cc E ev .pass) := PS.imp ps_doc fun D σ H ⟨m, h, s, r, sr, xi, z⟩ => by
  have z : SatS W.G cc.xi W.xa m H (.nx s h) D E := z
  exact z.nx r sr xi
theorem s_brk : PS X (.Break pos) (RSt W cc E ev .brk) := PS.imp ps_break fun D σ H ⟨m, h, s, r, sr, xi, z⟩ => z m H σ r.step r sr xi
theorem s_cnt : PS X (.Continue pos) (RSt W cc E ev .cnt) := PS.imp ps_continue fun D σ H ⟨m, h, s, r, sr, xi, z⟩ => z m H σ r.step r sr xi
theorem s_expr (ha : PE X e (RE W cc a E ev p)) (hs : swapsWith e none pos.line X.env = pure false) : PS X (.Expr e pos) (RSt W cc E ev (.expr p)) :=
  PS.imp (ps_expr ha hs) fun D σ H ⟨m, h, s, r, sr, xi, z⟩ => by
    have z : SatS W.G cc.xi W.xa m H ((evE ev p s h).st s fun _ h1 => .nx s h1) D E := z
    exact ⟨m, h, s, r, sr, xi, z.st sr xi fun d h1 m1 H1 v st r1 dv z1 => z1.nx r1 (sr.step st) xi⟩
theorem s_ret (ha : PE X e (RE W cc a E ev p)) : PS X (.Return (some e) pos) (RSt W cc E ev (.ret p)) :=
  PS.imp (ps_ret ha) fun D σ H ⟨m, h, s, r, sr, xi, z⟩ => by
    have z : SatS W.G cc.xi W.xa m H ((evE ev p s h).st s fun d h1 => .rt d h1) D E := z
    exact ⟨m, h, s, r, sr, xi, z.st sr xi fun d h1 m1 H1 v st r1 dv z1 => z1 m1 H1 v r1.step r1 dv⟩
theorem s_retN : PS X (.Return none pos) (RSt W cc E ev .retN) := PS.imp ps_retN fun D σ H ⟨m, h, s, r, sr, xi, z⟩ => z m H .non r.step r .non
theorem s_if {c : QT} {b1 b2 : List Stmt} {c1 c2 : QSs} (hc : PT X e (RT W cc a E ev c)) (h1 : PSs X b1 (RSs W cc E ev c1)) (h2 : PSs X b2 (RSs W cc E ev c2)) : PS X (.If e b1 b2 pos) (RSt W cc E ev (.ife c c1 c2)) :=
  PS.imp (ps_if hc h1 h2) fun D σ H ⟨m, h, s, r, sr, xi, z⟩ => by
    have z : SatS W.G cc.xi W.xa m H ((evT ev c s h).st s fun k h1 => match k with
      | true => exSs ev c1 s h1
      | false => exSs ev c2 s h1) D E := z
    refine ⟨m, h, s, r, sr, xi, z.st sr xi fun d h1 m1 H1 v st r1 dv z1 => ?_⟩
    have dv : d = v := dv
    subst dv
    cases d with
    | true => exact iteT ⟨m1, h1, s, r1, sr.step st, xi, z1⟩
    | false => exact iteF ⟨m1, h1, s, r1, sr.step st, xi, z1⟩
/-- target = value, when the value is in hand -/
theorem asg_go {g : QG} {m : List Addr} {h : Hd} {H : Hp} {s : Sl} {σ : L2.St} {d : D} {v : V} {D : Ends} (hx : ∀ i ∈ gIx g, cc.xi ≠ some i) (r : Rel W.G m h H) (sr : SR W.G m H s σ) (xi : XiOk cc.xi W.xa σ) (dv : DR W.G.K m H d v) (z : SatS W.G cc.xi W.xa m H (asgO (bindG g d s) h) D E) : rg W.G g v σ H D.nx := by
  cases e0 : bindG g d s with
  | none => rw [e0] at z; exact False.elim z
  | some s2 =>
    rw [e0] at z
    have z : SatS W.G cc.xi W.xa m H (.nx s2 h) D E := z
    exact ⟨m, h, s, d, s2, r, sr, dv, e0, fun σ2 sr2 fr => z.nx r sr2 (xi_fr fr hx xi)⟩
theorem s_asg {tg : Expr} {g : QG} (hx : ∀ i ∈ gIx g, cc.xi ≠ some i) (ha : PE X e (RE W cc a E ev p)) (hg : PG X tg (rg W.G g)) (hs : swapsWithSole [tg] e pos.line X.env = pure false) (hw : swappedStores [tg] e X.env = pure none) (h1 : (assignEach [tg] X.env).map (·.2) = [assign tg X.env]) : PS X (.Assign [tg] e pos) (RSt W cc E ev (.asg g p)) :=
  PS.imp (ps_asg ha hg hs hw h1) fun D σ H ⟨m, h, s, r, sr, xi, z⟩ => by
    have z : SatS W.G cc.xi W.xa m H ((evE ev p s h).st s fun d h1 => asgO (bindG g d s) h1) D E := z
    exact ⟨m, h, s, r, sr, xi, z.st sr xi fun d h1 m1 H1 v st r1 dv z1 => asg_go hx r1 (sr.step st) xi dv z1⟩
/-- .. a comprehension on one line with its name -/
theorem s_asgN {tg : Expr} {i : Nat} (hx : cc.xi ≠ some i) (hp : PS X (.Assign [tg] e pos) (tAsg (RE W cc a E ev p) (gName i))) : PS X (.Assign [tg] e pos) (RSt W cc E ev (.asg (.nm i) p)) :=
  PS.imp hp fun D σ H ⟨m, h, s, r, sr, xi, z⟩ => by
    have z : SatS W.G cc.xi W.xa m H ((evE ev p s h).st s fun d h1 => asgO (bindG (.nm i) d s) h1) D E := z
    refine ⟨m, h, s, r, sr, xi, z.st sr xi fun d h1 m1 H1 v st r1 dv z1 => ?_⟩
    have z1 : SatS W.G cc.xi W.xa m1 H1 (.nx (s.set i (some d)) h1) D E := by simpa [bindG, asgO] using z1
    refine z1.nx r1 ((sr.step st).set dv i) (xi_fr (l := [i]) ⟨by rw [List.length_set], fun j hj => ?_⟩ (fun j hj => ?_) xi)
    · rw [List.getElem?_set_ne fun z => hj (by simp [z])]
    · have : j = i := by simpa using hj
      rw [this]; exact hx
theorem s_par {i j : Nat} {x y : Str} {px py pt : Pos} {kt k2 : Nat} {pt2 : Pos} (xs : XG W cc k ev X E) (hcold : cc.hot = false) (hxi : cc.xi = none) (hi : ixOf cc.N x = some i) (hj : ixOf cc.N y = some j) (hxy : x ≠ y) (lx : cc.sc.names.lookup x = some .local) (ly : cc.sc.names.lookup y = some .local) (s1 : notStar e1 = true) (s2 : notStar e2 = true)
    (ha : PE X e1 (RE W cc a E ev p)) (hb : PE X e2 (RE W cc a E ev q)) (hw : swappedStores [.Tuple [.Name x px, .Name y py] kt pt] (.Tuple [e1, e2] k2 pt2) X.env = pure (some [x, y])) : PS X (.Assign [.Tuple [.Name x px, .Name y py] kt pt] (.Tuple [e1, e2] k2 pt2) pos) (RSt W cc E ev (.par i j p q)) := by
  have gi := ixOf_get hi
  have gj := ixOf_get hj
  have hij : i ≠ j := fun z => by
    rw [z, gj] at gi
    exact hxy (Option.some.inj gi).symm
  refine PS.imp (ps_par (xs.room hcold).1 (by rw [xs.N]; exact xs.nd) (by rw [xs.N]; exact gi) (by rw [xs.N]; exact gj) hij (by rw [xs.sc]; exact lx) (by rw [xs.sc]; exact ly) (as_cons s1 ha (as_cons s2 hb as_nil)) hw) fun D σ H ⟨m, h, s, r, sr, xi, z⟩ => ?_
  have z : SatS W.G cc.xi W.xa m H ((evE ev p s h).st s fun x h1 => (evE ev q s h1).st s fun y h2 => .nx ((s.set i (some x)).set j (some y)) h2) D E := z
  refine ⟨m, h, s, r, sr, xi, ?_⟩
  show Sat W.G (RDs W.G) m H ((evE ev p s h).bind fun x h1 => ((evE ev q s h1).bind fun y h2 => (Out.ok [] h2).bind fun xs h3 => .ok (y :: xs) h3).bind fun xs h2 => .ok (x :: xs) h2) _ _
  cases e0 : evE ev p s h with
  | no => rw [e0] at z; exact False.elim z
  | ex ex h1 => rw [e0] at z; exact fun m1 H1 c dx t r1 q1 => z m1 H1 σ c dx t r1 (sr.step t) xi q1
  | ok d h1 =>
    rw [e0] at z
    have z : SatS W.G cc.xi W.xa m H ((evE ev q s h1).st s fun y h2 => .nx ((s.set i (some d)).set j (some y)) h2) D E := z
    show Sat W.G (RDs W.G) m H (((evE ev q s h1).bind fun y h2 => (Out.ok [] h2).bind fun xs h3 => .ok (y :: xs) h3).bind fun xs h2 => .ok (d :: xs) h2) _ _
    cases e1 : evE ev q s h1 with
    | no => rw [e1] at z; exact False.elim z
    | ex ex h2 => rw [e1] at z; exact fun m1 H1 c dx t r1 q1 => z m1 H1 σ c dx t r1 (sr.step t) xi q1
    | ok d2 h2 =>
      rw [e1] at z
      have z : SatS W.G cc.xi W.xa m H (.nx ((s.set i (some d)).set j (some d2)) h2) D E := z
      intro m1 H1 v st r1 dv
      obtain ⟨v1, v2, rfl, d1, d3⟩ := two_of dv
      exact ⟨v1, v2, rfl, z m1 H1 _ st r1 (((sr.step st).set d1 i).set d3 j) (by rw [hxi]; trivial)⟩
/-- o[i] = d on a list -/
theorem s_sub (x : XG W cc k ev X E) {o i : Expr} {po pi pe : QE} {tp : Pos} (hi : notSlice i = true) (he : PE X e (RE W cc a E ev pe)) (ho : PE X o (RE W cc a E ev po)) (hix : PE X i (RE W cc a E ev pi)) (hs : swapsWithSole [.Subscript o i tp] e pos.line X.env = pure false) : PS X (.Assign [.Subscript o i tp] e pos) (RSt W cc E ev (.sub po pi pe)) := by
  refine PS.imp (ps_asg he (pg_sub ho hix set_list (by intro v; cases i <;> first | rfl | cases hi)) hs (by rfl) (by rfl)) fun D σ H ⟨m, h, s, r, sr, xi, z⟩ => ?_
  have z : SatS W.G cc.xi W.xa m H ((evE ev pe s h).st s fun d h1 => (evE ev po s h1).st s fun x h2 => (evE ev pi s h2).st s fun y h3 => subV x y d s h3) D E := z
  refine ⟨m, h, s, r, sr, xi, z.st (R := RD W.G) sr xi fun d h1 m1 H1 v st r1 dv z1 => ⟨m1, h1, s, r1, sr.step st, xi, z1.st (R := RD W.G) (sr.step st) xi fun d2 h2 m2 H2 v2 st2 r2 dv2 z2 => ⟨m2, h2, s, r2, (sr.step st).step st2, xi, z2.st (R := RD W.G) ((sr.step st).step st2) xi fun d3 h3 m3 H3 v3 st3 r3 dv3 z3 => ?_⟩⟩⟩
  have dv := (dv.step st2).step st3
  have dv2 := dv2.step st3
  have sr3 := ((sr.step st).step st2).step st3
  cases d2 with
  | ref n =>
    cases d3 with
    | int kk =>
      have z3 : SatS W.G cc.xi W.xa m3 H3 (match lstAt h3 n with
        | some xs => match L2.ixN xs.length kk with
          | some j => .nx s (h3.set n (.lst (xs.set j d)))
          | none => .no
        | none => .no) D E := z3
      split at z3
      · rename_i xs e0
        split at z3
        · rename_i j e1
          obtain ⟨b, vs, rfl, eb, hb, dd⟩ := r3.lstV dv2 e0
          cases dv3
          obtain ⟨st4, r4⟩ := lst_set r3 eb hb (dd.set dv j)
          exact ⟨b, vs, kk, j, rfl, rfl, hb, by rw [← dd.length]; exact e1, z3 m3 _ σ st4 r4 (sr3.step st4) xi⟩
        · exact False.elim z3
      · exact False.elim z3
    | _ => exact False.elim z3
  | _ => exact False.elim z3
theorem s_fset (x : XG W cc k ev X E) {o : Expr} {f : Str} {fs : List Str} {po pe : QE} {fp : Pos} (hl : cc.gl.lookup ("." : Str) = some (.flds fs)) (hf : f ∈ fs) (he : PE X e (RE W cc a E ev pe)) (ho : PE X o (RE W cc a E ev po)) (hs : swapsWith e (some (.Attribute o f fp)) pos.line X.env = pure false) : PS X (.Assign [.Attribute o f fp] e pos) (RSt W cc E ev (.fset po f pe)) := by
  refine PS.imp (ps_fld ho he hs) fun D σ H ⟨m, h, s, r, sr, xi, z⟩ => ?_
  have z : SatS W.G cc.xi W.xa m H ((evE ev pe s h).st s fun d h1 => (evE ev po s h1).st s fun x h2 => setF f d s x h2) D E := z
  refine ⟨m, h, s, r, sr, xi, z.st (R := RD W.G) sr xi fun d h1 m1 H1 v st r1 dv z1 => ⟨m1, h1, s, r1, sr.step st, xi, z1.st (R := RD W.G) (sr.step st) xi fun d2 h2 m2 H2 v2 st2 r2 dv2 z2 => ?_⟩⟩
  have dv := dv.step st2
  have sr2 := (sr.step st).step st2
  cases d2 with
  | ref n =>
    have z2 : SatS W.G cc.xi W.xa m2 H2 (match objAt h2 n with
      | some (C, fs) => match decide (fs.length < 1000) with
        | true => .nx s (h2.set n (.obj C (putD f d fs)))
        | false => .no
      | none => .no) D E := z2
    cases e0 : objAt h2 n with
    | none => rw [e0] at z2; exact False.elim z2
    | some c =>
      obtain ⟨C, fs'⟩ := c
      rw [e0] at z2
      have z2 : SatS W.G cc.xi W.xa m2 H2 (match decide (fs'.length < 1000) with
        | true => .nx s (h2.set n (.obj C (putD f d fs')))
        | false => .no) D E := z2
      cases e1 : decide (fs'.length < 1000) with
      | false => rw [e1] at z2; exact False.elim z2
      | true =>
        rw [e1] at z2
        obtain ⟨b, Ca, dx, vs, rfl, eb, oc, hb, fr⟩ := r2.obj dv2 e0
        obtain ⟨c1, c2⟩ := x.gl _ _ hl C Ca oc
        have hw : ∀ b' u, b' ≠ b → H2 b' = some u → upd H2 b (.ins Ca dx (putF f v vs)) b' = some u := fun b' u hne q => by rw [upd_ne hne]; exact q
        have tp : ∀ b' xs, H2 b' = some (.tup xs) → upd H2 b (.ins Ca dx (putF f v vs)) b' = some (.tup xs) := fun b' xs q => hw b' _ (fun z => by rw [z, hb] at q; cases q) q
        have fz : ∀ b' o u, H2 b' = some (.frz o u) → upd H2 b (.ins Ca dx (putF f v vs)) b' = some (.frz o u) := fun b' o u q => hw b' _ (fun z => by rw [z, hb] at q; cases q) q
        obtain ⟨st3, r3⟩ := set_step (o := .ins Ca dx (putF f v vs)) (c := .obj C (putD f d fs')) r2 eb hb (fun _ z => by cases z) (fun _ _ z => by cases z) ⟨Ca, dx, _, oc, upd_same, (fs_put dv fr).mono (fun _ _ e => e) tp fz⟩
        refine ⟨b, Ca, dx, vs, rfl, hb, by rw [x.K]; exact c1, by rw [x.K]; exact c2 f hf, ?_, z2 m2 _ σ st3 r3 (sr2.step st3) xi⟩
        rw [← fs_len fr]
        exact of_decide_eq_true e1
  | _ => exact False.elim z2
theorem s_aug (x : XG W cc k ev X E) {op : Operator} {y : Str} {i : Nat} {py : Pos} (hy : y ∈ cc.as) (hi : ixOf cc.N y = some i) (hx : cc.xi ≠ some i) (ha : PE X e (RE W cc a E ev p)) : PS X (.AugAssign (.Name y py) op e pos) (RSt W cc E ev (.aug i op p)) := by
  obtain ⟨h1, h2⟩ := x.asg y hy
  refine PS.imp (ps_aug (by rw [x.N]; exact x.nd) (by rw [x.N]; exact ixOf_get hi) (by rw [x.sc]; exact h1) ha (aug_ok (G := W.G) op) (by rw [x.sc]; exact h2)) fun D σ H ⟨m, h, s, r, sr, xi, z⟩ => ?_
  have z : SatS W.G cc.xi W.xa m H (match s[i]? with
    | some (some x) => (evE ev p s h).st s fun y h1 => (augV op x y h1).st s fun z h2 => .nx (s.set i (some z)) h2
    | _ => .no) D E := z
  split at z
  · rename_i d0 e0
    obtain ⟨v0, e1, d1⟩ := sr.2 i d0 e0
    refine ⟨v0, e1, m, h, s, r, sr, xi, z.st (R := RD W.G) sr xi fun d h1 m1 H1 v st r1 dv z1 => ⟨m1, h1, d0, d, (fun c d H' => E c d σ H'), r1, d1.step st, dv, z1.st (sr.step st) xi fun d2 h2 m2 H2 v2 st2 r2 dv2 z2 => ?_⟩⟩
    have z2 : SatS W.G cc.xi W.xa m2 H2 (.nx (s.set i (some d2)) h2) D E := z2
    refine z2.nx r2 (((sr.step st).step st2).set dv2 i) (xi_fr (l := [i]) ⟨by rw [List.length_set], fun j hj => ?_⟩ (fun j hj => ?_) xi)
    · rw [List.getElem?_set_ne fun z => hj (by simp [z])]
    · have : j = i := by simpa using hj
      rw [this]; exact hx
  · exact False.elim z
theorem s_while (x : XS W cc k ev X E) (hcold : cc.hot = false) {c : QT} {b : List Stmt} {cb : QSs} (hc : PT X e (RT W cc a E ev c)) (hb : PSs X b (RSs W cc E ev cb)) : PS X (.While e b [] pos) (RSt W cc E ev (.whl c cb)) := by
  refine PS.imp (ps_while (x.po hcold) hc hb) fun D σ H ⟨m, h, s, r, sr, xi, z⟩ => ?_
  have z : SatS W.G cc.xi W.xa m H (loopW (evT ev c) (exSs ev cb) ev.fuel s h) D E := z
  refine ⟨fun n σ H => ∃ m h s, Rel W.G m h H ∧ SR W.G m H s σ ∧ XiOk cc.xi W.xa σ ∧ SatS W.G cc.xi W.xa m H (loopW (evT ev c) (exSs ev cb) n s h) D E, ⟨ev.fuel, m, h, s, r, sr, xi, z⟩, ?_⟩
  rintro n σ H ⟨m, h, s, r, sr, xi, z⟩
  cases n with
  | zero => exact False.elim z
  | succ n =>
    have z : SatS W.G cc.xi W.xa m H ((evT ev c s h).st s fun k h1 => match k with
      | true => match exSs ev cb s h1 with
        | .nx s2 h2 => loopW (evT ev c) (exSs ev cb) n s2 h2
        | .ct s2 h2 => loopW (evT ev c) (exSs ev cb) n s2 h2
        | .bk s2 h2 => .nx s2 h2
        | o => o
      | false => .nx s h1) D E := z
    refine ⟨m, h, s, r, sr, xi, z.st sr xi fun d h1 m1 H1 v st r1 dv z1 => ?_⟩
    have dv : d = v := dv
    subst dv
    cases d with
    | false =>
      have z1 : SatS W.G cc.xi W.xa m1 H1 (.nx s h1) D E := z1
      exact iteF (z1.nx r1 (sr.step st) xi)
    | true =>
      refine iteT ⟨fun σ' H' => ∃ m h s, Rel W.G m h H' ∧ SR W.G m H' s σ' ∧ XiOk cc.xi W.xa σ' ∧ SatS W.G cc.xi W.xa m H' (loopW (evT ev c) (exSs ev cb) n s h) D E, fun σ' H' q => ⟨n, Nat.lt_succ_self n, q⟩, m1, h1, s, r1, sr.step st, xi, ?_⟩
      have z1 : SatS W.G cc.xi W.xa m1 H1 (match exSs ev cb s h1 with
        | .nx s2 h2 => loopW (evT ev c) (exSs ev cb) n s2 h2
        | .ct s2 h2 => loopW (evT ev c) (exSs ev cb) n s2 h2
        | .bk s2 h2 => .nx s2 h2
        | o => o) D E := z1
      cases e0 : exSs ev cb s h1 with
      | nx s2 h2 =>
        rw [e0] at z1
        exact fun m2 H2 σ2 st2 r2 sr2 x2 => ⟨m2, h2, s2, r2, sr2, x2, SatS.trans (o := loopW (evT ev c) (exSs ev cb) n s2 h2) z1 st2⟩
      | ct s2 h2 =>
        rw [e0] at z1
        exact fun m2 H2 σ2 st2 r2 sr2 x2 => ⟨m2, h2, s2, r2, sr2, x2, SatS.trans (o := loopW (evT ev c) (exSs ev cb) n s2 h2) z1 st2⟩
      | bk s2 h2 => rw [e0] at z1; exact z1
      | rt d h2 => rw [e0] at z1; exact z1
      | ex ex s2 h2 => rw [e0] at z1; exact z1
      | no => rw [e0] at z1; exact z1
theorem s_for (x : XS W cc k ev X E) (hcold : cc.hot = false) {tg it : Expr} {g : QG} {i : QI} {b : List Stmt} {cb : QSs} (hx : ∀ i ∈ gIx g, cc.xi ≠ some i) (hi : PI X tg it (RI W cc a E ev i)) (hg : PG X tg (rg W.G g)) (hb : PSs X b (RSs W cc E ev cb)) (hs : ∀ x, foldedSetIterable it X.env x = pure x) : PS X (.For tg it b [] pos) (RSt W cc E ev (.for g i cb)) := by
  refine PS.imp (ps_for (x.po hcold) (x.room hcold).1 hi hg hb hs) fun D σ H ⟨m, h, s, r, sr, xi, z⟩ => ?_
  have z : SatS W.G cc.xi W.xa m H ((evI ev i s h).st s fun w h1 => loopF w.fix (bindG g) (exSs ev cb) w.items s h1) D E := z
  refine ⟨m, h, s, r, sr, xi, z.st sr xi fun w h1 m1 H1 J st r1 wj z1 => ?_⟩
  refine ⟨fun i n σ H => n = w.items.length - i ∧ i ≤ w.items.length ∧ ∃ m h s, Step m1 H1 m H ∧ Rel W.G m h H ∧ SR W.G m H s σ ∧ XiOk cc.xi W.xa σ ∧ SatS W.G cc.xi W.xa m H (loopF w.fix (bindG g) (exSs ev cb) (w.items.drop i) s h) D E, ⟨_, rfl, Nat.zero_le _, m1, h1, s, r1.step, r1, sr.step st, xi, z1⟩, ?_⟩
  rintro i n σ H ⟨rfl, hi, m, h, s, st, r, sr, xi, z⟩
  by_cases hlt : i < w.items.length
  · have eg : w.items[i]? = some w.items[i] := List.getElem?_eq_getElem hlt
    rw [List.drop_eq_getElem_cons hlt] at z
    have z : SatS W.G cc.xi W.xa m H (match fixOk h w.fix, bindG g w.items[i] s with
      | true, some s1 => match exSs ev cb s1 h with
        | .nx s2 h2 => loopF w.fix (bindG g) (exSs ev cb) (w.items.drop (i + 1)) s2 h2
        | .ct s2 h2 => loopF w.fix (bindG g) (exSs ev cb) (w.items.drop (i + 1)) s2 h2
        | .bk s2 h2 => .nx s2 h2
        | o => o
      | _, _ => .no) D E := z
    split at z
    · rename_i s1 fx hb
      obtain ⟨go, yl⟩ := (wj m h H st r fx i).1 _ eg
      refine .inr ⟨go, fun σ' H' => ∃ m h s, Step m1 H1 m H' ∧ Rel W.G m h H' ∧ SR W.G m H' s σ' ∧ XiOk cc.xi W.xa σ' ∧ SatS W.G cc.xi W.xa m H' (loopF w.fix (bindG g) (exSs ev cb) (w.items.drop (i + 1)) s h) D E, fun σ' H' q => ⟨_, by omega, rfl, hlt, q⟩, fun x H' y => ?_⟩
      obtain ⟨r', st', dx⟩ := yl x H' y
      have z := z.trans st'
      refine ⟨m, h, s, w.items[i], s1, r', sr.step st', dx, hb, fun σ2 sr2 fr => ⟨m, h, s1, r', sr2, xi_fr fr hx xi, ?_⟩⟩
      cases e0 : exSs ev cb s1 h with
      | nx s2 h2 =>
        rw [e0] at z
        exact fun m2 H2 σ2 st2 r2 sr2 x2 => ⟨m2, h2, s2, (st.trans st').trans st2, r2, sr2, x2, SatS.trans (o := loopF w.fix (bindG g) (exSs ev cb) (w.items.drop (i + 1)) s2 h2) z st2⟩
      | ct s2 h2 =>
        rw [e0] at z
        exact fun m2 H2 σ2 st2 r2 sr2 x2 => ⟨m2, h2, s2, (st.trans st').trans st2, r2, sr2, x2, SatS.trans (o := loopF w.fix (bindG g) (exSs ev cb) (w.items.drop (i + 1)) s2 h2) z st2⟩
      | bk s2 h2 => rw [e0] at z; exact z
      | rt d h2 => rw [e0] at z; exact z
      | ex ex s2 h2 => rw [e0] at z; exact z
      | no => rw [e0] at z; exact z
    · exact False.elim z
  · have ei : i = w.items.length := by omega
    rw [List.drop_eq_nil_of_le (by omega)] at z
    have z : SatS W.G cc.xi W.xa m H (match fixOk h w.fix with
      | true => .nx s h
      | false => .no) D E := z
    split at z
    · rename_i fx
      exact .inl ⟨(wj m _ H st r fx i).2 (List.getElem?_eq_none (by omega)), z.nx r sr xi⟩
    · exact False.elim z
end
end PV
/-! PVK: raise, try. -/
namespace PV
open PySem PySem.Spec PyProof.Rows L2
section
variable {X : Cx} {C : Addr} {bmB : List Value} {B newId initId : String}
/-- X() of an own exception class without an init -/
theorem pmk0 {x : Str} {p pos : Pos} (F : ExcBaseFacts B newId initId bmB) (q : PySem.W.excIn X.K C bmB newId = true) (gC : X.mg x = some (.ref C)) (kC : PySem.W.keepIn X.K (.ref C) = true) (r : Raises X (.ref C)) (hg : Gl X x)
    (hdb : (x == ("__debug__" : Str)) = false) : PMk X (.Call (.Name x p) [] [] pos) (fun _ H Q => Q (.ref C) none H) := by
  intro pins s σ H Q I h
  refine wpAny_Call_Name_kw (ld_glob I hg gC ?_ hdb)
  refine PySem.W.callWith_K0 (first := []) I.kIn kC ?_
  show wpAny _ _ (call (.ref C) []) _ _ _
  obtain ⟨bm, N, nm, qn, bs, hdct, sn, sub, ab, col, dd, k0, k1, k2, k3, k5, mN, hC, hN, hni, T⟩ := exc_obj I.kIn q
  refine wpAny_call_exc_subT F T hC hN hni (fun h' e hm => ?_) (by show 0 ≤ sizeLine; omega)
  exact mk_of I hm r h (I.hok.gone hm.new)
end
section
variable {W : WD} {cc : CC} {k : Nat} {ev : Ev} {X : Cx} {E : WX} {a : Addr}
variable {e e1 e2 e3 : Expr} {p q r : QE} {pos : Pos} {st : Stmt} {sts : List Stmt}
theorem s_raise0 (x : XG W cc k ev X E) (hcold : cc.hot = false) {y : Str} {c : Nat} {py cp : Pos} (hn : plainName y = true) (hg : glB cc.sc y = true) (hl : cc.gl.lookup y = some (.exc c [])) : PS X (.Raise (some (.Call (.Name y py) [] [] cp)) none pos) (RSt W cc E ev (.raise c [] .nil)) := by
  obtain ⟨n1, n2, n3⟩ := pn1 hn
  obtain ⟨Ca, h1, h2, h3⟩ := x.gl _ _ hl
  have co := x.cls _ _ h2
  refine PS.imp (ps_raise (x.room hcold).1 x.tk (pmk0 PySem.F.excBase_ValueError (by rw [x.K]; exact h3 rfl) (by rw [x.mg]; exact h1) (by rw [x.K]; exact co.kp) (raises_own (by rw [x.K]; exact co.ec.hs) (by rw [x.K]; exact co.ty)) (gl_of x hg) n1)) fun D σ H ⟨m, h, s, r, sr, xi, z⟩ => ?_
  have z : SatS W.G cc.xi W.xa m H (.ex ⟨c, []⟩ s h) D E := z
  exact z m H σ (.ref Ca) none r.step r sr xi ⟨Ca, rfl, h2, .inl ⟨rfl, rfl⟩⟩

/-! ### try -/
theorem XG.tr (x : XG W cc k ev X E) (hcold : cc.hot = false) (pn : List (Addr × Obj)) (xe : Value → Shared → Prop) {E' : WX} (tk : Takes (X.tr pn xe) E') : XG W cc k ev (X.tr pn xe) E' :=
  ⟨x.prog, x.wd, x.K, x.mg, x.base, x.N, x.nd, x.sc, x.asg, x.room, x.units, tk, x.gl, x.cls, fun z => by rw [hcold] at z; cases z⟩
theorem XS.tr (x : XS W cc k ev X E) (hcold : cc.hot = false) (pn : List (Addr × Obj)) (xe : Value → Shared → Prop) {E' : WX} (tk : Takes (X.tr pn xe) E') (po : PassesOwn (model X.prog X.w) X.A X.env xe) : XS W cc k ev (X.tr pn xe) E' :=
  ⟨x.toXG.tr hcold pn xe tk, fun _ => po, x.stk, x.fun_⟩
/-- where the suite stands -/
def WD.sui (W : WD) (a : Addr) (l : List (Addr × List (Str × V))) : WD := { W with xa := a, G := { W.G with pins := l ++ W.G.pins } }
def CC.sui (cc : CC) (xi : Option Nat) : CC := { cc with hot := true, xi := xi }
theorem rel_sui {G : GW} {l : List (Addr × List (Str × V))} {m : List Addr} {h : Hd} {H : Hp} (r : Rel { G with pins := l ++ G.pins } m h H) : Rel G m h H := ⟨r.len, r.nd, r.cell, fun p hp => r.pin p (List.mem_append_right _ hp)⟩
theorem sat_sui {G : GW} {l : List (Addr × List (Str × V))} {α β : Type} {R : List Addr → Hp → α → β → Prop} {m : List Addr} {H : Hp} {o : Out α} {Q : β → Hp → Prop} {E : XKE} (hp : ∀ p ∈ l, H p.1 = some (.xd p.2) ∧ p.1 ∉ m) (z : Sat { G with pins := l ++ G.pins } R m H o Q E) : Sat G R m H o Q E := by
  have up : ∀ {m' H' h'}, Step m H m' H' → Rel G m' h' H' → Rel { G with pins := l ++ G.pins } m' h' H' := fun {m' H' h'} st r => ⟨r.len, r.nd, r.cell, fun p hp' => by
    rcases List.mem_append.mp hp' with z | z
    · obtain ⟨h1, h2⟩ := hp p z
      refine ⟨st.keep _ _ h1 h2, fun q => ?_⟩
      obtain ⟨l', e, n⟩ := st.pre
      rw [e] at q
      rcases List.mem_append.mp q with q | q
      · exact h2 q
      · rw [n _ q] at h1; cases h1
    · exact r.pin p z⟩
  cases o with
  | ok d h => exact fun m' H' v st r q => z m' H' v st (up st r) q
  | ex e h => exact fun m' H' c dx st r q => z m' H' c dx st (up st r) q
  | no => exact z
theorem gv_sui {y : Str} {v : Gv} {l : List (Addr × List (Str × V))} {ex : Option Exn} (g : GvOk W k ev y v) : GvOk (W.sui a l) k { ev with exn := ex } y v := by
  cases v with
  | fn i np shapes =>
    obtain ⟨f, fd, ps, h1, h2, h3, h4, h5⟩ := g
    refine ⟨f, fd, ps, h1, h2, h3, h4.imp fun vs H Q E' ⟨m, h, ds, r, d, ln, z⟩ => ⟨m, h, ds, rel_sui r, d, ln, sat_sui (l := l) (fun p hp => r.pin p (List.mem_append_left _ hp)) z⟩, h5⟩
  | bi b => cases b <;> exact g
  | own C i np =>
    obtain ⟨Ca, f, fd, ps, h1, h2, h3, h4, h5, h6⟩ := g
    exact ⟨Ca, f, fd, ps, h1, h2, h3, h4, h5.imp fun vs H Q E' ⟨m, h, ds, r, d, ln, z⟩ => ⟨m, h, ds, rel_sui r, d, ln, sat_sui (l := l) (fun p hp => r.pin p (List.mem_append_left _ hp)) z⟩, h6⟩
  | met C i np m =>
    obtain ⟨Ca, f, fd, ps, h1, h2, h3, h4, h5, h6⟩ := g
    exact ⟨Ca, f, fd, ps, h1, h2, h3, h4, h5.imp fun vs H Q E' ⟨m, h, ds, r, d, ln, z⟩ => ⟨m, h, ds, rel_sui r, d, ln, sat_sui (l := l) (fun p hp => r.pin p (List.mem_append_left _ hp)) z⟩, h6⟩
  | _ => exact g
theorem cls_sui {c : Nat} {Ca : Addr} {l : List (Addr × List (Str × V))} {ex : Option Exn} (g : ClsOk W ev c Ca) : ClsOk (W.sui a l) { ev with exn := ex } c Ca := ⟨g.kp, g.ec, g.ty, g.exm, g.kit, g.nof⟩
theorem xs_sui (x : XS W cc k ev X E) {oe : Obj} {cls : Value} {d : Option Addr} {pn : List (Addr × Obj)} {ex : Exn} {Ca : Addr} {xi : Option Nat} {l : List (Addr × List (Str × V))} (hz : Zc (.ref Ca) d oe) (hf : ∃ vs, oe.data = .fields vs) (hcl : W.G.cl ex.cls = some Ca)
    (hd : (d = none ∧ ex.fs = []) ∨ ∃ dd fs, d = some dd ∧ (dd, fs) ∈ l ∧ ∀ f x, ex.fs.lookup f = some x → flatD x = true ∧ fs.lookup f = some (toV x)) : XS (W.sui a l) (cc.sui xi) k { ev with exn := some ex } (Cx.suite X a ((a, oe) :: pn)) F0 := by
  refine ⟨⟨x.prog, x.wd, x.K, x.mg, x.base, x.N, x.nd, x.sc, x.asg, (fun z => by cases z), x.units, tk0, fun y v e => gv_sui (x.gl y v e), fun c Ca e => cls_sui (x.cls c Ca e), fun _ => ⟨X, oe, pn, d, ex, Ca, rfl, hz, hf, rfl, hcl, ?_⟩⟩, (fun z => by cases z), (fun z => by cases z), x.fun_⟩
  rcases hd with hd | ⟨dd, fs, h1, h2, h3⟩
  · exact .inl hd
  · exact .inr ⟨dd, fs, h1, List.mem_append_left _ h2, h3⟩
/-- the suite's reading: ex is what was raised -/
def tsui (W : WD) (cc : CC) (ev : Ev) (xi : Option Nat) (su : QSs) (a : Addr) (cls : Value) (d : Option Addr) : TS := fun D σ H => ∃ (ex : Exn) (Ca : Addr) (l : List (Addr × List (Str × V))), cls = .ref Ca ∧ W.G.cl ex.cls = some Ca ∧
  ((d = none ∧ ex.fs = []) ∨ ∃ dd fs, d = some dd ∧ (dd, fs) ∈ l ∧ ∀ f x, ex.fs.lookup f = some x → flatD x = true ∧ fs.lookup f = some (toV x)) ∧ RSs (W.sui a l) (cc.sui xi) F0 { ev with exn := some ex } su D σ H
theorem SR.goS {G : GW} {m : List Addr} {H : Hp} {s : Sl} {σ : L2.St} (r : SR G m H s σ) (xi : Option Nat) (o : Option V) : SR G m H (goS xi s) (match xi with
    | some i => σ.set i o
    | none => σ) := by
  cases xi with
  | none => exact r
  | some i => exact r.unset i o
/-- what the raised one is, for the suite -/
theorem sui_go {xi : Option Nat} {su : QSs} {m : List Addr} {h : Hd} {H : Hp} {s : Sl} {σ : L2.St} {D D' : Ends} {ex : Exn} {cls : Value} {d : Option Addr} {ad : Addr} (hxi : cc.xi = none) (r : Rel W.G m h H) (sr : SR W.G m H s σ) (er : ExR W.G m H ex cls d)
    (dn : ∀ m' s2 σ' H', SR W.G m' H' s2 σ' → (∀ σ'', SR W.G m' H' (goS xi s2) σ'' → D.nx σ'' H') → D'.nx σ' H') (db : ∀ m' s2 σ' H', SR W.G m' H' s2 σ' → (∀ σ'', SR W.G m' H' (goS xi s2) σ'' → D.bk σ'' H') → D'.bk σ' H') (dc : ∀ m' s2 σ' H', SR W.G m' H' s2 σ' → (∀ σ'', SR W.G m' H' (goS xi s2) σ'' → D.ct σ'' H') → D'.ct σ' H') (dr : D'.rt = D.rt)
    (hx : XiOk xi ad σ) (z : SatS W.G cc.xi W.xa m H ((exSs { ev with exn := some ex } su s h).gone xi) D E) : tsui W cc ev xi su ad cls d D' σ H := by
  obtain ⟨Ca, e1, e2, e3⟩ := er
  have key : ∀ l : List (Addr × List (Str × V)), (∀ p ∈ l, H p.1 = some (.xd p.2) ∧ p.1 ∉ m) → RSs (W.sui ad l) (cc.sui xi) F0 { ev with exn := some ex } su D' σ H := fun l hl => by
    refine ⟨m, h, s, ⟨r.len, r.nd, r.cell, fun p hp => ?_⟩, sr, hx, ?_⟩
    · rcases List.mem_append.mp hp with z | z
      · exact hl p z
      · exact r.pin p z
    · cases e0 : exSs { ev with exn := some ex } su s h with
      | nx s2 h2 =>
        rw [e0] at z
        exact fun m' H' σ' st r' sr' x' => dn m' s2 σ' H' sr' fun σ'' sr'' => z m' H' σ'' st (rel_sui (l := l) r') sr'' (by rw [hxi]; trivial)
      | bk s2 h2 =>
        rw [e0] at z
        exact fun m' H' σ' st r' sr' x' => db m' s2 σ' H' sr' fun σ'' sr'' => z m' H' σ'' st (rel_sui (l := l) r') sr'' (by rw [hxi]; trivial)
      | ct s2 h2 =>
        rw [e0] at z
        exact fun m' H' σ' st r' sr' x' => dc m' s2 σ' H' sr' fun σ'' sr'' => z m' H' σ'' st (rel_sui (l := l) r') sr'' (by rw [hxi]; trivial)
      | rt dd h2 =>
        rw [e0] at z
        exact fun m' H' v st r' dv => by
          rw [dr]
          exact z m' H' v st (rel_sui (l := l) r') dv
      | ex ex2 s2 h2 => rw [e0] at z; exact False.elim z
      | no => rw [e0] at z; exact False.elim z
  rcases e3 with ⟨h1, h2⟩ | ⟨dd, vs, h1, h2, h3⟩
  · exact ⟨ex, Ca, [], e1, e2, .inl ⟨h1, h2⟩, key [] fun p hp => by cases hp⟩
  · refine ⟨ex, Ca, [(dd, vs)], e1, e2, .inr ⟨dd, vs, h1, List.mem_singleton.mpr rfl, h3⟩, key _ fun p hp => ?_⟩
    have : p = (dd, vs) := by simpa using hp
    subst this
    refine ⟨h2, fun hm => ?_⟩
    obtain ⟨n, hn, e⟩ := List.getElem_of_mem hm
    have hl : n < h.length := by rw [← r.len]; exact hn
    have c := r.cell n h[n] dd (List.getElem?_eq_getElem hl) (by rw [List.getElem?_eq_getElem hn, e])
    cases q : h[n] with
    | lst xs => rw [q] at c; obtain ⟨_, c, _⟩ := c; rw [h2] at c; cases c
    | obj C fs => rw [q] at c; obtain ⟨_, _, _, _, c, _⟩ := c; rw [h2] at c; cases c
    | dct kvs => rw [q] at c; obtain ⟨_, c, _⟩ := c; rw [h2] at c; cases c
theorem tsui_ok (x : XS W cc k ev X E) {xi : Option Nat} {su : QSs} {b0 : Stmt} {bs : List Stmt} (hsu : ∀ (W' : WD) (ev' : Ev) (X' : Cx), XS W' (cc.sui xi) k ev' X' F0 → PSs X' (b0 :: bs) (RSs W' (cc.sui xi) F0 ev' su))
    (ad : Addr) (oe : Obj) (cls : Value) (d : Option Addr) (pn : List (Addr × Obj)) (hz : Zc cls d oe) (hf : ∃ vs, oe.data = .fields vs) : PSs (X.suite ad ((ad, oe) :: pn)) (b0 :: bs) (tsui W cc ev xi su ad cls d) :=
  ⟨fun pins s σ H D I ⟨ex, Ca, l, e1, e2, e3, q⟩ => by
    subst e1
    exact (hsu (W.sui ad l) _ _ (xs_sui (cls := .ref Ca) x hz hf e2 e3)).run pins s σ H D I q⟩
/-- what the try's ends say -/
theorem try_read {c : Nat} {Da : Addr} {xi : Option Nat} {cb su : QSs} {m : List Addr} {h : Hd} {H : Hp} {s : Sl} {σ : L2.St} {D : Ends} {Wn : WX} (x : XS W cc k ev X E) (hc : W.G.cl c = some Da) (r : Rel W.G m h H) (sr : SR W.G m H s σ)
    (z : SatS W.G cc.xi W.xa m H (match exSs ev cb s h with
      | .ex e s1 h1 => match ev.sub e.cls c with
        | true => match inS xi s1 with
          | true => (exSs { ev with exn := some e } su (goS xi s1) h1).gone xi
          | false => .no
        | false => .ex e s1 h1
      | o => o) D E)
    (hw : ∀ ex s1 h1 m' H' σ' cls dx, Rel W.G m' h1 H' → SR W.G m' H' s1 σ' → ExR W.G m' H' ex cls dx → (∃ b, PySem.W.exmOne X.K cls (.ref Da) = some b ∧ (b = true → inS xi s1 = true ∧ SatS W.G cc.xi W.xa m' H' ((exSs { ev with exn := some ex } su (goS xi s1) h1).gone xi) D E) ∧ (b = false → E cls dx σ' H')) → Wn cls dx σ' H') (hxi : cc.xi = none) :
    RSs W cc Wn ev cb D σ H := by
  refine ⟨m, h, s, r, sr, by rw [hxi]; trivial, ?_⟩
  cases e0 : exSs ev cb s h with
  | nx s2 h2 => rw [e0] at z; exact z
  | bk s2 h2 => rw [e0] at z; exact z
  | ct s2 h2 => rw [e0] at z; exact z
  | rt d h2 => rw [e0] at z; exact z
  | no => rw [e0] at z; exact z
  | ex ex s1 h1 =>
    rw [e0] at z
    intro m' H' σ' cls dx st r' sr' x' er
    obtain ⟨Ca, rfl, hca, er3⟩ := id er
    have em := (x.cls _ _ hca).exm _ _ hc
    refine hw ex s1 h1 m' H' σ' _ dx r' sr' er ⟨ev.sub ex.cls c, by rw [x.K]; exact em, fun hb => ?_, fun hb => ?_⟩
    · have z : SatS W.G cc.xi W.xa m H (match ev.sub ex.cls c with
        | true => match inS xi s1 with
          | true => (exSs { ev with exn := some ex } su (goS xi s1) h1).gone xi
          | false => .no
        | false => .ex ex s1 h1) D E := z
      rw [hb] at z
      have z : SatS W.G cc.xi W.xa m H (match inS xi s1 with
          | true => (exSs { ev with exn := some ex } su (goS xi s1) h1).gone xi
          | false => .no) D E := z
      cases e1 : inS xi s1 with
      | false => rw [e1] at z; exact False.elim z
      | true =>
        rw [e1] at z
        exact ⟨rfl, SatS.trans (o := (exSs { ev with exn := some ex } su (goS xi s1) h1).gone xi) z st⟩
    · have z : SatS W.G cc.xi W.xa m H (match ev.sub ex.cls c with
        | true => match inS xi s1 with
          | true => (exSs { ev with exn := some ex } su (goS xi s1) h1).gone xi
          | false => .no
        | false => .ex ex s1 h1) D E := z
      rw [hb] at z
      exact z m' H' σ' _ dx st r' sr' x' er
theorem names_of (x : XG W cc k ev X E) {y : Str} {c : Nat} {fs : List Str} (hn : plainName y = true) (hg : glB cc.sc y = true) (hl : cc.gl.lookup y = some (.exc c fs)) : ∃ Da, W.G.cl c = some Da ∧ Names X y (.ref Da) := by
  obtain ⟨n1, n2, n3⟩ := pn1 hn
  obtain ⟨Ca, h1, h2, _⟩ := x.gl _ _ hl
  exact ⟨Ca, h2, gl_of x hg, n1, .inl (by rw [x.mg]; exact h1)⟩
theorem s_try_only (x : XS W cc k ev X E) (hcold : cc.hot = false) (hxi : cc.xi = none) {y : Str} {c : Nat} {fs : List Str} {body bs : List Stmt} {b0 : Stmt} {np pos' : Pos} {cb su : QSs} (hn : plainName y = true) (hg : glB cc.sc y = true) (hl : cc.gl.lookup y = some (.exc c fs))
    (hb : ∀ (X' : Cx) (E' : WX), XS W cc k ev X' E' → PSs X' body (RSs W cc E' ev cb)) (hsu : ∀ (W' : WD) (ev' : Ev) (X' : Cx), XS W' (cc.sui none) k ev' X' F0 → PSs X' (b0 :: bs) (RSs W' (cc.sui none) F0 ev' su)) :
    PS X (.Try body [.ExceptHandler (some (.Name y np)) none (b0 :: bs) pos'] [] [] pos) (RSt W cc E ev (.try cb c none su)) := by
  obtain ⟨Da, hc, nm⟩ := names_of x.toXG hn hg hl
  refine PS.imp (ps_try_only (tb := fun W' => RSs W cc W' ev cb) (ts := tsui W cc ev none su) (x.stk hcold).1 (x.stk hcold).2 nm x.tk (fun W' pn xe tk po => hb _ _ (x.tr hcold pn xe tk po)) (fun ad oe cls d pn hz hf => tsui_ok x hsu ad oe cls d pn hz hf)) fun D σ H ⟨m, h, s, r, sr, xi, z⟩ => ?_
  refine try_read (xi := none) (cb := cb) (su := su) x hc r sr z (fun ex s1 h1 m' H' σ' cls dx r' sr' er ⟨b, hb, h1', h2⟩ => ⟨b, hb, fun eb ad ha => ?_, h2⟩) hxi
  obtain ⟨_, z1⟩ := h1' eb
  exact sui_go (D := D) hxi r' sr' er (fun m' s2 σ' H' sr q => q σ' sr) (fun m' s2 σ' H' sr q => q σ' sr) (fun m' s2 σ' H' sr q => q σ' sr) rfl trivial z1
theorem s_try_as (x : XS W cc k ev X E) (hcold : cc.hot = false) (hxi : cc.xi = none) {y n : Str} {i c : Nat} {fs : List Str} {body bs : List Stmt} {b0 : Stmt} {np pos' : Pos} {cb su : QSs} (hn : plainName y = true) (hg : glB cc.sc y = true) (hl : cc.gl.lookup y = some (.exc c fs)) (hi : ixOf cc.N n = some i) (hln : cc.sc.names.lookup n = some .local)
    (hb : ∀ (X' : Cx) (E' : WX), XS W cc k ev X' E' → PSs X' body (RSs W cc E' ev cb)) (hsu : ∀ (W' : WD) (ev' : Ev) (X' : Cx), XS W' (cc.sui (some i)) k ev' X' F0 → PSs X' (b0 :: bs) (RSs W' (cc.sui (some i)) F0 ev' su)) :
    PS X (.Try body [.ExceptHandler (some (.Name y np)) (some n) (b0 :: bs) pos'] [] [] pos) (RSt W cc E ev (.try cb c (some i) su)) := by
  obtain ⟨Da, hc, nm⟩ := names_of x.toXG hn hg hl
  refine PS.imp (ps_try_as (tb := fun W' => RSs W cc W' ev cb) (ts := tsui W cc ev (some i) su) (x.stk hcold).1 (x.stk hcold).2 (by rw [x.N]; exact x.nd) (by rw [x.N]; exact ixOf_get hi) (by show X.env.scope.names.lookup n = _; rw [x.sc]; exact hln) nm x.tk (fun W' pn xe tk po => hb _ _ (x.tr hcold pn xe tk po)) (fun ad oe cls d pn hz hf => tsui_ok x hsu ad oe cls d pn hz hf)) fun D σ H ⟨m, h, s, r, sr, xi, z⟩ => ?_
  refine try_read (xi := some i) (cb := cb) (su := su) x hc r sr z (fun ex s1 h1 m' H' σ' cls dx r' sr' er ⟨b, hb, h1', h2⟩ => ⟨b, hb, fun eb ad ha => ?_, h2⟩) hxi
  obtain ⟨h3, z1⟩ := h1' eb
  have h3 : decide (i < s1.length) = true := h3
  have hlt : i < σ'.length := by rw [← sr'.1]; exact of_decide_eq_true h3
  refine sui_go (D := D) hxi r' (sr'.goS (some i) _) er (fun m' s2 σ' H' sr q => q _ (sr.goS (some i) _)) (fun m' s2 σ' H' sr q => q _ (sr.goS (some i) _)) (fun m' s2 σ' H' sr q => q _ (sr.goS (some i) _)) rfl ?_ z1
  show (σ'.set i _)[i]? = _
  exact List.getElem?_set_self hlt
end
end PV
/-! PVZ: raise C(e, ..): own exceptions with fields that their __init__ sets. -/
namespace PV
open PySem PySem.Spec PyProof.Rows L2
section
variable {W : WD} {cc : CC} {k : Nat} {ev : Ev} {X : Cx} {E : WX} {e : Expr} {pos : Pos}
theorem zipR_lookup {fs : List Str} {xs : List D} (h2 : fs.length ≤ 2) (nd : fs.Nodup) (hl : fs.length = xs.length) (fl : xs.all flatD = true) (f : Str) (x : D) (e : (fs.zip xs).lookup f = some x) : flatD x = true ∧ ((fs.zip (xs.map toV)).reverse).lookup f = some (toV x) := by
  match fs, xs, h2, hl with
  | [], [], _, _ => cases e
  | [g], [y], _, _ =>
    rw [List.zip_cons_cons, List.lookup_cons] at e
    rw [List.all_cons, Bool.and_eq_true] at fl
    cases q : f == g with
    | true =>
      rw [q] at e
      cases e
      refine ⟨fl.1, ?_⟩
      show List.lookup f [(g, toV x)] = _
      rw [List.lookup_cons, q]
    | false => rw [q] at e; cases e
  | [g, g'], [y, y'], _, _ =>
    rw [List.zip_cons_cons, List.lookup_cons] at e
    simp only [List.all_cons, Bool.and_eq_true] at fl
    have ne : g ≠ g' := by
      intro z
      rw [z] at nd
      simp at nd
    show _ ∧ List.lookup f [(g', toV y'), (g, toV y)] = _
    cases q : f == g with
    | true =>
      rw [q] at e
      cases e
      have : (f == g') = false := by
        have := beq_iff_eq.mp q
        subst this
        exact beq_false_of_ne ne
      refine ⟨fl.1, ?_⟩
      rw [List.lookup_cons, this]
      show List.lookup f [(g, toV x)] = _
      rw [List.lookup_cons, q]
    | false =>
      rw [q] at e
      have e : List.lookup f [(g', y')] = some x := e
      rw [List.lookup_cons] at e
      cases q' : f == g' with
      | true =>
        rw [q'] at e
        cases e
        exact ⟨fl.2.1, by rw [List.lookup_cons, q']⟩
      | false => rw [q'] at e; cases e
theorem passes_no : Passes (L2.CX X.prog X.w) X (fun _ _ _ => False) := fun pins σ H s e s' I z => by
  obtain ⟨_, _, _, _, _, _, _, _, _, _, _, _, z⟩ := z
  exact z.elim
theorem s_raiseF (x : XG W cc k ev X E) (hcold : cc.hot = false) {y : Str} {c : Nat} {py cp : Pos} {fs : List Str} {e0 : Expr} {rest : List Expr} {es : QEs} (hn : plainName y = true) (hg : glB cc.sc y = true) (hl : cc.gl.lookup y = some (.exc c fs)) (hi : cc.gl.lookup (mkey y) = some (.xin c fs))
    (hs : (e0 :: rest).all notStar = true) (h2 : fs.length ≤ 2) (nd : fs.Nodup) (hln : es.len = fs.length) (ha : PA X (e0 :: rest) (REs W cc 0 E ev es)) : PS X (.Raise (some (.Call (.Name y py) (e0 :: rest) [] cp)) none pos) (RSt W cc E ev (.raise c fs es)) := by
  obtain ⟨n1, n2, n3⟩ := pn1 hn
  obtain ⟨Ca, h1, hc, _⟩ := x.gl _ _ hl
  obtain ⟨Cb, fI, fd, ps, hcb, T, iC, tI, Fo, B⟩ := x.gl _ _ hi
  rw [hc] at hcb
  cases hcb
  have Fo : FnOk X.prog X.w X.K X.mg X.base (L2.CX X.prog X.w) 1 fI fd ps (spI Ca fs) := by
    rw [x.prog, x.wd, x.K, x.mg, x.base]; exact Fo
  rw [List.all_cons, Bool.and_eq_true] at hs
  refine PS.imp (ps_raise (x.room hcold).1 x.tk (pmk_oex (p := py) (pos := cp) (by rw [x.K]; exact T) (by rw [x.K]; exact iC) (by rw [x.K]; exact tI) Fo ((x.room hcold).2.mono (by omega)) (by rw [x.K]; exact B) .nil passes_no (gl_of x hg) (by rw [x.mg]; exact h1) ha n1 (star1 hs.1) (starAll hs.2 cp))) fun D σ H ⟨m, h, s, r, sr, xi, z⟩ => ?_
  have z : SatS W.G cc.xi W.xa m H ((evEs ev es s h).st s fun xs h1 => match decide (fs.length = xs.length) && xs.all flatD with
    | true => .ex ⟨c, fs.zip xs⟩ s h1
    | false => .no) D E := z
  refine ⟨m, h, s, r, sr, xi, z.st (R := RDs W.G) sr xi fun xs h1 m1 H1 vs st r1 dv z1 => ?_⟩
  cases e1 : decide (fs.length = xs.length) && xs.all flatD with
  | false => rw [e1] at z1; exact False.elim z1
  | true =>
    rw [e1] at z1
    simp only [Bool.and_eq_true, decide_eq_true_eq] at e1
    have ev' : vs = xs.map toV := DRs.flat dv e1.2
    subst ev'
    refine ⟨by rw [List.length_map, ← e1.1]; omega, fun a ha' => ⟨a, xs.map toV, by rw [List.append_nil], by rw [List.length_map, e1.1], upd_same, fun dx hd ne => ⟨rfl, dx, (fs.zip (xs.map toV)).reverse, upd_same, by rw [upd_ne ne, upd_same], ?_, ?_⟩⟩⟩
    · rw [upd_ne ne] at hd
      exact hd
    · have hd1 : H1 dx = none := by rw [upd_ne ne] at hd; exact hd
      have eq : upd (del (upd (upd (upd H1 a (exo a Ca none)) dx (exd dx (fs.zip (xs.map toV)).reverse)) a (exo a Ca (some dx))) a) dx (.xd (fs.zip (xs.map toV)).reverse) = upd H1 dx (.xd (fs.zip (xs.map toV)).reverse) := by
        funext b
        by_cases hb : b = dx
        · subst hb
          rw [upd_same, upd_same]
        · rw [upd_ne hb, upd_ne hb]
          by_cases hb2 : b = a
          · subst hb2
            rw [del_same]
            exact ha'.symm
          · rw [del_ne hb2, upd_ne hb2, upd_ne hb, upd_ne hb2]
      rw [eq]
      obtain ⟨s2, r2⟩ := new_step (o := .xd (fs.zip (xs.map toV)).reverse) r1 hd1
      exact z1 m1 _ σ (.ref Ca) (some dx) s2 r2 ((sr.step st).step s2) xi ⟨Ca, rfl, hc, .inr ⟨dx, _, rfl, upd_same, fun f x' e' => zipR_lookup h2 nd e1.1 e1.2 f x' e'⟩⟩
end
/-! ### the __init__ of such a class: self.f = p, one by one -/
section
variable {P : Program} {w : World} {K : PySem.W.Frag} {mg : Str → Option Value} {base : Heap} {qual s : Str} {params : Arguments} {scope : Scope} {f : Addr} {fd : FuncData} {Ca : Addr}
theorem init1 {y g : Str} {q1 q2 q3 q4 : Pos} (F : FunD K "__init__" qual params [.Assign [.Attribute (.Name s q1) g q2] (.Name y q3) q4] scope [] [] f fd) (S : FnScope [s, y] [s, y] scope) (T : OexC K Ca) (hno : PySem.W.findIn K (.ref Ca) g = some none)
    (v1 : visB scope s = true) (v2 : visB scope y = true) (n1 : plainName s = true) (n2 : plainName y = true) : FnOk P w K mg base (L2.CX P w) 1 f fd [s, y] (spI Ca [g]) := by
  obtain ⟨a1, a2, _⟩ := pn1 n1
  obtain ⟨b1, b2, _⟩ := pn1 n2
  refine F.ok (k := 0) S (fun vs H Q E ⟨a, ws, e, l, _⟩ => by rw [e]; simpa using l) fun cdv A outer s0 H vs Q E hr ⟨a, ws, e, l, ha, q⟩ => ?_
  have p1 : PE (cxOf (L2.CX P w) P w K mg base [s, y] qual scope f cdv A outer s0 H E) (.Name s q1) (tVar 0) := pe_var rfl (vis_of v1) a1 a2
  have p2 : PE (cxOf (L2.CX P w) P w K mg base [s, y] qual scope f cdv A outer s0 H E) (.Name y q3) (tVar 1) := pe_var rfl (vis_of v2) b1 b2
  refine ⟨_, pss_cons (ps_ost p1 p2 rfl) pss_nil, ?_⟩
  match ws, l with
  | [x], _ =>
    subst e
    refine ⟨x, rfl, .ref a, rfl, a, Ca, rfl, T, hno, .inl ⟨ha, fun dx h1 h2 => ?_⟩⟩
    exact q dx h1 h2
theorem init2 {y z g g' : Str} {q1 q2 q3 q4 r1 r2 r3 r4 : Pos} (F : FunD K "__init__" qual params [.Assign [.Attribute (.Name s q1) g q2] (.Name y q3) q4, .Assign [.Attribute (.Name s r1) g' r2] (.Name z r3) r4] scope [] [] f fd) (S : FnScope [s, y, z] [s, y, z] scope) (T : OexC K Ca) (hno : PySem.W.findIn K (.ref Ca) g = some none) (hno' : PySem.W.findIn K (.ref Ca) g' = some none)
    (v1 : visB scope s = true) (v2 : visB scope y = true) (v3 : visB scope z = true) (n1 : plainName s = true) (n2 : plainName y = true) (n3 : plainName z = true) : FnOk P w K mg base (L2.CX P w) 1 f fd [s, y, z] (spI Ca [g, g']) := by
  obtain ⟨a1, a2, _⟩ := pn1 n1
  obtain ⟨b1, b2, _⟩ := pn1 n2
  obtain ⟨c1, c2, _⟩ := pn1 n3
  refine F.ok (k := 0) S (fun vs H Q E ⟨a, ws, e, l, _⟩ => by rw [e]; simpa using l) fun cdv A outer s0 H vs Q E hr ⟨a, ws, e, l, ha, q⟩ => ?_
  have p1 : ∀ q1, PE (cxOf (L2.CX P w) P w K mg base [s, y, z] qual scope f cdv A outer s0 H E) (.Name s q1) (tVar 0) := fun q1 => pe_var rfl (vis_of v1) a1 a2
  have p2 : PE (cxOf (L2.CX P w) P w K mg base [s, y, z] qual scope f cdv A outer s0 H E) (.Name y q3) (tVar 1) := pe_var rfl (vis_of v2) b1 b2
  have p3 : PE (cxOf (L2.CX P w) P w K mg base [s, y, z] qual scope f cdv A outer s0 H E) (.Name z r3) (tVar 2) := pe_var rfl (vis_of v3) c1 c2
  refine ⟨_, pss_cons (ps_ost (p1 q1) p2 rfl) (pss_cons (ps_ost (p1 r1) p3 rfl) pss_nil), ?_⟩
  match ws, l with
  | [x, x'], _ =>
    subst e
    refine ⟨x, rfl, .ref a, rfl, a, Ca, rfl, T, hno, .inl ⟨ha, fun dx h1 h2 => ?_⟩⟩
    refine ⟨x', rfl, .ref a, rfl, a, Ca, rfl, T, hno', .inr ⟨dx, [(g, x)], upd_same, by rw [upd_ne h2, upd_same], by show 1 ≤ 900; decide, ?_⟩⟩
    have eq : upd (upd (upd H dx (exd dx [(g, x)])) a (exo a Ca (some dx))) dx (exd dx [(g', x'), (g, x)]) = upd (upd H dx (exd dx [(g', x'), (g, x)])) a (exo a Ca (some dx)) := by
      funext b
      by_cases hb : b = dx
      · subst hb
        rw [upd_same, upd_ne h2, upd_same]
      · rw [upd_ne hb]
        by_cases hb2 : b = a
        · subst hb2
          rw [upd_same, upd_same]
        · rw [upd_ne hb2, upd_ne hb, upd_ne hb2, upd_ne hb]
    have := q dx h1 h2
    show Q .non _
    rw [eq]
    exact this
end
end PV
/-! PVL: every statement that has code. -/
namespace PV
open PySem PySem.Spec PyProof.Rows L2
def notLc : Expr → Bool
  | .ListComp .. => false
  | _ => true
def isTupE : Expr → Bool
  | .Tuple .. => true
  | _ => false
def isLoc (sc : Scope) (x : Str) : Bool := match sc.names.lookup x with
  | some .local => true
  | _ => false
theorem loc_of {sc : Scope} {x : Str} (h : isLoc sc x = true) : sc.names.lookup x = some .local := by
  unfold isLoc at h
  split at h
  · assumption
  · cases h
def noSwap (ts vs : List Expr) : Bool := !(ts.length == 2 || ts.length == 3) || vs.length != ts.length || vs.all (foldedForSure 8)
def cPar (cc : CC) (ts vs : List Expr) : Option QS := match ts, vs with
  | [.Name x px, .Name y py], [a, b] =>
    if !cc.hot && decide (cc.xi = none) && decide (x ≠ y) && isLoc cc.sc x && isLoc cc.sc y && decide (py.line = px.line) && !([a, b].all (foldedForSure 8)) && !([a, b].all (constantsAlone 8)) then
      match ixOf cc.N x, ixOf cc.N y, cE 60 cc a, cE 60 cc b with
      | some i, some j, some p, some q => some (.par i j p q)
      | _, _, _, _ => none
    else none
  | _, _ => none
def cAsg (cc : CC) (tg e : Expr) : Option QS := match tg with
  | .Name y _ => match cTgt cc 4 tg, cE 60 cc e with
    | some (.nm i), some p => some (.asg (.nm i) p)
    | _, _ => none
  | .Tuple ts _ _ => match e with
    | .Tuple vs _ _ => if noSwap ts vs then match cTgt cc 4 tg, cE 60 cc e with
        | some g, some p => some (.asg g p)
        | _, _ => none
      else cPar cc ts vs
    | e => match cTgt cc 4 tg, cE 60 cc e with
      | some g, some p => some (.asg g p)
      | _, _ => none
  | .Subscript o i _ => match cE 60 cc o, cE 60 cc i, cE 60 cc e with
    | some p, some q, some r => some (.sub p q r)
    | _, _, _ => none
  | .Attribute o f _ => match cc.gl.lookup ("." : Str), cE 60 cc o, cE 60 cc e with
    | some (.flds fs), some p, some q => if fs.contains f then some (.fset p f q) else none
    | _, _, _ => none
  | _ => none
def excN (cc : CC) (x : Str) : Option (Nat × List Str) := if plainName x && glB cc.sc x then match cc.gl.lookup x with
  | some (.exc c fs) => some (c, fs)
  | _ => none
  else none
/-- raise x(args) of an own class whose __init__ sets its fields -/
def cRaise (cc : CC) (x : Str) (args : List Expr) : Option QS := match excN cc x, cc.gl.lookup (mkey x) with
  | some (c, fs), some (.xin c' fs') => if c' = c ∧ fs' = fs ∧ fs.length ≤ 2 ∧ fs.Nodup ∧ args.length = fs.length then (cList (cE 60 cc) args).map (.raise c fs) else none
  | _, _ => none
mutual
def cS : Nat → CC → Stmt → Option QS
  | 0, _, _ => none
  | n + 1, cc, st => match st with
    | .Expr e _ => match e with
      | .Constant (.str _) _ _ => some .pass
      | e => if notLc e then (cE 60 cc e).map .expr else none
    | .Assign tgs e _ => match tgs with
      | [tg] => cAsg cc tg e
      | _ => none
    | .AugAssign tg op e _ => match tg with
      | .Name y _ => match cTgt cc 4 tg, cE 60 cc e with
        | some (.nm i), some p => some (.aug i op p)
        | _, _ => none
      | _ => none
    | .Return v _ => match v with
      | some e => (cE 60 cc e).map .ret
      | none => some .retN
    | .If c a b _ => match cT 60 cc c, cSs n cc a, cSs n cc b with
      | some t, some p, some q => some (.ife t p q)
      | _, _, _ => none
    | .While c b el _ => match el, cc.hot, cT 60 cc c, cSs n cc b with
      | [], false, some t, some p => some (.whl t p)
      | _, _, _, _ => none
    | .For tg it b el _ => match el, cc.hot, cTgt cc 4 tg with
      | [], false, some g => match cIter cc (cE 60 cc) g it, cSs n cc b with
        | some i, some p => some (.for g i p)
        | _, _ => none
      | _, _, _ => none
    | .Raise ex ca _ => match ex, ca, cc.hot with
      | some (.Call (.Name x _) args [] _), none, false => match args with
        | [] => match excN cc x with
          | some (c, []) => some (.raise c [] .nil)
          | _ => none
        | a :: r => cRaise cc x (a :: r)
      | _, _, _ => none
    | .Try b hs el fi _ => match hs, el, fi, cc.hot, cc.xi with
      | [.ExceptHandler (some (.Name x _)) nm (s0 :: ss) _], [], [], false, none => match excN cc x with
        | some (c, fs) => match nm with
          | none => match cSs n cc b, cSs n (cc.sui none) (s0 :: ss) with
            | some p, some q => some (.try p c none q)
            | _, _ => none
          | some y => match ixOf cc.N y with
            | some i => match isLoc cc.sc y, cSs n cc b, cSs n (cc.sui (some i)) (s0 :: ss) with
              | true, some p, some q => some (.try p c (some i) q)
              | _, _, _ => none
            | none => none
        | none => none
      | _, _, _, _, _ => none
    | .Pass _ => some .pass
    | .Break _ => some .brk
    | .Continue _ => some .cnt
    | _ => none
def cSs : Nat → CC → List Stmt → Option QSs
  | 0, _, _ => none
  | n + 1, cc, sts => match sts with
    | [] => some .nil
    | a :: r => match cS n cc a, cSs n cc r with
      | some p, some q => some (.cons p q)
      | _, _ => none
end
section
variable {W : WD} {cc : CC} {k : Nat} {ev : Ev} {X : Cx} {E : WX} {e : Expr} {p : QE} {pos : Pos} {n : Nat}
theorem lc_inv {elt : Expr} {gs : List Comprehension} {scope : Scope} (h : cE (n + 1) cc (.ListComp elt gs scope pos) = some p) : ∃ tg it ifs own g i el ct, gs = [⟨tg, it, ifs, 0⟩] ∧ cc.hot = false ∧ ownOf cc.N scope.names = some own ∧ blkC cc.N cc.sc scope own = true ∧ cTgt (cBlk cc scope own) 4 tg = some g ∧
    cIter cc (cE n cc) g it = some i ∧ cE n (cBlk cc scope own) elt = some el ∧ ((ifs = [] ∧ ct = .yes) ∨ ∃ c, ifs = [c] ∧ cT n (cBlk cc scope own) c = some ct) ∧ p = .lc el g i (own.map (·.2)) ct := by
  change (match (generalizing := false) gs with
    | [⟨tg, it, ifs, as⟩] => match decide (as = 0) && !cc.hot, ownOf cc.N scope.names with
      | true, some own => match blkC cc.N cc.sc scope own with
        | true => match cTgt (cBlk cc scope own) 4 tg with
          | some g => match cIter cc (cE n cc) g it, cE n (cBlk cc scope own) elt with
            | some i, some el => match ifs with
              | [] => some (QE.lc el g i (own.map (·.2)) .yes)
              | [c] => match cT n (cBlk cc scope own) c with
                | some t => some (QE.lc el g i (own.map (·.2)) t)
                | none => none
              | _ => none
            | _, _ => none
          | none => none
        | false => none
      | _, _ => none
    | _ => none) = some p at h
  split at h
  · rename_i tg it ifs as
    split at h
    · rename_i own h0 hown
      rw [Bool.and_eq_true] at h0
      have has : as = 0 := of_decide_eq_true h0.1
      have hcold : cc.hot = false := by simpa using h0.2
      subst has
      split at h
      · rename_i hb
        split at h
        · rename_i g hg
          split at h
          · rename_i i el hi he
            split at h
            · cases h
              exact ⟨tg, it, [], own, g, i, el, .yes, rfl, hcold, hown, hb, hg, hi, he, .inl ⟨rfl, rfl⟩, rfl⟩
            · rename_i c
              split at h
              · rename_i t ht
                cases h
                exact ⟨tg, it, [c], own, g, i, el, t, rfl, hcold, hown, hb, hg, hi, he, .inr ⟨c, rfl, ht⟩, rfl⟩
              · cases h
            · cases h
          · cases h
        · cases h
      · cases h
    · cases h
  · cases h
/-- no other comprehension has code -/
theorem sw_none {tg : Option Expr} {l : Nat} {env : Env} (h : cE n cc e = some p) (hl : notLc e = true) : swapsWith e tg l env = pure false := by
  cases n with
  | zero => cases h
  | succ n => cases e <;> first | rfl | cases h | cases hl
theorem sw_some {tg : Expr} {l : Nat} {env : Env} (h : cE n cc e = some p) (ht : ∀ y py, tg ≠ .Name y py) : swapsWith e (some tg) l env = pure false := by
  cases n with
  | zero => cases h
  | succ n =>
    cases e with
    | ListComp elt gs scope pos => cases tg <;> first | rfl | exact absurd rfl (ht _ _)
    | _ => first | rfl | cases h
theorem blockK {env : Env} (hk : env.scope.kind = .function) : env.blockKind = .function := by
  unfold Env.blockKind
  rw [hk]
  rfl
theorem sw_name {y : Str} {py : Pos} {l : Nat} {env : Env} (hk : env.scope.kind = .function) (h : cE n cc e = some p) : swapsWith e (some (.Name y py)) l env = pure false ∨ (∃ elt gs scope pos, e = .ListComp elt gs scope pos ∧ env.scope.names.lookup y = some .local ∧ swapsWith e (some (.Name y py)) l env = pure true) := by
  cases n with
  | zero => cases h
  | succ n =>
    cases e with
    | ListComp elt gs scope pos =>
      have hb := blockK hk
      by_cases h1 : env.scope.names.lookup y = some .local
      · by_cases h2 : (py.line == pos.line && !(scope.names.any fun (n, k) => n == y && (k == .local || k == .cell))) = true
        · refine .inr ⟨elt, gs, scope, pos, rfl, h1, ?_⟩
          rw [Bool.and_eq_true] at h2
          exact sw_true hk h1 h2.1 (by simpa using h2.2)
        · refine .inl ?_
          have h2 : (py.line == pos.line && !(scope.names.any fun (n, k) => n == y && (k == .local || k == .cell))) = false := (Bool.not_eq_true _).mp h2
          have ky : env.kindOf y = some .local := h1
          show (pure (env.blockKind == .function && env.kindOf y == some .local && py.line == pos.line && !(scope.names.any fun (n, k) => n == y && (k == .local || k == .cell))) : Sem Bool) = pure false
          rw [Bool.and_assoc, h2, Bool.and_false]
      · refine .inl ?_
        have ky : (env.kindOf y == some NameKind.local) = false := by
          show (env.scope.names.lookup y == some NameKind.local) = false
          cases q : env.scope.names.lookup y == some NameKind.local with
          | false => rfl
          | true => exact absurd (beq_iff_eq.mp q) h1
        show (pure (env.blockKind == .function && env.kindOf y == some .local && py.line == pos.line && !(scope.names.any fun (n, k) => n == y && (k == .local || k == .cell))) : Sem Bool) = pure false
        rw [ky, Bool.and_false, Bool.false_and, Bool.false_and]
    | _ => first | exact .inl rfl | cases h
theorem ss_notup {tg e : Expr} {env : Env} (h : isTupE e = false) : swappedStores [tg] e env = pure none := by
  cases e <;> cases tg <;> first | rfl | cases h
theorem ss_noname {tg e : Expr} {env : Env} (h : isTupE tg = false) (hl : ∀ ts p, tg ≠ .List ts p) : swappedStores [tg] e env = pure none := by
  cases tg with
  | Tuple _ _ _ => cases h
  | List ts p => exact absurd rfl (hl ts p)
  | _ => cases e <;> rfl
theorem ss_folded {ts vs : List Expr} {k1 k2 : Nat} {p1 p2 : Pos} {env : Env} (h : noSwap ts vs = true) : swappedStores [.Tuple ts k1 p1] (.Tuple vs k2 p2) env = pure none := by
  unfold noSwap at h
  show (if (!(ts.length == 2 || ts.length == 3) || vs.length != ts.length || env.blockKind != .function) = true then pure none else _) = _
  by_cases h1 : (!(ts.length == 2 || ts.length == 3) || vs.length != ts.length || env.blockKind != .function) = true
  · rw [if_pos h1]
  · rw [if_neg h1]
    have h2 : vs.all (foldedForSure 8) = true := by
      simp only [Bool.or_eq_true, not_or] at h1 h
      rcases h with (h | h) | h
      · exact absurd h h1.1.1
      · exact absurd h h1.1.2
      · exact h
    rw [h2]
    split
    · rfl
    · dsimp only
      split <;> rfl
theorem anyStar {a b : Expr} (s1 : notStar a = true) (s2 : notStar b = true) : ([a, b].any fun | .Starred .. => true | _ => false) = false := by
  have one : ∀ e : Expr, notStar e = true → (match e with | .Starred .. => true | _ => false) = false := fun e h => by
    cases e <;> first | rfl | cases h
  rw [List.any_cons, List.any_cons, one a s1, one b s2]
  rfl
theorem ss_par {x y : Str} {px py : Pos} {a b : Expr} {k1 k2 : Nat} {p1 p2 : Pos} {env : Env} (hk : env.scope.kind = .function) (hx : env.scope.names.lookup x = some .local) (hy : env.scope.names.lookup y = some .local) (hxy : x ≠ y) (hl : py.line = px.line) (s1 : notStar a = true) (s2 : notStar b = true)
    (h1 : [a, b].all (foldedForSure 8) = false) (h2 : [a, b].all (constantsAlone 8) = false) : swappedStores [.Tuple [.Name x px, .Name y py] k1 p1] (.Tuple [a, b] k2 p2) env = pure (some [x, y]) := by
  have hb := blockK hk
  have kx : env.kindOf x = some .local := hx
  have ky : env.kindOf y = some .local := hy
  have hst := anyStar s1 s2
  have nm : ([Expr.Name x px, Expr.Name y py].filterMap fun
    | .Name id pos => if env.kindOf id == some .local && pos.line == px.line then some id else none
    | _ => none) = [x, y] := by
    simp [kx, ky, hl]
  have hd : ([x, y] : List Str).eraseDups.length = 2 := by
    simp [List.eraseDups_cons, hxy, Ne.symm hxy]
  show (if (!(2 == 2 || 2 == 3) || (2 : Nat) != 2 || env.blockKind != .function) = true then pure none else _) = _
  rw [hb]
  rw [if_neg (by decide)]
  show (if ([a, b].any fun | .Starred .. => true | _ => false) = true then pure none else _) = _
  rw [hst, if_neg (by decide)]
  show (if ((([Expr.Name x px, Expr.Name y py].filterMap fun
    | .Name id pos => if env.kindOf id == some .local && pos.line == px.line then some id else none
    | _ => none).length != 2) || ((([Expr.Name x px, Expr.Name y py].filterMap fun
    | .Name id pos => if env.kindOf id == some .local && pos.line == px.line then some id else none
    | _ => none).eraseDups.length != ([Expr.Name x px, Expr.Name y py].filterMap fun
    | .Name id pos => if env.kindOf id == some .local && pos.line == px.line then some id else none
    | _ => none).length))) = true then pure none else if [a, b].all (foldedForSure 8) = true then pure none else _) = _
  rw [nm, hd, if_neg (by simp), h1, if_neg (by decide)]
  show (if [a, b].all (constantsAlone 8) = true then _ else _) = _
  rw [h2, if_neg (by decide)]
  exact congrArg (fun l => (pure (some l) : Sem (Option (List Str)))) nm
theorem tgt1 (h : cTgt cc n e = some (.nm i)) : ∃ y py, e = .Name y py ∧ y ∈ cc.as ∧ ixOf cc.N y = some i ∧ cc.xi ≠ some i := by
  cases n with
  | zero => cases h
  | succ n =>
    cases e with
    | Name y py =>
      have h : (if cc.as.contains y then match ixOf cc.N y with
        | some i => if cc.xi = some i then none else some (QG.nm i)
        | none => none
        else none) = some (QG.nm i) := h
      split at h
      · rename_i hy
        split at h
        · rename_i j hj
          split at h
          · cases h
          · rename_i hx
            cases h
            exact ⟨y, py, rfl, by simpa using hy, hj, hx⟩
        · cases h
      · cases h
    | Tuple es kk py =>
      have h : (if cc.hot then none else (cTgts (cTgt cc n) es).map QG.tp) = some (QG.nm i) := h
      split at h
      · cases h
      · cases e1 : cTgts (cTgt cc n) es with
        | none => rw [e1] at h; cases h
        | some gs => rw [e1] at h; cases h
    | _ => cases h
theorem tgt_hx {g : QG} (h : cTgt cc n e = some g) : ∀ i ∈ gIx g, cc.xi ≠ some i := tgt_ix (fun i => cc.xi ≠ some i) (fun _ _ _ _ h => h) n h
theorem assign1 {tg : Expr} (h : notStar tg = true) (env : Env) : (assignEach [tg] env).map (·.2) = [assign tg env] := by
  rw [assignEach1 h]
  rfl
theorem ok_e (x : XG W cc k ev X E) (h : cE n cc e = some p) : PE X e (RE W cc 0 E ev p) := (all_ok n).1 cc e p h W k ev X E 0 x
theorem ok_t (x : XG W cc k ev X E) {t : QT} (h : cT n cc e = some t) : PT X e (RT W cc 0 E ev t) := (all_ok n).2 cc e t h W k ev X E 0 x
theorem asg_name (x : XS W cc k ev X E) {y : Str} {py : Pos} {i : Nat} (hy : y ∈ cc.as) (hi : ixOf cc.N y = some i) (hx : cc.xi ≠ some i) (h : cE (n + 1) cc e = some p) : PS X (.Assign [.Name y py] e pos) (RSt W cc E ev (.asg (.nm i) p)) := by
  have hxi : ∀ j ∈ gIx (.nm i), cc.xi ≠ some j := fun j hj => by
    have : j = i := by simpa [gIx] using hj
    rw [this]
    exact hx
  have hk : X.env.scope.kind = .function := by rw [x.sc]; exact x.fun_
  rcases sw_name (y := y) (py := py) (l := pos.line) hk h with sw | ⟨elt, gs, scope, pos', rfl, hl, sw⟩
  · exact s_asg hxi (ok_e x.toXG h) (g_name x.toXG hy hi) sw (ss_noname rfl fun _ _ z => by cases z) rfl
  · obtain ⟨tg, it, ifs, own, g, ii, el, ct, rfl, hcold, hown, hb, hg, hit, he, hc, rfl⟩ := lc_inv h
    have hf : ∀ e p, cE n cc e = some p → notStar e = true ∧ PE X e (RE W cc 0 E ev p) := fun e p h => ⟨(cE_kind h).1, ok_e x.toXG h⟩
    obtain ⟨pi, ns⟩ := iter_ok x.toXG hf (fun e p h => (cE_kind h).2.2) (tgt_tup hg) hit
    obtain ⟨pe, pt⟩ := lc_parts (a := 0) n (all_ok n).1 (all_ok n).2 x.toXG hg hit he hc (xg_blk x.toXG hcold hown hb)
    exact s_asgN hx (k_setLc x.toXG hcold (ixOf_get hi) (by rw [← x.sc]; exact hl) sw hown hb hg pi pe pt (setIt ns))
end
end PV
/-! PVM: every block that has code. -/
namespace PV
open PySem PySem.Spec PyProof.Rows L2
def OkS (n : Nat) : Prop := ∀ (cc : CC) (st : Stmt) (c : QS), cS n cc st = some c → ∀ (W : WD) (k : Nat) (ev : Ev) (X : Cx) (E : WX), XS W cc k ev X E → PS X st (RSt W cc E ev c)
def OkB (n : Nat) : Prop := ∀ (cc : CC) (sts : List Stmt) (c : QSs), cSs n cc sts = some c → ∀ (W : WD) (k : Nat) (ev : Ev) (X : Cx) (E : WX), XS W cc k ev X E → PSs X sts (RSs W cc E ev c)
section
variable {W : WD} {cc : CC} {k : Nat} {ev : Ev} {X : Cx} {E : WX} {e : Expr} {p : QE} {pos : Pos} {n : Nat}
theorem exc_of {x : Str} {c : Nat} {fs : List Str} (h : excN cc x = some (c, fs)) : plainName x = true ∧ glB cc.sc x = true ∧ cc.gl.lookup x = some (.exc c fs) := by
  unfold excN at h
  split at h
  · rename_i hp
    rw [Bool.and_eq_true] at hp
    split at h
    · rename_i e0
      cases h
      exact ⟨hp.1, hp.2, e0⟩
    · cases h
  · cases h
theorem asg_ok (x : XS W cc k ev X E) {tg : Expr} {c : QS} (h : cAsg cc tg e = some c) : PS X (.Assign [tg] e pos) (RSt W cc E ev c) := by
  have hk : X.env.scope.kind = .function := by rw [x.sc]; exact x.fun_
  have plain : ∀ {g : QG} {p : QE}, (∀ y py, tg ≠ .Name y py) → swappedStores [tg] e X.env = pure none → cTgt cc 4 tg = some g → cE 60 cc e = some p → PS X (.Assign [tg] e pos) (RSt W cc E ev (.asg g p)) := fun {g p} hn hw h1 h2 =>
    s_asg (tgt_hx h1) (ok_e x.toXG h2) (g_all x.toXG 4 h1) (sw_some h2 hn) hw (assign1 (tgt_notStar h1) _)
  unfold cAsg at h
  split at h
  · rename_i y py
    split at h
    · rename_i i p h1 h2
      cases h
      obtain ⟨y', py', e1, hy, hi, hx⟩ := tgt1 h1
      cases e1
      exact asg_name x hy hi hx h2
    · cases h
  · rename_i ts kt pt
    split at h
    · rename_i vs k2 p2
      split at h
      · rename_i hno
        split at h
        · rename_i g p h1 h2
          cases h
          exact plain (fun _ _ z => by cases z) (ss_folded hno) h1 h2
        · cases h
      · unfold cPar at h
        split at h
        · rename_i xx px yy py a b
          split at h
          · rename_i hc
            simp only [Bool.and_eq_true, Bool.not_eq_true', decide_eq_true_eq] at hc
            obtain ⟨⟨⟨⟨⟨⟨⟨c1, c2⟩, c3⟩, c4⟩, c5⟩, c6⟩, c7⟩, c8⟩ := hc
            split at h
            · rename_i i j p q h1 h2 h3 h4
              cases h
              have lx := loc_of c4
              have ly := loc_of c5
              have s1 := (cE_kind h3).1
              have s2 := (cE_kind h4).1
              exact s_par x.toXG c1 c2 h1 h2 c3 lx ly s1 s2 (ok_e x.toXG h3) (ok_e x.toXG h4) (ss_par hk (by rw [x.sc]; exact lx) (by rw [x.sc]; exact ly) c3 c6 s1 s2 c7 c8)
            · cases h
          · cases h
        · cases h
    · rename_i hne
      split at h
      · rename_i g p h1 h2
        cases h
        refine plain (fun _ _ z => by cases z) (ss_notup ?_) h1 h2
        cases e <;> first | rfl | exact absurd rfl (hne _ _ _)
      · cases h
  · rename_i o i tp
    split at h
    · rename_i p q r h1 h2 h3
      cases h
      exact s_sub x.toXG (cE_kind h2).2.1 (ok_e x.toXG h3) (ok_e x.toXG h1) (ok_e x.toXG h2) (sw_some (tg := .Subscript o i tp) (l := pos.line) (env := X.env) h3 fun _ _ z => by cases z)
    · cases h
  · rename_i o f tp
    split at h
    · rename_i fs p q h1 h2 h3
      split at h
      · rename_i hf
        cases h
        exact s_fset x.toXG h1 (by simpa using hf) (ok_e x.toXG h3) (ok_e x.toXG h2) (sw_some (tg := .Attribute o f tp) (l := pos.line) (env := X.env) h3 fun _ _ z => by cases z)
      · cases h
    · cases h
  · cases h
theorem raise_ok (x : XS W cc k ev X E) (hcold : cc.hot = false) {y : Str} {py cp : Pos} {a1 : Expr} {r1 : List Expr} {c : QS} (h : cRaise cc y (a1 :: r1) = some c) : PS X (.Raise (some (.Call (.Name y py) (a1 :: r1) [] cp)) none pos) (RSt W cc E ev c) := by
  unfold cRaise at h
  split at h
  · rename_i c0 fs c' fs' h1 h2
    split at h
    · rename_i hc
      obtain ⟨rfl, rfl, l2, nd, ln⟩ := hc
      cases e1 : cList (cE 60 cc) (a1 :: r1) with
      | none => rw [e1] at h; cases h
      | some es =>
        rw [e1] at h
        cases h
        obtain ⟨n1, n2, n3⟩ := exc_of h1
        have hf : ∀ e p, cE 60 cc e = some p → notStar e = true ∧ PE X e (RE W cc 0 E ev p) := fun e p h => ⟨(cE_kind h).1, ok_e x.toXG h⟩
        obtain ⟨m1, l1, pa⟩ := list_ok hf e1
        exact s_raiseF x.toXG hcold n1 n2 n3 h2 m1 l2 nd (by rw [l1, ln]) pa
    · cases h
  · cases h
theorem blocks : ∀ n : Nat, OkS n ∧ OkB n
  | 0 => ⟨fun cc st c h => by simp [cS] at h, fun cc st c h => by simp [cSs] at h⟩
  | n + 1 => by
    obtain ⟨hS, hB⟩ := blocks n
    refine ⟨fun cc st c h W k ev X E x => ?_, fun cc sts c h W k ev X E x => ?_⟩
    · have bl : ∀ {sts : List Stmt} {c : QSs}, cSs n cc sts = some c → PSs X sts (RSs W cc E ev c) := fun {sts c} h => hB cc sts c h W k ev X E x
      cases st with
      | Expr e pos =>
        have gen : ∀ e, notLc e = true → (cE 60 cc e).map QS.expr = some c → PS X (.Expr e pos) (RSt W cc E ev c) := fun e hl h => by
          cases e1 : cE 60 cc e with
          | none => rw [e1] at h; cases h
          | some p =>
            rw [e1] at h
            cases h
            exact s_expr (ok_e x.toXG e1) (sw_none e1 hl)
        change (match (generalizing := false) e with
          | .Constant (.str _) _ _ => some QS.pass
          | e => if notLc e then (cE 60 cc e).map .expr else none) = some c at h
        split at h
        · cases h
          exact s_doc
        · split at h
          · rename_i hl
            exact gen _ hl h
          · cases h
      | Assign tgs e pos =>
        change (match (generalizing := false) tgs with
          | [tg] => cAsg cc tg e
          | _ => none) = some c at h
        split at h
        · exact asg_ok x h
        · cases h
      | AugAssign tg op e pos =>
        change (match (generalizing := false) tg with
          | .Name y _ => match cTgt cc 4 tg, cE 60 cc e with
            | some (.nm i), some p => some (QS.aug i op p)
            | _, _ => none
          | _ => none) = some c at h
        split at h
        · split at h
          · rename_i i p h1 h2
            cases h
            obtain ⟨y', py', e1, hy, hi, hx⟩ := tgt1 h1
            cases e1
            exact s_aug x.toXG hy hi hx (ok_e x.toXG h2)
          · cases h
        · cases h
      | Return v pos =>
        cases v with
        | none =>
          have h : some QS.retN = some c := h
          cases h
          exact s_retN
        | some e =>
          have h : (cE 60 cc e).map QS.ret = some c := h
          cases e1 : cE 60 cc e with
          | none => rw [e1] at h; cases h
          | some p =>
            rw [e1] at h
            cases h
            exact s_ret (ok_e x.toXG e1)
      | If cond b1 b2 pos =>
        change (match (generalizing := false) cT 60 cc cond, cSs n cc b1, cSs n cc b2 with
          | some t, some p, some q => some (QS.ife t p q)
          | _, _, _ => none) = some c at h
        split at h
        · rename_i h1 h2 h3
          cases h
          exact s_if (ok_t x.toXG h1) (bl h2) (bl h3)
        · cases h
      | While cond b el pos =>
        change (match (generalizing := false) el, cc.hot, cT 60 cc cond, cSs n cc b with
          | [], false, some t, some p => some (QS.whl t p)
          | _, _, _, _ => none) = some c at h
        split at h
        · rename_i h0 h1 h2
          cases h
          exact s_while x h0 (ok_t x.toXG h1) (bl h2)
        · cases h
      | For tg it b el pos =>
        change (match (generalizing := false) el, cc.hot, cTgt cc 4 tg with
          | [], false, some g => match cIter cc (cE 60 cc) g it, cSs n cc b with
            | some i, some p => some (QS.for g i p)
            | _, _ => none
          | _, _, _ => none) = some c at h
        split at h
        · rename_i g h0 h1
          split at h
          · rename_i i p h2 h3
            cases h
            obtain ⟨pi, ns⟩ := iter_ok (a := 0) x.toXG (fun e p h => ⟨(cE_kind h).1, ok_e x.toXG h⟩) (fun e p h => (cE_kind h).2.2) (tgt_tup h1) h2
            exact s_for x h0 (tgt_hx h1) pi (g_all x.toXG 4 h1) (bl h3) (setIt ns)
          · cases h
        · cases h
      | Raise ex ca pos =>
        change (match (generalizing := false) ex, ca, cc.hot with
          | some (.Call (.Name x _) args [] _), none, false => match (generalizing := false) args with
            | [] => match (generalizing := false) excN cc x with
              | some (c, []) => some (QS.raise c [] .nil)
              | _ => none
            | a :: r => cRaise cc x (a :: r)
          | _, _, _ => none) = some c at h
        split at h
        · rename_i h0
          split at h
          · split at h
            · rename_i h1
              cases h
              obtain ⟨n1, n2, n3⟩ := exc_of h1
              exact s_raise0 x.toXG h0 n1 n2 n3
            · cases h
          · rename_i a1 r1
            exact raise_ok x h0 h
        · cases h
      | Try b hs el fi pos =>
        change (match (generalizing := false) hs, el, fi, cc.hot, cc.xi with
          | [.ExceptHandler (some (.Name x _)) nm (s0 :: ss) _], [], [], false, none => match excN cc x with
            | some (c, fs) => match nm with
              | none => match cSs n cc b, cSs n (cc.sui none) (s0 :: ss) with
                | some p, some q => some (QS.try p c none q)
                | _, _ => none
              | some y => match ixOf cc.N y with
                | some i => match isLoc cc.sc y, cSs n cc b, cSs n (cc.sui (some i)) (s0 :: ss) with
                  | true, some p, some q => some (QS.try p c (some i) q)
                  | _, _, _ => none
                | none => none
            | none => none
          | _, _, _, _, _ => none) = some c at h
        split at h
        · rename_i h0 hxi
          split at h
          · rename_i cx fs h1
            obtain ⟨n1, n2, n3⟩ := exc_of h1
            split at h
            · split at h
              · rename_i p q h2 h3
                cases h
                exact s_try_only x h0 hxi n1 n2 n3 (fun X' E' x' => hB cc _ _ h2 W k ev X' E' x') (fun W' ev' X' x' => hB _ _ _ h3 W' k ev' X' F0 x')
              · cases h
            · split at h
              · rename_i i hi
                split at h
                · rename_i p q hl h2 h3
                  cases h
                  exact s_try_as x h0 hxi n1 n2 n3 hi (loc_of hl) (fun X' E' x' => hB cc _ _ h2 W k ev X' E' x') (fun W' ev' X' x' => hB _ _ _ h3 W' k ev' X' F0 x')
                · cases h
              · cases h
          · cases h
        · cases h
      | Pass pos =>
        have h : some QS.pass = some c := h
        cases h
        exact s_pass
      | Break pos =>
        have h : some QS.brk = some c := h
        cases h
        exact s_brk
      | Continue pos =>
        have h : some QS.cnt = some c := h
        cases h
        exact s_cnt
      | _ => cases h
    · cases sts with
      | nil =>
        have h : some QSs.nil = some c := h
        cases h
        exact ss_nil
      | cons st sts =>
        change (match (generalizing := false) cS n cc st, cSs n cc sts with
          | some p, some q => some (QSs.cons p q)
          | _, _ => none) = some c at h
        split at h
        · rename_i p q h1 h2
          cases h
          exact ss_cons (hS cc st p h1 W k ev X E x) (hB cc sts q h2 W k ev X E x)
        · cases h
end
end PV
/-! PVN: a def keeps its promise; all defs, level by level. -/
namespace PV
open PySem PySem.Spec PyProof.Rows L2
/-! ### what a def leaves -/
section
variable {G : GW} {m l : List Addr} {H : Hp} {a : Addr}
theorem fs_lt {K : PySem.W.Frag} : ∀ {fs : List (Str × D)} {vs : List (Str × V)}, FsR K m H fs vs → fsLt m.length fs = true
  | _, _, .nil => rfl
  | _, _, .cons a r => by
    unfold fsLt
    rw [a.2.lt, fs_lt r]
    rfl
theorem kv_lt {K : PySem.W.Frag} : ∀ {fs : List (L2.Key × D)} {vs : List (L2.Key × V)}, KvR K m H fs vs → kvLt m.length fs = true
  | _, _, .nil => rfl
  | _, _, .cons a r => by
    unfold kvLt
    rw [a.2.lt, kv_lt r]
    rfl
theorem cell_lt {c : Cell} (r : CellR G m H a c) : Cell.lt m.length c = true := by
  cases c with
  | lst ds => obtain ⟨vs, _, d⟩ := r; exact d.lts
  | obj C fs => obtain ⟨_, _, _, _, _, d⟩ := r; exact fs_lt d
  | dct kvs => obtain ⟨_, _, d⟩ := r; exact kv_lt d
theorem fs_cut {K : PySem.W.Frag} : ∀ {fs : List (Str × D)} {vs : List (Str × V)}, FsR K (m ++ l) H fs vs → fsLt m.length fs = true → FsR K m H fs vs
  | _, _, .nil, _ => .nil
  | _, _, .cons a r, h => by
    unfold fsLt at h
    rw [Bool.and_eq_true] at h
    exact .cons ⟨a.1, a.2.cut h.1⟩ (fs_cut r h.2)
theorem kv_cut {K : PySem.W.Frag} : ∀ {fs : List (L2.Key × D)} {vs : List (L2.Key × V)}, KvR K (m ++ l) H fs vs → kvLt m.length fs = true → KvR K m H fs vs
  | _, _, .nil, _ => .nil
  | _, _, .cons a r, h => by
    unfold kvLt at h
    rw [Bool.and_eq_true] at h
    exact .cons ⟨a.1, a.2.cut h.1⟩ (kv_cut r h.2)
theorem cell_cut {c : Cell} (r : CellR G (m ++ l) H a c) (h : Cell.lt m.length c = true) : CellR G m H a c := by
  cases c with
  | lst ds => obtain ⟨vs, e, d⟩ := r; exact ⟨vs, e, d.cut h⟩
  | obj C fs => obtain ⟨Ca, dx, vs, e1, e2, d⟩ := r; exact ⟨Ca, dx, vs, e1, e2, fs_cut d h⟩
  | dct kvs => obtain ⟨vs, e, d⟩ := r; exact ⟨vs, e, kv_cut d h⟩
end
theorem keeps_get {n : Nat} : ∀ {h h' : Hd} {i : Nat} {c : Cell}, keepsCells n h h' = true → i < h.length → h'[i]? = some c → h[i]? = some c ∨ Cell.lt n c = true
  | [], _, _, _, _, hi, _ => by cases hi
  | a :: r, [], _, _, k, _, _ => by cases k
  | a :: r, b :: s, 0, c, k, _, e => by
    unfold keepsCells at k
    rw [Bool.and_eq_true, Bool.or_eq_true] at k
    have e : b = c := by simpa using e
    subst e
    rcases k.1 with k | k
    · exact .inl (by rw [Cell.eq_of_beq a b k]; rfl)
    · exact .inr k
  | a :: r, b :: s, i + 1, c, k, hi, e => by
    unfold keepsCells at k
    rw [Bool.and_eq_true] at k
    exact keeps_get (i := i) k.2 (by simpa using hi) (by simpa using e)
theorem gc_step {G : GW} {m m' : List Addr} {h h' : Hd} {H H' : Hp} (r : Rel G m h H) (st : Step m H m' H') (r' : Rel G m' h' H') (g : gcOk h h' = true) : Step m H m H' ∧ Rel G m (h'.take h.length) H' := by
  obtain ⟨l, e, n⟩ := st.pre
  have hl : h.length ≤ h'.length := by rw [← r.len, ← r'.len, e, List.length_append]; omega
  refine ⟨⟨⟨[], by simp, fun _ z => by cases z⟩, fun a ha => st.live a (by rw [e]; exact List.mem_append_left _ ha), st.keep, st.tups, st.frzs⟩, ⟨by rw [List.length_take, Nat.min_eq_left hl]; exact r.len, r.nd, fun i c a e1 e2 => ?_, fun p hp => ⟨(r'.pin p hp).1, fun z => (r'.pin p hp).2 (by rw [e]; exact List.mem_append_left _ z)⟩⟩⟩
  have hi : i < h.length := by
    rw [← r.len]
    exact (List.getElem?_eq_some_iff.mp e2).1
  have e1 : h'[i]? = some c := by rwa [List.getElem?_take_of_lt hi] at e1
  have c1 := r'.cell i c a e1 (st.get i a e2)
  rw [e] at c1
  refine cell_cut c1 ?_
  rcases keeps_get g hi e1 with k | k
  · exact cell_lt (r.cell i c a k e2)
  · rw [r.len]
    exact k
theorem gc_ok {G : GW} {m m' : List Addr} {h h' : Hd} {H H' : Hp} {d : D} {v : V} {Q : VK} {E : XKE} (r : Rel G m h H) (z : Sat G (RD G) m H (gc h d h') Q E) (st : Step m H m' H') (r' : Rel G m' h' H') (dv : DR G.K m' H' d v) : Q v H' := by
  unfold gc at z
  split at z
  · rename_i g
    rw [Bool.and_eq_true] at g
    obtain ⟨st2, r2⟩ := gc_step r st r' g.1
    obtain ⟨l, e, _⟩ := st.pre
    rw [e] at dv
    exact z m H' v st2 r2 (dv.cut (by rw [r.len]; exact g.2))
  · exact z m' H' v st r' dv
theorem gcE_ok {G : GW} {m m' : List Addr} {h h' : Hd} {H H' : Hp} {e : Exn} {cls : Value} {dx : Option Addr} {Q : VK} {E : XKE} (r : Rel G m h H) (z : Sat G (RD G) m H (gcE h e h') Q E) (st : Step m H m' H') (r' : Rel G m' h' H') (er : ExR G m' H' e cls dx) : E cls dx H' := by
  unfold gcE at z
  split at z
  · rename_i g
    rw [Bool.and_eq_true] at g
    obtain ⟨st2, r2⟩ := gc_step r st r' g.1
    exact z m H' cls dx st2 r2 er
  · exact z m' H' cls dx st r' er
/-- the slots at the entry -/
theorem start_rel {G : GW} {m : List Addr} {H : Hp} {N : List Str} {ds : List D} {vs : List V} (d : DRs G.K m H ds vs) : SR G m H (startD N.length ds) (L2.start N vs) := by
  refine ⟨by simp [startD, L2.start, d.length], fun i x e => ?_⟩
  unfold startD at e
  by_cases hi : i < ds.length
  · rw [List.getElem?_append_left (by simpa using hi), List.getElem?_map] at e
    cases q : ds[i]? with
    | none => rw [q] at e; cases e
    | some y =>
      rw [q] at e
      cases e
      obtain ⟨v, e1, dv⟩ := d.get q
      refine ⟨v, ?_, dv⟩
      unfold L2.start
      rw [List.getElem?_append_left (by rw [List.length_map, ← d.length]; exact hi), List.getElem?_map, e1]
      rfl
  · rw [List.getElem?_append_right (by simpa using hi)] at e
    rw [List.getElem?_replicate] at e
    split at e <;> cases e
def asOf (l : List (Str × NameKind)) : List Str := l.filterMap fun p => match p.2 with
  | .local => some p.1
  | .cell => some p.1
  | _ => none
/-- the names that a def may store -/
def asOk (sc : Scope) : Bool := (asOf sc.names).all fun x => match sc.names.lookup x with
  | some .local => true
  | some .cell => true
  | _ => false
theorem asOk_loc {sc : Scope} (h : asOk sc = true) {x : Str} (hx : x ∈ asOf sc.names) : Loc sc x := by
  have := List.all_eq_true.mp h x hx
  split at this
  · exact .inl (by assumption)
  · exact .inr (by assumption)
  · cases this
/-- what is known of a def without regard to its level -/
structure FnSt (W : WD) (gl : List (Str × Gv)) (fns : List FnC) (x : Str) (i np : Nat) (shapes : List (Nat × List Str × Arr)) : Prop where
  ex : ∃ (f : Addr) (fd : FuncData) (ps N : List Str) (y qual : Str) (params : Arguments) (body : List Stmt) (scope : Scope) (dvs : List V) (kws : List (Str × V)) (code : QSs), W.mg x = some (.ref f) ∧ ps.length = np ∧ FunD W.G.K y qual params body scope dvs kws f fd ∧ FnScope N ps scope ∧ asOk scope = true ∧
    fns[i]? = some ⟨np, N.length, code⟩ ∧ cSs 40 ⟨N, scope, asOf scope.names, gl, false, none⟩ body = some code ∧ ∀ n ks arr, (n, ks, arr) ∈ shapes → arr.length = np ∧ arrFlat arr = true ∧ ∃ g, KBn W.G.K fd ps n ks g (arrV arr)
/-- a def by its address -/
structure FnS0 (W : WD) (gl : List (Str × Gv)) (fns : List FnC) (f : Addr) (fd : FuncData) (ps : List Str) (i np : Nat) : Prop where
  ex : ∃ (N : List Str) (y qual : Str) (params : Arguments) (body : List Stmt) (scope : Scope) (dvs : List V) (kws : List (Str × V)) (code : QSs), ps.length = np ∧ FunD W.G.K y qual params body scope dvs kws f fd ∧ FnScope N ps scope ∧ asOk scope = true ∧
    fns[i]? = some ⟨np, N.length, code⟩ ∧ cSs 40 ⟨N, scope, asOf scope.names, gl, false, none⟩ body = some code
/-- what is known of a global name without regard to the level -/
def GvSt (W : WD) (gl : List (Str × Gv)) (fns : List FnC) (x : Str) : Gv → Prop
  | .fn i np shapes => FnSt W gl fns x i np shapes
  | .own C i np => ∃ Ca f fd ps, W.mg x = some (.ref Ca) ∧ W.G.oc C = some Ca ∧ Mk W.G.K Ca f ∧ Binds W.G.K fd ps [] ∧ FnS0 W gl fns f fd ps i np
  | .met C i np m => ∃ Ca f fd ps, W.G.oc C = some Ca ∧ Cls W.G.K Ca ∧ Meth W.G.K Ca m f ∧ Binds W.G.K fd ps [] ∧ FnS0 W gl fns f fd ps i np
  | v => GvOk W 0 ⟨fun _ _ _ => .no, 0, none, fun _ _ => false⟩ x v
def evk (fns : List FnC) (sub : Nat → Nat → Bool) (fuel k : Nat) : Ev := ⟨callI fns sub fuel k, fuel, none, sub⟩
theorem fn_body {W : WD} {gl : List (Str × Gv)} {fns : List FnC} {sub : Nat → Nat → Bool} {fuel k : Nat} (hg : ∀ x v, gl.lookup x = some v → GvOk W k (evk fns sub fuel k) x v) (hc : ∀ c Ca, W.G.cl c = some Ca → ClsOk W (evk fns sub fuel k) c Ca) {i np : Nat} {f : Addr} {fd : FuncData} {ps N : List Str} {y qual : Str} {params : Arguments} {body : List Stmt} {scope : Scope} {dvs : List V} {kws : List (Str × V)} {code : QSs}
    (h2 : ps.length = np) (FD : FunD W.G.K y qual params body scope dvs kws f fd) (S : FnScope N ps scope) (ha : asOk scope = true) (hf : fns[i]? = some ⟨np, N.length, code⟩) (hcd : cSs 40 ⟨N, scope, asOf scope.names, gl, false, none⟩ body = some code) :
    FnOk W.P W.w W.G.K W.mg W.base (L2.CX W.P W.w) (3 * (k + 1)) f fd ps (spF W.G np (callI fns sub fuel (k + 1) i)) := by
  refine FD.ok (k := 3 * k + 2) S (fun vs H Q E ⟨m, h, ds, r, d, l, z⟩ => by rw [← d.length, l, h2]) fun cdv A outer s H vs Q E hr hsp => ?_
  have r2 : Room (3 * k + 2) (A.deeper (envOfC qual scope s.heap.objs.size f cdv)) := hr.mono (by omega)
  have xs : XS W ⟨N, scope, asOf scope.names, gl, false, none⟩ k (evk fns sub fuel k) (cxOf (L2.CX W.P W.w) W.P W.w W.G.K W.mg W.base N qual scope f cdv A outer s H E) (fun c d _ H => E c d H) := by
    refine ⟨⟨rfl, rfl, rfl, rfl, rfl, rfl, S.nd, rfl, fun y hy => ⟨asOk_loc ha hy, .inl rfl⟩, fun _ => ⟨rfl, r2⟩, ?_, takes_of rfl rfl rfl rfl, hg, hc, fun z => by cases z⟩, fun _ => passes_of rfl, fun _ => ⟨rfl, rfl⟩, S.kind⟩
    have := r2.un
    show (A.deeper (envOfC qual scope s.heap.objs.size f cdv)).units + 64 < cLine
    omega
  refine ⟨_, (blocks 40).2 _ _ _ hcd W k _ _ _ xs, ?_⟩
  obtain ⟨m, h, ds, r, d, l, z⟩ := hsp
  have z : Sat W.G (RD W.G) m H (match fns[i]? with
    | none => .no
    | some fn => match decide (ds.length = fn.np) with
      | false => .no
      | true => match exSs (evk fns sub fuel k) fn.code (startD fn.nn ds) h with
        | .rt d h' => gc h d h'
        | .nx _ h' => gc h .non h'
        | .ex e _ h' => gcE h e h'
        | _ => .no) Q E := z
  rw [hf] at z
  have z : Sat W.G (RD W.G) m H (match decide (ds.length = np) with
      | false => .no
      | true => match exSs (evk fns sub fuel k) code (startD N.length ds) h with
        | .rt d h' => gc h d h'
        | .nx _ h' => gc h .non h'
        | .ex e _ h' => gcE h e h'
        | _ => .no) Q E := z
  rw [decide_eq_true l] at z
  have z : Sat W.G (RD W.G) m H (match exSs (evk fns sub fuel k) code (startD N.length ds) h with
        | .rt d h' => gc h d h'
        | .nx _ h' => gc h .non h'
        | .ex e _ h' => gcE h e h'
        | _ => .no) Q E := z
  refine ⟨m, h, startD N.length ds, r, start_rel d, trivial, ?_⟩
  cases e0 : exSs (evk fns sub fuel k) code (startD N.length ds) h with
  | nx s2 h2 =>
    rw [e0] at z
    exact fun m' H' σ' st r' _ _ => gc_ok r z st r' .non
  | rt d2 h2 =>
    rw [e0] at z
    exact fun m' H' v st r' dv => gc_ok r z st r' dv
  | ex e s2 h2 =>
    rw [e0] at z
    exact fun m' H' σ' cls dx st r' _ _ er => gcE_ok r z st r' er
  | bk s2 h2 => rw [e0] at z; exact False.elim z
  | ct s2 h2 => rw [e0] at z; exact False.elim z
  | no => rw [e0] at z; exact False.elim z
theorem fn_level {W : WD} {gl : List (Str × Gv)} {fns : List FnC} {sub : Nat → Nat → Bool} {fuel k : Nat} (hg : ∀ x v, gl.lookup x = some v → GvOk W k (evk fns sub fuel k) x v) (hc : ∀ c Ca, W.G.cl c = some Ca → ClsOk W (evk fns sub fuel k) c Ca) {x : Str} {i np : Nat} {shapes : List (Nat × List Str × Arr)} (F : FnSt W gl fns x i np shapes) : GvOk W (k + 1) (evk fns sub fuel (k + 1)) x (.fn i np shapes) := by
  obtain ⟨f, fd, ps, N, y, qual, params, body, scope, dvs, kws, code, h1, h2, FD, S, ha, hf, hcd, hsh⟩ := F.ex
  exact ⟨f, fd, ps, h1, FD.kp, h2, fn_body hg hc h2 FD S ha hf hcd, hsh⟩
theorem fn_zero {W : WD} {gl : List (Str × Gv)} {fns : List FnC} {sub : Nat → Nat → Bool} {fuel : Nat} {x : Str} {i np : Nat} {shapes : List (Nat × List Str × Arr)} (F : FnSt W gl fns x i np shapes) : GvOk W 0 (evk fns sub fuel 0) x (.fn i np shapes) := by
  obtain ⟨f, fd, ps, N, y, qual, params, body, scope, dvs, kws, code, h1, h2, FD, S, ha, hf, hcd, hsh⟩ := F.ex
  exact ⟨f, fd, ps, h1, FD.kp, h2, ⟨fun vs H Q E ⟨m, h, ds, r, d, l, z⟩ => by rw [← d.length, l, h2], fun A outer s H args us vs Q E hr e0 hb hv ⟨m, h, ds, r, d, l, z⟩ => False.elim z⟩, hsh⟩
theorem s0_level {W : WD} {gl : List (Str × Gv)} {fns : List FnC} {sub : Nat → Nat → Bool} {fuel k : Nat} (hg : ∀ x v, gl.lookup x = some v → GvOk W k (evk fns sub fuel k) x v) (hc : ∀ c Ca, W.G.cl c = some Ca → ClsOk W (evk fns sub fuel k) c Ca) {f : Addr} {fd : FuncData} {ps : List Str} {i np : Nat} (F : FnS0 W gl fns f fd ps i np) :
    ps.length = np ∧ FnOk W.P W.w W.G.K W.mg W.base (L2.CX W.P W.w) (3 * (k + 1)) f fd ps (spF W.G np (callI fns sub fuel (k + 1) i)) := by
  obtain ⟨N, y, qual, params, body, scope, dvs, kws, code, h2, FD, S, ha, hf, hcd⟩ := F.ex
  exact ⟨h2, fn_body hg hc h2 FD S ha hf hcd⟩
theorem s0_zero {W : WD} {gl : List (Str × Gv)} {fns : List FnC} {sub : Nat → Nat → Bool} {fuel : Nat} {f : Addr} {fd : FuncData} {ps : List Str} {i np : Nat} (F : FnS0 W gl fns f fd ps i np) :
    ps.length = np ∧ FnOk W.P W.w W.G.K W.mg W.base (L2.CX W.P W.w) (3 * 0) f fd ps (spF W.G np (callI fns sub fuel 0 i)) := by
  obtain ⟨N, y, qual, params, body, scope, dvs, kws, code, h2, FD, S, ha, hf, hcd⟩ := F.ex
  exact ⟨h2, ⟨fun vs H Q E ⟨m, h, ds, r, d, l, z⟩ => by rw [← d.length, l, h2], fun A outer s H args us vs Q E hr e0 hb hv ⟨m, h, ds, r, d, l, z⟩ => False.elim z⟩⟩
theorem levels {W : WD} {gl : List (Str × Gv)} {fns : List FnC} {sub : Nat → Nat → Bool} {fuel : Nat} (hs : ∀ x v, gl.lookup x = some v → GvSt W gl fns x v) (hc : ∀ k c Ca, W.G.cl c = some Ca → ClsOk W (evk fns sub fuel k) c Ca) : ∀ k x v, gl.lookup x = some v → GvOk W k (evk fns sub fuel k) x v
  | 0, x, v, e => by
    have h := hs x v e
    cases v with
    | fn i np shapes => exact fn_zero h
    | own C i np =>
      obtain ⟨Ca, f, fd, ps, h1, h2, h3, h4, h5⟩ := h
      obtain ⟨a1, a2⟩ := s0_zero (sub := sub) (fuel := fuel) h5
      exact ⟨Ca, f, fd, ps, h1, h2, h3, a1, a2, h4⟩
    | met C i np m =>
      obtain ⟨Ca, f, fd, ps, h1, h2, h3, h4, h5⟩ := h
      obtain ⟨a1, a2⟩ := s0_zero (sub := sub) (fuel := fuel) h5
      exact ⟨Ca, f, fd, ps, h1, h2, h3, a1, a2, h4⟩
    | _ => exact h
  | k + 1, x, v, e => by
    have h := hs x v e
    cases v with
    | fn i np shapes => exact fn_level (levels hs hc k) (hc k) h
    | own C i np =>
      obtain ⟨Ca, f, fd, ps, h1, h2, h3, h4, h5⟩ := h
      obtain ⟨a1, a2⟩ := s0_level (levels hs hc k) (hc k) h5
      exact ⟨Ca, f, fd, ps, h1, h2, h3, a1, a2, h4⟩
    | met C i np m =>
      obtain ⟨Ca, f, fd, ps, h1, h2, h3, h4, h5⟩ := h
      obtain ⟨a1, a2⟩ := s0_level (levels hs hc k) (hc k) h5
      exact ⟨Ca, f, fd, ps, h1, h2, h3, a1, a2, h4⟩
    | _ => exact h
end PV
/-! PVO: the head's facts, the end. -/
namespace PV
open PySem PySem.Spec PyProof.Rows L2
theorem fnScope_by {N P : List Str} {sc : Scope} (h : C8.scC N P sc = true) : FnScope N P sc := C8.fnScope_by h
/-! ### how a call is bound -/
abbrev ArrN := List (Sum (Sum Nat Nat) Nat)
def arrU (its : List Value) (arr : ArrN) (us ws : List Value) : List Value := arr.map fun a => match a with
  | .inl (.inl i) => us.getD i .none
  | .inl (.inr i) => ws.getD i .none
  | .inr j => its.getD j .none
def arrOf (dd : List D) (arr : ArrN) : Arr := arr.map fun a => match a with
  | .inl i => .inl i
  | .inr j => .inr (dd.getD j .non)
theorem vals_getD {vs : List V} {us : List Value} (r : Vals vs us) : ∀ i, RelV (vs.getD i .non) (us.getD i .none) := by
  induction r with
  | nil => intro i; cases i <;> rfl
  | cons a _ ih =>
    intro i
    cases i with
    | zero => exact a
    | succ i => simpa using ih i
theorem arr_vals {dd : List D} {dvs : List V} {its : List Value} (hd : dvs = dd.map toV) (r0 : Vals dvs its) {vs : List V} {us : List Value} {zs : List V} {ws : List Value} (r1 : Vals vs us) (r2 : Vals zs ws) : ∀ arr : ArrN, Vals (arrV (arrOf dd arr) vs zs) (arrU its arr us ws)
  | [] => .nil
  | a :: r => by
    refine .cons ?_ (arr_vals hd r0 r1 r2 r)
    match a with
    | .inl (.inl i) => exact vals_getD r1 i
    | .inl (.inr i) => exact vals_getD r2 i
    | .inr j =>
      have h := vals_getD r0 j
      rw [hd] at h
      have e : (dd.map toV).getD j .non = toV (dd.getD j .non) := by
        rw [List.getD_eq_getElem?_getD, List.getD_eq_getElem?_getD, List.getElem?_map]
        cases dd[j]? <;> rfl
      rw [e] at h
      exact h
section
variable {K : PySem.W.Frag} {x qual : Str} {params : Arguments} {body : List Stmt} {scope : Scope} {dvs : List V} {kws : List (Str × V)} {f : Addr} {fd : FuncData} {ps : List Str}
theorem kb_A (F : FunD K x qual params body scope [] kws f fd) {n : Nat} {ks : List Str} (arr : ArrN) (h : ∀ (kV doc pm : Value) (an : Option Addr) (cdv ct : Value) (us ws : List Value), us.length = n → ws.length = ks.length → bindArgs (PySem.W.fnOf x qual params body scope .none kV doc pm an cdv ct) ⟨us, ks.zip ws⟩ = pure (ps.zip (arrU [] arr us ws))) : ∃ g, KBn K fd ps n ks g (arrV (arrOf [] arr)) := by
  obtain ⟨oc, od, dV, kV, doc, pm, an, cdv, ct, osl, rfl, lk, hcd, hD, hK⟩ := F.ex
  rcases hD with ⟨_, rfl⟩ | ⟨e, _⟩
  · exact ⟨_, fun s us ws X l1 l2 => .of_eq (h kV doc pm an cdv ct us ws l1 l2), fun r1 r2 => arr_vals rfl .nil r1 r2 arr⟩
  · exact absurd rfl e
theorem kb_B (F : FunD K x qual params body scope dvs kws f fd) {n : Nat} {ks : List Str} (dd : List D) (arr : ArrN) (hne : dd ≠ []) (hd : dvs = dd.map toV) (h : ∀ (T : Addr) (kV doc pm : Value) (an : Option Addr) (cdv ct : Value) (us ws its : List Value), us.length = n → ws.length = ks.length → its.length = dd.length →
      ∃ k, bindArgs (PySem.W.fnOf x qual params body scope (.ref T) kV doc pm an cdv ct) ⟨us, ks.zip ws⟩ = seqItems? (.ref T) >>= k ∧ k (some its.toArray) = pure (ps.zip (arrU its arr us ws))) : ∃ g, KBn K fd ps n ks g (arrV (arrOf dd arr)) := by
  obtain ⟨oc, od, dV, kV, doc, pm, an, cdv, ct, osl, rfl, lk, hcd, hD, hK⟩ := F.ex
  rcases hD with ⟨e, _⟩ | ⟨_, T, o, its, m, rfl, lT, oT, rT⟩
  · rw [hd] at e
    exact absurd (List.map_eq_nil_iff.mp e) hne
  · refine ⟨_, fun s us ws X l1 l2 => ?_, fun r1 r2 => arr_vals hd rT r1 r2 arr⟩
    obtain ⟨k, e1, e2⟩ := h T kV doc pm an cdv ct us ws its l1 l2 (by rw [← rT.length, hd, List.length_map])
    refine BindsTo.of_looks fun M => ?_
    rw [e1]
    exact looks_items X lT oT (.of_pure e2)
/-- keyword-only parameters; ms: those that lack (no positional defaults) -/
theorem kb_K (F : FunD K x qual params body scope [] kws f fd) {n : Nat} {ks : List Str} (ms : List (Str × D)) (arr : ArrN) (hk : kws ≠ []) (hms : ∀ q ∈ ms.map (fun q => (q.1, toV q.2)), q ∈ kws) (h : ∀ (T : Addr) (doc pm : Value) (an : Option Addr) (cdv ct : Value) (us ws mv : List Value), us.length = n → ws.length = ks.length → mv.length = ms.length →
      KwChain T ((ms.map (·.1)).zip mv) (bindArgs (PySem.W.fnOf x qual params body scope .none (.ref T) doc pm an cdv ct) ⟨us, ks.zip ws⟩) (ps.zip (arrU mv arr us ws))) : ∃ g, KBn K fd ps n ks g (arrV (arrOf (ms.map (·.2)) arr)) := by
  obtain ⟨oc, od, dV, kV, doc, pm, an, cdv, ct, osl, rfl, lk, hcd, hD, hK⟩ := F.ex
  rcases hD with ⟨_, rfl⟩ | ⟨e, _⟩
  · rcases hK with e | ⟨T, rfl, hq⟩
    · exact absurd e hk
    · obtain ⟨mv, hl, rk, hks⟩ := kwd_vals (ms := ms.map (fun q => (q.1, toV q.2))) fun q hm => hq q (hms q hm)
      rw [List.length_map] at hl
      have e1 : (ms.map (fun q => (q.1, toV q.2))).map (·.1) = ms.map (·.1) := by rw [List.map_map]; rfl
      have e2 : (ms.map (fun q => (q.1, toV q.2))).map (·.2) = (ms.map (·.2)).map toV := by rw [List.map_map, List.map_map]; rfl
      rw [e1] at hks
      exact ⟨_, fun s us ws X l1 l2 => BindsTo.of_looks fun M => KwChain.looks X hks (h T doc pm an cdv ct us ws mv l1 l2 hl), fun r1 r2 => arr_vals e2 rk r1 r2 arr⟩
  · exact absurd rfl e
end
/-! ### the law's data -/
structure LawD where
  gl : List (Str × Gv)
  fns : List FnC
  sub : Nat → Nat → Bool
  cls : List Str
  dd : List He.DefD
  own : List Str := []
  dct : List (Str × List (Str × D)) := []
/-- the module's dicts, for the head -/
def tabsOf (L : LawD) : List He.Tab := L.dct.map fun q => ((fun K => He.ga K q.1), q.2.map (·.1))
def gwOf (cls own : List Str) (K : PySem.W.Frag) : GW := ⟨K, fun c => (cls[c]?).map fun x => He.ga K x, fun c => (own[c]?).map fun x => He.ga K x, []⟩
def wdOf (L : LawD) (P : Program) (w : World) (K : PySem.W.Frag) (mg : Str → Option Value) (base : Heap) : WD := ⟨P, w, mg, base, gwOf L.cls L.own K, 0⟩
/-- what is said of a def -/
structure DefOk (L : LawD) (d : He.DefD) (i np : Nat) (shapes : List (Nat × List Str × Arr)) : Prop where
  ex : ∃ (ps N : List Str) (code : QSs), ps.length = np ∧ FnScope N ps d.scope ∧ asOk d.scope = true ∧ L.fns[i]? = some ⟨np, N.length, code⟩ ∧ cSs 40 ⟨N, d.scope, asOf d.scope.names, L.gl, false, none⟩ d.body = some code ∧
    ∀ (K : PySem.W.Frag) (f : Addr) (fd : FuncData), FunD K d.name d.qual d.params d.body d.scope (d.dvs K) (d.kws K) f fd → ∀ n ks arr, (n, ks, arr) ∈ shapes → arr.length = np ∧ arrFlat arr = true ∧ ∃ g, KBn K fd ps n ks g (arrV arr)
/-- what is said of a method: all its parameters are given -/
structure MetOk (L : LawD) (d : He.DefD) (i np : Nat) : Prop where
  ex : ∃ (ps N : List Str) (code : QSs), ps.length = np ∧ FnScope N ps d.scope ∧ asOk d.scope = true ∧ L.fns[i]? = some ⟨np, N.length, code⟩ ∧ cSs 40 ⟨N, d.scope, asOf d.scope.names, L.gl, false, none⟩ d.body = some code ∧
    ∀ (K : PySem.W.Frag) (f : Addr) (fd : FuncData), FunD K d.name d.qual d.params d.body d.scope (d.dvs K) (d.kws K) f fd → Binds K fd ps []
/-- what is said of the __init__ of an own exception -/
structure InitOk (d : He.DefD) (fs : List Str) : Prop where
  ex : ∀ (P : Program) (w : World) (K : PySem.W.Frag) (mg : Str → Option Value) (base : Heap) (Ca f : Addr) (fd : FuncData), FunD K d.name d.qual d.params d.body d.scope (d.dvs K) (d.kws K) f fd → OexC K Ca → (∀ g ∈ fs, PySem.W.findIn K (.ref Ca) g = some none) →
    ∃ ps, FnOk P w K mg base (L2.CX P w) 1 f fd ps (spI Ca fs) ∧ Binds K fd ps []
def GvT (L : LawD) (x : Str) : Gv → Prop
  | .xin c fs => ∃ d y, d ∈ L.dd ∧ L.cls[c]? = some y ∧ d.at_ = (y, some ("__init__" : Str)) ∧ InitOk d fs
  | .dct kvs => (x, kvs) ∈ L.dct
  | .fn i np shapes => ∃ d, L.dd[i]? = some d ∧ d.at_ = (x, none) ∧ DefOk L d i np shapes
  | .own C i np => ∃ d, L.dd[i]? = some d ∧ d.at_ = (x, some ("__init__" : Str)) ∧ MetOk L d i np
  | .met C i np m => ∃ d y, L.dd[i]? = some d ∧ L.own[C]? = some y ∧ d.at_ = (y, some m) ∧ MetOk L d i np
  | _ => True
def AllT (L : LawD) : List (Str × Gv) → Prop
  | [] => True
  | p :: r => GvT L p.1 p.2 ∧ AllT L r
theorem allT_mem {L : LawD} : ∀ {l : List (Str × Gv)} {x : Str} {v : Gv}, AllT L l → l.lookup x = some v → GvT L x v
  | [], _, _, _, e => by cases e
  | (y, u) :: r, x, v, h, e => by
    rw [List.lookup_cons] at e
    split at e
    · rename_i q
      cases e
      rw [beq_iff_eq.mp q]
      exact h.1
    · exact allT_mem h.2 e
mutual
def dB (K : PySem.W.Frag) : D → Value → Bool
  | .non, .none => true
  | .bl a, .bool b => a == b
  | .int i, .int j _ => decide (i = j)
  | .str x, .str y _ => decide (x = y)
  | .tup ds, .ref T => match K.lookup T with
    | some ⟨.type c, _, .seq its _, _⟩ => decide (c = "tuple") && (decide (its.size ≤ sizeLine) && dBs K ds its.toList)
    | _ => false
  | _, _ => false
def dBs (K : PySem.W.Frag) : List D → List Value → Bool
  | [], [] => true
  | d :: ds, u :: us => dB K d u && dBs K ds us
  | _, _ => false
end
mutual
theorem dB_ok {K : PySem.W.Frag} : ∀ {d : D} {u : Value}, dB K d u = true → ∃ v, RelV v u ∧ ∀ m H, DR K m H d v
  | .non, u, h => by cases u <;> first | exact ⟨.non, rfl, fun _ _ => .non⟩ | simp [dB] at h
  | .bl a, u, h => by
    cases u with
    | bool b =>
      have e : a = b := by simpa [dB] using h
      exact ⟨.bl a, by rw [e]; rfl, fun _ _ => .bl a⟩
    | _ => simp [dB] at h
  | .int i, u, h => by
    cases u with
    | int j t =>
      have e : i = j := by simpa [dB] using h
      exact ⟨.int i, ⟨t, by rw [e]⟩, fun _ _ => .int i⟩
    | _ => simp [dB] at h
  | .str i, u, h => by
    cases u with
    | str j t =>
      have e : i = j := by simpa [dB] using h
      exact ⟨.str i, ⟨t, by rw [e]⟩, fun _ _ => .str i⟩
    | _ => simp [dB] at h
  | .tup ds, u, h => by
    cases u with
    | ref T =>
      unfold dB at h
      split at h
      · rename_i c dx its n sl q
        simp only [Bool.and_eq_true, decide_eq_true_eq] at h
        obtain ⟨vs, rv, rd⟩ := dBs_ok h.2.2
        exact ⟨.ref T, rfl, fun m H => .tup (.inr ⟨_, its, n, q, congrArg Value.type h.1, rfl, h.2.1, rv⟩) (rd m H)⟩
      · cases h
    | _ => simp [dB] at h
  | .fl _, u, h => by cases u <;> simp [dB] at h
  | .ref _, u, h => by cases u <;> simp [dB] at h
theorem dBs_ok {K : PySem.W.Frag} : ∀ {ds : List D} {us : List Value}, dBs K ds us = true → ∃ vs, Vals vs us ∧ ∀ m H, DRs K m H ds vs
  | [], [], _ => ⟨[], .nil, fun _ _ => .nil⟩
  | [], _ :: _, h => by simp [dBs] at h
  | _ :: _, [], h => by simp [dBs] at h
  | d :: ds, u :: us, h => by
    unfold dBs at h
    rw [Bool.and_eq_true] at h
    obtain ⟨v, r1, d1⟩ := dB_ok h.1
    obtain ⟨vs, r2, d2⟩ := dBs_ok h.2
    exact ⟨v :: vs, .cons r1 r2, fun m H => .cons (d1 m H) (d2 m H)⟩
end
def freeB (K : PySem.W.Frag) (x : Str) : Bool := He.eqO (PySem.W.nsIn K mainGlobals x) (some none)
def globB (K : PySem.W.Frag) (x : Str) : Bool := He.eqO (PySem.W.nsIn K mainGlobals x) (some (some (.ref (He.ga K x))))
/-- what is asked of an own class -/
def clsO (K : PySem.W.Frag) (C : Addr) : Bool := PySem.W.plainGet K C Str.empty && (PySem.W.hasDictIn K C && (PySem.W.plainOver K C && He.eqO (PySem.W.findIn K (.ref C) "__setattr__") (some (some (.builtin "object.__setattr__")))))
def metB (K : PySem.W.Frag) (C : Addr) (m : Str) : Bool := He.eqO (PySem.W.findIn K (.ref C) m) (some (some (.ref (He.ma K C m)))) && (PySem.W.isFn K (.ref (He.ma K C m)) && PySem.W.keepIn K (.ref (He.ma K C m)))
def mkB (K : PySem.W.Frag) (C : Addr) : Bool := PySem.W.makesIn K C && (PySem.W.keepIn K (.ref C) && metB K C "__init__")
/-- an own exception class with its own __init__ -/
def oexB1 (K : PySem.W.Frag) (C : Addr) : Bool := match K.lookup C with
  | some ⟨.type "type", _, .cls cd, sl⟩ => (match cd.mro, sl.toList with
    | .ref C' :: bm, [_, _, _, _, some (.builtin n), _] => C' == C && n == "ValueError.__new__" && !cd.hasDel && cd.hasDict && PySem.HandSPX.refsVE bm
    | _, _ => false)
  | _ => false
def oexB (K : PySem.W.Frag) (C : Addr) : Bool := oexB1 K C && (He.eqO (PySem.W.findIn K (.ref C) "__setattr__") (some (some (.builtin "object.__setattr__"))) && (decide (PySem.W.subIn K (.ref C) (.type "BaseException") = some true) && (decide (PySem.W.typeIn K (.ref C) = some (.type "type")) && PySem.W.keepIn K (.ref C))))
def xinB (K : PySem.W.Frag) (C : Addr) (fs : List Str) : Bool := oexB K C && (He.eqO (PySem.W.findIn K (.ref C) "__init__") (some (some (.ref (He.ma K C "__init__")))) && (decide (PySem.W.typeIn K (.ref (He.ma K C "__init__")) = some (.type "function")) && fs.all fun f => He.eqO (PySem.W.findIn K (.ref C) f) (some none)))
def keyN (e : DictEntry) : Option Str := match e.key with
  | .str x _ => some x
  | _ => none
def dctB (K : PySem.W.Frag) (a : Addr) (kvs : List (Str × D)) : Bool := (match K.lookup a with
  | some ⟨_, _, .dict es _, _⟩ => decide (es.toList.map keyN = kvs.map fun q => some q.1)
  | _ => false) && kvs.all fun q => flatD q.2 && (match PySem.W.nsIn K a q.1 with
    | some (some u) => dB K q.2 u
    | _ => false)
def gvB (cls own : List Str) (K : PySem.W.Frag) (x : Str) : Gv → Bool
  | .con d => match PySem.W.nsIn K mainGlobals x with
    | some (some u) => dB K d u
    | _ => false
  | .fn _ _ _ => globB K x
  | .bi .gcd => He.eqO (PySem.W.nsIn K mainGlobals x) (some (some (.builtin "math.gcd")))
  | .exc c fs => decide (cls[c]? = some x) && globB K x && (!fs.isEmpty || PySem.W.excIn K (He.ga K x) He.veBase "ValueError.__new__")
  | .own C _ _ => decide (own[C]? = some x) && (globB K x && mkB K (He.ga K x))
  | .met C _ _ m => (match own[C]? with
    | some y => clsO K (He.ga K y) && metB K (He.ga K y) m
    | none => false)
  | .dct kvs => globB K x && dctB K (He.ga K x) kvs
  | .xin c fs => (match cls[c]? with
    | some y => xinB K (He.ga K y) fs
    | none => false)
  | .flds fs => own.all fun y => clsO K (He.ga K y) && fs.all fun f => He.eqO (PySem.W.findIn K (.ref (He.ga K y)) f) (some none)
  | _ => freeB K x
def bootB (x : Str) : Gv → Bool
  | .bi .gcd => true
  | .bi b => He.eqO (some (bootBuiltins x)) (some (some b.val))
  | .ty t => He.eqO (some (bootBuiltins x)) (some (some (.type t.nm)))
  | .isi => He.eqO (some (bootBuiltins x)) (some (some (.builtin "isinstance")))
  | .rng => decide (x = "range")
  | .zip => decide (x = "zip")
  | .enum => decide (x = "enumerate")
  | _ => true
def clsB1 (K : PySem.W.Frag) (C : Addr) : Bool := PySem.W.keepIn K (.ref C) && (He.eqO (PySem.W.findIn K (.ref C) "__getattribute__") (some (some (.builtin "BaseException.__getattribute__"))) && (He.eqO (PySem.W.findIn K (.ref C) "__getattr__") (some none) && (decide (PySem.W.subIn K (.ref C) (.type "BaseException") = some true) &&
  (PySem.W.hasDictIn K C && (He.eqO (PySem.W.findIn K (.ref C) "__class__") (some (some (.builtin "object.__class__"))) && (He.eqO (PySem.W.specialIn K (.builtin "object.__class__") "__get__") (some (some (.builtin "getset_descriptor.__get__"))) && (decide (PySem.W.takesIn K (.builtin "object.__class__") = some true) &&
  (decide (PySem.W.mroIn K C (.type "object") = some true) && (decide (PySem.W.typeIn K (.ref C) = some (.type "type")) && xFlds.all fun f => He.eqO (PySem.W.findIn K (.ref C) f) (some none))))))))))
/-- pairs of classes, numbered -/
def clsB2 (K : PySem.W.Frag) (sub : Nat → Nat → Bool) (cls : List Str) (c : Nat) (C : Addr) : Bool := (List.range cls.length).all fun d => match cls[d]? with
  | some y => decide (PySem.W.exmOne K (.ref C) (.ref (He.ga K y)) = some (sub c d)) && decide (PySem.W.kitOne K (.ref C) (.ref (He.ga K y)) = some (sub c d))
  | none => false
def clsB (K : PySem.W.Frag) (sub : Nat → Nat → Bool) (cls : List Str) : Bool := (List.range cls.length).all fun c => match cls[c]? with
  | some x => clsB1 K (He.ga K x) && clsB2 K sub cls c (He.ga K x)
  | none => false
/-- what the head's run is to tell -/
def exB (L : LawD) (K : PySem.W.Frag) : Bool := (L.gl.all fun p => gvB L.cls L.own K p.1 p.2) && clsB K L.sub L.cls
section
variable {L : LawD} {P : Program} {w : World} {K : PySem.W.Frag} {mg : Str → Option Value} {base : Heap}
theorem cls_ok (h : clsB K L.sub L.cls = true) (ev : Ev) (hs : ev.sub = L.sub) (c : Nat) (Ca : Addr) (e : (gwOf L.cls L.own K).cl c = some Ca) : ClsOk (wdOf L P w K mg base) ev c Ca := by
  have e : ((L.cls[c]?).map fun x => He.ga K x) = some Ca := e
  cases e1 : L.cls[c]? with
  | none => rw [e1] at e; cases e
  | some x =>
    rw [e1] at e
    cases e
    have hc : c ∈ List.range L.cls.length := List.mem_range.mpr (List.getElem?_eq_some_iff.mp e1).1
    have h1 := List.all_eq_true.mp h c hc
    rw [e1] at h1
    have h1 : (clsB1 K (He.ga K x) && clsB2 K L.sub L.cls c (He.ga K x)) = true := h1
    rw [Bool.and_eq_true] at h1
    obtain ⟨h2, h3⟩ := h1
    unfold clsB1 at h2
    simp only [Bool.and_eq_true, decide_eq_true_eq] at h2
    obtain ⟨a1, a2, a3, a4, a5, a6, a7, a8, a9, a10, a11⟩ := h2
    have pair : ∀ d Da, (gwOf L.cls L.own K).cl d = some Da → PySem.W.exmOne K (.ref (He.ga K x)) (.ref Da) = some (L.sub c d) ∧ PySem.W.kitOne K (.ref (He.ga K x)) (.ref Da) = some (L.sub c d) := fun d Da ed => by
      have ed : ((L.cls[d]?).map fun x => He.ga K x) = some Da := ed
      cases e2 : L.cls[d]? with
      | none => rw [e2] at ed; cases ed
      | some y =>
        rw [e2] at ed
        cases ed
        have hd : d ∈ List.range L.cls.length := List.mem_range.mpr (List.getElem?_eq_some_iff.mp e2).1
        have h4 := List.all_eq_true.mp h3 d hd
        rw [e2] at h4
        simpa using h4
    exact ⟨a1, ⟨He.eqO_ok a2, He.eqO_ok a3, a4, a5, He.eqO_ok a6, He.eqO_ok a7, a8, a9⟩, a10, fun d Da ed => by rw [hs]; exact (pair d Da ed).1, fun d Da ed => by rw [hs]; exact (pair d Da ed).2, fun f hf => He.eqO_ok (List.all_eq_true.mp a11 f hf)⟩
theorem free_of {h : Heap} (X : K.In h) (G : h.Ns mainGlobals mg) {x : Str} (c : freeB K x = true) : mg x = none := PySem.W.mg_none_of X G (He.eqO_ok c)
theorem glob_of {h : Heap} (X : K.In h) (G : h.Ns mainGlobals mg) {x : Str} (c : globB K x = true) : mg x = some (.ref (He.ga K x)) := PySem.W.mg_of X G (He.eqO_ok c)
theorem boot_of {x : Str} {u : Value} (h : He.eqO (some (bootBuiltins x)) (some (some u)) = true) : bootBuiltins x = some u := Option.some.inj (He.eqO_ok h)
theorem clsO_ok {C : Addr} (h : clsO K C = true) : Cls K C := by
  unfold clsO at h
  simp only [Bool.and_eq_true] at h
  exact ⟨h.1, h.2.1, h.2.2.1, He.eqO_ok h.2.2.2⟩
theorem metB_ok {C : Addr} {m : Str} (h : metB K C m = true) : Meth K C m (He.ma K C m) := by
  unfold metB at h
  simp only [Bool.and_eq_true] at h
  exact ⟨He.eqO_ok h.1, h.2.1, h.2.2⟩
theorem oexB1_ok {C : Addr} (h : oexB1 K C = true) : ∃ nm q N bs bm sn sub ab col dd k0 k1 k2 k3 k5, K.lookup C = some (excClassObj nm q C N bs bm true sn sub ab col dd k0 k1 k2 k3 k5 "ValueError.__new__") ∧ PySem.HandSPX.refsVE bm = true := by
  unfold oexB1 at h
  split at h
  · rename_i dd cd sl ho
    split at h
    · rename_i C' bm k0 k1 k2 k3 n k5 hm hs
      simp only [Bool.and_eq_true, beq_iff_eq, Bool.not_eq_true'] at h
      obtain ⟨⟨⟨⟨rfl, rfl⟩, del⟩, dict⟩, tail⟩ := h
      obtain ⟨nm, bs, mro, ns, qn, hd, sn, sub, ab, col, dl⟩ := cd
      dsimp only at hm del dict
      subst hm del dict
      obtain ⟨l⟩ := sl
      simp only at hs
      subst hs
      exact ⟨nm, qn, ns, bs, bm, sn, sub, ab, col, dd, k0, k1, k2, k3, k5, ho, tail⟩
    · cases h
  · cases h
theorem oexB_ok {C : Addr} (h : oexB K C = true) : OexC K C := by
  unfold oexB at h
  simp only [Bool.and_eq_true, decide_eq_true_eq] at h
  exact ⟨oexB1_ok h.1, He.eqO_ok h.2.1, h.2.2.1, h.2.2.2.1, h.2.2.2.2⟩
theorem keys_find {z : Str} : ∀ {l : List DictEntry} {ks : List Str}, l.map keyN = ks.map some → z ∉ ks → l.find? (·.key.isStr z) = none ∧ l.any (·.refKey) = false
  | [], _, _, _ => ⟨rfl, rfl⟩
  | e :: r, [], h, _ => by cases h
  | e :: r, k :: ks, h, hz => by
    have h1 : keyN e :: r.map keyN = some k :: ks.map some := h
    injection h1 with h2 h3
    obtain ⟨i1, i2⟩ := keys_find h3 fun m => hz (List.mem_cons_of_mem _ m)
    unfold keyN at h2
    split at h2
    · rename_i y t q
      cases h2
      have ne : (k == z) = false := beq_false_of_ne fun w => hz (by rw [w]; exact List.mem_cons_self)
      refine ⟨?_, ?_⟩
      · rw [List.find?_cons, q]
        show (match (k == z) with
          | true => some e
          | false => r.find? fun x => x.key.isStr z) = none
        rw [ne]
        exact i1
      · rw [List.any_cons, i2, Bool.or_false]
        unfold DictEntry.refKey
        rw [q]
    · cases h2
theorem lookup_none {z : Str} : ∀ {kvs : List (Str × D)}, kvs.lookup z = none → z ∉ kvs.map (·.1)
  | [], _ => by simp
  | (k, d) :: r, h => by
    rw [List.lookup_cons] at h
    cases q : z == k with
    | true => rw [q] at h; cases h
    | false =>
      rw [q] at h
      have := lookup_none h
      intro m
      rcases List.mem_cons.mp m with rfl | m
      · simp at q
      · exact this m
theorem dct_ok {a : Addr} {es : Array DictEntry} {n : Nat} {kvs : List (Str × D)} (kd : KDict K w a es n) (h : dctB K a kvs = true) (z : Str) : match kvs.lookup z with
    | some d => flatD d = true ∧ ∃ u, PySem.W.nsIn K a z = some (some u) ∧ RelV (toV d) u
    | none => PySem.W.nsIn K a z = some none := by
  unfold dctB at h
  rw [Bool.and_eq_true] at h
  obtain ⟨h1, h2⟩ := h
  rw [kd.at_] at h1
  have h1 : es.toList.map keyN = kvs.map fun q => some q.1 := of_decide_eq_true h1
  cases e : kvs.lookup z with
  | none =>
    show PySem.W.nsIn K a z = some none
    have h1 : es.toList.map keyN = (kvs.map (·.1)).map some := by rw [h1, List.map_map]; rfl
    obtain ⟨f1, f2⟩ := keys_find h1 (lookup_none e)
    unfold PySem.W.nsIn
    rw [kd.at_]
    show (match es.toList.find? (·.key.isStr z) with
      | some e => some (some e.val)
      | none => if es.toList.any (·.refKey) then none else some none) = some none
    rw [f1, f2]
    rfl
  | some d =>
    have b := List.all_eq_true.mp h2 _ (PySem.mem_of_lookup e)
    rw [Bool.and_eq_true] at b
    refine ⟨b.1, ?_⟩
    have b2 := b.2
    split at b2
    · rename_i u e2
      obtain ⟨v, r1, r2⟩ := dB_ok b2
      have := (r2 [] (fun _ => none)).flat b.1
      subst this
      exact ⟨u, e2, r1⟩
    · cases b2
theorem gv_ok {h : Heap} (X : K.In h) (G : h.Ns mainGlobals mg) {x : Str} {v : Gv} (b : gvB L.cls L.own K x v = true) (bb : bootB x v = true) (t : GvT L x v) (defs : ∀ d ∈ L.dd, ∃ fd, FunD K d.name d.qual d.params d.body d.scope (d.dvs K) (d.kws K) (He.fAd K d.at_) fd) (tabs : ∀ q ∈ L.dct, ∃ es n, KDict K w (He.ga K q.1) es n) : GvSt (wdOf L P w K mg base) L.gl L.fns x v := by
  cases v with
  | con d =>
    change (match (generalizing := false) PySem.W.nsIn K mainGlobals x with
      | some (some u) => dB K d u
      | _ => false) = true at b
    split at b
    · rename_i u e
      obtain ⟨v, r1, r2⟩ := dB_ok b
      exact ⟨u, v, PySem.W.mg_of X G e, r1, r2⟩
    · cases b
  | fn i np shapes =>
    obtain ⟨d, e1, e2, ok⟩ := t
    obtain ⟨ps, N, code, o1, o2, o3, o4, o5, o6⟩ := ok.ex
    obtain ⟨fd, FD⟩ := defs d (List.mem_of_getElem? e1)
    have e3 : He.fAd K d.at_ = He.ga K x := by rw [e2]; rfl
    rw [e3] at FD
    exact ⟨He.ga K x, fd, ps, N, d.name, d.qual, d.params, d.body, d.scope, d.dvs K, d.kws K, code, glob_of X G b, o1, FD, o2, o3, o4, o5, o6 K _ fd FD⟩
  | bi bi =>
    cases bi with
    | gcd => exact PySem.W.mg_of X G (He.eqO_ok b)
    | _ => exact ⟨free_of X G b, boot_of bb⟩
  | ty t => exact ⟨free_of X G b, boot_of bb⟩
  | isi => exact ⟨free_of X G b, boot_of bb⟩
  | rng => exact ⟨of_decide_eq_true bb, free_of X G b⟩
  | zip => exact ⟨of_decide_eq_true bb, free_of X G b⟩
  | enum => exact ⟨of_decide_eq_true bb, free_of X G b⟩
  | dct kvs =>
    have b : (globB K x && dctB K (He.ga K x) kvs) = true := b
    rw [Bool.and_eq_true] at b
    obtain ⟨es, n, kd⟩ := tabs _ t
    exact ⟨He.ga K x, es, n, glob_of X G b.1, kd, fun z => dct_ok kd b.2 z⟩
  | xin c fs =>
    obtain ⟨d, y, e1, ey, e2, ok⟩ := t
    obtain ⟨fd, FD⟩ := defs d e1
    have e3 : He.fAd K d.at_ = He.ma K (He.ga K y) "__init__" := by rw [e2]; rfl
    rw [e3] at FD
    have b : (match L.cls[c]? with
      | some y => xinB K (He.ga K y) fs
      | none => false) = true := b
    rw [ey] at b
    have b : xinB K (He.ga K y) fs = true := b
    unfold xinB at b
    simp only [Bool.and_eq_true, decide_eq_true_eq] at b
    have T := oexB_ok b.1
    obtain ⟨ps, F1, B⟩ := ok.ex P w K mg base (He.ga K y) _ fd FD T fun g hg => He.eqO_ok (List.all_eq_true.mp b.2.2.2 g hg)
    refine ⟨He.ga K y, He.ma K (He.ga K y) "__init__", fd, ps, ?_, T, He.eqO_ok b.2.1, b.2.2.1, F1, B⟩
    show ((L.cls[c]?).map fun x => He.ga K x) = _
    rw [ey]
    rfl
  | own C i np =>
    obtain ⟨d, e1, e2, ok⟩ := t
    obtain ⟨ps, N, code, o1, o2, o3, o4, o5, o6⟩ := ok.ex
    obtain ⟨fd, FD⟩ := defs d (List.mem_of_getElem? e1)
    have e3 : He.fAd K d.at_ = He.ma K (He.ga K x) "__init__" := by rw [e2]; rfl
    rw [e3] at FD
    have b : (decide (L.own[C]? = some x) && (globB K x && mkB K (He.ga K x))) = true := b
    simp only [Bool.and_eq_true, decide_eq_true_eq] at b
    have b2 := b.2.2
    unfold mkB at b2
    simp only [Bool.and_eq_true] at b2
    have me := metB_ok b2.2.2
    refine ⟨He.ga K x, He.ma K (He.ga K x) "__init__", fd, ps, glob_of X G b.2.1, ?_, ⟨b2.1, me.at_, me.fn, b2.2.1⟩, o6 K _ fd FD, ⟨N, d.name, d.qual, d.params, d.body, d.scope, d.dvs K, d.kws K, code, o1, FD, o2, o3, o4, o5⟩⟩
    show ((L.own[C]?).map fun x => He.ga K x) = _
    rw [b.1]
    rfl
  | met C i np m =>
    obtain ⟨d, y, e1, ey, e2, ok⟩ := t
    obtain ⟨ps, N, code, o1, o2, o3, o4, o5, o6⟩ := ok.ex
    obtain ⟨fd, FD⟩ := defs d (List.mem_of_getElem? e1)
    have e3 : He.fAd K d.at_ = He.ma K (He.ga K y) m := by rw [e2]; rfl
    rw [e3] at FD
    have b : (match L.own[C]? with
      | some y => clsO K (He.ga K y) && metB K (He.ga K y) m
      | none => false) = true := b
    rw [ey] at b
    have b : (clsO K (He.ga K y) && metB K (He.ga K y) m) = true := b
    rw [Bool.and_eq_true] at b
    refine ⟨He.ga K y, He.ma K (He.ga K y) m, fd, ps, ?_, clsO_ok b.1, metB_ok b.2, o6 K _ fd FD, ⟨N, d.name, d.qual, d.params, d.body, d.scope, d.dvs K, d.kws K, code, o1, FD, o2, o3, o4, o5⟩⟩
    show ((L.own[C]?).map fun x => He.ga K x) = _
    rw [ey]
    rfl
  | flds fs =>
    intro C Ca e
    have e : ((L.own[C]?).map fun x => He.ga K x) = some Ca := e
    cases e1 : L.own[C]? with
    | none => rw [e1] at e; cases e
    | some y =>
      rw [e1] at e
      cases e
      have b := List.all_eq_true.mp b y (List.mem_of_getElem? e1)
      rw [Bool.and_eq_true] at b
      exact ⟨clsO_ok b.1, fun f hf => He.eqO_ok (List.all_eq_true.mp b.2 f hf)⟩
  | exc c fs =>
    have b : (decide (L.cls[c]? = some x) && globB K x && (!fs.isEmpty || PySem.W.excIn K (He.ga K x) He.veBase "ValueError.__new__")) = true := b
    simp only [Bool.and_eq_true, decide_eq_true_eq] at b
    refine ⟨He.ga K x, glob_of X G b.1.2, ?_, fun e => ?_⟩
    · show ((L.cls[c]?).map fun x => He.ga K x) = _
      rw [b.1.1]
      rfl
    · have := b.2
      rw [e] at this
      have this : (!true || PySem.W.excIn K (He.ga K x) He.veBase "ValueError.__new__") = true := this
      have this : PySem.W.excIn K (He.ga K x) He.veBase "ValueError.__new__" = true := by simpa using this
      exact this
/-- the law's def, at every level -/
theorem law_fn {h : Heap} (X : K.In h) (G : h.Ns mainGlobals mg) (b : exB L K = true) (bb : (L.gl.all fun p => bootB p.1 p.2) = true) (t : AllT L L.gl) (defs : ∀ d ∈ L.dd, ∃ fd, FunD K d.name d.qual d.params d.body d.scope (d.dvs K) (d.kws K) (He.fAd K d.at_) fd) (tabs : ∀ q ∈ L.dct, ∃ es n, KDict K w (He.ga K q.1) es n) (fuel k : Nat) (x : Str) (v : Gv) (e : L.gl.lookup x = some v) :
    GvOk (wdOf L P w K mg base) k (evk L.fns L.sub fuel k) x v := by
  have hb : (L.gl.all fun p => gvB L.cls L.own K p.1 p.2) = true ∧ clsB K L.sub L.cls = true := by
    unfold exB at b
    rwa [Bool.and_eq_true] at b
  refine levels (fun x v e => ?_) (fun k c Ca ec => cls_ok hb.2 _ rfl c Ca ec) k x v e
  have hm := PySem.mem_of_lookup e
  exact gv_ok X G (List.all_eq_true.mp hb.1 _ hm) (List.all_eq_true.mp bb _ hm) (allT_mem t e) defs tabs
/-- the script, read-only -/
theorem frl_of {H : Hp} {a : Addr} {vs : List V} (o : Only H) (h : SqL K H a vs) : FrL K H a vs := by
  rcases h with (h | h) | h
  · rcases o a with z | ⟨ob, xs, z⟩
    · rw [z] at h; cases h
    · rw [z] at h; cases h
  · exact .inl h
  · exact .inr fun H' => .inr h
theorem ints_rel {m : List Addr} {H : Hp} : ∀ ns : List Int, DRs K m H (ns.map D.int) (ns.map V.int)
  | [] => .nil
  | n :: ns => .cons (.int n) (ints_rel ns)
/-- THE END: what the plain law says is what the law's row asks -/
theorem pv_walk {l : PySem.W.OpenLaw} {q : Program} {loose : List Str} {XP : (Str → Option Value) → Heap → Prop} {d : DefRec} {n nn fuel k i : Nat} {fa : List He.Fa} {x : Str} {N : List Str} {code : QSs} {dL : He.DefD}
    (hn : l.most = some n) (hn2 : n ≤ sizeLine) (hdf : d.params.defaults = []) (hnm : d.name = "law") (hr : Room (3 * (k + 1)) callerA) (bb : (L.gl.all fun p => bootB p.1 p.2) = true) (t : AllT L L.gl)
    (d1 : L.dd[i]? = some dL) (d2 : dL.at_ = (("law" : Str), none)) (d3 : dL.dfl = []) (S : FnScope N [x] dL.scope) (ha : asOk dL.scope = true) (hf : L.fns[i]? = some ⟨1, N.length, code⟩) (hcd : cSs 40 ⟨N, dL.scope, asOf dL.scope.names, L.gl, false, none⟩ dL.body = some code) (hgl : ∃ s, L.gl.lookup ("law" : Str) = some (.fn i 1 s))
    (hb : ∀ (kV doc pm : Value) (an : Option Addr) (cdv ct : Value) (us : List Value), us.length = 1 → bindArgs (PySem.W.fnOf dL.name dL.qual dL.params dL.body dL.scope .none kV doc pm an cdv ct) ⟨us, []⟩ = pure (([x] : List Str).zip us))
    (plain : ∀ ns : List Int, ns.length ≤ n → (∀ z ∈ ns, Builtin.Int.intBits z ≤ 1048576) → ∃ h', callI L.fns L.sub fuel (k + 1) i [.fl (ns.map D.int)] [] = .ok (.bl true) h') :
    PySem.W.WalkO q loose XP (He.hookX nn fa L.dd (tabsOf L) [] (exB L)).says l.row.toRowW d [] (fun f vs => PySem.call f vs) := by
  refine Att.attach_callB hn hdf fun w s₀ s₁ mg mb fa' o pm cd doc a vs ns G Y ho hd hcd' hmg hobj hints hlen hbits hg => ?_
  obtain ⟨K, KX, c⟩ := Y
  have defs : ∀ d ∈ L.dd, ∃ fd, FunD K d.name d.qual d.params d.body d.scope (d.dvs K) (d.kws K) (He.fAd K d.at_) fd := fun d hd => c.t.d.defs hd
  obtain ⟨fd, FD⟩ := defs dL (List.mem_of_getElem? d1)
  have tabs : ∀ q ∈ L.dct, ∃ es n, KDict K w (He.ga K q.1) es n := fun q hq => by
    obtain ⟨i, hi, e⟩ := List.getElem_of_mem hq
    have e1 : (tabsOf L)[i]? = some ((fun K => He.ga K q.1), q.2.map (·.1)) := by
      unfold tabsOf
      rw [List.getElem?_map, List.getElem?_eq_getElem hi, e]
      rfl
    exact c.t.tab i e1
  obtain ⟨sh, hgl⟩ := hgl
  have eB := c.more
  have eB2 : (L.gl.all fun p => gvB L.cls L.own K p.1 p.2) = true ∧ clsB K L.sub L.cls = true := by
    have eB := eB
    unfold exB at eB
    rwa [Bool.and_eq_true] at eB
  have glo : globB K "law" = true := List.all_eq_true.mp eB2.1 _ (PySem.mem_of_lookup hgl)
  have e3 : He.fAd K dL.at_ = fa' := by
    rw [d2]
    have h1 := glob_of KX G.T.g glo
    rw [hnm] at hmg
    have h2 := h1.symm.trans hmg
    exact Value.ref.inj (Option.some.inj h2)
  have e4 : dL.dvs K = [] := by
    unfold He.DefD.dvs
    rw [d3]
    rfl
  rw [e3, e4] at FD
  refine law_call (x := x) (CX := L2.CX l.prog w) (sp := spF (gwOf L.cls L.own K) 1 (callI L.fns L.sub fuel (k + 1) i)) KX G.T.g G.T.b G.T.builtins G.T.nolimit hg hobj hints (Nat.le_trans hlen hn2) hr (fun base Kb Gb => ?_) (fun s u => FD.bindsA (ps := [x]) hb s [u] rfl) (fun H hO hS => ?_) fun H e s' z => ?_
  · exact fn_body (W := wdOf L l.prog w K mg base) (law_fn KX G.T.g eB bb t defs tabs fuel k) (fun c Ca ec => cls_ok eB2.2 _ rfl c Ca ec) rfl FD S ha hf hcd
  · obtain ⟨h', e⟩ := plain ns hlen hbits
    refine ⟨[], [], [.fl (ns.map D.int)], ⟨rfl, List.nodup_nil, fun n c a e => by simp at e, fun p hp => by cases hp⟩, .cons (.fl (frl_of hO hS) (ints_rel ns)) .nil, rfl, ?_⟩
    rw [e]
    intro m' H' v st r dv
    cases dv
    rfl
  · exact cx_none z
where
  cx_none {P : Program} {w : World} {H : Hp} {s : Shared} {e : Value} {s' : Shared} : ¬ L2.CX P w [] H s (fun _ _ _ => False) e s' := fun z => by
    obtain ⟨_, _, _, _, _, _, _, _, _, _, _, _, z⟩ := z
    exact z
end
/-- the parameters of a def without defaults, all given -/
theorem bindM {K : PySem.W.Frag} {x qual : Str} {params : Arguments} {body : List Stmt} {scope : Scope} {f : Addr} {fd : FuncData} {ps : List Str} (F : FunD K x qual params body scope [] [] f fd)
    (h : ∀ (kV doc pm : Value) (an : Option Addr) (cdv ct : Value) (us : List Value), us.length = ps.length → bindArgs (PySem.W.fnOf x qual params body scope .none kV doc pm an cdv ct) ⟨us, []⟩ = pure (ps.zip us)) : Binds K fd ps [] := fun s us X l => by
  rw [List.append_nil] at l ⊢
  exact F.bindsA h s us l
end PV
/-! PVS: the plain side: steps of the pure evaluator. -/
namespace PV
open PySem
/-! ### a def's end -/
theorem keeps_pre : ∀ (n : Nat) (h l : Hd), keepsCells n h (h ++ l) = true
  | _, [], _ => rfl
  | n, c :: h, l => by
    show ((Cell.beq c c || Cell.lt n c) && keepsCells n h (h ++ l)) = true
    rw [Cell.beq_refl, keeps_pre n h l]
    rfl
/-- what was made on the way is dropped -/
theorem gc_app {h l : Hd} {d : D} (hd : D.lt h.length d = true) : gc h d (h ++ l) = .ok d h := by
  unfold gc gcOk
  rw [keeps_pre, hd]
  simp
theorem gc_same {h : Hd} {d : D} : gc h d h = .ok d h := by
  unfold gc
  split
  · simp
  · rfl
theorem gcE_app {h l : Hd} {e : Exn} (hd : fsLt h.length e.fs = true) : gcE h e (h ++ l) = .ex e h := by
  unfold gcE gcOk
  rw [keeps_pre, hd]
  simp
theorem gcE_same {h : Hd} {e : Exn} : gcE h e h = .ex e h := by
  unfold gcE
  split
  · simp
  · rfl
/-- how a def ends -/
def fin (h : Hd) : SOut → Out D
  | .rt d h' => gc h d h'
  | .nx _ h' => gc h .non h'
  | .ex e _ h' => gcE h e h'
  | _ => .no
@[simp] theorem fin_rt {h : Hd} {d : D} : fin h (.rt d h) = .ok d h := gc_same
@[simp] theorem fin_nx {h : Hd} {s : Sl} : fin h (.nx s h) = .ok .non h := gc_same
@[simp] theorem fin_ex {h : Hd} {s : Sl} {e : Exn} : fin h (.ex e s h) = .ex e h := gcE_same
abbrev evL (fns : List FnC) (sub : Nat → Nat → Bool) (fuel k : Nat) : Ev := ⟨callI fns sub fuel k, fuel, none, sub⟩
theorem call_eq {fns : List FnC} {sub : Nat → Nat → Bool} {fuel k f np nn : Nat} {code : QSs} {ds : List D} {h : Hd} (hf : fns[f]? = some ⟨np, nn, code⟩) (hl : ds.length = np) : callI fns sub fuel (k + 1) f ds h = fin h (exSs (evL fns sub fuel k) code (startD nn ds) h) := by
  unfold callI
  rw [hf]
  show (match decide (ds.length = np) with
    | false => Out.no
    | true => match exSs ⟨callI fns sub fuel k, fuel, none, sub⟩ code (startD nn ds) h with
      | .rt d h' => gc h d h'
      | .nx _ h' => gc h .non h'
      | .ex e _ h' => gcE h e h'
      | _ => .no) = _
  rw [decide_eq_true hl]
  cases exSs (evL fns sub fuel k) code (startD nn ds) h <;> rfl
/-! ### values -/
@[simp] theorem eqV_int (h : Hd) (a b : Int) : eqV h (.int a) (.int b) = some (decide (a = b)) := by
  simp [eqV, toPyT, toPyF, SeqAt.shaped, PyData.eqv, PyData.canLay0, PyData.depth]
  rfl
@[simp] theorem eqV_bl (h : Hd) (a b : Bool) : eqV h (.bl a) (.bl b) = some (a == b) := by
  simp [eqV, toPyT, toPyF, SeqAt.shaped, PyData.eqv, PyData.canLay0, PyData.depth]
@[simp] theorem bind_ok {α β : Type} (a : α) (h : Hd) (f : α → Hd → Out β) : (Out.ok a h).bind f = f a h := rfl
@[simp] theorem bind_ex {α β : Type} (e : Exn) (h : Hd) (f : α → Hd → Out β) : (Out.ex e h : Out α).bind f = .ex e h := rfl
@[simp] theorem st_ok {α : Type} (a : α) (h : Hd) (s : Sl) (f : α → Hd → SOut) : (Out.ok a h).st s f = f a h := rfl
@[simp] theorem st_ex {α : Type} (e : Exn) (h : Hd) (s : Sl) (f : α → Hd → SOut) : (Out.ex e h : Out α).st s f = .ex e s h := rfl
@[simp] theorem evL_call (fns : List FnC) (sub : Nat → Nat → Bool) (fuel k f : Nat) (ds : List D) (h : Hd) : (evL fns sub fuel k).call f ds h = callI fns sub fuel k f ds h := rfl
@[simp] theorem ret_true {α : Type} (a : α) (h : Hd) : ret true a h = .ok a h := rfl
/-! ### the code's rows, each wholly applied; what comes behind is named, so simp leaves it alone until it is its turn -/
section
variable (ev : Ev) (s : Sl) (h : Hd)
@[simp] theorem x_var (i : Nat) : evE ev (.var i) s h = (match s[i]? with
    | some (some d) => .ok d h
    | _ => .no) := rfl
@[simp] theorem x_con (d : D) : evE ev (.con d) s h = .ok d h := rfl
def y_bin2 (op : Operator) (x : D) : D → Hd → Out D := fun y h => binV op x y h
def y_bin (ev : Ev) (op : Operator) (b : QE) (s : Sl) : D → Hd → Out D := fun x h => (evE ev b s h).bind (y_bin2 op x)
@[simp] theorem y_bin_ (op : Operator) (b : QE) (x : D) : y_bin ev op b s x h = (evE ev b s h).bind (y_bin2 op x) := rfl
@[simp] theorem y_bin2_ (op : Operator) (x y : D) : y_bin2 op x y h = binV op x y h := rfl
@[simp] theorem x_bin (op : Operator) (a b : QE) : evE ev (.bin op a b) s h = (evE ev a s h).bind (y_bin ev op b s) := rfl
@[simp] theorem x_neg (a : QE) : evE ev (.neg a) s h = (evE ev a s h).bind negV := rfl
def notO (h : Hd) : Option Bool → Out D
  | some k => .ok (.bl (!k)) h
  | none => .no
@[simp] theorem notO_some (b : Bool) : notO h (some b) = .ok (.bl (!b)) h := rfl
def y_not (x : D) (h : Hd) : Out D := notO h (truthD h x)
@[simp] theorem y_not_ (x : D) : y_not x h = notO h (truthD h x) := rfl
@[simp] theorem x_nott (a : QE) : evE ev (.nott a) s h = (evE ev a s h).bind y_not := by
  show (evE ev a s h).bind _ = _
  congr 1
  all_goals
    funext x h1
    show _ = notO h1 (truthD h1 x)
    cases truthD h1 x <;> rfl
def a_and (ev : Ev) (b : QE) (s : Sl) (x : D) (h : Hd) : Option Bool → Out D
  | some true => evE ev b s h
  | some false => .ok x h
  | none => .no
@[simp] theorem a_and_t (b : QE) (x : D) : a_and ev b s x h (some true) = evE ev b s h := rfl
@[simp] theorem a_and_f (b : QE) (x : D) : a_and ev b s x h (some false) = .ok x h := rfl
def y_and (ev : Ev) (b : QE) (s : Sl) (x : D) (h : Hd) : Out D := a_and ev b s x h (truthD h x)
@[simp] theorem y_and_ (b : QE) (x : D) : y_and ev b s x h = a_and ev b s x h (truthD h x) := rfl
@[simp] theorem x_andv (a b : QE) : evE ev (.andv a b) s h = (evE ev a s h).bind (y_and ev b s) := by
  show (evE ev a s h).bind _ = _
  congr 1
  all_goals
    funext x h1
    show _ = a_and ev b s x h1 (truthD h1 x)
    cases truthD h1 x with
    | none => rfl
    | some b => cases b <;> rfl
def a_or (ev : Ev) (b : QE) (s : Sl) (x : D) (h : Hd) : Option Bool → Out D
  | some true => .ok x h
  | some false => evE ev b s h
  | none => .no
@[simp] theorem a_or_t (b : QE) (x : D) : a_or ev b s x h (some true) = .ok x h := rfl
@[simp] theorem a_or_f (b : QE) (x : D) : a_or ev b s x h (some false) = evE ev b s h := rfl
def y_or (ev : Ev) (b : QE) (s : Sl) (x : D) (h : Hd) : Out D := a_or ev b s x h (truthD h x)
@[simp] theorem y_or_ (b : QE) (x : D) : y_or ev b s x h = a_or ev b s x h (truthD h x) := rfl
@[simp] theorem x_orv (a b : QE) : evE ev (.orv a b) s h = (evE ev a s h).bind (y_or ev b s) := by
  show (evE ev a s h).bind _ = _
  congr 1
  all_goals
    funext x h1
    show _ = a_or ev b s x h1 (truthD h1 x)
    cases truthD h1 x with
    | none => rfl
    | some b => cases b <;> rfl
def y_cmp2 (op : CmpOp) (x : D) : D → Hd → Out D := fun y h => boolO h (cmpV op h x y)
def y_cmp (ev : Ev) (op : CmpOp) (b : QE) (s : Sl) : D → Hd → Out D := fun x h => (evE ev b s h).bind (y_cmp2 op x)
@[simp] theorem y_cmp_ (op : CmpOp) (b : QE) (x : D) : y_cmp ev op b s x h = (evE ev b s h).bind (y_cmp2 op x) := rfl
@[simp] theorem y_cmp2_ (op : CmpOp) (x y : D) : y_cmp2 op x y h = boolO h (cmpV op h x y) := rfl
@[simp] theorem x_cmp (op : CmpOp) (a b : QE) : evE ev (.cmp op a b) s h = (evE ev a s h).bind (y_cmp ev op b s) := rfl
def a_chain (ev : Ev) (op' : CmpOp) (c : QE) (s : Sl) (y : D) (h : Hd) : Option Bool → Out D
  | some true => (evE ev c s h).bind (y_cmp2 op' y)
  | some false => .ok (.bl false) h
  | none => .no
@[simp] theorem a_chain_t (op' : CmpOp) (c : QE) (y : D) : a_chain ev op' c s y h (some true) = (evE ev c s h).bind (y_cmp2 op' y) := rfl
@[simp] theorem a_chain_f (op' : CmpOp) (c : QE) (y : D) : a_chain ev op' c s y h (some false) = .ok (.bl false) h := rfl
def y_chain2 (ev : Ev) (op op' : CmpOp) (c : QE) (s : Sl) (x : D) : D → Hd → Out D := fun y h => a_chain ev op' c s y h (cmpV op h x y)
@[simp] theorem y_chain2_ (op op' : CmpOp) (c : QE) (x y : D) : y_chain2 ev op op' c s x y h = a_chain ev op' c s y h (cmpV op h x y) := rfl
def y_chain (ev : Ev) (op op' : CmpOp) (b c : QE) (s : Sl) : D → Hd → Out D := fun x h => (evE ev b s h).bind (y_chain2 ev op op' c s x)
@[simp] theorem y_chain_ (op op' : CmpOp) (b c : QE) (x : D) : y_chain ev op op' b c s x h = (evE ev b s h).bind (y_chain2 ev op op' c s x) := rfl
@[simp] theorem x_chain (op op' : CmpOp) (a b c : QE) : evE ev (.chain op op' a b c) s h = (evE ev a s h).bind (y_chain ev op op' b c s) := by
  show (evE ev a s h).bind _ = _
  congr 1
  all_goals
    funext x h1
    show (evE ev b s h1).bind _ = (evE ev b s h1).bind _
    congr 1
    funext y h2
    show _ = a_chain ev op' c s y h2 (cmpV op h2 x y)
    cases cmpV op h2 x y with
    | none => rfl
    | some b => cases b <;> rfl
def y_ife (ev : Ev) (a b : QE) (s : Sl) : Bool → Hd → Out D
  | true, h => evE ev a s h
  | false, h => evE ev b s h
@[simp] theorem y_ife_t (a b : QE) : y_ife ev a b s true h = evE ev a s h := rfl
@[simp] theorem y_ife_f (a b : QE) : y_ife ev a b s false h = evE ev b s h := rfl
@[simp] theorem x_ife (t : QT) (a b : QE) : evE ev (.ife t a b) s h = (evT ev t s h).bind (y_ife ev a b s) := by
  show (evT ev t s h).bind _ = _
  congr 1
  all_goals
    funext x h1
    cases x <;> rfl
def y_tup : List D → Hd → Out D := fun xs h => ret (decide (xs.length ≤ line)) (.tup xs) h
@[simp] theorem y_tup_ (xs : List D) : y_tup xs h = ret (decide (xs.length ≤ line)) (.tup xs) h := rfl
@[simp] theorem x_tup (es : QEs) : evE ev (.tup es) s h = (evEs ev es s h).bind y_tup := rfl
def y_lst : List D → Hd → Out D := fun xs h => newLc (decide (xs.length ≤ line)) xs h
@[simp] theorem y_lst_ (xs : List D) : y_lst xs h = newLc (decide (xs.length ≤ line)) xs h := rfl
@[simp] theorem x_lst (es : QEs) : evE ev (.lst es) s h = (evEs ev es s h).bind y_lst := rfl
def y_idx (ev : Ev) (i : QE) (s : Sl) : D → Hd → Out D := fun x h => (evE ev i s h).bind (idxV x)
@[simp] theorem y_idx_ (i : QE) (x : D) : y_idx ev i s x h = (evE ev i s h).bind (idxV x) := rfl
@[simp] theorem x_idx (a i : QE) : evE ev (.idx a i) s h = (evE ev a s h).bind (y_idx ev i s) := rfl
def y_slc2 (ev : Ev) (hi : QO) (s : Sl) (x : D) : Option Int → Hd → Out D := fun l h => (evO ev hi s h).bind (slV x l)
@[simp] theorem y_slc2_ (hi : QO) (x : D) (l : Option Int) : y_slc2 ev hi s x l h = (evO ev hi s h).bind (slV x l) := rfl
def y_slc (ev : Ev) (lo hi : QO) (s : Sl) : D → Hd → Out D := fun x h => (evO ev lo s h).bind (y_slc2 ev hi s x)
@[simp] theorem y_slc_ (lo hi : QO) (x : D) : y_slc ev lo hi s x h = (evO ev lo s h).bind (y_slc2 ev hi s x) := rfl
@[simp] theorem x_slc (a : QE) (lo hi : QO) : evE ev (.slc a lo hi) s h = (evE ev a s h).bind (y_slc ev lo hi s) := rfl
def y_call2 (ev : Ev) (f : Nat) (arr : List (Sum (Sum Nat Nat) D)) (xs : List D) : List D → Hd → Out D := fun ys h => ev.call f (arrD arr xs ys) h
@[simp] theorem y_call2_ (f : Nat) (arr : List (Sum (Sum Nat Nat) D)) (xs ys : List D) : y_call2 ev f arr xs ys h = ev.call f (arrD arr xs ys) h := rfl
def y_call (ev : Ev) (f : Nat) (kes : QEs) (arr : List (Sum (Sum Nat Nat) D)) (s : Sl) : List D → Hd → Out D := fun xs h => (evEs ev kes s h).bind (y_call2 ev f arr xs)
@[simp] theorem y_call_ (f : Nat) (kes : QEs) (arr : List (Sum (Sum Nat Nat) D)) (xs : List D) : y_call ev f kes arr s xs h = (evEs ev kes s h).bind (y_call2 ev f arr xs) := rfl
@[simp] theorem x_call (f : Nat) (es kes : QEs) (arr : List (Sum (Sum Nat Nat) D)) : evE ev (.call f es kes arr) s h = (evEs ev es s h).bind (y_call ev f kes arr s) := rfl
@[simp] theorem x_bi (b : BI) (es : QEs) : evE ev (.bi b es) s h = (evEs ev es s h).bind (biV b) := rfl
def y_isi (t : Ty) : D → Hd → Out D := fun x h => boolO h (isiV x t h)
@[simp] theorem y_isi_ (t : Ty) (x : D) : y_isi t x h = boolO h (isiV x t h) := rfl
@[simp] theorem x_isi (a : QE) (t : Ty) : evE ev (.isi a t) s h = (evE ev a s h).bind (y_isi t) := rfl
def y_lc (ev : Ev) (elt : QE) (g : QG) (own : List Nat) (cond : QT) (s : Sl) : Walk → Hd → Out D := fun w h => (noEx (loopC w.fix (fun d => bindG g d (wipeD s own)) (evT ev cond) (evE ev elt) w.items [] h)).bind newL
@[simp] theorem y_lc_ (elt : QE) (g : QG) (own : List Nat) (cond : QT) (w : Walk) : y_lc ev elt g own cond s w h = (noEx (loopC w.fix (fun d => bindG g d (wipeD s own)) (evT ev cond) (evE ev elt) w.items [] h)).bind newL := rfl
@[simp] theorem x_lc (elt : QE) (g : QG) (it : QI) (own : List Nat) (cond : QT) : evE ev (.lc elt g it own cond) s h = (evI ev it s h).bind (y_lc ev elt g own cond s) := rfl
def a_mth (ev : Ev) (m : Nat) (es : QEs) (s : Sl) (x : D) (h : Hd) : Bool → Out D
  | true => (evEs ev es s h).bind (mthV m x)
  | false => .no
@[simp] theorem a_mth_t (m : Nat) (es : QEs) (x : D) : a_mth ev m es s x h true = (evEs ev es s h).bind (mthV m x) := rfl
def y_mth (ev : Ev) (m : Nat) (es : QEs) (s : Sl) : D → Hd → Out D := fun x h => a_mth ev m es s x h (isLst h x)
@[simp] theorem y_mth_ (m : Nat) (es : QEs) (x : D) : y_mth ev m es s x h = a_mth ev m es s x h (isLst h x) := rfl
@[simp] theorem x_mth (m : Nat) (o : QE) (es : QEs) : evE ev (.mth m o es) s h = (evE ev o s h).bind (y_mth ev m es s) := by
  show (evE ev o s h).bind _ = _
  congr 1
  all_goals
    funext x h1
    show _ = a_mth ev m es s x h1 (isLst h1 x)
    cases isLst h1 x <;> rfl
@[simp] theorem x_excIs (c : Nat) : evE ev (.excIs c) s h = (match ev.exn with
    | some e => .ok (.bl (ev.sub e.cls c)) h
    | none => .no) := rfl
@[simp] theorem x_excF (f : Str) : evE ev (.excF f) s h = (match ev.exn with
    | some e => match e.fs.lookup f with
      | some d => .ok d h
      | none => .no
    | none => .no) := rfl
def y_fld (f : Str) : D → Hd → Out D := fun x h => fldV f x h
@[simp] theorem y_fld_ (f : Str) (x : D) : y_fld f x h = fldV f x h := rfl
@[simp] theorem x_fld (a : QE) (f : Str) : evE ev (.fld a f) s h = (evE ev a s h).bind (y_fld f) := rfl
def y_make (ev : Ev) (C i : Nat) : List D → Hd → Out D := fun xs h => mkO h.length (ev.call i (.ref h.length :: xs) (h ++ [.obj C []]))
@[simp] theorem y_make_ (C i : Nat) (xs : List D) : y_make ev C i xs h = mkO h.length (ev.call i (.ref h.length :: xs) (h ++ [.obj C []])) := rfl
@[simp] theorem x_make (C i : Nat) (es : QEs) : evE ev (.make C i es) s h = (evEs ev es s h).bind (y_make ev C i) := rfl
@[simp] theorem mkO_ok (n : Nat) : mkO n (.ok .non h) = .ok (.ref n) h := rfl
def y_mcall2 (ev : Ev) (i : Nat) (x : D) : List D → Hd → Out D := fun xs h => ev.call i (x :: xs) h
@[simp] theorem y_mcall2_ (i : Nat) (x : D) (xs : List D) : y_mcall2 ev i x xs h = ev.call i (x :: xs) h := rfl
def a_mcall (ev : Ev) (i : Nat) (es : QEs) (s : Sl) (x : D) (h : Hd) : Bool → Out D
  | true => (evEs ev es s h).bind (y_mcall2 ev i x)
  | false => .no
@[simp] theorem a_mcall_t (i : Nat) (es : QEs) (x : D) : a_mcall ev i es s x h true = (evEs ev es s h).bind (y_mcall2 ev i x) := rfl
def y_mcall (ev : Ev) (C i : Nat) (m : Str) (es : QEs) (s : Sl) : D → Hd → Out D := fun x h => a_mcall ev i es s x h (isObj C m h x)
@[simp] theorem y_mcall_ (C i : Nat) (m : Str) (es : QEs) (x : D) : y_mcall ev C i m es s x h = a_mcall ev i es s x h (isObj C m h x) := rfl
@[simp] theorem x_mcall (C i : Nat) (m : Str) (o : QE) (es : QEs) : evE ev (.mcall C i m o es) s h = (evE ev o s h).bind (y_mcall ev C i m es s) := by
  show (evE ev o s h).bind _ = _
  congr 1
  all_goals
    funext x h1
    show _ = a_mcall ev i es s x h1 (isObj C m h1 x)
    cases isObj C m h1 x <;> rfl
def y_dget (kvs : List (Str × D)) : D → Hd → Out D := fun x h => dgetV kvs x h
@[simp] theorem y_dget_ (kvs : List (Str × D)) (x : D) : y_dget kvs x h = dgetV kvs x h := rfl
@[simp] theorem x_dget (kvs : List (Str × D)) (a : QE) : evE ev (.dget kvs a) s h = (evE ev a s h).bind (y_dget kvs) := rfl
@[simp] theorem dget_str (kvs : List (Str × D)) (z : Str) : dgetV kvs (.str z) h = .ok ((kvs.lookup z).getD .non) h := rfl
@[simp] theorem xs_nil : evEs ev .nil s h = .ok [] h := rfl
def y_es2 (x : D) : List D → Hd → Out (List D) := fun xs h => .ok (x :: xs) h
@[simp] theorem y_es2_ (x : D) (xs : List D) : y_es2 x xs h = .ok (x :: xs) h := rfl
def y_es (ev : Ev) (es : QEs) (s : Sl) : D → Hd → Out (List D) := fun x h => (evEs ev es s h).bind (y_es2 x)
@[simp] theorem y_es_ (es : QEs) (x : D) : y_es ev es s x h = (evEs ev es s h).bind (y_es2 x) := rfl
@[simp] theorem xs_cons (e : QE) (es : QEs) : evEs ev (.cons e es) s h = (evE ev e s h).bind (y_es ev es s) := rfl
@[simp] theorem xo_none : evO ev .none s h = .ok none h := rfl
@[simp] theorem xo_some (e : QE) : evO ev (.some e) s h = (evE ev e s h).bind toI := rfl
def y_v : D → Hd → Out Bool := fun x h => testO h (truthD h x)
@[simp] theorem y_v_ (x : D) : y_v x h = testO h (truthD h x) := rfl
@[simp] theorem xt_v (e : QE) : evT ev (.v e) s h = (evE ev e s h).bind y_v := rfl
def y_tnot : Bool → Hd → Out Bool := fun k h => .ok (!k) h
@[simp] theorem y_tnot_ (k : Bool) : y_tnot k h = .ok (!k) h := rfl
@[simp] theorem xt_not (t : QT) : evT ev (.not t) s h = (evT ev t s h).bind y_tnot := rfl
def y_tand (ev : Ev) (b : QT) (s : Sl) : Bool → Hd → Out Bool
  | true, h => evT ev b s h
  | false, h => .ok false h
@[simp] theorem y_tand_t (b : QT) : y_tand ev b s true h = evT ev b s h := rfl
@[simp] theorem y_tand_f (b : QT) : y_tand ev b s false h = .ok false h := rfl
@[simp] theorem xt_and (a b : QT) : evT ev (.and a b) s h = (evT ev a s h).bind (y_tand ev b s) := by
  show (evT ev a s h).bind _ = _
  congr 1
  all_goals
    funext x h1
    cases x <;> rfl
def y_tor (ev : Ev) (b : QT) (s : Sl) : Bool → Hd → Out Bool
  | true, h => .ok true h
  | false, h => evT ev b s h
@[simp] theorem y_tor_t (b : QT) : y_tor ev b s true h = .ok true h := rfl
@[simp] theorem y_tor_f (b : QT) : y_tor ev b s false h = evT ev b s h := rfl
@[simp] theorem xt_or (a b : QT) : evT ev (.or a b) s h = (evT ev a s h).bind (y_tor ev b s) := by
  show (evT ev a s h).bind _ = _
  congr 1
  all_goals
    funext x h1
    cases x <;> rfl
@[simp] theorem xt_yes : evT ev .yes s h = .ok true h := rfl
@[simp] theorem xi_v (e : QE) : evI ev (.v e) s h = (evE ev e s h).bind walkV := rfl
def y_r1 : D → Hd → Out Walk := fun x h => rngV [x] h
@[simp] theorem y_r1_ (x : D) : y_r1 x h = rngV [x] h := rfl
@[simp] theorem xi_r1 (a : QE) : evI ev (.rng1 a) s h = (evE ev a s h).bind y_r1 := rfl
def y_r2b (x : D) : D → Hd → Out Walk := fun y h => rngV [x, y] h
@[simp] theorem y_r2b_ (x y : D) : y_r2b x y h = rngV [x, y] h := rfl
def y_r2 (ev : Ev) (b : QE) (s : Sl) : D → Hd → Out Walk := fun x h => (evE ev b s h).bind (y_r2b x)
@[simp] theorem y_r2_ (b : QE) (x : D) : y_r2 ev b s x h = (evE ev b s h).bind (y_r2b x) := rfl
@[simp] theorem xi_r2 (a b : QE) : evI ev (.rng2 a b) s h = (evE ev a s h).bind (y_r2 ev b s) := rfl
def y_r3c (x y : D) : D → Hd → Out Walk := fun z h => rngV [x, y, z] h
@[simp] theorem y_r3c_ (x y z : D) : y_r3c x y z h = rngV [x, y, z] h := rfl
def y_r3b (ev : Ev) (c : QE) (s : Sl) (x : D) : D → Hd → Out Walk := fun y h => (evE ev c s h).bind (y_r3c x y)
@[simp] theorem y_r3b_ (c : QE) (x y : D) : y_r3b ev c s x y h = (evE ev c s h).bind (y_r3c x y) := rfl
def y_r3 (ev : Ev) (b c : QE) (s : Sl) : D → Hd → Out Walk := fun x h => (evE ev b s h).bind (y_r3b ev c s x)
@[simp] theorem y_r3_ (b c : QE) (x : D) : y_r3 ev b c s x h = (evE ev b s h).bind (y_r3b ev c s x) := rfl
@[simp] theorem xi_r3 (a b c : QE) : evI ev (.rng3 a b c) s h = (evE ev a s h).bind (y_r3 ev b c s) := rfl
def y_zip (ev : Ev) (b : QE) (s : Sl) : D → Hd → Out Walk := fun x h => (evE ev b s h).bind (zipV x)
@[simp] theorem y_zip_ (b : QE) (x : D) : y_zip ev b s x h = (evE ev b s h).bind (zipV x) := rfl
@[simp] theorem xi_zip (a b : QE) : evI ev (.zip a b) s h = (evE ev a s h).bind (y_zip ev b s) := rfl
@[simp] theorem xi_enum (a : QE) : evI ev (.enum a) s h = (evE ev a s h).bind enumV := rfl
/-- one statement behind another -/
def andS (f : Sl → Hd → SOut) : SOut → SOut
  | .nx s h => f s h
  | .rt d h => .rt d h
  | .bk s h => .bk s h
  | .ct s h => .ct s h
  | .ex e s h => .ex e s h
  | .no => .no
@[simp] theorem andS_nx (f : Sl → Hd → SOut) : andS f (.nx s h) = f s h := rfl
@[simp] theorem andS_rt (f : Sl → Hd → SOut) (d : D) : andS f (.rt d h) = .rt d h := rfl
@[simp] theorem andS_ex (f : Sl → Hd → SOut) (e : Exn) : andS f (.ex e s h) = .ex e s h := rfl
@[simp] theorem andS_bk (f : Sl → Hd → SOut) : andS f (.bk s h) = .bk s h := rfl
@[simp] theorem andS_ct (f : Sl → Hd → SOut) : andS f (.ct s h) = .ct s h := rfl
@[simp] theorem ss_nil' : exSs ev .nil s h = .nx s h := rfl
@[simp] theorem ss_cons' (a : QS) (r : QSs) : exSs ev (.cons a r) s h = andS (exSs ev r) (exS ev a s h) := by
  show (match exS ev a s h with
    | .nx s1 h1 => exSs ev r s1 h1
    | o => o) = _
  cases exS ev a s h <;> rfl
def y_expr (s : Sl) : D → Hd → SOut := fun _ h => .nx s h
@[simp] theorem y_expr_ (d : D) : y_expr s d h = .nx s h := rfl
@[simp] theorem s_expr' (e : QE) : exS ev (.expr e) s h = (evE ev e s h).st s (y_expr s) := rfl
def y_asg (g : QG) (s : Sl) : D → Hd → SOut := fun d h => asgO (bindG g d s) h
@[simp] theorem y_asg_ (g : QG) (d : D) : y_asg g s d h = asgO (bindG g d s) h := rfl
@[simp] theorem s_asg' (g : QG) (e : QE) : exS ev (.asg g e) s h = (evE ev e s h).st s (y_asg g s) := rfl
def y_sub3 (s : Sl) (d x : D) : D → Hd → SOut := fun y h => subV x y d s h
@[simp] theorem y_sub3_ (d x y : D) : y_sub3 s d x y h = subV x y d s h := rfl
def y_sub2 (ev : Ev) (i : QE) (s : Sl) (d : D) : D → Hd → SOut := fun x h => (evE ev i s h).st s (y_sub3 s d x)
@[simp] theorem y_sub2_ (i : QE) (d x : D) : y_sub2 ev i s d x h = (evE ev i s h).st s (y_sub3 s d x) := rfl
def y_sub (ev : Ev) (o i : QE) (s : Sl) : D → Hd → SOut := fun d h => (evE ev o s h).st s (y_sub2 ev i s d)
@[simp] theorem y_sub_ (o i : QE) (d : D) : y_sub ev o i s d h = (evE ev o s h).st s (y_sub2 ev i s d) := rfl
@[simp] theorem s_sub' (o i e : QE) : exS ev (.sub o i e) s h = (evE ev e s h).st s (y_sub ev o i s) := rfl
def y_par2 (i j : Nat) (s : Sl) (x : D) : D → Hd → SOut := fun y h => .nx ((s.set i (some x)).set j (some y)) h
@[simp] theorem y_par2_ (i j : Nat) (x y : D) : y_par2 i j s x y h = .nx ((s.set i (some x)).set j (some y)) h := rfl
def y_par (ev : Ev) (i j : Nat) (b : QE) (s : Sl) : D → Hd → SOut := fun x h => (evE ev b s h).st s (y_par2 i j s x)
@[simp] theorem y_par_ (i j : Nat) (b : QE) (x : D) : y_par ev i j b s x h = (evE ev b s h).st s (y_par2 i j s x) := rfl
@[simp] theorem s_par' (i j : Nat) (a b : QE) : exS ev (.par i j a b) s h = (evE ev a s h).st s (y_par ev i j b s) := rfl
def y_aug2 (i : Nat) (s : Sl) : D → Hd → SOut := fun z h => .nx (s.set i (some z)) h
@[simp] theorem y_aug2_ (i : Nat) (z : D) : y_aug2 i s z h = .nx (s.set i (some z)) h := rfl
def y_aug (i : Nat) (op : Operator) (s : Sl) (x : D) : D → Hd → SOut := fun y h => (augV op x y h).st s (y_aug2 i s)
@[simp] theorem y_aug_ (i : Nat) (op : Operator) (x y : D) : y_aug i op s x y h = (augV op x y h).st s (y_aug2 i s) := rfl
@[simp] theorem s_aug' (i : Nat) (op : Operator) (e : QE) : exS ev (.aug i op e) s h = (match s[i]? with
    | some (some x) => (evE ev e s h).st s (y_aug i op s x)
    | _ => .no) := rfl
@[simp] theorem s_ret' (e : QE) : exS ev (.ret e) s h = (evE ev e s h).st s .rt := rfl
@[simp] theorem s_retN' : exS ev .retN s h = .rt .non h := rfl
def y_if (ev : Ev) (a b : QSs) (s : Sl) : Bool → Hd → SOut
  | true, h => exSs ev a s h
  | false, h => exSs ev b s h
@[simp] theorem y_if_t (a b : QSs) : y_if ev a b s true h = exSs ev a s h := rfl
@[simp] theorem y_if_f (a b : QSs) : y_if ev a b s false h = exSs ev b s h := rfl
@[simp] theorem s_ife' (t : QT) (a b : QSs) : exS ev (.ife t a b) s h = (evT ev t s h).st s (y_if ev a b s) := by
  show (evT ev t s h).st s _ = _
  congr 1
  all_goals
    funext x h1
    cases x <;> rfl
@[simp] theorem s_whl' (t : QT) (b : QSs) : exS ev (.whl t b) s h = loopW (evT ev t) (exSs ev b) ev.fuel s h := rfl
def y_for (ev : Ev) (g : QG) (b : QSs) (s : Sl) : Walk → Hd → SOut := fun w h => loopF w.fix (bindG g) (exSs ev b) w.items s h
@[simp] theorem y_for_ (g : QG) (b : QSs) (w : Walk) : y_for ev g b s w h = loopF w.fix (bindG g) (exSs ev b) w.items s h := rfl
@[simp] theorem s_for' (g : QG) (it : QI) (b : QSs) : exS ev (.for g it b) s h = (evI ev it s h).st s (y_for ev g b s) := rfl
@[simp] theorem s_raise0' (c : Nat) : exS ev (.raise c [] .nil) s h = .ex ⟨c, []⟩ s h := rfl
def raiS (c : Nat) (fs : List Str) (xs : List D) (s : Sl) (h : Hd) : Bool → SOut
  | true => .ex ⟨c, fs.zip xs⟩ s h
  | false => .no
@[simp] theorem raiS_t (c : Nat) (fs : List Str) (xs : List D) : raiS c fs xs s h true = .ex ⟨c, fs.zip xs⟩ s h := rfl
def y_rai (c : Nat) (fs : List Str) (s : Sl) : List D → Hd → SOut := fun xs h => raiS c fs xs s h (decide (fs.length = xs.length) && xs.all flatD)
@[simp] theorem y_rai_ (c : Nat) (fs : List Str) (xs : List D) : y_rai c fs s xs h = raiS c fs xs s h (decide (fs.length = xs.length) && xs.all flatD) := rfl
theorem s_raiseF' (c : Nat) (fs : List Str) (es : QEs) : exS ev (.raise c fs es) s h = (evEs ev es s h).st s (y_rai c fs s) := by
  show (evEs ev es s h).st s _ = _
  congr 1
  all_goals
    funext xs h1
    show _ = raiS c fs xs s h1 (decide (fs.length = xs.length) && xs.all flatD)
    cases (decide (fs.length = xs.length) && xs.all flatD) <;> rfl
@[simp] theorem s_raise1' (c : Nat) (f : Str) (e : QE) : exS ev (.raise c [f] (.cons e .nil)) s h = (evEs ev (.cons e .nil) s h).st s (y_rai c [f] s) := s_raiseF' ev s h c [f] _
@[simp] theorem s_raise2' (c : Nat) (f g : Str) (e e' : QE) : exS ev (.raise c [f, g] (.cons e (.cons e' .nil))) s h = (evEs ev (.cons e (.cons e' .nil)) s h).st s (y_rai c [f, g] s) := s_raiseF' ev s h c [f, g] _
def y_fset2 (f : Str) (d : D) (s : Sl) : D → Hd → SOut := fun x h => setF f d s x h
@[simp] theorem y_fset2_ (f : Str) (d x : D) : y_fset2 f d s x h = setF f d s x h := rfl
def y_fset (ev : Ev) (o : QE) (f : Str) (s : Sl) : D → Hd → SOut := fun d h => (evE ev o s h).st s (y_fset2 f d s)
@[simp] theorem y_fset_ (o : QE) (f : Str) (d : D) : y_fset ev o f s d h = (evE ev o s h).st s (y_fset2 f d s) := rfl
@[simp] theorem s_fset' (o : QE) (f : Str) (e : QE) : exS ev (.fset o f e) s h = (evE ev e s h).st s (y_fset ev o f s) := rfl
@[simp] theorem flat_int (i : Int) : flatD (.int i) = true := rfl
@[simp] theorem flat_bl (b : Bool) : flatD (.bl b) = true := rfl
@[simp] theorem flat_str (z : Str) : flatD (.str z) = true := rfl
@[simp] theorem flat_non : flatD .non = true := rfl
def tryS (ev : Ev) (c : Nat) (xi : Option Nat) (su : QSs) : SOut → SOut
  | .ex e s1 h1 => match ev.sub e.cls c with
    | true => match inS xi s1 with
      | true => (exSs { ev with exn := some e } su (goS xi s1) h1).gone xi
      | false => .no
    | false => .ex e s1 h1
  | o => o
@[simp] theorem tryS_nx (c : Nat) (xi : Option Nat) (su : QSs) : tryS ev c xi su (.nx s h) = .nx s h := rfl
@[simp] theorem tryS_rt (c : Nat) (xi : Option Nat) (su : QSs) (d : D) : tryS ev c xi su (.rt d h) = .rt d h := rfl
theorem tryS_ex (c : Nat) (xi : Option Nat) (su : QSs) (e : Exn) (hs : ev.sub e.cls c = true) (hi : inS xi s = true) : tryS ev c xi su (.ex e s h) = (exSs { ev with exn := some e } su (goS xi s) h).gone xi := by
  unfold tryS
  simp only [hs, hi]
@[simp] theorem s_try' (b : QSs) (c : Nat) (xi : Option Nat) (su : QSs) : exS ev (.try b c xi su) s h = tryS ev c xi su (exSs ev b s h) := by
  show (match exSs ev b s h with
    | .ex e s1 h1 => match ev.sub e.cls c with
      | true => match inS xi s1 with
        | true => (exSs { ev with exn := some e } su (goS xi s1) h1).gone xi
        | false => .no
      | false => .ex e s1 h1
    | o => o) = _
  cases exSs ev b s h <;> rfl
@[simp] theorem s_pass' : exS ev .pass s h = .nx s h := rfl
@[simp] theorem s_brk' : exS ev .brk s h = .bk s h := rfl
@[simp] theorem s_cnt' : exS ev .cnt s h = .ct s h := rfl
@[simp] theorem gone_rt (xi : Option Nat) (d : D) : SOut.gone xi (.rt d h) = .rt d h := rfl
@[simp] theorem gone_nx (xi : Option Nat) : SOut.gone xi (.nx s h) = .nx (goS xi s) h := rfl
@[simp] theorem asgO_some : asgO (some s) h = .nx s h := rfl
@[simp] theorem bindG_nm (i : Nat) (d : D) : bindG (.nm i) d s = some (s.set i (some d)) := by simp [bindG]
@[simp] theorem bindG_tp (gs : List QG) (ds : List D) : bindG (.tp gs) (.tup ds) s = bindG.bindGs gs ds s := by simp [bindG]
@[simp] theorem bindGs_nil : bindG.bindGs [] [] s = some s := by simp [bindG.bindGs]
@[simp] theorem bindGs_cons (g : QG) (gs : List QG) (d : D) (ds : List D) : bindG.bindGs (g :: gs) (d :: ds) s = (bindG g d s).bind fun s' => bindG.bindGs gs ds s' := by simp [bindG.bindGs]
@[simp] theorem boolO_some (b : Bool) : boolO h (some b) = .ok (.bl b) h := rfl
@[simp] theorem testO_some (b : Bool) : testO h (some b) = .ok b h := rfl
@[simp] theorem truth_bl (b : Bool) : truthD h (.bl b) = some b := rfl
@[simp] theorem truth_int (i : Int) : truthD h (.int i) = some (decide (i ≠ 0)) := by
  show some (i != 0) = _
  congr 1
  by_cases z : i = 0 <;> simp [z]
@[simp] theorem truth_non : truthD h .non = some false := rfl
@[simp] theorem truth_tup (xs : List D) : truthD h (.tup xs) = some (!xs.isEmpty) := rfl
@[simp] theorem toI_int (i : Int) : toI (.int i) h = .ok (some i) h := rfl
@[simp] theorem negV_int (i : Int) : negV (.int i) h = .ok (.int (-i)) h := rfl
@[simp] theorem binV_add (x y : D) : binV .Add x y h = addV x y h := rfl
@[simp] theorem binV_mul (x y : D) : binV .Mult x y h = mulV x y h := rfl
@[simp] theorem binV_sub (i j : Int) : binV .Sub (.int i) (.int j) h = .ok (.int (i - j)) h := rfl
@[simp] theorem binV_div (i j : Int) : binV .FloorDiv (.int i) (.int j) h = ret (divOk i j) (.int (i.fdiv j)) h := rfl
@[simp] theorem binV_mod (i j : Int) : binV .Mod (.int i) (.int j) h = ret (decide (j ≠ 0)) (.int (i.fmod j)) h := rfl
@[simp] theorem binV_pow (i j : Int) : binV .Pow (.int i) (.int j) h = ret (powOk i j) (.int (i ^ j.toNat)) h := rfl
@[simp] theorem binV_shl (i j : Int) : binV .LShift (.int i) (.int j) h = ret (shlOk i j) (.int (i * 2 ^ j.toNat)) h := rfl
@[simp] theorem addV_int (i j : Int) : addV (.int i) (.int j) h = .ok (.int (i + j)) h := rfl
@[simp] theorem mulV_int (i j : Int) : mulV (.int i) (.int j) h = ret (mulOk i j) (.int (i * j)) h := rfl
@[simp] theorem cmp_eq (x y : D) : cmpV .Eq h x y = eqV h x y := rfl
@[simp] theorem cmp_ne (x y : D) : cmpV .NotEq h x y = (eqV h x y).map not := rfl
@[simp] theorem cmp_lt (i j : Int) : cmpV .Lt h (.int i) (.int j) = some (decide (i < j)) := rfl
@[simp] theorem cmp_le (i j : Int) : cmpV .LtE h (.int i) (.int j) = some (decide (i ≤ j)) := rfl
@[simp] theorem cmp_gt (i j : Int) : cmpV .Gt h (.int i) (.int j) = some (decide (j < i)) := rfl
@[simp] theorem cmp_ge (i j : Int) : cmpV .GtE h (.int i) (.int j) = some (decide (j ≤ i)) := rfl
@[simp] theorem cmp_is (x y : D) : cmpV .Is h x y = isV x y := rfl
@[simp] theorem cmp_isnot (x y : D) : cmpV .IsNot h x y = (isV x y).map not := rfl
@[simp] theorem cmp_in (x y : D) : cmpV .In h x y = inV h x y := rfl
@[simp] theorem cmp_notin (x y : D) : cmpV .NotIn h x y = (inV h x y).map not := rfl
@[simp] theorem len_le2 : decide ((2 : Nat) ≤ line) = true := by decide
@[simp] theorem len_le3 : decide ((3 : Nat) ≤ line) = true := by decide
@[simp] theorem len_le4 : decide ((4 : Nat) ≤ line) = true := by decide
@[simp] theorem bi_int (i : Int) : biV .int [.int i] h = .ok (.int i) h := rfl
@[simp] theorem bi_abs (i : Int) : biV .abs [.int i] h = .ok (.int (if i < 0 then -i else i)) h := rfl
@[simp] theorem bi_len_tup (xs : List D) : biV .len [.tup xs] h = .ok (.int xs.length) h := rfl
@[simp] theorem bi_len_fl (xs : List D) : biV .len [.fl xs] h = .ok (.int xs.length) h := rfl
@[simp] theorem bi_gcd (a b : Int) : biV .gcd [.int a, .int b] h = .ok (.int ((Nat.gcd a.natAbs b.natAbs : Nat) : Int)) h := rfl
@[simp] theorem bi_max (i j : Int) : biV .max [.int i, .int j] h = .ok (.int (if j > i then j else i)) h := rfl
@[simp] theorem bi_min (i j : Int) : biV .min [.int i, .int j] h = .ok (.int (if j < i then j else i)) h := rfl
@[simp] theorem isi_non_int : isiV .non .int h = some false := rfl
@[simp] theorem isi_bl_int (b : Bool) : isiV (.bl b) .int h = some true := rfl
@[simp] theorem isi_int_int (i : Int) : isiV (.int i) .int h = some true := rfl
@[simp] theorem isi_str_int (z : Str) : isiV (.str z) .int h = some false := rfl
@[simp] theorem isi_tup_int (xs : List D) : isiV (.tup xs) .int h = some false := rfl
@[simp] theorem isi_fl_int (xs : List D) : isiV (.fl xs) .int h = some false := rfl
@[simp] theorem isi_non_bool : isiV .non .bool h = some false := rfl
@[simp] theorem isi_bl_bool (b : Bool) : isiV (.bl b) .bool h = some true := rfl
@[simp] theorem isi_int_bool (i : Int) : isiV (.int i) .bool h = some false := rfl
@[simp] theorem isi_str_bool (z : Str) : isiV (.str z) .bool h = some false := rfl
@[simp] theorem isi_tup_bool (xs : List D) : isiV (.tup xs) .bool h = some false := rfl
@[simp] theorem isi_fl_bool (xs : List D) : isiV (.fl xs) .bool h = some false := rfl
@[simp] theorem isi_non_str : isiV .non .str h = some false := rfl
@[simp] theorem isi_bl_str (b : Bool) : isiV (.bl b) .str h = some false := rfl
@[simp] theorem isi_int_str (i : Int) : isiV (.int i) .str h = some false := rfl
@[simp] theorem isi_str_str (z : Str) : isiV (.str z) .str h = some true := rfl
@[simp] theorem isi_tup_str (xs : List D) : isiV (.tup xs) .str h = some false := rfl
@[simp] theorem isi_fl_str (xs : List D) : isiV (.fl xs) .str h = some false := rfl
@[simp] theorem isi_non_tuple : isiV .non .tuple h = some false := rfl
@[simp] theorem isi_bl_tuple (b : Bool) : isiV (.bl b) .tuple h = some false := rfl
@[simp] theorem isi_int_tuple (i : Int) : isiV (.int i) .tuple h = some false := rfl
@[simp] theorem isi_str_tuple (z : Str) : isiV (.str z) .tuple h = some false := rfl
@[simp] theorem isi_tup_tuple (xs : List D) : isiV (.tup xs) .tuple h = some true := rfl
@[simp] theorem isi_fl_tuple (xs : List D) : isiV (.fl xs) .tuple h = some false := rfl
@[simp] theorem isi_non_list : isiV .non .list h = some false := rfl
@[simp] theorem isi_bl_list (b : Bool) : isiV (.bl b) .list h = some false := rfl
@[simp] theorem isi_int_list (i : Int) : isiV (.int i) .list h = some false := rfl
@[simp] theorem isi_str_list (z : Str) : isiV (.str z) .list h = some false := rfl
@[simp] theorem isi_tup_list (xs : List D) : isiV (.tup xs) .list h = some false := rfl
@[simp] theorem isi_fl_list (xs : List D) : isiV (.fl xs) .list h = some true := rfl
@[simp] theorem is_bl_non (b : Bool) : isV (.bl b) .non = some false := rfl
@[simp] theorem is_int_non (i : Int) : isV (.int i) .non = some false := rfl
@[simp] theorem is_str_non (z : Str) : isV (.str z) .non = some false := rfl
@[simp] theorem is_tup_non (xs : List D) : isV (.tup xs) .non = some false := rfl
@[simp] theorem is_fl_non (xs : List D) : isV (.fl xs) .non = some false := rfl
@[simp] theorem is_ref_non (n : Nat) : isV (.ref n) .non = some false := rfl
@[simp] theorem is_non_non : isV .non .non = some true := rfl
@[simp] theorem is_bl_bl (a b : Bool) : isV (.bl a) (.bl b) = some (a == b) := rfl
@[simp] theorem walk_tup' (xs : List D) : walkV (.tup xs) h = .ok ⟨xs, []⟩ h := rfl
@[simp] theorem walk_fl' (xs : List D) : walkV (.fl xs) h = .ok ⟨xs, []⟩ h := rfl
end
/-! ### loops -/
theorem loopW_go {t : Sl → Hd → Out Bool} {b : Sl → Hd → SOut} {n : Nat} {s s2 : Sl} {h h1 h2 : Hd} (e : t s h = .ok true h1) (eb : b s h1 = .nx s2 h2) : loopW t b (n + 1) s h = loopW t b n s2 h2 := by
  conv => lhs; unfold loopW
  simp only [e, st_ok, eb]
theorem loopW_stop {t : Sl → Hd → Out Bool} {b : Sl → Hd → SOut} {n : Nat} {s : Sl} {h h1 : Hd} (e : t s h = .ok false h1) : loopW t b (n + 1) s h = .nx s h1 := by
  unfold loopW
  rw [e, st_ok]
theorem loopF_go {fix : List (Nat × List D)} {g : D → Sl → Option Sl} {b : Sl → Hd → SOut} {x : D} {xs : List D} {s s1 s2 : Sl} {h h2 : Hd} (f : fixOk h fix = true) (e : g x s = some s1) (eb : b s1 h = .nx s2 h2) : loopF fix g b (x :: xs) s h = loopF fix g b xs s2 h2 := by
  conv => lhs; unfold loopF
  simp only [f, e, eb]
theorem loopF_rt {fix : List (Nat × List D)} {g : D → Sl → Option Sl} {b : Sl → Hd → SOut} {x : D} {xs : List D} {s s1 : Sl} {h h2 : Hd} {d : D} (f : fixOk h fix = true) (e : g x s = some s1) (eb : b s1 h = .rt d h2) : loopF fix g b (x :: xs) s h = .rt d h2 := by
  conv => lhs; unfold loopF
  simp only [f, e, eb]
theorem loopF_nil {fix : List (Nat × List D)} {g : D → Sl → Option Sl} {b : Sl → Hd → SOut} {s : Sl} {h : Hd} (f : fixOk h fix = true) : loopF fix g b [] s h = .nx s h := by
  unfold loopF
  rw [f]
@[simp] theorem fixOk_nil (h : Hd) : fixOk h [] = true := rfl
/-! ### sizes -/
def Sz (n : Nat) (i : Int) : Prop := i.natAbs < 2 ^ n
theorem Sz.of_lt {n : Nat} {i : Int} {m : Nat} (h : (i.natAbs : Int) < (m : Int)) (l : m ≤ 2 ^ n) : Sz n i := by
  unfold Sz
  omega
theorem Sz.nat {n m : Nat} (l : m < 2 ^ n) : Sz n (m : Int) := by
  unfold Sz
  simpa using l
theorem Sz.mono {n m : Nat} {i : Int} (h : Sz n i) (l : n ≤ m) : Sz m i := Nat.lt_of_lt_of_le h (Nat.pow_le_pow_right (by omega) l)
theorem Sz.neg {n : Nat} {i : Int} (h : Sz n i) : Sz n (-i) := by
  unfold Sz at *
  rwa [Int.natAbs_neg]
theorem Sz.add {n m : Nat} {i j : Int} (h : Sz n i) (g : Sz m j) : Sz (max n m + 1) (i + j) := by
  have h1 := h.mono (Nat.le_max_left n m)
  have g1 := g.mono (Nat.le_max_right n m)
  unfold Sz at *
  have := Int.natAbs_add_le i j
  rw [Nat.pow_succ]
  omega
theorem Sz.sub {n m : Nat} {i j : Int} (h : Sz n i) (g : Sz m j) : Sz (max n m + 1) (i - j) := by
  rw [Int.sub_eq_add_neg]
  exact h.add g.neg
theorem Sz.mul {n m : Nat} {i j : Int} (h : Sz n i) (g : Sz m j) : Sz (n + m) (i * j) := by
  unfold Sz at *
  rw [Int.natAbs_mul, Nat.pow_add]
  exact Nat.mul_lt_mul'' h g
theorem Sz.log {n : Nat} {i : Int} (h : Sz n i) : i.natAbs.log2 ≤ n := by
  unfold Sz at h
  by_cases z : i.natAbs = 0
  · rw [z, show Nat.log2 0 = 0 from by decide]; exact Nat.zero_le _
  · exact Nat.le_of_lt ((Nat.log2_lt z).mpr h)
theorem mulOk_sz {n m : Nat} {i j : Int} (h : Sz n i) (g : Sz m j) (l : n + m < 100000000) : mulOk i j = true := by
  unfold mulOk
  have := h.log
  have := g.log
  exact decide_eq_true (by omega)
theorem divOk_sz {n : Nat} {i j : Int} (g : Sz n j) (l : n ≤ 8990) (z : j ≠ 0) : divOk i j = true := by
  have := g.log
  unfold divOk Builtin.divisionGoesByPylong
  rw [decide_eq_true z]
  have e : (j == 0) = false := by simpa using z
  simp only [e]
  have : ¬ (j.natAbs.log2 / 30 + 1 > 300) := by omega
  simp [this]
theorem fdiv_abs (i j : Int) : (i.fdiv j).natAbs ≤ i.natAbs := by
  by_cases z : j = 0
  · rw [z, Int.fdiv_zero]; simp
  · rcases Int.lt_or_gt_of_ne z with hj | hj
    · -- j < 0
      have e : i.fdiv j = (-i).fdiv (-j) := (Int.neg_fdiv_neg i j).symm
      rw [e, ← Int.natAbs_neg i]
      exact pos (-i) (-j) (by omega)
    · exact pos i j hj
where
  pos (i j : Int) (hj : 0 < j) : (i.fdiv j).natAbs ≤ i.natAbs := by
    rw [Int.fdiv_eq_ediv_of_nonneg _ (by omega)]
    have := Int.natAbs_ediv_le_natAbs i j
    exact this
theorem Sz.fdiv {n : Nat} {i j : Int} (h : Sz n i) : Sz n (i.fdiv j) := Nat.lt_of_le_of_lt (fdiv_abs i j) h
theorem fmod_abs {i j : Int} (z : j ≠ 0) : (i.fmod j).natAbs < j.natAbs := by
  rcases Int.lt_or_gt_of_ne z with hj | hj
  · have h1 := Int.fmod_def i j
    have e : i.fmod j = -((-i).fmod (-j)) := by
      rw [Int.neg_fmod_neg]
      simp
    rw [e, Int.natAbs_neg, Int.fmod_eq_emod_of_nonneg _ (by omega)]
    have a1 := Int.emod_nonneg (-i) (show (-j) ≠ 0 by omega)
    have a2 := Int.emod_lt_of_pos (-i) (show 0 < -j by omega)
    omega
  · rw [Int.fmod_eq_emod_of_nonneg _ (by omega)]
    have a1 := Int.emod_nonneg i z
    have a2 := Int.emod_lt_of_pos i hj
    omega
theorem Sz.fmod {n : Nat} {i j : Int} (h : Sz n j) (z : j ≠ 0) : Sz n (i.fmod j) := Nat.lt_trans (fmod_abs z) h
theorem small_nat {n : Nat} (h : n ≤ 1000000) : smallI (n : Int) = true := by
  unfold smallI
  refine decide_eq_true ?_
  by_cases z : n = 0
  · subst z; decide
  · have : (n : Int).natAbs = n := rfl
    rw [this, Nat.log2_lt z]
    exact Nat.lt_of_le_of_lt h (by decide)
end PV
/-! PVR: ratios as rational numbers; comprehensions and loops over lists; the ratio defs by their code. -/
namespace PV
open PySem
/-! ### ratios -/
def rv (q : Rat) : D := .tup [.int q.num, .int (q.den : Int)]
def Qn (n : Nat) (q : Rat) : Prop := Sz n q.num ∧ Sz n (q.den : Int)
def gd (a b : Int) : Int := ((Nat.gcd a.natAbs b.natAbs : Nat) : Int)
theorem gd_pos {a b : Int} (hb : b ≠ 0) : 0 < gd a b := by
  unfold gd
  have : 0 < Nat.gcd a.natAbs b.natAbs := Nat.gcd_pos_of_pos_right _ (by omega)
  omega
theorem gd_sz {a b : Int} {n : Nat} (hb : b ≠ 0) (sb : Sz n b) : Sz n (gd a b) := by
  unfold Sz gd at *
  have := Nat.gcd_le_right a.natAbs (show 0 < b.natAbs by omega)
  simp only [Int.natAbs_natCast]
  omega
theorem gd_neg (a b : Int) : gd (-a) (-b) = gd a b := by
  unfold gd
  rw [Int.natAbs_neg, Int.natAbs_neg]
def mkR (a b : Int) : Int × Int := if b < 0 then (a.fdiv (-gd a b), b.fdiv (-gd a b)) else (a.fdiv (gd a b), b.fdiv (gd a b))
theorem mkR_split {a b : Int} (hb : b ≠ 0) : ∃ g x y : Int, 0 < g ∧ a = g * x ∧ b = g * y ∧ gd x y = 1 ∧ g = gd a b := by
  obtain ⟨x, hx⟩ : gd a b ∣ a := Int.ofNat_dvd_left.mpr (Nat.gcd_dvd_left _ _)
  obtain ⟨y, hy⟩ : gd a b ∣ b := Int.ofNat_dvd_left.mpr (Nat.gcd_dvd_right _ _)
  have gp := gd_pos (a := a) hb
  refine ⟨gd a b, x, y, gp, hx, hy, ?_, rfl⟩
  have hg : Nat.gcd a.natAbs b.natAbs = (gd a b).natAbs := by unfold gd; simp
  have hx2 : a.natAbs = (gd a b).natAbs * x.natAbs := by rw [← Int.natAbs_mul, ← hx]
  have hy2 : b.natAbs = (gd a b).natAbs * y.natAbs := by rw [← Int.natAbs_mul, ← hy]
  have e : Nat.gcd a.natAbs b.natAbs = (gd a b).natAbs * Nat.gcd x.natAbs y.natAbs := by
    conv => lhs; rw [hx2, hy2]
    exact Nat.gcd_mul_left _ _ _
  have : (gd a b).natAbs * Nat.gcd x.natAbs y.natAbs = (gd a b).natAbs * 1 := by rw [← e, hg]; simp
  have := Nat.eq_of_mul_eq_mul_left (show 0 < (gd a b).natAbs by omega) this
  unfold gd
  rw [this]
  rfl
theorem mkR_spec {a b : Int} (hb : b ≠ 0) : 0 < (mkR a b).2 ∧ gd (mkR a b).1 (mkR a b).2 = 1 ∧ (mkR a b).1 * b = a * (mkR a b).2 := by
  obtain ⟨g, x, y, gp, ha, hb', hg, e⟩ := mkR_split (a := a) hb
  unfold mkR
  rw [← e]
  have g0 : g ≠ 0 := by omega
  by_cases hlt : b < 0
  · rw [if_pos hlt]
    have e1 : a.fdiv (-g) = -x := by
      rw [ha, show g * x = (-g) * (-x) by rw [Int.neg_mul_neg], Int.mul_fdiv_cancel_left _ (by omega)]
    have e2 : b.fdiv (-g) = -y := by
      rw [hb', show g * y = (-g) * (-y) by rw [Int.neg_mul_neg], Int.mul_fdiv_cancel_left _ (by omega)]
    simp only [e1, e2]
    refine ⟨?_, by rw [gd_neg]; exact hg, ?_⟩
    · have : y < 0 := by
        rcases Int.lt_or_le y 0 with z | z
        · exact z
        · have := Int.mul_nonneg (Int.le_of_lt gp) z
          omega
      omega
    · rw [ha, hb']
      simp only [Int.neg_mul, Int.mul_neg]
      rw [Int.mul_left_comm, Int.mul_assoc]
  · rw [if_neg hlt]
    have e1 : a.fdiv g = x := by rw [ha, Int.mul_fdiv_cancel_left _ g0]
    have e2 : b.fdiv g = y := by rw [hb', Int.mul_fdiv_cancel_left _ g0]
    simp only [e1, e2]
    refine ⟨?_, hg, ?_⟩
    · have : 0 < y := by
        rcases Int.lt_or_le 0 y with z | z
        · exact z
        · have := Int.mul_nonneg (Int.le_of_lt gp) (show 0 ≤ -y by omega)
          rw [Int.mul_neg] at this
          omega
      exact this
    · rw [ha, hb', Int.mul_left_comm, Int.mul_assoc]
theorem mkR_sz {a b : Int} {n m : Nat} (sa : Sz n a) (sb : Sz m b) : Sz n (mkR a b).1 ∧ Sz m (mkR a b).2 := by
  unfold mkR
  split
  · exact ⟨sa.fdiv, sb.fdiv⟩
  · exact ⟨sa.fdiv, sb.fdiv⟩
/-- the lowest terms are the rational number's -/
theorem mkR_rat {a b : Int} (hb : b ≠ 0) : (mkR a b).1 = (Rat.divInt a b).num ∧ (mkR a b).2 = ((Rat.divInt a b).den : Int) := by
  obtain ⟨h1, h2, h3⟩ := mkR_spec (a := a) hb
  have nz : (mkR a b).2.natAbs ≠ 0 := by omega
  have cp : (mkR a b).1.natAbs.Coprime (mkR a b).2.natAbs := by
    unfold gd at h2
    unfold Nat.Coprime
    omega
  have e : (⟨(mkR a b).1, (mkR a b).2.natAbs, nz, cp⟩ : Rat) = Rat.divInt a b := by
    rw [Rat.mk_eq_divInt, Rat.divInt_eq_divInt_iff (by omega) hb]
    rw [Int.natAbs_of_nonneg (by omega)]
    exact h3
  have e1 := congrArg Rat.num e
  have e2 := congrArg Rat.den e
  refine ⟨e1, ?_⟩
  rw [← e2]
  simp only
  omega
theorem mkR_rv {a b : Int} (hb : b ≠ 0) : D.tup [.int (mkR a b).1, .int (mkR a b).2] = rv (Rat.divInt a b) := by
  obtain ⟨e1, e2⟩ := mkR_rat (a := a) hb
  unfold rv
  rw [e1, e2]
theorem Qn.divInt {a b : Int} {n : Nat} (hb : b ≠ 0) (sa : Sz n a) (sb : Sz n b) : Qn n (Rat.divInt a b) := by
  obtain ⟨e1, e2⟩ := mkR_rat (a := a) hb
  obtain ⟨s1, s2⟩ := mkR_sz sa sb
  exact ⟨e1 ▸ s1, e2 ▸ s2⟩
theorem Qn.mono {n m : Nat} {q : Rat} (h : Qn n q) (l : n ≤ m) : Qn m q := ⟨h.1.mono l, h.2.mono l⟩
theorem den0 (q : Rat) : (q.den : Int) ≠ 0 := by
  have := q.den_pos
  omega
theorem rat_eq (q : Rat) : Rat.divInt q.num q.den = q := Rat.num_divInt_den q
theorem rat_add (p q : Rat) : Rat.divInt (p.num * q.den + q.num * p.den) (p.den * q.den) = p + q := by
  conv => rhs; rw [← rat_eq p, ← rat_eq q]
  rw [Rat.divInt_add_divInt _ _ (den0 p) (den0 q)]
theorem rat_mul (p q : Rat) : Rat.divInt (p.num * q.num) (p.den * q.den) = p * q := by
  conv => rhs; rw [← rat_eq p, ← rat_eq q]
  rw [Rat.divInt_mul_divInt]
theorem Qn.add {n m : Nat} {p q : Rat} (hp : Qn n p) (hq : Qn m q) : Qn (n + m + 1) (p + q) := by
  rw [← rat_add]
  exact Qn.divInt (Int.mul_ne_zero (den0 p) (den0 q)) (((hp.1.mul hq.2).add (hq.1.mul hp.2)).mono (by omega)) ((hp.2.mul hq.2).mono (by omega))
theorem Qn.mul {n m : Nat} {p q : Rat} (hp : Qn n p) (hq : Qn m q) : Qn (n + m) (p * q) := by
  rw [← rat_mul]
  exact Qn.divInt (Int.mul_ne_zero (den0 p) (den0 q)) (hp.1.mul hq.1) (hp.2.mul hq.2)
theorem Qn.zero {n : Nat} (hn : 1 ≤ n) : Qn n 0 := ⟨by show (0 : Int).natAbs < _; exact Nat.pow_pos (by decide), by show (1 : Int).natAbs < _; exact Nat.lt_of_lt_of_le (by decide) (Nat.pow_le_pow_right (by decide) hn)⟩
theorem Qn.one {n : Nat} (hn : 1 ≤ n) : Qn n 1 := ⟨by show (1 : Int).natAbs < _; exact Nat.lt_of_lt_of_le (by decide) (Nat.pow_le_pow_right (by decide) hn), by show (1 : Int).natAbs < _; exact Nat.lt_of_lt_of_le (by decide) (Nat.pow_le_pow_right (by decide) hn)⟩
@[simp] theorem rv_at0 (q : Rat) (h : Hd) : idxV (rv q) (.int 0) h = .ok (.int q.num) h := by simp [idxV, rv, L2.atI, L2.ixN]
@[simp] theorem rv_at1 (q : Rat) (h : Hd) : idxV (rv q) (.int 1) h = .ok (.int q.den) h := by simp [idxV, rv, L2.atI, L2.ixN]
theorem rv_zero : rv 0 = .tup [.int 0, .int 1] := rfl
theorem rv_one : rv 1 = .tup [.int 1, .int 1] := rfl
theorem line_ok {n : Nat} (h : n ≤ 1000000) : n ≤ line := by
  unfold line
  omega
/-! ### comprehensions -/
theorem loopC_map {α : Type} {fix : List (Nat × List D)} {b : D → Option Sl} {c : Sl → Hd → Out Bool} {e : Sl → Hd → Out D} {φ r : α → D} {h : Hd} (hf : fixOk h fix = true) : ∀ (as : List α) (acc : List D), acc.length + as.length ≤ line → (∀ a ∈ as, ∃ s1, b (φ a) = some s1 ∧ c s1 h = .ok true h ∧ e s1 h = .ok (r a) h) →
    loopC fix b c e (as.map φ) acc h = .ok (acc ++ as.map r) h
  | [], acc, hl, hs => by
    show ret (fixOk h fix) acc h = _
    rw [hf]
    simp
  | a :: as, acc, hl, hs => by
    obtain ⟨s1, e1, e2, e3⟩ := hs a List.mem_cons_self
    have ih := loopC_map hf as (acc ++ [r a]) (by simp at hl ⊢; omega) fun x hx => hs x (List.mem_cons_of_mem _ hx)
    have lt : decide (acc.length < line) = true := decide_eq_true (by simp at hl; omega)
    rw [List.map_cons]
    unfold loopC
    simp only [hf, e1, e2, e3, bind_ok, lt]
    rw [ih]
    simp
/-- tuple([..]), all([..]): the list is made behind the heap -/
theorem lc_new {α : Type} {ev : Ev} {elt : QE} {g : QG} {it : QI} {own : List Nat} {cond : QT} {s : Sl} {h : Hd} {fix : List (Nat × List D)} {φ r : α → D} {as : List α} (hi : evI ev it s h = .ok ⟨as.map φ, fix⟩ h) (hf : fixOk h fix = true) (hl : as.length ≤ line)
    (hs : ∀ a ∈ as, ∃ s1, bindG g (φ a) (wipeD s own) = some s1 ∧ evT ev cond s1 h = .ok true h ∧ evE ev elt s1 h = .ok (r a) h) : evE ev (.lc elt g it own cond) s h = .ok (.ref h.length) (h ++ [.lst (as.map r)]) := by
  rw [x_lc, hi, bind_ok, y_lc_, loopC_map hf as [] (by simpa using hl) hs]
  rfl
theorem lst_new (h : Hd) (xs : List D) : lstAt (h ++ [.lst xs]) h.length = some xs := by
  unfold lstAt
  rw [List.getElem?_append_right (Nat.le_refl _)]
  simp
@[simp] theorem tuple_new (h : Hd) (xs : List D) : biV .tuple [.ref h.length] (h ++ [.lst xs]) = .ok (.tup xs) (h ++ [.lst xs]) := by
  unfold biV
  simp [lst_new]
theorem all_new (h : Hd) {α : Type} (as : List α) (p : α → Bool) : biV .all [.ref h.length] (h ++ [.lst (as.map fun a => .bl (p a))]) = .ok (.bl (as.all p)) (h ++ [.lst (as.map fun a => .bl (p a))]) := by
  have e : bls (as.map fun a => D.bl (p a)) = some (as.map p) := by
    induction as with
    | nil => rfl
    | cons a as ih => simp [bls, ih]
  unfold biV
  simp [lst_new, e]
theorem any_new (h : Hd) {α : Type} (as : List α) (p : α → Bool) : biV .any [.ref h.length] (h ++ [.lst (as.map fun a => .bl (p a))]) = .ok (.bl (as.any p)) (h ++ [.lst (as.map fun a => .bl (p a))]) := by
  have e : bls (as.map fun a => D.bl (p a)) = some (as.map p) := by
    induction as with
    | nil => rfl
    | cons a as ih => simp [bls, ih]
  unfold biV
  simp [lst_new, e]
theorem fin_app {h l : Hd} {d : D} (hd : D.lt h.length d = true) : fin h (.rt d (h ++ l)) = .ok d h := gc_app hd
theorem rv_lt (n : Nat) (q : Rat) : D.lt n (rv q) = true := by simp [rv, D.lt, D.lts]
theorem lts_map {α : Type} (n : Nat) (r : α → D) (hr : ∀ a, D.lt n (r a) = true) : ∀ as : List α, D.lts n (as.map r) = true
  | [] => by simp [D.lts]
  | a :: as => by simp [D.lts, hr a, lts_map n r hr as]
/-! ### vectors, matrices -/
def vv (v : List Rat) : D := .tup (v.map rv)
def mv (m : List (List Rat)) : D := .tup (m.map vv)
theorem vv_lt (n : Nat) (v : List Rat) : D.lt n (vv v) = true := by
  simp only [vv, D.lt]
  exact lts_map n rv (rv_lt n) v
theorem mv_lt (n : Nat) (m : List (List Rat)) : D.lt n (mv m) = true := by
  simp only [mv, D.lt]
  exact lts_map n vv (vv_lt n) m
theorem zip_map {α β : Type} (f : α → D) (g : β → D) : ∀ (as : List α) (bs : List β), zipD (as.map f) (bs.map g) = (as.zip bs).map fun p => .tup [f p.1, g p.2]
  | [], _ => by simp [zipD]
  | _ :: _, [] => by simp [zipD]
  | a :: as, b :: bs => by simp [zipD, zip_map f g as bs]
theorem zipV_tup (xs ys : List D) (h : Hd) : zipV (.tup xs) (.tup ys) h = .ok ⟨zipD xs ys, []⟩ h := rfl
theorem loopF_fold {α : Type} {fix : List (Nat × List D)} {g : D → Sl → Option Sl} {b : Sl → Hd → SOut} {φ : α → D} {h : Hd} (hf : fixOk h fix = true) {β : Type} (st : β → Sl → Prop) (step : β → α → β) : ∀ (as : List α) (x : β) (s : Sl), st x s → (∀ a ∈ as, ∀ x s, st x s → ∃ s1 s2, g (φ a) s = some s1 ∧ b s1 h = .nx s2 h ∧ st (step x a) s2) →
    ∃ s', loopF fix g b (as.map φ) s h = .nx s' h ∧ st (as.foldl step x) s'
  | [], x, s, hs, _ => ⟨s, loopF_nil hf, hs⟩
  | a :: as, x, s, hs, ht => by
    obtain ⟨s1, s2, e1, e2, e3⟩ := ht a List.mem_cons_self x s hs
    obtain ⟨s', e4, e5⟩ := loopF_fold hf st step as (step x a) s2 e3 fun y hy => ht y (List.mem_cons_of_mem _ hy)
    refine ⟨s', ?_, e5⟩
    rw [List.map_cons, loopF_go hf e1 e2]
    exact e4
/-- a loop by what holds behind the items that are done -/
theorem loopF_inv {α : Type} {fix : List (Nat × List D)} {g : D → Sl → Option Sl} {b : Sl → Hd → SOut} {φ : α → D} {all : List α} (I : List α → Sl → Hd → Prop) (hf : ∀ l s h, I l s h → fixOk h fix = true)
    (hs : ∀ (l : List α) (a : α) (r : List α) (s : Sl) (h : Hd), l ++ a :: r = all → I l s h → ∃ s1 s2 h2, g (φ a) s = some s1 ∧ b s1 h = .nx s2 h2 ∧ I (l ++ [a]) s2 h2) : ∀ (r l : List α) (s : Sl) (h : Hd), l ++ r = all → I l s h → ∃ s' h', loopF fix g b (r.map φ) s h = .nx s' h' ∧ I all s' h'
  | [], l, s, h, e, i => by
    rw [List.append_nil] at e
    subst e
    exact ⟨s, h, loopF_nil (hf _ _ _ i), i⟩
  | a :: r, l, s, h, e, i => by
    obtain ⟨s1, s2, h2, e1, e2, i2⟩ := hs l a r s h e i
    obtain ⟨s', h', e3, i3⟩ := loopF_inv I hf hs r (l ++ [a]) s2 h2 (by rw [List.append_assoc]; exact e) i2
    refine ⟨s', h', ?_, i3⟩
    rw [List.map_cons]
    conv => lhs; unfold loopF
    simp only [hf _ _ _ i, e1, e2]
    exact e3
theorem fin_keep {h h' : Hd} {d : D} (hd : D.lt h.length d = false) : fin h (.rt d h') = .ok d h' := by
  show gc h d h' = _
  unfold gc
  rw [hd, Bool.and_false]
  rfl
theorem lst_old {h : Hd} {n : Nat} {xs : List D} (e : lstAt h n = some xs) (l : Hd) : lstAt (h ++ l) n = some xs := by
  unfold lstAt at *
  cases q : h[n]? with
  | none => rw [q] at e; cases e
  | some c =>
    rw [q] at e
    rw [List.getElem?_append_left (List.getElem?_eq_some_iff.mp q).1, q]
    exact e
/-- the list at the end of h, with what lies behind it -/
theorem lst_mid (h : Hd) (xs : List D) (l : Hd) : lstAt (h ++ .lst xs :: l) h.length = some xs := by
  unfold lstAt
  rw [List.getElem?_append_right (Nat.le_refl _)]
  simp
theorem set_mid (h : Hd) (c c' : Cell) (l : Hd) : (h ++ c :: l).set h.length c' = h ++ c' :: l := by
  rw [List.set_append_right _ _ (Nat.le_refl _)]
  simp
theorem app_mid (h : Hd) (xs : List D) (l : Hd) (y : D) (hl : xs.length < line) : mthV 0 (.ref h.length) [y] (h ++ .lst xs :: l) = .ok .non (h ++ .lst (xs ++ [y]) :: l) := by
  show appV (.ref h.length) [y] _ = _
  unfold appV
  simp only [lst_mid, decide_eq_true hl, ret_true, set_mid]
theorem isL_mid (h : Hd) (xs : List D) (l : Hd) : isLst (h ++ .lst xs :: l) (.ref h.length) = true := by
  show (lstAt _ _).isSome = true
  rw [lst_mid]
  rfl
theorem idx_ref {h : Hd} {n : Nat} {xs : List D} (e : lstAt h n = some xs) (j : Nat) (hj : j < xs.length) : idxV (.ref n) (.int (j : Int)) h = .ok xs[j] h := by
  simp [idxV, e, L2.atI, L2.ixN, hj]
theorem tuple_ref {h : Hd} {n : Nat} {xs : List D} (e : lstAt h n = some xs) : biV .tuple [.ref n] h = .ok (.tup xs) h := by
  unfold biV
  simp [e]
/-- a comprehension whose turns make things behind the heap -/
theorem loopC_grow {α : Type} {fix : List (Nat × List D)} {b : D → Option Sl} {c : Sl → Hd → Out Bool} {e : Sl → Hd → Out D} {φ r : α → D} {h0 : Hd} (hf : ∀ l, fixOk (h0 ++ l) fix = true) : ∀ (as : List α) (acc : List D) (l : Hd), acc.length + as.length ≤ line → (∀ a ∈ as, ∃ s1, b (φ a) = some s1 ∧ ∀ l, c s1 (h0 ++ l) = .ok true (h0 ++ l) ∧ ∃ l', e s1 (h0 ++ l) = .ok (r a) (h0 ++ l')) →
    ∃ l', loopC fix b c e (as.map φ) acc (h0 ++ l) = .ok (acc ++ as.map r) (h0 ++ l')
  | [], acc, l, hl, hs => by
    refine ⟨l, ?_⟩
    show ret (fixOk (h0 ++ l) fix) acc (h0 ++ l) = _
    rw [hf]
    simp
  | a :: as, acc, l, hl, hs => by
    obtain ⟨s1, e1, e2⟩ := hs a List.mem_cons_self
    obtain ⟨e2, l1, e3⟩ := e2 l
    obtain ⟨l', ih⟩ := loopC_grow hf as (acc ++ [r a]) l1 (by simp at hl ⊢; omega) fun x hx => hs x (List.mem_cons_of_mem _ hx)
    have lt : decide (acc.length < line) = true := decide_eq_true (by simp at hl; omega)
    refine ⟨l', ?_⟩
    rw [List.map_cons]
    unfold loopC
    simp only [hf, e1, e2, e3, bind_ok, lt]
    rw [ih]
    simp
end PV
/-! PVT: the ratio and vector defs by their code; callees by number, with what they give. -/
namespace PV
open PySem
/-- ev's def f gives d for xs, whatever the heap; it leaves the heap as it was -/
def Giv (ev : Ev) (f : Nat) (xs : List D) (d : D) : Prop := ∀ h, ev.call f xs h = .ok d h
section
variable {ev : Ev} {h : Hd}
def C_make (e : Nat) : QSs := .cons (.ife (.v (.cmp .Eq (.var 1) (.con (.int 0)))) (.cons (.raise e [] .nil) .nil) .nil)
  (.cons (.asg (.nm 2) (.bi .gcd (.cons (.var 0) (.cons (.var 1) .nil))))
  (.cons (.ife (.v (.cmp .Lt (.var 1) (.con (.int 0)))) (.cons (.asg (.nm 2) (.neg (.var 2))) .nil) .nil)
  (.cons (.ret (.tup (.cons (.bin .FloorDiv (.var 0) (.var 2)) (.cons (.bin .FloorDiv (.var 1) (.var 2)) .nil)))) .nil)))
theorem t_make {e : Nat} {a b : Int} (hb : b ≠ 0) {n : Nat} (sb : Sz n b) (hn : n ≤ 8900) : fin h (exSs ev (C_make e) (startD 3 [.int a, .int b]) h) = .ok (rv (Rat.divInt a b)) h := by
  have gp := gd_pos (a := a) hb
  have sg := gd_sz (a := a) hb sb
  have e2 : ((a.natAbs.gcd b.natAbs : Nat) : Int) = gd a b := rfl
  rw [← mkR_rv hb]
  by_cases hlt : b < 0
  · have d : ∀ x, divOk x (-gd a b) = true := fun x => divOk_sz sg.neg (by omega) (by omega)
    have e3 : mkR a b = (a.fdiv (-gd a b), b.fdiv (-gd a b)) := if_pos hlt
    simp [C_make, startD, hb, e2, e3, hlt, d]
  · have d : ∀ x, divOk x (gd a b) = true := fun x => divOk_sz sg (by omega) (by omega)
    have e3 : mkR a b = (a.fdiv (gd a b), b.fdiv (gd a b)) := if_neg hlt
    simp [C_make, startD, hb, e2, e3, hlt, d]
/-- what a maker of lowest terms (def f) promises -/
def MakesR (ev : Ev) (f : Nat) : Prop := ∀ a b : Int, b ≠ 0 → Sz 8900 b → Giv ev f [.int a, .int b] (rv (Rat.divInt a b))
def C_add (mk : Nat) : QSs := .cons (.ret (.call mk (.cons (.bin .Add (.bin .Mult (.idx (.var 0) (.con (.int 0))) (.idx (.var 1) (.con (.int 1)))) (.bin .Mult (.idx (.var 1) (.con (.int 0))) (.idx (.var 0) (.con (.int 1))))) (.cons (.bin .Mult (.idx (.var 0) (.con (.int 1))) (.idx (.var 1) (.con (.int 1)))) .nil)) .nil [.inl (.inl 0), .inl (.inl 1)])) .nil
theorem t_add {mk : Nat} (hm : MakesR ev mk) {p q : Rat} {n : Nat} (sp : Qn n p) (sq : Qn n q) (hn : n ≤ 4400) : fin h (exSs ev (C_add mk) (startD 2 [rv p, rv q]) h) = .ok (rv (p + q)) h := by
  have m1 := mulOk_sz sp.1 sq.2 (by omega)
  have m2 := mulOk_sz sq.1 sp.2 (by omega)
  have m3 := mulOk_sz sp.2 sq.2 (by omega)
  have c := hm (p.num * q.den + q.num * p.den) (p.den * q.den) (Int.mul_ne_zero (den0 p) (den0 q)) ((sp.2.mul sq.2).mono (by omega)) h
  rw [rat_add] at c
  simp [C_add, startD, m1, m2, m3, arrD, c]
def C_mul (mk : Nat) : QSs := .cons (.ret (.call mk (.cons (.bin .Mult (.idx (.var 0) (.con (.int 0))) (.idx (.var 1) (.con (.int 0)))) (.cons (.bin .Mult (.idx (.var 0) (.con (.int 1))) (.idx (.var 1) (.con (.int 1)))) .nil)) .nil [.inl (.inl 0), .inl (.inl 1)])) .nil
theorem t_mul {mk : Nat} (hm : MakesR ev mk) {p q : Rat} {n : Nat} (sp : Qn n p) (sq : Qn n q) (hn : n ≤ 4400) : fin h (exSs ev (C_mul mk) (startD 2 [rv p, rv q]) h) = .ok (rv (p * q)) h := by
  have m1 := mulOk_sz sp.1 sq.1 (by omega)
  have m3 := mulOk_sz sp.2 sq.2 (by omega)
  have c := hm (p.num * q.num) (p.den * q.den) (Int.mul_ne_zero (den0 p) (den0 q)) ((sp.2.mul sq.2).mono (by omega)) h
  rw [rat_mul] at c
  simp [C_mul, startD, m1, m3, arrD, c]
def C_sub (mk : Nat) : QSs := .cons (.ret (.call mk (.cons (.bin .Sub (.bin .Mult (.idx (.var 0) (.con (.int 0))) (.idx (.var 1) (.con (.int 1)))) (.bin .Mult (.idx (.var 1) (.con (.int 0))) (.idx (.var 0) (.con (.int 1))))) (.cons (.bin .Mult (.idx (.var 0) (.con (.int 1))) (.idx (.var 1) (.con (.int 1)))) .nil)) .nil [.inl (.inl 0), .inl (.inl 1)])) .nil
theorem rat_sub (p q : Rat) : Rat.divInt (p.num * q.den - q.num * p.den) (p.den * q.den) = p - q := by
  have h := rat_add p (-q)
  rw [Rat.sub_eq_add_neg, ← h]
  have e1 : (-q).num = -q.num := rfl
  have e2 : (-q).den = q.den := rfl
  rw [e1, e2, Int.neg_mul, Int.sub_eq_add_neg]
theorem t_sub {mk : Nat} (hm : MakesR ev mk) {p q : Rat} {n : Nat} (sp : Qn n p) (sq : Qn n q) (hn : n ≤ 4400) : fin h (exSs ev (C_sub mk) (startD 2 [rv p, rv q]) h) = .ok (rv (p - q)) h := by
  have m1 := mulOk_sz sp.1 sq.2 (by omega)
  have m2 := mulOk_sz sq.1 sp.2 (by omega)
  have m3 := mulOk_sz sp.2 sq.2 (by omega)
  have c := hm (p.num * q.den - q.num * p.den) (p.den * q.den) (Int.mul_ne_zero (den0 p) (den0 q)) ((sp.2.mul sq.2).mono (by omega)) h
  rw [rat_sub] at c
  simp [C_sub, startD, m1, m2, m3, arrD, c]
/-! ### Euclid's way, as the laws write it -/
theorem gd_step {a b : Int} (ha : 0 ≤ a) (hb : 0 < b) : gd b (a.fmod b) = gd a b := by
  unfold gd
  rw [Int.fmod_eq_emod_of_nonneg _ (by omega)]
  have : (a % b).natAbs = a.natAbs % b.natAbs := by
    have := Int.emod_nonneg a (show b ≠ 0 by omega)
    have e : ((a.natAbs % b.natAbs : Nat) : Int) = a % b := by
      rw [Int.natCast_emod, Int.natAbs_of_nonneg ha, Int.natAbs_of_nonneg (by omega)]
    omega
  rw [this, Nat.gcd_comm b.natAbs, ← Nat.gcd_rec, Nat.gcd_comm]
def C_common : QSs := .cons (.asg (.nm 0) (.bi .abs (.cons (.var 0) .nil)))
  (.cons (.asg (.nm 1) (.bi .abs (.cons (.var 1) .nil)))
  (.cons (.whl (.v (.cmp .Gt (.var 1) (.con (.int 0)))) (.cons (.asg (.nm 2) (.bin .Mod (.bi .int (.cons (.var 0) .nil)) (.var 1)))
  (.cons (.asg (.nm 0) (.var 1))
  (.cons (.asg (.nm 1) (.var 2)) .nil))))
  (.cons (.ret (.var 0)) .nil)))
theorem common_loop (ev : Ev) : ∀ (n : Nat) (a b : Int) (c : Option D) (h : Hd), 0 ≤ a → 0 ≤ b → b.toNat < n →
    ∃ c', loopW (evT ev (.v (.cmp .Gt (.var 1) (.con (.int 0))))) (exSs ev (.cons (.asg (.nm 2) (.bin .Mod (.bi .int (.cons (.var 0) .nil)) (.var 1)))
  (.cons (.asg (.nm 0) (.var 1))
  (.cons (.asg (.nm 1) (.var 2)) .nil)))) n [some (.int a), some (.int b), c] h = .nx [some (.int (gd a b)), some (.int 0), c'] h
  | 0, a, b, c, h, ha, hb, hn => by omega
  | n + 1, a, b, c, h, ha, hb, hn => by
    by_cases hb0 : b = 0
    · subst hb0
      refine ⟨c, ?_⟩
      have e : gd a 0 = a := by unfold gd; simp; omega
      simp [loopW, e]
    · have hp : 0 < b := by omega
      have h0 : 0 ≤ a.fmod b := by rw [Int.fmod_eq_emod_of_nonneg _ (by omega)]; exact Int.emod_nonneg _ hb0
      have h1 : a.fmod b < b := by rw [Int.fmod_eq_emod_of_nonneg _ (by omega)]; exact Int.emod_lt_of_pos _ hp
      obtain ⟨c', ih⟩ := common_loop ev n b (a.fmod b) (some (.int (a.fmod b))) h (by omega) h0 (by omega)
      rw [gd_step ha hp] at ih
      refine ⟨c', ?_⟩
      rw [loopW_go (h1 := h) (s2 := [some (.int b), some (.int (a.fmod b)), some (.int (a.fmod b))]) (h2 := h) (by simp [hp]) (by simp [hb0])]
      exact ih
theorem absI (i : Int) : (if i < 0 then -i else i) = i.natAbs := by split <;> omega
theorem t_common {a b : Int} {n : Nat} (sb : Sz n b) (hF : 2 ^ n ≤ ev.fuel) : fin h (exSs ev C_common (startD 3 [.int a, .int b]) h) = .ok (.int (gd a b)) h := by
  obtain ⟨c', e⟩ := common_loop ev ev.fuel (a.natAbs : Nat) (b.natAbs : Nat) none h (by omega) (by omega) (by unfold Sz at sb; omega)
  have g : gd (a.natAbs : Nat) (b.natAbs : Nat) = gd a b := by unfold gd; simp
  rw [g] at e
  simp [C_common, startD, absI]
  rw [e]
  simp
def C_lowest (cm : Nat) : QSs := .cons (.ife (.v (.cmp .Lt (.var 1) (.con (.int 0)))) (.cons (.asg (.nm 0) (.neg (.var 0)))
  (.cons (.asg (.nm 1) (.neg (.var 1))) .nil)) .nil)
  (.cons (.asg (.nm 2) (.call cm (.cons (.var 0) (.cons (.var 1) .nil)) .nil [.inl (.inl 0), .inl (.inl 1)]))
  (.cons (.ret (.tup (.cons (.bin .FloorDiv (.var 0) (.var 2)) (.cons (.bin .FloorDiv (.var 1) (.var 2)) .nil)))) .nil))
theorem neg_fdiv' (x y : Int) : (-x).fdiv y = x.fdiv (-y) := by
  have := Int.neg_fdiv_neg x (-y)
  rw [Int.neg_neg] at this
  exact this
theorem t_lowest {cm : Nat} (hc : ∀ a b, Sz 8900 b → Giv ev cm [.int a, .int b] (.int (gd a b))) {a b : Int} (hb : b ≠ 0) (sb : Sz 8900 b) : fin h (exSs ev (C_lowest cm) (startD 3 [.int a, .int b]) h) = .ok (rv (Rat.divInt a b)) h := by
  have gp := gd_pos (a := a) hb
  have sg := gd_sz (a := a) hb sb
  have d : ∀ x, divOk x (gd a b) = true := fun x => divOk_sz sg (by omega) (by omega)
  rw [← mkR_rv hb]
  by_cases hlt : b < 0
  · have c := hc (-a) (-b) sb.neg h
    rw [gd_neg] at c
    have e3 : mkR a b = (a.fdiv (-gd a b), b.fdiv (-gd a b)) := if_pos hlt
    simp [C_lowest, startD, e3, hlt, d, c, arrD, neg_fdiv']
  · have c := hc a b sb h
    have e3 : mkR a b = (a.fdiv (gd a b), b.fdiv (gd a b)) := if_neg hlt
    simp [C_lowest, startD, e3, hlt, d, c, arrD]
/-! ### vectors -/
theorem replicate_flat {α : Type} (x : α) : ∀ n : Nat, (List.replicate n [x]).flatten = List.replicate n x
  | 0 => rfl
  | n + 1 => by simp [List.replicate_succ, replicate_flat x n]
def C_zero : QSs := .cons (.ret (.bin .Mult (.tup (.cons (.con (.tup [.int 0, .int 1])) .nil)) (.var 0))) .nil
theorem mul_rep {x : D} {n : Nat} (hn : n ≤ 1000) (h : Hd) : mulV (.tup [x]) (.int n) h = .ok (.tup (List.replicate n x)) h := by
  have : (decide ((n : Int) ≤ 1000) && decide (-1000 ≤ (n : Int)) && decide ([x].length ≤ 1000)) = true := by simp; omega
  show ret _ _ _ = _
  rw [this]
  simp [replicate_flat]
theorem t_zero {n : Nat} (hn : n ≤ 1000) : fin h (exSs ev C_zero (startD 1 [.int n]) h) = .ok (vv (List.replicate n 0)) h := by
  have e : vv (List.replicate n 0) = .tup (List.replicate n (.tup [.int 0, .int 1])) := by
    simp [vv, List.map_replicate, rv_zero]
  have one : decide ((1 : Nat) ≤ line) = true := by decide
  have m := mul_rep (x := .tup [.int 0, .int 1]) hn h
  simp [C_zero, startD, one, e, m]
theorem vlen {α : Type} (r : α → D) (as : List α) (h : Hd) : biV .len [.tup (as.map r)] h = .ok (.int as.length) h := by simp
/-- zipped vectors -/
theorem zip_vv (v w : List Rat) (h : Hd) : zipV (vv v) (vv w) h = .ok ⟨(v.zip w).map fun p => .tup [rv p.1, rv p.2], []⟩ h := by
  unfold vv
  rw [zipV_tup, zip_map]
def C_added (ad : Nat) : QSs := .cons (.ret (.bi .tuple (.cons (.lc (.call ad (.cons (.var 2) (.cons (.var 3) .nil)) .nil [.inl (.inl 0), .inl (.inl 1)]) (.tp [.nm 2, .nm 3]) (.zip (.var 0) (.var 1)) [2, 3] .yes) .nil))) .nil
def addV2 (v w : List Rat) : List Rat := (v.zip w).map fun p => p.1 + p.2
theorem t_added {ad : Nat} {v w : List Rat} (hv : v.length ≤ line) (ha : ∀ p ∈ v.zip w, Giv ev ad [rv p.1, rv p.2] (rv (p.1 + p.2))) : fin h (exSs ev (C_added ad) (startD 4 [vv v, vv w]) h) = .ok (vv (addV2 v w)) h := by
  have l := lc_new (ev := ev) (elt := .call ad (.cons (.var 2) (.cons (.var 3) .nil)) .nil [.inl (.inl 0), .inl (.inl 1)]) (g := .tp [.nm 2, .nm 3]) (it := .zip (.var 0) (.var 1)) (own := [2, 3]) (cond := .yes) (s := [some (vv v), some (vv w), none, none]) (h := h) (fix := []) (φ := fun p : Rat × Rat => .tup [rv p.1, rv p.2]) (r := fun p => rv (p.1 + p.2)) (as := v.zip w) (by simp [zip_vv]) rfl (by simp; omega) (fun p hp => by
      refine ⟨_, by simp [wipeD]; rfl, rfl, ?_⟩
      have c := ha p hp h
      simp [arrD, c])
  have e : vv (addV2 v w) = .tup ((v.zip w).map fun p => rv (p.1 + p.2)) := by simp [vv, addV2]
  simp [C_added, startD, - x_lc, l]
  rw [← e]
  exact fin_app (vv_lt _ _)
def C_scaled (mu : Nat) : QSs := .cons (.ret (.bi .tuple (.cons (.lc (.call mu (.cons (.var 0) (.cons (.var 2) .nil)) .nil [.inl (.inl 0), .inl (.inl 1)]) (.nm 2) (.v (.var 1)) [2] .yes) .nil))) .nil
theorem walk_vv (v : List Rat) (h : Hd) : walkV (vv v) h = .ok ⟨v.map rv, []⟩ h := rfl
theorem walk_mv (m : List (List Rat)) (h : Hd) : walkV (mv m) h = .ok ⟨m.map vv, []⟩ h := rfl
theorem t_scaled {mu : Nat} {f : Rat} {w : List Rat} (hv : w.length ≤ line) (ha : ∀ p ∈ w, Giv ev mu [rv f, rv p] (rv (f * p))) : fin h (exSs ev (C_scaled mu) (startD 3 [rv f, vv w]) h) = .ok (vv (w.map fun p => f * p)) h := by
  have l := lc_new (ev := ev) (elt := .call mu (.cons (.var 0) (.cons (.var 2) .nil)) .nil [.inl (.inl 0), .inl (.inl 1)]) (g := .nm 2) (it := .v (.var 1)) (own := [2]) (cond := .yes) (s := [some (rv f), some (vv w), none]) (h := h) (fix := []) (φ := rv) (r := fun p => rv (f * p)) (as := w) (by simp [walk_vv]) rfl hv (fun p hp => by
      refine ⟨_, by simp [wipeD]; rfl, rfl, ?_⟩
      have c := ha p hp h
      simp [arrD, c])
  have e : vv (w.map fun p => f * p) = .tup (w.map fun p => rv (f * p)) := by simp [vv]
  simp [C_scaled, startD, - x_lc, l]
  rw [← e]
  exact fin_app (vv_lt _ _)
def C_applied (dt : Nat) : QSs := .cons (.ret (.bi .tuple (.cons (.lc (.call dt (.cons (.var 2) (.cons (.var 1) .nil)) .nil [.inl (.inl 0), .inl (.inl 1)]) (.nm 2) (.v (.var 0)) [2] .yes) .nil))) .nil
theorem t_applied {dt : Nat} {M : List (List Rat)} {v : List Rat} {f : List Rat → Rat} (hv : M.length ≤ line) (ha : ∀ r ∈ M, Giv ev dt [vv r, vv v] (rv (f r))) : fin h (exSs ev (C_applied dt) (startD 3 [mv M, vv v]) h) = .ok (vv (M.map f)) h := by
  have l := lc_new (ev := ev) (elt := .call dt (.cons (.var 2) (.cons (.var 1) .nil)) .nil [.inl (.inl 0), .inl (.inl 1)]) (g := .nm 2) (it := .v (.var 0)) (own := [2]) (cond := .yes) (s := [some (mv M), some (vv v), none]) (h := h) (fix := []) (φ := vv) (r := fun p => rv (f p)) (as := M) (by simp [walk_mv]) rfl hv (fun p hp => by
      refine ⟨_, by simp [wipeD]; rfl, rfl, ?_⟩
      have c := ha p hp h
      simp [arrD, c])
  have e : vv (M.map f) = .tup (M.map fun p => rv (f p)) := by simp [vv]
  simp [C_applied, startD, - x_lc, l]
  rw [← e]
  exact fin_app (vv_lt _ _)
end
end PV
/-! PVT2: dot products, columns, combined rows, equality by the law. -/
namespace PV
open PySem
section
variable {ev : Ev} {h : Hd}
theorem eqV_rv (h : Hd) (p q : Rat) : eqV h (rv p) (rv q) = some (decide (p = q)) := by
  have e : (p = q) ↔ (p.num = q.num ∧ (p.den : Int) = q.den) := ⟨fun e => by rw [e]; exact ⟨rfl, rfl⟩, fun ⟨a, b⟩ => Rat.ext a (by omega)⟩
  unfold eqV rv
  simp only [toPyT, toPyF, toPysF, SeqAt.shaped, PyData.eqv, PyData.eqvAll, PyData.canLay0, PyData.canLayAll0, PyData.depth, PyData.depthAll]
  simp only [decide_eq_decide.mpr e]
  by_cases h1 : p.num = q.num
  · by_cases h2 : (p.den : Int) = q.den
    · simp [h1, h2]
    · simp [h1, h2]
  · simp [h1]
@[simp] theorem eqV_rv0 (h : Hd) (p : Rat) : eqV h (rv p) (.tup [.int 0, .int 1]) = some (decide (p = 0)) := eqV_rv h p 0
def dotR (l : List (Rat × Rat)) : Rat := l.foldl (fun s p => s + p.1 * p.2) 0
def C_dot (mk : Nat) : QSs := .cons (.asg (.nm 2) (.con (.int 0)))
  (.cons (.asg (.nm 3) (.con (.int 1)))
  (.cons (.for (.tp [.nm 4, .nm 5]) (.zip (.var 0) (.var 1)) (.cons (.ife (.and (.v (.cmp .NotEq (.idx (.var 4) (.con (.int 0))) (.con (.int 0)))) (.v (.cmp .NotEq (.idx (.var 5) (.con (.int 0))) (.con (.int 0))))) (.cons (.asg (.nm 6) (.bin .Mult (.idx (.var 4) (.con (.int 1))) (.idx (.var 5) (.con (.int 1)))))
  (.cons (.asg (.nm 2) (.bin .Add (.bin .Mult (.var 2) (.var 6)) (.bin .Mult (.bin .Mult (.idx (.var 4) (.con (.int 0))) (.idx (.var 5) (.con (.int 0)))) (.var 3))))
  (.cons (.asg (.nm 3) (.bin .Mult (.var 3) (.var 6))) .nil))) .nil) .nil))
  (.cons (.ret (.call mk (.cons (.var 2) (.cons (.var 3) .nil)) .nil [.inl (.inl 0), .inl (.inl 1)])) .nil)))
def dotB : QSs := .cons (.ife (.and (.v (.cmp .NotEq (.idx (.var 4) (.con (.int 0))) (.con (.int 0)))) (.v (.cmp .NotEq (.idx (.var 5) (.con (.int 0))) (.con (.int 0))))) (.cons (.asg (.nm 6) (.bin .Mult (.idx (.var 4) (.con (.int 1))) (.idx (.var 5) (.con (.int 1)))))
  (.cons (.asg (.nm 2) (.bin .Add (.bin .Mult (.var 2) (.var 6)) (.bin .Mult (.bin .Mult (.idx (.var 4) (.con (.int 0))) (.idx (.var 5) (.con (.int 0)))) (.var 3))))
  (.cons (.asg (.nm 3) (.bin .Mult (.var 3) (.var 6))) .nil))) .nil) .nil
theorem num0 {q : Rat} (h : q.num = 0) : q = 0 := by
  have := rat_eq q
  rw [h, Rat.zero_divInt] at this
  exact this.symm
theorem dot_loop {n L : Nat} (hL : L * (2 * n + 2) ≤ 8800) (v0 v1 : Option D) : ∀ (l : List (Rat × Rat)) (i : Nat) (A B : Int) (s4 s5 s6 : Option D) (x : Rat), (∀ p ∈ l, Qn n p.1 ∧ Qn n p.2) → i + l.length ≤ L → B ≠ 0 → Rat.divInt A B = x → Sz (i * (2 * n + 1) + 1) A → Sz (i * (2 * n + 1) + 1) B →
    ∃ (A' B' : Int) (t4 t5 t6 : Option D), loopF [] (bindG (.tp [.nm 4, .nm 5])) (exSs ev dotB) (l.map fun p => .tup [rv p.1, rv p.2]) [v0, v1, some (.int A), some (.int B), s4, s5, s6] h = .nx [v0, v1, some (.int A'), some (.int B'), t4, t5, t6] h ∧ B' ≠ 0 ∧ Rat.divInt A' B' = l.foldl (fun s p => s + p.1 * p.2) x ∧ Sz 8850 B'
  | [], i, A, B, s4, s5, s6, x, hq, hi, hB, hx, sA, sB => ⟨A, B, s4, s5, s6, loopF_nil rfl, hB, hx, sB.mono (by
      have : i * (2 * n + 1) ≤ L * (2 * n + 1) := Nat.mul_le_mul_right _ (by simpa using hi)
      have : L * (2 * n + 1) ≤ L * (2 * n + 2) := Nat.mul_le_mul_left _ (by omega)
      omega)⟩
  | p :: l, i, A, B, s4, s5, s6, x, hq, hi, hB, hx, sA, sB => by
    obtain ⟨q1, q2⟩ := hq p List.mem_cons_self
    have hi' : i + 1 + l.length ≤ L := by simp at hi; omega
    have hl := fun y hy => hq y (List.mem_cons_of_mem p hy)
    have b1 : (i + 1) * (2 * n + 1) ≤ L * (2 * n + 1) := Nat.mul_le_mul_right _ (by omega)
    have b2 : L * (2 * n + 1) ≤ L * (2 * n + 2) := Nat.mul_le_mul_left _ (by omega)
    have e1 : (i + 1) * (2 * n + 1) + 1 = i * (2 * n + 1) + 1 + (2 * n + 1) := by rw [Nat.add_mul]; omega
    have e0 : bindG (.tp [.nm 4, .nm 5]) (.tup [rv p.1, rv p.2]) [v0, v1, some (.int A), some (.int B), s4, s5, s6] = some [v0, v1, some (.int A), some (.int B), some (rv p.1), some (rv p.2), s6] := by simp
    have skip : p.1 * p.2 = 0 → exSs ev dotB [v0, v1, some (.int A), some (.int B), some (rv p.1), some (rv p.2), s6] h = .nx [v0, v1, some (.int A), some (.int B), some (rv p.1), some (rv p.2), s6] h → ∃ (A' B' : Int) (t4 t5 t6 : Option D), loopF [] (bindG (.tp [.nm 4, .nm 5])) (exSs ev dotB) ((p :: l).map fun p => .tup [rv p.1, rv p.2]) [v0, v1, some (.int A), some (.int B), s4, s5, s6] h = .nx [v0, v1, some (.int A'), some (.int B'), t4, t5, t6] h ∧ B' ≠ 0 ∧ Rat.divInt A' B' = (p :: l).foldl (fun s p => s + p.1 * p.2) x ∧ Sz 8850 B' := fun z eb => by
      obtain ⟨A', B', t4, t5, t6, r1, r2, r3, r4⟩ := dot_loop hL v0 v1 l (i + 1) A B (some (rv p.1)) (some (rv p.2)) s6 x hl hi' hB hx (sA.mono (by omega)) (sB.mono (by omega))
      refine ⟨A', B', t4, t5, t6, ?_, r2, ?_, r4⟩
      · rw [List.map_cons, loopF_go rfl e0 eb]
        exact r1
      · rw [r3, List.foldl_cons, z, Rat.add_zero]
    by_cases z1 : p.1.num = 0
    · exact skip (by rw [num0 z1, Rat.zero_mul]) (by simp [dotB, z1])
    · by_cases z2 : p.2.num = 0
      · exact skip (by rw [num0 z2, Rat.mul_zero]) (by simp [dotB, z1, z2])
      · have s1 := q1.2.mul q2.2
        have s2 := sA.mul s1
        have s3 := q1.1.mul q2.1
        have s4' := s3.mul sB
        have m1 : mulOk (p.1.den : Int) p.2.den = true := mulOk_sz q1.2 q2.2 (by omega)
        have m2 : mulOk A ((p.1.den : Int) * p.2.den) = true := mulOk_sz sA s1 (by omega)
        have m3 : mulOk p.1.num p.2.num = true := mulOk_sz q1.1 q2.1 (by omega)
        have m4 : mulOk (p.1.num * p.2.num) B = true := mulOk_sz s3 sB (by omega)
        have m5 : mulOk B ((p.1.den : Int) * p.2.den) = true := mulOk_sz sB s1 (by omega)
        have sc : ((p.1.den : Int) * p.2.den) ≠ 0 := Int.mul_ne_zero (den0 _) (den0 _)
        obtain ⟨A', B', t4, t5, t6, r1, r2, r3, r4⟩ := dot_loop hL v0 v1 l (i + 1) (A * ((p.1.den : Int) * p.2.den) + p.1.num * p.2.num * B) (B * ((p.1.den : Int) * p.2.den)) (some (rv p.1)) (some (rv p.2)) (some (.int ((p.1.den : Int) * p.2.den))) (x + p.1 * p.2) hl hi' (Int.mul_ne_zero hB sc) (by
          rw [← hx, ← rat_mul, Rat.divInt_add_divInt _ _ hB sc]) ((s2.add s4').mono (by rw [e1]; omega)) ((sB.mul s1).mono (by rw [e1]; omega))
        refine ⟨A', B', t4, t5, t6, ?_, r2, r3, r4⟩
        rw [List.map_cons, loopF_go rfl e0 (s2 := [v0, v1, some (.int (A * ((p.1.den : Int) * p.2.den) + p.1.num * p.2.num * B)), some (.int (B * ((p.1.den : Int) * p.2.den))), some (rv p.1), some (rv p.2), some (.int ((p.1.den : Int) * p.2.den))]) (h2 := h) (by simp [dotB, z1, z2, m1, m2, m3, m4, m5])]
        exact r1
theorem t_dot {mk : Nat} (hm : MakesR ev mk) {v w : List Rat} {n L : Nat} (hq : ∀ p ∈ v.zip w, Qn n p.1 ∧ Qn n p.2) (hl : (v.zip w).length ≤ L) (hL : L * (2 * n + 2) ≤ 8800) : fin h (exSs ev (C_dot mk) (startD 7 [vv v, vv w]) h) = .ok (rv (dotR (v.zip w))) h := by
  have z0 : Sz (0 * (2 * n + 1) + 1) 0 := by unfold Sz; simp
  have z1 : Sz (0 * (2 * n + 1) + 1) 1 := by unfold Sz; simp
  obtain ⟨A, B, t4, t5, t6, r1, r2, r3, r4⟩ := dot_loop (ev := ev) (h := h) hL (some (vv v)) (some (vv w)) (v.zip w) 0 0 1 none none none 0 hq (by simpa using hl) (by decide) (by simp) z0 z1
  have c := hm A B r2 (r4.mono (by decide)) h
  rw [r3] at c
  simp [C_dot, startD, zip_vv]
  unfold dotB at r1
  rw [r1]
  simp [arrD, c]
  rfl
/-! ### items by place -/
theorem idx_map {α : Type} (r : α → D) (as : List α) (j : Nat) (hj : j < as.length) (h : Hd) : idxV (.tup (as.map r)) (.int j) h = .ok (r as[j]) h := by
  simp [idxV, L2.atI, L2.ixN, hj]
theorem rng_range : ∀ (n lo : Nat), rng (lo : Int) 1 n = (List.range' lo n).map fun j => .int (j : Int)
  | 0, lo => rfl
  | n + 1, lo => by
    rw [List.range'_succ, List.map_cons, ← rng_range n (lo + 1)]
    show D.int lo :: rng ((lo : Int) + 1) 1 n = _
    rw [Int.natCast_add]
    rfl
theorem rngV_n {n : Nat} (hn : n ≤ 1000000) (h : Hd) : rngV [.int (n : Int)] h = .ok ⟨(List.range n).map fun j : Nat => .int (j : Int), []⟩ h := by
  have sm := small_nat hn
  have e : (List.range n).map (fun j : Nat => D.int (j : Int)) = rng 0 1 n := by
    rw [List.range_eq_range', ← rng_range n 0]
    rfl
  rw [e]
  simp only [rngV, sm, ret_true, Int.toNat_natCast]
def C_column : QSs := .cons (.ret (.bi .tuple (.cons (.lc (.idx (.var 2) (.var 1)) (.nm 2) (.v (.var 0)) [2] .yes) .nil))) .nil
theorem t_column {M : List (List Rat)} {j : Nat} (hM : M.length ≤ line) (hj : ∀ r ∈ M, j < r.length) : fin h (exSs ev C_column (startD 3 [mv M, .int j]) h) = .ok (vv (M.map fun r => r.getD j 0)) h := by
  simp only [List.getD_eq_getElem?_getD]
  have l := lc_new (ev := ev) (elt := .idx (.var 2) (.var 1)) (g := .nm 2) (it := .v (.var 0)) (own := [2]) (cond := .yes) (s := [some (mv M), some (.int j), none]) (h := h) (fix := []) (φ := vv) (r := fun r => rv (r[j]?.getD 0)) (as := M) (by simp [walk_mv]) rfl hM (fun r hr => by
      refine ⟨_, by simp [wipeD]; rfl, rfl, ?_⟩
      have := idx_map rv r j (hj r hr) h
      simp [vv, this, hj r hr])
  have e : vv (M.map fun r => r[j]?.getD 0) = .tup (M.map fun r => rv (r[j]?.getD 0)) := by simp [vv]
  simp [C_column, startD, - x_lc, l]
  rw [← e]
  exact fin_app (vv_lt _ _)
def C_transposed (cl : Nat) : QSs := .cons (.ret (.bi .tuple (.cons (.lc (.call cl (.cons (.var 0) (.cons (.var 1) .nil)) .nil [.inl (.inl 0), .inl (.inl 1)]) (.nm 1) (.rng1 (.bi .len (.cons (.idx (.var 0) (.con (.int 0))) .nil))) [1] .yes) .nil))) .nil
theorem t_transposed {cl c : Nat} {M : List (List Rat)} {f : Nat → List Rat} (h0 : ∃ r, M[0]? = some r ∧ r.length = c) (hc : c ≤ 1000) (hf : ∀ j, j < c → Giv ev cl [mv M, .int j] (vv (f j))) : fin h (exSs ev (C_transposed cl) (startD 2 [mv M]) h) = .ok (mv ((List.range c).map f)) h := by
  obtain ⟨r0, e0, e1⟩ := h0
  have i0 : idxV (mv M) (.int 0) h = .ok (vv r0) h := by
    have hl := (List.getElem?_eq_some_iff.mp e0)
    obtain ⟨hl, e⟩ := hl
    have := idx_map vv M 0 hl h
    rw [e] at this
    exact this
  have ln : biV .len [vv r0] h = .ok (.int (c : Int)) h := by
    unfold vv
    rw [vlen, e1]
  have l := lc_new (ev := ev) (elt := .call cl (.cons (.var 0) (.cons (.var 1) .nil)) .nil [.inl (.inl 0), .inl (.inl 1)]) (g := .nm 1) (it := .rng1 (.bi .len (.cons (.idx (.var 0) (.con (.int 0))) .nil))) (own := [1]) (cond := .yes) (s := [some (mv M), none]) (h := h) (fix := []) (φ := fun j : Nat => .int (j : Int)) (r := fun j => vv (f j)) (as := List.range c) (by
      simp [i0, ln, rngV_n (show c ≤ 1000000 by omega) h]) rfl (line_ok (by simp only [List.length_range]; omega)) (fun j hj => by
      refine ⟨_, by simp [wipeD]; rfl, rfl, ?_⟩
      have c := hf j (List.mem_range.mp hj) h
      simp [arrD, c])
  have e : mv ((List.range c).map f) = .tup ((List.range c).map fun j => vv (f j)) := by simp [mv]
  simp [C_transposed, startD, - x_lc, l]
  rw [← e]
  exact fin_app (mv_lt _ _)
/-- rows combined -/
def combR (acc : List Rat) (l : List (Rat × List Rat)) : List Rat := l.foldl (fun acc p => addV2 acc (p.2.map fun q => p.1 * q)) acc
def combB (ad sc : Nat) : QSs := .cons (.ife (.v (.cmp .NotEq (.var 3) (.con (.tup [.int 0, .int 1])))) (.cons (.asg (.nm 2) (.call ad (.cons (.var 2) (.cons (.call sc (.cons (.var 3) (.cons (.var 4) .nil)) .nil [.inl (.inl 0), .inl (.inl 1)]) .nil)) .nil [.inl (.inl 0), .inl (.inl 1)])) .nil) .nil) .nil
def C_combined (ze ad sc : Nat) : QSs := .cons (.asg (.nm 2) (.call ze (.cons (.bi .len (.cons (.idx (.var 1) (.con (.int 0))) .nil)) .nil) .nil [.inl (.inl 0)]))
  (.cons (.for (.tp [.nm 3, .nm 4]) (.zip (.var 0) (.var 1)) (combB ad sc))
  (.cons (.ret (.var 2)) .nil))
theorem addV2_zero : ∀ {acc w : List Rat}, acc.length = w.length → addV2 acc (w.map fun q => 0 * q) = acc
  | [], [], _ => rfl
  | a :: acc, b :: w, e => by
    have ih := addV2_zero (acc := acc) (w := w) (by simpa using e)
    show (a + 0 * b) :: addV2 acc (w.map fun q => 0 * q) = _
    rw [ih, Rat.zero_mul, Rat.add_zero]
  | [], _ :: _, e => by simp at e
  | _ :: _, [], e => by simp at e
theorem addV2_len (v w : List Rat) : (addV2 v w).length = min v.length w.length := by simp [addV2]
theorem comb_loop {ad sc c L : Nat} (v0 v1 : Option D) (P : Nat → List Rat → Prop) : ∀ (l : List (Rat × List Rat)) (i : Nat) (acc : List Rat) (s3 s4 : Option D), i + l.length ≤ L → P i acc → acc.length = c → (∀ p ∈ l, p.2.length = c) →
    (∀ j acc, ∀ p ∈ l, j < L → P j acc → acc.length = c → Giv ev sc [rv p.1, vv p.2] (vv (p.2.map fun q => p.1 * q)) ∧ Giv ev ad [vv acc, vv (p.2.map fun q => p.1 * q)] (vv (addV2 acc (p.2.map fun q => p.1 * q))) ∧ P (j + 1) (addV2 acc (p.2.map fun q => p.1 * q))) →
    ∃ t3 t4 : Option D, loopF [] (bindG (.tp [.nm 3, .nm 4])) (exSs ev (combB ad sc)) (l.map fun p => .tup [rv p.1, vv p.2]) [v0, v1, some (vv acc), s3, s4] h = .nx [v0, v1, some (vv (combR acc l)), t3, t4] h
  | [], i, acc, s3, s4, _, _, _, _, _ => ⟨s3, s4, loopF_nil rfl⟩
  | p :: l, i, acc, s3, s4, hi, hp, hl, hr, hc => by
    have hi' : i + 1 + l.length ≤ L := by simp at hi; omega
    obtain ⟨c1, c2, c3⟩ := hc i acc p List.mem_cons_self (by omega) hp hl
    have e0 : bindG (.tp [.nm 3, .nm 4]) (.tup [rv p.1, vv p.2]) [v0, v1, some (vv acc), s3, s4] = some [v0, v1, some (vv acc), some (rv p.1), some (vv p.2)] := by simp
    have hc' := fun j acc q hq => hc j acc q (List.mem_cons_of_mem p hq)
    have hr' := fun q hq => hr q (List.mem_cons_of_mem p hq)
    have key : exSs ev (combB ad sc) [v0, v1, some (vv acc), some (rv p.1), some (vv p.2)] h = .nx [v0, v1, some (vv (addV2 acc (p.2.map fun q => p.1 * q))), some (rv p.1), some (vv p.2)] h := by
      by_cases z : p.1 = 0
      · have e := addV2_zero (acc := acc) (w := p.2) (by rw [hl, hr p List.mem_cons_self])
        rw [z, e]
        have z' : eqV h (rv 0) (.tup [.int 0, .int 1]) = some true := by rw [eqV_rv0]; simp
        simp [combB, z']
      · simp [combB, z, arrD, c1 h, c2 h]
    obtain ⟨t3, t4, r⟩ := comb_loop v0 v1 P l (i + 1) (addV2 acc (p.2.map fun q => p.1 * q)) (some (rv p.1)) (some (vv p.2)) hi' c3 (by rw [addV2_len, hl, List.length_map, hr p List.mem_cons_self, Nat.min_self]) hr' hc'
    refine ⟨t3, t4, ?_⟩
    rw [List.map_cons, loopF_go rfl e0 key]
    exact r
theorem t_combined {ze ad sc c L : Nat} {v : List Rat} {M : List (List Rat)} (h0 : ∃ r, M[0]? = some r ∧ r.length = c) (hr : ∀ r ∈ M, r.length = c) (hz : Giv ev ze [.int (c : Int)] (vv (List.replicate c 0))) (P : Nat → List Rat → Prop) (p0 : P 0 (List.replicate c 0)) (hL : (v.zip M).length ≤ L)
    (hc : ∀ j acc, ∀ p ∈ v.zip M, j < L → P j acc → acc.length = c → Giv ev sc [rv p.1, vv p.2] (vv (p.2.map fun q => p.1 * q)) ∧ Giv ev ad [vv acc, vv (p.2.map fun q => p.1 * q)] (vv (addV2 acc (p.2.map fun q => p.1 * q))) ∧ P (j + 1) (addV2 acc (p.2.map fun q => p.1 * q))) :
    fin h (exSs ev (C_combined ze ad sc) (startD 5 [vv v, mv M]) h) = .ok (vv (combR (List.replicate c 0) (v.zip M))) h := by
  obtain ⟨r0, e0, e1⟩ := h0
  have i0 : idxV (mv M) (.int 0) h = .ok (vv r0) h := by
    obtain ⟨hl, e⟩ := List.getElem?_eq_some_iff.mp e0
    have := idx_map vv M 0 hl h
    rw [e] at this
    exact this
  have ln : biV .len [vv r0] h = .ok (.int (c : Int)) h := by
    unfold vv
    rw [vlen, e1]
  have zp : zipV (vv v) (mv M) h = .ok ⟨(v.zip M).map fun p => .tup [rv p.1, vv p.2], []⟩ h := by
    unfold vv mv
    rw [zipV_tup, zip_map]
    rfl
  obtain ⟨t3, t4, r⟩ := comb_loop (ev := ev) (h := h) (ad := ad) (sc := sc) (c := c) (some (vv v)) (some (mv M)) P (v.zip M) 0 (List.replicate c 0) none none (by simpa using hL) p0 (by simp) (fun p hp => hr p.2 (List.of_mem_zip hp).2) hc
  simp [C_combined, startD, i0, ln, arrD, hz h, zp, r]
def C_multiplied (cb : Nat) : QSs := .cons (.ret (.bi .tuple (.cons (.lc (.call cb (.cons (.var 2) (.cons (.var 1) .nil)) .nil [.inl (.inl 0), .inl (.inl 1)]) (.nm 2) (.v (.var 0)) [2] .yes) .nil))) .nil
theorem t_multiplied {cb : Nat} {M N : List (List Rat)} {f : List Rat → List Rat} (hv : M.length ≤ line) (ha : ∀ r ∈ M, Giv ev cb [vv r, mv N] (vv (f r))) : fin h (exSs ev (C_multiplied cb) (startD 3 [mv M, mv N]) h) = .ok (mv (M.map f)) h := by
  have l := lc_new (ev := ev) (elt := .call cb (.cons (.var 2) (.cons (.var 1) .nil)) .nil [.inl (.inl 0), .inl (.inl 1)]) (g := .nm 2) (it := .v (.var 0)) (own := [2]) (cond := .yes) (s := [some (mv M), some (mv N), none]) (h := h) (fix := []) (φ := vv) (r := fun p => vv (f p)) (as := M) (by simp [walk_mv]) rfl hv (fun p hp => by
      refine ⟨_, by simp [wipeD]; rfl, rfl, ?_⟩
      have c := ha p hp h
      simp [arrD, c])
  have e : mv (M.map f) = .tup (M.map fun p => vv (f p)) := by simp [mv]
  simp [C_multiplied, startD, - x_lc, l]
  rw [← e]
  exact fin_app (mv_lt _ _)
/-! ### unit vectors -/
def unitR (n i : Nat) : List Rat := List.replicate i 0 ++ [1] ++ List.replicate (n - i - 1) 0
def C_unit (ze : Nat) : QSs := .cons (.ret (.bin .Add (.bin .Add (.call ze (.cons (.var 1) .nil) .nil [.inl (.inl 0)]) (.tup (.cons (.con (.tup [.int 1, .int 1])) .nil))) (.call ze (.cons (.bin .Sub (.bin .Sub (.var 0) (.var 1)) (.con (.int 1))) .nil) .nil [.inl (.inl 0)]))) .nil
theorem addV_vv (v w : List Rat) (hl : v.length + w.length ≤ 1000000) (h : Hd) : addV (vv v) (vv w) h = .ok (vv (v ++ w)) h := by
  have : decide ((v.map rv).length + (w.map rv).length ≤ line) = true := decide_eq_true (by
    simp only [List.length_map]
    show v.length + w.length ≤ 16777216
    omega)
  show ret _ (D.tup (v.map rv ++ w.map rv)) h = _
  rw [this]
  simp [vv]
theorem t_unit {ze n i : Nat} (hi : i < n) (hn : n ≤ 1000) (hz : ∀ m : Nat, m ≤ 1000 → Giv ev ze [.int (m : Int)] (vv (List.replicate m 0))) : fin h (exSs ev (C_unit ze) (startD 2 [.int (n : Int), .int (i : Int)]) h) = .ok (vv (unitR n i)) h := by
  have z1 := hz i (by omega) h
  have z2 := hz (n - i - 1) (by omega) h
  have e : (n : Int) - i - 1 = ((n - i - 1 : Nat) : Int) := by omega
  have one : decide ((1 : Nat) ≤ line) = true := by decide
  have o : D.tup [D.tup [.int 1, .int 1]] = vv [1] := rfl
  have a1 := addV_vv (List.replicate i 0) [1] (by simp; omega) h
  have a2 := addV_vv (List.replicate i 0 ++ [1]) (List.replicate (n - i - 1) 0) (by simp; omega) h
  simp [C_unit, startD, arrD, z1, one, e, o, a1, - List.append_assoc]
  rw [z2]
  simp only [bind_ok, y_bin2_, binV_add, a2, st_ok, andS_rt, fin_rt]
  rfl
def C_identity (un : Nat) : QSs := .cons (.ret (.bi .tuple (.cons (.lc (.call un (.cons (.var 0) (.cons (.var 1) .nil)) .nil [.inl (.inl 0), .inl (.inl 1)]) (.nm 1) (.rng1 (.var 0)) [1] .yes) .nil))) .nil
theorem t_identity {un n : Nat} (hn : n ≤ 1000) (hu : ∀ i, i < n → Giv ev un [.int (n : Int), .int (i : Int)] (vv (unitR n i))) : fin h (exSs ev (C_identity un) (startD 2 [.int (n : Int)]) h) = .ok (mv ((List.range n).map (unitR n))) h := by
  have l := lc_new (ev := ev) (elt := .call un (.cons (.var 0) (.cons (.var 1) .nil)) .nil [.inl (.inl 0), .inl (.inl 1)]) (g := .nm 1) (it := .rng1 (.var 0)) (own := [1]) (cond := .yes) (s := [some (.int (n : Int)), none]) (h := h) (fix := []) (φ := fun j : Nat => .int (j : Int)) (r := fun j => vv (unitR n j)) (as := List.range n) (by
      simp [rngV_n (show n ≤ 1000000 by omega) h]) rfl (line_ok (by simp only [List.length_range]; omega)) (fun j hj => by
      refine ⟨_, by simp [wipeD]; rfl, rfl, ?_⟩
      have c := hu j (List.mem_range.mp hj) h
      simp [arrD, c])
  have e : mv ((List.range n).map (unitR n)) = .tup ((List.range n).map fun j => vv (unitR n j)) := by simp [mv]
  simp [C_identity, startD, - x_lc, l]
  rw [← e]
  exact fin_app (mv_lt _ _)
/-! ### equal by the law's own way -/
def C_same (sm : Nat) : QSs := .cons (.ife (.v (.isi (.var 1) .tuple)) (.cons (.ife (.or (.not (.v (.isi (.var 0) .tuple))) (.v (.cmp .NotEq (.bi .len (.cons (.var 0) .nil)) (.bi .len (.cons (.var 1) .nil))))) (.cons (.ret (.con (.bl false))) .nil) .nil)
  (.cons (.ret (.bi .all (.cons (.lc (.call sm (.cons (.idx (.var 0) (.var 2)) (.cons (.idx (.var 1) (.var 2)) .nil)) .nil [.inl (.inl 0), .inl (.inl 1)]) (.nm 2) (.rng1 (.bi .len (.cons (.var 1) .nil))) [2] .yes) .nil))) .nil)) .nil)
  (.cons (.ife (.v (.cmp .Is (.var 1) (.con .non))) (.cons (.ret (.cmp .Is (.var 0) (.con .non))) .nil) .nil)
  (.cons (.ife (.v (.isi (.var 1) .str)) (.cons (.ret (.andv (.isi (.var 0) .str) (.cmp .Eq (.var 0) (.var 1)))) .nil) .nil)
  (.cons (.ife (.v (.isi (.var 1) .bool)) (.cons (.ret (.andv (.isi (.var 0) .bool) (.cmp .Eq (.var 0) (.var 1)))) .nil) .nil)
  (.cons (.ret (.andv (.isi (.var 0) .int) (.andv (.nott (.isi (.var 0) .bool)) (.cmp .Eq (.var 0) (.var 1))))) .nil))))
theorem t_same_int {sm : Nat} {i : Int} : fin h (exSs ev (C_same sm) (startD 3 [.int i, .int i]) h) = .ok (.bl true) h := by
  simp [C_same, startD]
theorem t_same_tup {sm : Nat} {α : Type} {r : α → D} {as : List α} (hl : as.length ≤ 1000000) (hs : ∀ a ∈ as, Giv ev sm [r a, r a] (.bl true)) : fin h (exSs ev (C_same sm) (startD 3 [.tup (as.map r), .tup (as.map r)]) h) = .ok (.bl true) h := by
  have l := lc_new (ev := ev) (elt := .call sm (.cons (.idx (.var 0) (.var 2)) (.cons (.idx (.var 1) (.var 2)) .nil)) .nil [.inl (.inl 0), .inl (.inl 1)]) (g := .nm 2) (it := .rng1 (.bi .len (.cons (.var 1) .nil))) (own := [2]) (cond := .yes) (s := [some (.tup (as.map r)), some (.tup (as.map r)), none]) (h := h) (fix := []) (φ := fun j : Nat => .int (j : Int)) (r := fun j => .bl ((fun _ => true) j)) (as := List.range as.length) (by
      simp [rngV_n hl h]) rfl (line_ok (by simpa using hl)) (fun j hj => by
      refine ⟨_, by simp [wipeD]; rfl, rfl, ?_⟩
      have hj := List.mem_range.mp hj
      have c := hs as[j] (List.getElem_mem hj) h
      have ix := idx_map r as j hj h
      simp [arrD, ix, c])
  have a := all_new h (List.range as.length) (fun _ => true)
  simp [C_same, startD, - x_lc, l]
  rw [a]
  simp
  rw [show ((List.range as.length).all fun _ => true) = true from List.all_eq_true.mpr fun _ _ => rfl]
  exact fin_app rfl
end
end PV
/-! PVQ: vectors and matrices by places; sums. -/
namespace PV
open PySem
def sumN (f : Nat → Rat) : Nat → Rat
  | 0 => 0
  | n + 1 => sumN f n + f n
theorem sumN_congr {f g : Nat → Rat} : ∀ {n : Nat}, (∀ i, i < n → f i = g i) → sumN f n = sumN g n
  | 0, _ => rfl
  | n + 1, h => by
    show sumN f n + f n = sumN g n + g n
    rw [sumN_congr fun i hi => h i (by omega), h n (by omega)]
theorem sumN_add (f g : Nat → Rat) : ∀ n : Nat, sumN (fun i => f i + g i) n = sumN f n + sumN g n
  | 0 => by simp [sumN, Rat.add_zero]
  | n + 1 => by
    show sumN _ n + (f n + g n) = sumN f n + f n + (sumN g n + g n)
    rw [sumN_add f g n]
    grind
theorem sumN_mul (c : Rat) (f : Nat → Rat) : ∀ n : Nat, sumN (fun i => c * f i) n = c * sumN f n
  | 0 => by simp [sumN, Rat.mul_zero]
  | n + 1 => by
    show sumN _ n + c * f n = c * (sumN f n + f n)
    rw [sumN_mul c f n]
    grind
theorem sumN_mul' (c : Rat) (f : Nat → Rat) (n : Nat) : sumN (fun i => f i * c) n = sumN f n * c := by
  rw [Rat.mul_comm (sumN f n) c, ← sumN_mul]
  exact sumN_congr fun i _ => Rat.mul_comm _ _
theorem sumN_zero : ∀ n : Nat, sumN (fun _ => 0) n = 0
  | 0 => rfl
  | n + 1 => by
    show sumN _ n + 0 = 0
    rw [sumN_zero n, Rat.add_zero]
theorem sumN_comm (f : Nat → Nat → Rat) (m : Nat) : ∀ n : Nat, sumN (fun i => sumN (fun j => f i j) m) n = sumN (fun j => sumN (fun i => f i j) n) m
  | 0 => (sumN_zero m).symm
  | n + 1 => by
    show sumN _ n + sumN (fun j => f n j) m = _
    rw [sumN_comm f m n, ← sumN_add]
    rfl
theorem sumN_one (f : Nat → Rat) (j : Nat) : ∀ n : Nat, sumN (fun i => (if i = j then 1 else 0) * f i) n = if j < n then f j else 0
  | 0 => by simp [sumN]
  | n + 1 => by
    show sumN _ n + (if n = j then 1 else 0) * f n = _
    rw [sumN_one f j n]
    by_cases h : n = j
    · subst h
      rw [if_neg (Nat.lt_irrefl n), if_pos rfl, if_pos (Nat.lt_succ_self n)]
      grind
    · rw [if_neg h]
      by_cases h2 : j < n
      · rw [if_pos h2, if_pos (by omega)]
        grind
      · rw [if_neg h2, if_neg (by omega)]
        grind
def vec (n : Nat) (f : Nat → Rat) : List Rat := (List.range n).map f
def mat (r c : Nat) (f : Nat → Nat → Rat) : List (List Rat) := (List.range r).map fun i => vec c (f i)
@[simp] theorem vec_len (n : Nat) (f : Nat → Rat) : (vec n f).length = n := by simp [vec]
@[simp] theorem mat_len (r c : Nat) (f : Nat → Nat → Rat) : (mat r c f).length = r := by simp [mat]
theorem vec_of {n : Nat} {v : List Rat} (h : v.length = n) : v = vec n (fun i => v.getD i 0) := by
  apply List.ext_getElem
  · simp [h]
  · intro i h1 h2
    simp [vec, h1]
theorem mat_of {r c : Nat} {M : List (List Rat)} (h : M.length = r) (hr : ∀ row ∈ M, row.length = c) : M = mat r c (fun i j => (M.getD i []).getD j 0) := by
  apply List.ext_getElem
  · simp [h]
  · intro i h1 h2
    have := vec_of (hr M[i] (List.getElem_mem h1))
    simp only [mat, List.getElem_map, List.getElem_range]
    simp only [List.getD_eq_getElem?_getD] at this ⊢
    rw [List.getElem?_eq_getElem h1]
    exact this
theorem vec_congr {n : Nat} {f g : Nat → Rat} (h : ∀ i, i < n → f i = g i) : vec n f = vec n g := by
  unfold vec
  exact List.map_congr_left fun i hi => h i (List.mem_range.mp hi)
theorem mat_congr {r c : Nat} {f g : Nat → Nat → Rat} (h : ∀ i j, i < r → j < c → f i j = g i j) : mat r c f = mat r c g := by
  unfold mat
  exact List.map_congr_left fun i hi => vec_congr fun j hj => h i j (List.mem_range.mp hi) hj
theorem mat_row {r c : Nat} {f : Nat → Nat → Rat} {row : List Rat} (h : row ∈ mat r c f) : ∃ i, i < r ∧ row = vec c (f i) := by
  obtain ⟨i, hi, e⟩ := List.mem_map.mp h
  exact ⟨i, List.mem_range.mp hi, e.symm⟩
theorem mat_map {r c c' : Nat} {f g : Nat → Nat → Rat} {F : List Rat → List Rat} (h : ∀ i, i < r → F (vec c (f i)) = vec c' (g i)) : (mat r c f).map F = mat r c' g := by
  unfold mat
  rw [List.map_map]
  exact List.map_congr_left fun i hi => h i (List.mem_range.mp hi)
theorem mat_mapv {r c : Nat} {f : Nat → Nat → Rat} {g : Nat → Rat} {F : List Rat → Rat} (h : ∀ i, i < r → F (vec c (f i)) = g i) : (mat r c f).map F = vec r g := by
  unfold mat vec
  rw [List.map_map]
  exact List.map_congr_left fun i hi => h i (List.mem_range.mp hi)
theorem range_zip {α β : Type} (f : Nat → α) (g : Nat → β) (n : Nat) : ((List.range n).map f).zip ((List.range n).map g) = (List.range n).map fun i => (f i, g i) := by
  rw [List.zip_map]
  apply List.ext_getElem
  · simp
  · intro i h1 h2
    simp
theorem foldl_sum (f : Nat → Rat) : ∀ n : Nat, (List.range n).foldl (fun s i => s + f i) 0 = sumN f n
  | 0 => rfl
  | n + 1 => by
    rw [List.range_succ, List.foldl_append, foldl_sum f n]
    rfl
theorem dot_vec (n : Nat) (f g : Nat → Rat) : dotR ((vec n f).zip (vec n g)) = sumN (fun i => f i * g i) n := by
  unfold dotR vec
  rw [range_zip, List.foldl_map]
  exact foldl_sum (fun i => f i * g i) n
theorem addV2_vec (n : Nat) (f g : Nat → Rat) : addV2 (vec n f) (vec n g) = vec n fun i => f i + g i := by
  unfold addV2 vec
  rw [range_zip, List.map_map]
  rfl
theorem scale_vec (n : Nat) (c : Rat) (f : Nat → Rat) : (vec n f).map (fun q => c * q) = vec n fun i => c * f i := by
  unfold vec
  rw [List.map_map]
  rfl
theorem zero_vec (n : Nat) : List.replicate n (0 : Rat) = vec n fun _ => 0 := by
  unfold vec
  simp [List.map_const']
theorem comb_vec (c : Nat) (f : Nat → Rat) (g : Nat → Nat → Rat) : ∀ r : Nat, combR (List.replicate c 0) ((vec r f).zip (mat r c g)) = vec c fun j => sumN (fun i => f i * g i j) r
  | 0 => by
    show List.replicate c 0 = _
    rw [zero_vec]
    rfl
  | r + 1 => by
    have ih := comb_vec c f g r
    unfold combR at *
    unfold vec mat at *
    rw [range_zip, List.foldl_map] at *
    rw [List.range_succ, List.foldl_append, ih]
    show addV2 (vec c fun j => sumN (fun i => f i * g i j) r) ((vec c (g r)).map fun q => f r * q) = _
    rw [scale_vec, addV2_vec]
    rfl
theorem col_vec {r c : Nat} {g : Nat → Nat → Rat} {j : Nat} (hj : j < c) : (mat r c g).map (fun row => row.getD j 0) = vec r fun i => g i j :=
  mat_mapv fun i hi => by simp [vec, hj]
theorem trans_mat {r c : Nat} {g : Nat → Nat → Rat} : (List.range c).map (fun j => (mat r c g).map fun row => row.getD j 0) = mat c r fun j i => g i j := by
  unfold mat
  exact List.map_congr_left fun j hj => col_vec (List.mem_range.mp hj)
theorem unit_vec {n i : Nat} (hi : i < n) : unitR n i = vec n fun j => if j = i then 1 else 0 := by
  unfold unitR
  apply List.ext_getElem
  · simp; omega
  · intro j h1 h2
    simp only [vec, List.getElem_map, List.getElem_range]
    by_cases h : j < i
    · rw [List.getElem_append_left (by simp; omega), List.getElem_append_left (by simpa using h)]
      simp
      omega
    · by_cases e : j = i
      · subst e
        rw [List.getElem_append_left (by simp), List.getElem_append_right (by simp)]
        simp
      · rw [List.getElem_append_right (by simp; omega)]
        simp [e]
end PV
/-! PVW: the plain side by what shall hold behind a step (WpE, WpS); simp walks the code and stops at loops. -/
namespace PV
open PySem
def WpE {α : Type} (o : Out α) (Q : α → Hd → Prop) (X : Exn → Hd → Prop) : Prop := match o with
  | .ok a h => Q a h
  | .ex e h => X e h
  | .no => False
structure Po where
  nx : Sl → Hd → Prop
  rt : D → Hd → Prop
  bk : Sl → Hd → Prop
  ct : Sl → Hd → Prop
  ex : Exn → Sl → Hd → Prop
def WpS (o : SOut) (P : Po) : Prop := match o with
  | .nx s h => P.nx s h
  | .rt d h => P.rt d h
  | .bk s h => P.bk s h
  | .ct s h => P.ct s h
  | .ex e s h => P.ex e s h
  | .no => False
section
variable {α β : Type} {Q : β → Hd → Prop} {X : Exn → Hd → Prop} {P : Po}
@[simp] theorem WpE_ok {Q : α → Hd → Prop} (a : α) (h : Hd) : WpE (.ok a h) Q X = Q a h := rfl
@[simp] theorem WpE_ex {Q : α → Hd → Prop} (e : Exn) (h : Hd) : WpE (.ex e h) Q X = X e h := rfl
def KE (f : α → Hd → Out β) (Q : β → Hd → Prop) (X : Exn → Hd → Prop) (a : α) (h : Hd) : Prop := WpE (f a h) Q X
@[simp] theorem KE_ (f : α → Hd → Out β) (a : α) (h : Hd) : KE f Q X a h = WpE (f a h) Q X := rfl
@[simp] theorem WpE_bind (o : Out α) (f : α → Hd → Out β) : WpE (o.bind f) Q X = WpE o (KE f Q X) X := by cases o <;> rfl
@[simp] theorem WpS_nx (s : Sl) (h : Hd) : WpS (.nx s h) P = P.nx s h := rfl
@[simp] theorem WpS_rt (d : D) (h : Hd) : WpS (.rt d h) P = P.rt d h := rfl
@[simp] theorem WpS_bk (s : Sl) (h : Hd) : WpS (.bk s h) P = P.bk s h := rfl
@[simp] theorem WpS_ct (s : Sl) (h : Hd) : WpS (.ct s h) P = P.ct s h := rfl
@[simp] theorem WpS_ex (e : Exn) (s : Sl) (h : Hd) : WpS (.ex e s h) P = P.ex e s h := rfl
def KS (f : α → Hd → SOut) (P : Po) (a : α) (h : Hd) : Prop := WpS (f a h) P
@[simp] theorem KS_ (f : α → Hd → SOut) (a : α) (h : Hd) : KS f P a h = WpS (f a h) P := rfl
def KX (P : Po) (s : Sl) (e : Exn) (h : Hd) : Prop := P.ex e s h
@[simp] theorem KX_ (s : Sl) (e : Exn) (h : Hd) : KX P s e h = P.ex e s h := rfl
@[simp] theorem WpS_st (o : Out α) (s : Sl) (f : α → Hd → SOut) : WpS (o.st s f) P = WpE o (KS f P) (KX P s) := by cases o <;> rfl
def Po.beh (P : Po) (f : Sl → Hd → SOut) : Po := ⟨fun s h => WpS (f s h) P, P.rt, P.bk, P.ct, P.ex⟩
@[simp] theorem beh_nx (f : Sl → Hd → SOut) (s : Sl) (h : Hd) : (P.beh f).nx s h = WpS (f s h) P := rfl
@[simp] theorem beh_rt (f : Sl → Hd → SOut) : (P.beh f).rt = P.rt := rfl
@[simp] theorem beh_bk (f : Sl → Hd → SOut) : (P.beh f).bk = P.bk := rfl
@[simp] theorem beh_ct (f : Sl → Hd → SOut) : (P.beh f).ct = P.ct := rfl
@[simp] theorem beh_ex (f : Sl → Hd → SOut) : (P.beh f).ex = P.ex := rfl
@[simp] theorem WpS_andS (o : SOut) (f : Sl → Hd → SOut) : WpS (andS f o) P = WpS o (P.beh f) := by cases o <;> rfl
theorem WpE_mono {Q Q' : α → Hd → Prop} {X X' : Exn → Hd → Prop} {o : Out α} (k : WpE o Q X) (hq : ∀ a h, Q a h → Q' a h) (hx : ∀ e h, X e h → X' e h) : WpE o Q' X' := by
  cases o with
  | ok a h => exact hq a h k
  | ex e h => exact hx e h k
  | no => exact k
theorem WpE_ife {Q : D → Hd → Prop} {ev : Ev} {a b : QE} {s : Sl} {h : Hd} {k : Bool} (ht : k = true → WpE (evE ev a s h) Q X) (he : k = false → WpE (evE ev b s h) Q X) : WpE (y_ife ev a b s k h) Q X := by
  cases k
  · exact he rfl
  · exact ht rfl
theorem WpS_if {ev : Ev} {a b : QSs} {s : Sl} {h : Hd} {k : Bool} (ht : k = true → WpS (exSs ev a s h) P) (he : k = false → WpS (exSs ev b s h) P) : WpS (y_if ev a b s k h) P := by
  cases k
  · exact he rfl
  · exact ht rfl
theorem WpS_mono {P' : Po} {o : SOut} (k : WpS o P) (h1 : ∀ s h, P.nx s h → P'.nx s h) (h2 : ∀ d h, P.rt d h → P'.rt d h) (h3 : ∀ s h, P.bk s h → P'.bk s h) (h4 : ∀ s h, P.ct s h → P'.ct s h) (h5 : ∀ e s h, P.ex e s h → P'.ex e s h) : WpS o P' := by
  cases o with
  | nx s h => exact h1 s h k
  | rt s h => exact h2 s h k
  | bk s h => exact h3 s h k
  | ct s h => exact h4 s h k
  | ex e s h => exact h5 e s h k
  | no => exact k
end
/-! ### the heap grows -/
theorem pre_app {h H l : Hd} (p : h <+: H) : h <+: H ++ l := p.trans (List.prefix_append _ _)
theorem pre_set {h H : Hd} {n : Nat} {c : Cell} (p : h <+: H) (q : h.length ≤ n) : h <+: H.set n c := by
  obtain ⟨l, rfl⟩ := p
  rw [List.set_append_right _ _ q]
  exact List.prefix_append _ _
theorem lst_pre {h H : Hd} {n : Nat} {xs : List D} (e : lstAt h n = some xs) (p : h <+: H) : lstAt H n = some xs := by
  obtain ⟨l, rfl⟩ := p
  exact lst_old e l
theorem lst_lt {h : Hd} {n : Nat} {xs : List D} (e : lstAt h n = some xs) : n < h.length := by
  unfold lstAt at e
  cases q : h[n]? with
  | none => rw [q] at e; cases e
  | some x => exact (List.getElem?_eq_some_iff.mp q).1
theorem r_set {h : Hd} {n : Nat} {xs ys : List D} (e : lstAt h n = some xs) : lstAt (h.set n (.lst ys)) n = some ys := by
  unfold lstAt
  rw [List.getElem?_set_self (lst_lt e)]
theorem r_set_ne {h : Hd} {n m : Nat} {xs ys : List D} (e : lstAt h m = some xs) (q : n ≠ m) : lstAt (h.set n (.lst ys)) m = some xs := by
  unfold lstAt at *
  rw [List.getElem?_set_ne q]
  exact e
theorem lst_off (h l : Hd) (n : Nat) (q : h.length ≤ n) : lstAt (h ++ l) n = lstAt l (n - h.length) := by
  unfold lstAt
  rw [List.getElem?_append_right q]
@[simp] theorem lst_off0 (h l : Hd) : lstAt (h ++ l) h.length = lstAt l 0 := by rw [lst_off _ _ _ (Nat.le_refl _), Nat.sub_self]
@[simp] theorem lst_offk (h l : Hd) (k : Nat) : lstAt (h ++ l) (h.length + k) = lstAt l k := by rw [lst_off _ _ _ (Nat.le_add_right _ _), Nat.add_sub_cancel_left]
@[simp] theorem lst_c0 (xs : List D) (l : Hd) : lstAt (.lst xs :: l) 0 = some xs := rfl
@[simp] theorem lst_cs (c : Cell) (l : Hd) (k : Nat) : lstAt (c :: l) (k + 1) = lstAt l k := rfl
@[simp] theorem lst_c1 (c : Cell) (l : Hd) : lstAt (c :: l) 1 = lstAt l 0 := rfl
/-- with the list at a place -/
def onL {α : Type} (f : List D → Out α) : Option (List D) → Out α
  | some xs => f xs
  | none => .no
@[simp] theorem onL_some {α : Type} (f : List D → Out α) (xs : List D) : onL f (some xs) = f xs := rfl
section
variable (h : Hd) (n : Nat)
@[simp] theorem r_tuple : biV .tuple [.ref n] h = onL (fun xs => .ok (.tup xs) h) (lstAt h n) := by
  show (match lstAt h n with
    | some xs => Out.ok (D.tup xs) h
    | none => .no) = _
  cases lstAt h n <;> rfl
@[simp] theorem r_list : biV .list [.ref n] h = onL (fun xs => newL xs h) (lstAt h n) := by
  show (match lstAt h n with
    | some xs => newL xs h
    | none => .no) = _
  cases lstAt h n <;> rfl
@[simp] theorem r_list_tup (xs : List D) : biV .list [.tup xs] h = newL xs h := rfl
@[simp] theorem r_tuple_tup (xs : List D) : biV .tuple [.tup xs] h = .ok (.tup xs) h := rfl
@[simp] theorem r_len : biV .len [.ref n] h = onL (fun xs => .ok (.int xs.length) h) (lstAt h n) := by
  show (match lstAt h n with
    | some xs => Out.ok (D.int xs.length) h
    | none => .no) = _
  cases lstAt h n <;> rfl
def idO (h : Hd) : Option D → Out D
  | some d => .ok d h
  | none => .no
@[simp] theorem idO_some (d : D) : idO h (some d) = .ok d h := rfl
@[simp] theorem r_idx (k : Int) : idxV (.ref n) (.int k) h = onL (fun xs => idO h (L2.atI xs k)) (lstAt h n) := by
  show (match lstAt h n with
    | some xs => (match L2.atI xs k with
      | some d => Out.ok d h
      | none => Out.no)
    | none => Out.no) = _
  cases lstAt h n with
  | none => rfl
  | some xs =>
    show (match L2.atI xs k with
      | some d => Out.ok d h
      | none => Out.no) = idO h (L2.atI xs k)
    cases L2.atI xs k <;> rfl
@[simp] theorem t_idx (xs : List D) (k : Int) : idxV (.tup xs) (.int k) h = idO h (L2.atI xs k) := by
  show (match L2.atI xs k with
    | some d => Out.ok d h
    | none => .no) = idO h (L2.atI xs k)
  cases L2.atI xs k <;> rfl
@[simp] theorem fl_idx (xs : List D) (k : Int) : idxV (.fl xs) (.int k) h = idO h (L2.atI xs k) := by
  show (match L2.atI xs k with
    | some d => Out.ok d h
    | none => .no) = idO h (L2.atI xs k)
  cases L2.atI xs k <;> rfl
@[simp] theorem r_sl (lo hi : Option Int) : slV (.ref n) lo hi h = onL (fun xs => newL (cut xs lo hi) h) (lstAt h n) := by
  show (match lstAt h n with
    | some xs => newL (cut xs lo hi) h
    | none => Out.no) = _
  cases lstAt h n <;> rfl
@[simp] theorem t_sl (xs : List D) (lo hi : Option Int) : slV (.tup xs) lo hi h = .ok (.tup (cut xs lo hi)) h := rfl
@[simp] theorem fl_sl (xs : List D) (lo hi : Option Int) : slV (.fl xs) lo hi h = newL (cut xs lo hi) h := rfl
@[simp] theorem r_walk : walkV (.ref n) h = onL (fun xs => .ok ⟨xs, [(n, xs)]⟩ h) (lstAt h n) := by
  show (match lstAt h n with
    | some xs => Out.ok (Walk.mk xs [(n, xs)]) h
    | none => Out.no) = _
  cases lstAt h n <;> rfl
@[simp] theorem r_truth : truthD h (.ref n) = (lstAt h n).map fun xs => !xs.isEmpty := by
  show (match lstAt h n with
    | some xs => some (!xs.isEmpty)
    | none => Option.none) = _
  cases lstAt h n <;> rfl
@[simp] theorem r_app (y : D) : mthV 0 (.ref n) [y] h = onL (fun ys => ret (decide (ys.length < line)) .non (h.set n (.lst (ys ++ [y])))) (lstAt h n) := by
  show (match lstAt h n with
    | some ys => ret (decide (ys.length < line)) D.non (h.set n (.lst (ys ++ [y])))
    | none => Out.no) = _
  cases lstAt h n <;> rfl
@[simp] theorem r_isl : isLst h (.ref n) = (lstAt h n).isSome := rfl
@[simp] theorem r_newL (xs : List D) : newL xs h = .ok (.ref h.length) (h ++ [.lst xs]) := rfl
@[simp] theorem r_newLc (xs : List D) : newLc true xs h = .ok (.ref h.length) (h ++ [.lst xs]) := rfl
@[simp] theorem r_all : biV .all [.ref n] h = onL (fun xs => boolO h ((bls xs).map fun bs => bs.all id)) (lstAt h n) := by
  show (match (lstAt h n).bind bls with
    | some bs => Out.ok (D.bl (bs.all id)) h
    | none => Out.no) = _
  cases lstAt h n with
  | none => rfl
  | some xs =>
    show (match bls xs with
      | some bs => Out.ok (D.bl (bs.all id)) h
      | none => Out.no) = boolO h ((bls xs).map fun bs => bs.all id)
    cases bls xs <;> rfl
@[simp] theorem r_any : biV .any [.ref n] h = onL (fun xs => boolO h ((bls xs).map fun bs => bs.any id)) (lstAt h n) := by
  show (match (lstAt h n).bind bls with
    | some bs => Out.ok (D.bl (bs.any id)) h
    | none => Out.no) = _
  cases lstAt h n with
  | none => rfl
  | some xs =>
    show (match bls xs with
      | some bs => Out.ok (D.bl (bs.any id)) h
      | none => Out.no) = boolO h ((bls xs).map fun bs => bs.any id)
    cases bls xs <;> rfl
@[simp] theorem r_mul (k : Int) : mulV (.ref n) (.int k) h = onL (fun xs => newLc (decide (k ≤ 1000) && decide (-1000 ≤ k) && decide (xs.length ≤ 1000)) (List.replicate k.toNat xs).flatten h) (lstAt h n) := by
  show (match lstAt h n with
    | some xs => newLc (decide (k ≤ 1000) && decide (-1000 ≤ k) && decide (xs.length ≤ 1000)) (List.replicate k.toNat xs).flatten h
    | _ => Out.no) = _
  cases lstAt h n <;> rfl
@[simp] theorem t_addv (xs ys : List D) : addV (.tup xs) (.tup ys) h = ret (decide (xs.length + ys.length ≤ line)) (.tup (xs ++ ys)) h := rfl
def subO (h : Hd) (n : Nat) (xs : List D) (d : D) (s : Sl) : Option Nat → SOut
  | some j => .nx s (h.set n (.lst (xs.set j d)))
  | none => .no
@[simp] theorem subO_some (xs : List D) (d : D) (s : Sl) (j : Nat) : subO h n xs d s (some j) = .nx s (h.set n (.lst (xs.set j d))) := rfl
theorem r_sub {xs : List D} (e : lstAt h n = some xs) (k : Int) (d : D) (s : Sl) : subV (.ref n) (.int k) d s h = subO h n xs d s (L2.ixN xs.length k) := by
  show (match lstAt h n with
    | some xs => match L2.ixN xs.length k with
      | some j => SOut.nx s (h.set n (.lst (xs.set j d)))
      | none => .no
    | none => .no) = _
  rw [e]
  show (match L2.ixN xs.length k with
      | some j => SOut.nx s (h.set n (.lst (xs.set j d)))
      | none => .no) = _
  cases L2.ixN xs.length k <;> rfl
end
@[simp] theorem bls_map {α : Type} (as : List α) (p : α → Bool) : bls (as.map fun a => D.bl (p a)) = some (as.map p) := by
  induction as with
  | nil => rfl
  | cons a as ih => simp [bls, ih]
@[simp] theorem all_id_map {α : Type} (as : List α) (p : α → Bool) : (as.map p).all id = as.all p := by simp [List.all_map]
@[simp] theorem any_id_map {α : Type} (as : List α) (p : α → Bool) : (as.map p).any id = as.any p := by simp [List.any_map]
@[simp] theorem at_0 {α : Type} (a : α) (l : List α) : L2.atI (a :: l) 0 = some a := by simp [L2.atI, L2.ixN]
theorem at_n {α : Type} {xs : List α} {i : Nat} (hi : i < xs.length) : L2.atI xs (i : Int) = some xs[i] := by simp [L2.atI, L2.ixN, hi]
@[simp] theorem at_1 {α : Type} (a b : α) (l : List α) : L2.atI (a :: b :: l) 1 = some b := at_n (xs := a :: b :: l) (i := 1) (by simp)
@[simp] theorem at_2 {α : Type} (a b c : α) (l : List α) : L2.atI (a :: b :: c :: l) 2 = some c := at_n (xs := a :: b :: c :: l) (i := 2) (by simp)
theorem ix_n {n i : Nat} (hi : i < n) : L2.ixN n (i : Int) = some i := by simp [L2.ixN, hi]
/-! ### loops -/
/-- a for loop: I i is what holds ahead of item i -/
theorem WpS_for {α : Type} {fix : List (Nat × List D)} {g : D → Sl → Option Sl} {b : Sl → Hd → SOut} {P : Po} (as : List α) (φ : α → D) (I : Nat → Sl → Hd → Prop) {items : List D} {s : Sl} {h : Hd} (hi : items = as.map φ) (h0 : I 0 s h)
    (hs : ∀ (i : Nat) (hi : i < as.length) (s : Sl) (h : Hd), I i s h → fixOk h fix = true ∧ ∃ s1, g (φ as[i]) s = some s1 ∧ WpS (b s1 h) ⟨I (i + 1), P.rt, P.nx, I (i + 1), P.ex⟩)
    (he : ∀ s h, I as.length s h → fixOk h fix = true ∧ P.nx s h) : WpS (loopF fix g b items s h) P := by
  subst hi
  suffices H : ∀ (m i : Nat) (s : Sl) (h : Hd), i + m = as.length → I i s h → WpS (loopF fix g b ((as.drop i).map φ) s h) P by
    have := H as.length 0 s h (by omega) h0
    rwa [List.drop_zero] at this
  intro m
  induction m with
  | zero =>
    intro i s h e k
    have e : i = as.length := by omega
    subst e
    obtain ⟨f, q⟩ := he s h k
    rw [List.drop_length, List.map_nil, loopF_nil f]
    exact q
  | succ m ih =>
    intro i s h e k
    have lt : i < as.length := by omega
    obtain ⟨f, s1, e1, o⟩ := hs i lt s h k
    rw [List.drop_eq_getElem_cons lt, List.map_cons]
    unfold loopF
    simp only [f, e1]
    cases q : b s1 h with
    | nx s2 h2 => rw [q] at o; exact ih (i + 1) s2 h2 (by omega) o
    | ct s2 h2 => rw [q] at o; exact ih (i + 1) s2 h2 (by omega) o
    | bk s2 h2 => rw [q] at o; exact o
    | rt d h2 => rw [q] at o; exact o
    | ex e s2 h2 => rw [q] at o; exact o
    | no => rw [q] at o; exact o
theorem rng_map (n : Nat) : rng 0 1 n = (List.range n).map fun j : Nat => D.int (j : Int) := by
  have H : ∀ (n : Nat) (a : Nat), rng (a : Int) 1 n = (List.range n).map fun j : Nat => D.int ((a + j : Nat) : Int) := by
    intro n
    induction n with
    | zero => intro a; rfl
    | succ n ih =>
      intro a
      have e : ((a : Int) + 1) = ((a + 1 : Nat) : Int) := by omega
      show D.int (a : Int) :: rng ((a : Int) + 1) 1 n = _
      rw [e, ih, List.range_succ_eq_map, List.map_cons, List.map_map]
      congr 1
      apply List.map_congr_left
      intro j _
      show D.int ((a + 1 + j : Nat) : Int) = D.int ((a + (j + 1) : Nat) : Int)
      congr 2
      omega
  have := H n 0
  simpa using this
theorem rngV_k {k : Int} {n : Nat} (e : k = n) (hn : n ≤ 1000000) (h : Hd) : rngV [.int k] h = .ok ⟨(List.range n).map fun j : Nat => D.int (j : Int), []⟩ h := by
  subst e
  show ret (smallI n) (Walk.mk (rng 0 1 (n : Int).toNat) []) h = _
  rw [small_nat hn, Int.toNat_natCast, rng_map]
  rfl
/-- for i in range(n) -/
theorem WpS_rng {g : D → Sl → Option Sl} {b : Sl → Hd → SOut} {P : Po} (n : Nat) (I : Nat → Sl → Hd → Prop) {s : Sl} {h : Hd} (h0 : I 0 s h)
    (hs : ∀ (i : Nat), i < n → ∀ (s : Sl) (h : Hd), I i s h → ∃ s1, g (.int (i : Int)) s = some s1 ∧ WpS (b s1 h) ⟨I (i + 1), P.rt, P.nx, I (i + 1), P.ex⟩)
    (he : ∀ s h, I n s h → P.nx s h) : WpS (loopF [] g b ((List.range n).map fun j : Nat => D.int (j : Int)) s h) P := by
  refine WpS_for (List.range n) (fun j : Nat => D.int (j : Int)) I rfl h0 (fun i hi s h k => And.intro rfl ?_) (fun s h k => And.intro rfl (he s h (by simpa using k)))
  have := hs i (by simpa using hi) s h k
  simpa using this
/-- a comprehension (no condition) -/
theorem WpE_lc {α : Type} {fix : List (Nat × List D)} {b : D → Option Sl} {c : Sl → Hd → Out Bool} {e : Sl → Hd → Out D} {Q : List D → Hd → Prop} {X : Exn → Hd → Prop} (as : List α) (φ r : α → D) {items : List D} {h : Hd} (hi : items = as.map φ) (hl : as.length ≤ 1000000) (hf : ∀ H, h <+: H → fixOk H fix = true)
    (hs : ∀ a ∈ as, ∃ s1, b (φ a) = some s1 ∧ ∀ H, h <+: H → c s1 H = .ok true H ∧ WpE (e s1 H) (fun d H1 => d = r a ∧ H <+: H1) (fun _ _ => False))
    (hq : ∀ H, h <+: H → Q (as.map r) H) : WpE (noEx (loopC fix b c e items [] h)) Q X := by
  subst hi
  suffices H : ∀ (as : List α) (acc : List D) (H : Hd), h <+: H → acc.length + as.length ≤ line → (∀ a ∈ as, ∃ s1, b (φ a) = some s1 ∧ ∀ H, h <+: H → c s1 H = .ok true H ∧ WpE (e s1 H) (fun d H1 => d = r a ∧ H <+: H1) (fun _ _ => False)) → ∃ H', h <+: H' ∧ loopC fix b c e (as.map φ) acc H = .ok (acc ++ as.map r) H' by
    obtain ⟨H', p, e1⟩ := H as [] h (List.prefix_refl _) (by have := line_ok hl; simpa using this) hs
    rw [e1]
    exact hq H' p
  intro as
  induction as with
  | nil =>
    intro acc H p _ _
    refine ⟨H, p, ?_⟩
    show ret (fixOk H fix) acc H = _
    rw [hf H p]
    simp
  | cons a as ih =>
    intro acc H p hl hs
    obtain ⟨s1, e1, k⟩ := hs a List.mem_cons_self
    obtain ⟨e2, e3⟩ := k H p
    cases q : e s1 H with
    | no => rw [q] at e3; exact e3.elim
    | ex x h => rw [q] at e3; exact e3.elim
    | ok d H1 =>
      rw [q] at e3
      obtain ⟨rfl, p1⟩ := e3
      obtain ⟨H', p', e4⟩ := ih (acc ++ [r a]) H1 (p.trans p1) (by simp at hl ⊢; omega) fun x hx => hs x (List.mem_cons_of_mem _ hx)
      refine ⟨H', p', ?_⟩
      have lt : decide (acc.length < line) = true := decide_eq_true (by simp at hl; omega)
      rw [List.map_cons]
      unfold loopC
      simp only [hf H p, e1, e2, q, bind_ok, lt]
      rw [e4]
      simp
/-! ### a def -/
abbrev noS : Sl → Hd → Prop := fun _ _ => False
abbrev noX : Exn → Hd → Prop := fun _ _ => False
theorem fin_grow {h h' : Hd} {d : D} (p : h <+: h') (hd : D.lt h.length d = true) : fin h (.rt d h') = .ok d h := by
  obtain ⟨l, rfl⟩ := p
  exact gc_app hd
/-- a def that gives d, whatever it makes on the way -/
theorem fin_gives {h : Hd} {o : SOut} {d : D} (hd : D.lt h.length d = true) (H : WpS o ⟨fun _ h' => d = .non ∧ h <+: h', fun d' h' => d' = d ∧ h <+: h', noS, noS, fun _ _ _ => False⟩) : fin h o = .ok d h := by
  cases o with
  | nx s h' =>
    obtain ⟨rfl, l, rfl⟩ := H
    exact gc_app hd
  | rt d' h' =>
    obtain ⟨rfl, l, rfl⟩ := H
    exact gc_app hd
  | bk s h => exact H.elim
  | ct s h => exact H.elim
  | ex e s h => exact H.elim
  | no => exact H.elim
/-- a def that raises e -/
theorem fin_raises {h : Hd} {o : SOut} {e : Exn} (hd : fsLt h.length e.fs = true) (H : WpS o ⟨noS, fun _ _ => False, noS, noS, fun e' _ h' => e' = e ∧ h <+: h'⟩) : fin h o = .ex e h := by
  cases o with
  | ex e' s h' =>
    obtain ⟨rfl, l, rfl⟩ := H
    exact gcE_app hd
  | rt s h => exact H.elim
  | nx s h => exact H.elim
  | bk s h => exact H.elim
  | ct s h => exact H.elim
  | no => exact H.elim
/-- a def whose value may be a list of the heap -/
theorem fin_list {h : Hd} {o : SOut} {Q : D → Hd → Prop} {X : Exn → Hd → Prop} (H : WpS o ⟨fun _ h' => h <+: h' ∧ Q .non h, fun d h' => h <+: h' ∧ (D.lt h.length d = true → Q d h) ∧ (D.lt h.length d = false → Q d h'), noS, noS, fun e _ h' => h <+: h' ∧ fsLt h.length e.fs = true ∧ X e h⟩) : WpE (fin h o) Q X := by
  cases o with
  | nx s h' =>
    obtain ⟨⟨l, rfl⟩, q⟩ := H
    show WpE (gc h .non (h ++ l)) Q X
    rw [gc_app rfl]
    exact q
  | rt d h' =>
    obtain ⟨⟨l, rfl⟩, q1, q2⟩ := H
    cases hd : D.lt h.length d with
    | true =>
      show WpE (gc h d (h ++ l)) Q X
      rw [gc_app hd]
      exact q1 hd
    | false =>
      rw [fin_keep hd]
      exact q2 hd
  | ex e s h' =>
    obtain ⟨⟨l, rfl⟩, q1, q2⟩ := H
    show WpE (gcE h e (h ++ l)) Q X
    rw [gcE_app q1]
    exact q2
  | bk s h => exact H.elim
  | ct s h => exact H.elim
  | no => exact H.elim
/-! ### by code, whatever the program -/
section
variable {fns : List FnC} {sub : Nat → Nat → Bool} {fuel k : Nat}
theorem givC {i np nn : Nat} {code : QSs} {ds : List D} {d : D} (hf : fns[i]? = some ⟨np, nn, code⟩) (hl : ds.length = np) (H : ∀ h, fin h (exSs (evL fns sub fuel k) code (startD nn ds) h) = .ok d h) : Giv (evL fns sub fuel (k + 1)) i ds d := fun h => by
  show callI fns sub fuel (k + 1) i ds h = _
  rw [call_eq hf hl]
  exact H h
/-- by what holds behind the code -/
theorem givW {i np nn : Nat} {code : QSs} {ds : List D} {d : D} (hf : fns[i]? = some ⟨np, nn, code⟩) (hl : ds.length = np) (hd : ∀ n, D.lt n d = true) (H : ∀ h, WpS (exSs (evL fns sub fuel k) code (startD nn ds) h) ⟨fun _ h' => d = .non ∧ h <+: h', fun d' h' => d' = d ∧ h <+: h', noS, noS, fun _ _ _ => False⟩) : Giv (evL fns sub fuel (k + 1)) i ds d :=
  givC hf hl fun h => fin_gives (hd _) (H h)
theorem gc' {i : Nat} {ds : List D} {d : D} (g : Giv (evL fns sub fuel k) i ds d) (h : Hd) : callI fns sub fuel k i ds h = .ok d h := g h
/-- a def raises e -/
def Rai (ev : Ev) (f : Nat) (xs : List D) (e : Exn) : Prop := ∀ h, ev.call f xs h = .ex e h
theorem raiW {i np nn : Nat} {code : QSs} {ds : List D} {e : Exn} (hf : fns[i]? = some ⟨np, nn, code⟩) (hl : ds.length = np) (hd : ∀ n, fsLt n e.fs = true) (H : ∀ h, WpS (exSs (evL fns sub fuel k) code (startD nn ds) h) ⟨noS, fun _ _ => False, noS, noS, fun e' _ h' => e' = e ∧ h <+: h'⟩) : Rai (evL fns sub fuel (k + 1)) i ds e := fun h => by
  show callI fns sub fuel (k + 1) i ds h = _
  rw [call_eq hf hl]
  exact fin_raises (hd _) (H h)
theorem rc' {i : Nat} {ds : List D} {e : Exn} (g : Rai (evL fns sub fuel k) i ds e) (h : Hd) : callI fns sub fuel k i ds h = .ex e h := g h
/-- a def whose value may be a list -/
theorem lisW {i np nn : Nat} {code : QSs} {ds : List D} {h : Hd} {Q : D → Hd → Prop} {X : Exn → Hd → Prop} (hf : fns[i]? = some ⟨np, nn, code⟩) (hl : ds.length = np) (H : WpS (exSs (evL fns sub fuel k) code (startD nn ds) h) ⟨fun _ h' => h <+: h' ∧ Q .non h, fun d h' => h <+: h' ∧ (D.lt h.length d = true → Q d h) ∧ (D.lt h.length d = false → Q d h'), noS, noS, fun e _ h' => h <+: h' ∧ fsLt h.length e.fs = true ∧ X e h⟩) : WpE (callI fns sub fuel (k + 1) i ds h) Q X := by
  rw [call_eq hf hl]
  exact fin_list H
end
end PV
/-! PVT3: is_integer, is_ratio, less, at_most; makers with a bounded upper part. -/
namespace PV
open PySem
section
variable {ev : Ev} {h : Hd}
/-- a maker of lowest terms whose upper part is bounded, too -/
def MakesA (ev : Ev) (f : Nat) : Prop := ∀ a b : Int, b ≠ 0 → Sz 9000000 a → Sz 8900 b → Giv ev f [.int a, .int b] (rv (Rat.divInt a b))
theorem MakesR.a {f : Nat} (m : MakesR ev f) : MakesA ev f := fun a b hb _ sb => m a b hb sb
theorem t_addA {mk : Nat} (hm : MakesA ev mk) {p q : Rat} {n : Nat} (sp : Qn n p) (sq : Qn n q) (hn : n ≤ 4400) : fin h (exSs ev (C_add mk) (startD 2 [rv p, rv q]) h) = .ok (rv (p + q)) h := by
  have m1 := mulOk_sz sp.1 sq.2 (by omega)
  have m2 := mulOk_sz sq.1 sp.2 (by omega)
  have m3 := mulOk_sz sp.2 sq.2 (by omega)
  have c := hm (p.num * q.den + q.num * p.den) (p.den * q.den) (Int.mul_ne_zero (den0 p) (den0 q)) (((sp.1.mul sq.2).add (sq.1.mul sp.2)).mono (by omega)) ((sp.2.mul sq.2).mono (by omega)) h
  rw [rat_add] at c
  simp [C_add, startD, m1, m2, m3, arrD, c]
theorem t_mulA {mk : Nat} (hm : MakesA ev mk) {p q : Rat} {n : Nat} (sp : Qn n p) (sq : Qn n q) (hn : n ≤ 4400) : fin h (exSs ev (C_mul mk) (startD 2 [rv p, rv q]) h) = .ok (rv (p * q)) h := by
  have m1 := mulOk_sz sp.1 sq.1 (by omega)
  have m3 := mulOk_sz sp.2 sq.2 (by omega)
  have c := hm (p.num * q.num) (p.den * q.den) (Int.mul_ne_zero (den0 p) (den0 q)) ((sp.1.mul sq.1).mono (by omega)) ((sp.2.mul sq.2).mono (by omega)) h
  rw [rat_mul] at c
  simp [C_mul, startD, m1, m3, arrD, c]
/-! ### order -/
theorem rat_lt (p q : Rat) : decide (p.num * (q.den : Int) < q.num * (p.den : Int)) = decide (p < q) := by
  rw [decide_eq_decide]
  exact (Rat.lt_iff ..).symm
theorem rat_le (p q : Rat) : decide (p.num * (q.den : Int) ≤ q.num * (p.den : Int)) = decide (p ≤ q) := by
  rw [decide_eq_decide]
  exact (Rat.le_iff ..).symm
def C_less : QSs := .cons (.ret (.cmp .Lt (.bin .Mult (.idx (.var 0) (.con (.int (0)))) (.idx (.var 1) (.con (.int (1))))) (.bin .Mult (.idx (.var 1) (.con (.int (0)))) (.idx (.var 0) (.con (.int (1))))))) .nil
theorem t_less {p q : Rat} {n : Nat} (sp : Qn n p) (sq : Qn n q) (hn : n ≤ 40000000) : fin h (exSs ev C_less (startD 2 [rv p, rv q]) h) = .ok (.bl (decide (p < q))) h := by
  have m1 := mulOk_sz sp.1 sq.2 (by omega)
  have m2 := mulOk_sz sq.1 sp.2 (by omega)
  simp [C_less, startD, m1, m2, rat_lt]
def C_at_most : QSs := .cons (.ret (.cmp .LtE (.bin .Mult (.idx (.var 0) (.con (.int (0)))) (.idx (.var 1) (.con (.int (1))))) (.bin .Mult (.idx (.var 1) (.con (.int (0)))) (.idx (.var 0) (.con (.int (1))))))) .nil
theorem t_at_most {p q : Rat} {n : Nat} (sp : Qn n p) (sq : Qn n q) (hn : n ≤ 40000000) : fin h (exSs ev C_at_most (startD 2 [rv p, rv q]) h) = .ok (.bl (decide (p ≤ q))) h := by
  have m1 := mulOk_sz sp.1 sq.2 (by omega)
  have m2 := mulOk_sz sq.1 sp.2 (by omega)
  simp [C_at_most, startD, m1, m2, rat_le]
/-! ### kinds -/
def isRef : D → Bool
  | .ref _ => true
  | _ => false
def intB : D → Bool
  | .int _ => true
  | _ => false
/-- a tuple of two integers in lowest terms with a below of at least 1 -/
def ratB : D → Bool
  | .tup [.int a, .int b] => decide (0 < b) && decide (Nat.gcd a.natAbs b.natAbs = 1)
  | _ => false
theorem ratB_rv (q : Rat) : ratB (rv q) = true := by
  have h1 := q.den_pos
  have h2 := q.reduced
  unfold Nat.Coprime at h2
  simp [ratB, rv, h1, h2]
def C_is_integer : QSs := .cons (.ret (.andv (.isi (.var 0) .int) (.nott (.isi (.var 0) .bool)))) .nil
theorem t_is_integer {x : D} (hx : isRef x = false) : fin h (exSs ev C_is_integer (startD 1 [x]) h) = .ok (.bl (intB x)) h := by
  cases x with
  | ref n => cases hx
  | _ => simp [C_is_integer, startD, intB]
/-- what is_ratio is asked of here: no list within; a list of the heap itself may be -/
def Askd (h : Hd) (x : D) : Prop := (∀ n, x = .ref n → (lstAt h n).isSome = true) ∧ ∀ xs, x = .tup xs → ∀ y ∈ xs, isRef y = false
def C_is_ratio (it : Nat) : QSs := .cons (.ife (.or (.not (.v (.isi (.var 0) .tuple))) (.v (.cmp .NotEq (.bi .len (.cons (.var 0) .nil)) (.con (.int (2)))))) (.cons (.ret (.con (.bl false))) .nil) .nil)
  (.cons (.ife (.or (.not (.v (.call it (.cons (.idx (.var 0) (.con (.int (0)))) .nil) .nil [.inl (.inl 0)]))) (.not (.v (.call it (.cons (.idx (.var 0) (.con (.int (1)))) .nil) .nil [.inl (.inl 0)])))) (.cons (.ret (.con (.bl false))) .nil) .nil)
  (.cons (.ret (.andv (.cmp .Gt (.idx (.var 0) (.con (.int (1)))) (.con (.int (0)))) (.cmp .Eq (.bi .gcd (.cons (.idx (.var 0) (.con (.int (0)))) (.cons (.idx (.var 0) (.con (.int (1)))) .nil))) (.con (.int (1)))))) .nil))
theorem isi_ref_tuple {n : Nat} (e : (lstAt h n).isSome = true) : isiV (.ref n) .tuple h = some false := by
  show (lstAt h n).map _ = _
  cases q : lstAt h n with
  | none => rw [q] at e; cases e
  | some xs => rfl
theorem t_is_ratio {it : Nat} (hi : ∀ y, isRef y = false → Giv ev it [y] (.bl (intB y))) {x : D} (hx : Askd h x) : fin h (exSs ev (C_is_ratio it) (startD 1 [x]) h) = .ok (.bl (ratB x)) h := by
  cases x with
  | ref n =>
    have e := isi_ref_tuple (hx.1 n rfl)
    simp [C_is_ratio, startD, e, ratB]
  | tup xs =>
    match xs, hx with
    | [], _ => simp [C_is_ratio, startD, ratB]
    | [a], _ => simp [C_is_ratio, startD, ratB]
    | [a, b], hx =>
      have ha := hi a (hx.2 _ rfl a (by simp)) h
      have hb := hi b (hx.2 _ rfl b (by simp)) h
      cases a with
      | int i =>
        cases b with
        | int j =>
          by_cases q : 0 < j
          · simp [C_is_ratio, startD, ratB, intB, ha, hb, arrD, q]
            omega
          · simp [C_is_ratio, startD, ratB, intB, ha, hb, arrD, q]
        | _ => simp [C_is_ratio, startD, ratB, intB, ha, hb, arrD]
      | _ => simp [C_is_ratio, startD, ratB, intB, ha, arrD]
    | a :: b :: c :: r, _ =>
      have : ¬ ((r.length : Int) + 1 + 1 + 1 = 2) := by omega
      simp [C_is_ratio, startD, ratB, this]
  | _ => simp [C_is_ratio, startD, ratB]
end
end PV
/-! PVT4: defs that many laws share: the cell of a script, the rich number of a cell, the law's maker of lowest terms, the drawn ratio. -/
namespace PV
open PySem
section
variable {ev : Ev} {h : Hd}
def Ints (ns : List Int) : Prop := ∀ z ∈ ns, Sz 1048577 z
theorem sz_bits {z : Int} (h1 : Builtin.Int.intBits z ≤ 1048576) : Sz 1048577 z := by
  unfold Builtin.Int.intBits at h1
  unfold Sz
  by_cases q : z = 0
  · subst q
    exact Nat.pow_pos (by decide)
  · have q2 : (z == 0) = false := by simpa using q
    rw [q2] at h1
    have h2 : z.natAbs.log2 < 1048576 := by
      have h4 : z.natAbs.log2 ≤ 1048575 := by simpa using h1
      omega
    have h3 := (Nat.log2_lt (show z.natAbs ≠ 0 by omega)).mp h2
    exact Nat.lt_trans h3 (Nat.pow_lt_pow_right (by decide) (by decide))
theorem fmod_b (c : Int) {m : Int} (hm : 0 < m) : 0 ≤ c.fmod m ∧ c.fmod m < m := by
  rw [Int.fmod_eq_emod_of_nonneg _ (by omega)]
  exact ⟨Int.emod_nonneg _ (by omega), Int.emod_lt_of_pos _ hm⟩
theorem fmod_n (c : Int) {m : Nat} (hm : 0 < m) : ∃ n : Nat, n < m ∧ c.fmod (m : Int) = n := by
  obtain ⟨a, b⟩ := fmod_b c (m := (m : Int)) (by omega)
  exact ⟨(c.fmod m).toNat, by omega, by omega⟩
theorem div_ok {j : Int} (i : Int) (h0 : j ≠ 0) (h1 : j.natAbs < 2 ^ 64) : divOk i j = true := divOk_sz (n := 64) h1 (by decide) h0
/-- the cell k of a script -/
def C_cell : QSs := .cons (.ife (.v (.cmp .Lt (.var 1) (.bi .len (.cons (.var 0) .nil)))) (.cons (.ret (.bi .int (.cons (.idx (.var 0) (.var 1)) .nil))) .nil) .nil)
  (.cons (.ret (.con (.int (0)))) .nil)
def cellI (ns : List Int) (j : Nat) : Int := ns.getD j 0
theorem cell_sz {ns : List Int} (hn : Ints ns) (j : Nat) : Sz 1048577 (cellI ns j) := by
  unfold cellI
  rw [List.getD_eq_getElem?_getD]
  by_cases hj : j < ns.length
  · simp [hj]
    exact hn _ (List.getElem_mem hj)
  · simp [hj]
    exact Nat.pow_pos (by decide)
theorem t_cell (ns : List Int) (j : Nat) : fin h (exSs ev C_cell (startD 2 [.fl (ns.map .int), .int (j : Int)]) h) = .ok (.int (cellI ns j)) h := by
  by_cases hj : j < ns.length
  · have hj' : (j : Int) < ns.length := by omega
    have a : L2.atI (ns.map D.int) (j : Int) = some (.int (cellI ns j)) := by
      rw [at_n (by simpa using hj)]
      simp [cellI, hj]
    simp [C_cell, startD, a, hj']
  · have hj' : ¬ (j : Int) < ns.length := by omega
    have e : cellI ns j = 0 := by
      unfold cellI
      simp [List.getD_eq_getElem?_getD, hj]
    simp [C_cell, startD, hj', e]
/-- the rich number of a cell -/
def C_rich : QSs := .cons (.ife (.v (.cmp .GtE (.var 0) (.bin .Pow (.con (.int (10))) (.con (.int (18)))))) (.cons (.ret (.bi .int (.cons (.var 0) .nil))) .nil) .nil)
  (.cons (.asg (.nm 2) (.bin .Mod (.bi .int (.cons (.bin .Add (.bin .Add (.bin .Mult (.var 0) (.con (.int (48271)))) (.bin .Mult (.var 1) (.con (.int (69621))))) (.con (.int (11)))) .nil)) (.con (.int (2147483647)))))
  (.cons (.ret (.bin .Add (.bin .Mult (.var 2) (.con (.int (2147483629)))) (.bin .Mod (.bi .int (.cons (.bin .Add (.bin .Mult (.var 2) (.con (.int (16807)))) (.var 0)) .nil)) (.con (.int (2147483629)))))) .nil))
def richI (z : Int) (j : Nat) : Int := if 10 ^ 18 ≤ z then z else
  (z * 48271 + j * 69621 + 11).fmod 2147483647 * 2147483629 + ((z * 48271 + j * 69621 + 11).fmod 2147483647 * 16807 + z).fmod 2147483629
theorem rich_nn {z : Int} {j : Nat} : 0 ≤ richI z j := by
  unfold richI
  split
  · rename_i k
    exact Int.le_trans (by decide) k
  · have a := (fmod_b (z * 48271 + j * 69621 + 11) (m := 2147483647) (by decide)).1
    have b := (fmod_b ((z * 48271 + j * 69621 + 11).fmod 2147483647 * 16807 + z) (m := 2147483629) (by decide)).1
    omega
theorem t_rich {z : Int} {j : Nat} (sz : Sz 1048577 z) (hj : j ≤ 1000) : fin h (exSs ev C_rich (startD 3 [.int z, .int (j : Int)]) h) = .ok (.int (richI z j)) h := by
  by_cases hz : (10 : Int) ^ 18 ≤ z
  · have p : powOk 10 18 = true := by decide
    have e : richI z j = z := if_pos hz
    simp [C_rich, startD, p, hz, e, -Int.reducePow]
  · have s1 : Sz 16 48271 := by unfold Sz; decide
    have s2 : Sz 17 69621 := by unfold Sz; decide
    have s3 : Sz 31 2147483647 := by unfold Sz; decide
    have s4 : Sz 15 16807 := by unfold Sz; decide
    have s5 : Sz 31 2147483629 := by unfold Sz; decide
    have sj : Sz 10 (j : Int) := Sz.nat (by show j < 1024; omega)
    have m1 := mulOk_sz sz s1 (by decide)
    have m2 := mulOk_sz sj s2 (by decide)
    have sm : Sz 31 ((z * 48271 + j * 69621 + 11).fmod 2147483647) := s3.fmod (by decide)
    have m3 := mulOk_sz sm s5 (by decide)
    have m4 := mulOk_sz sm s4 (by decide)
    have p : powOk 10 18 = true := by decide
    have e : richI z j = _ := if_neg hz
    simp [C_rich, startD, p, hz, m1, m2, m3, m4, e, -Int.reducePow]
theorem rich_sz {z : Int} {j : Nat} (sz : Sz 1048577 z) : Sz 1048577 (richI z j) := by
  unfold richI
  split
  · exact sz
  · have s3 : Sz 31 2147483647 := by unfold Sz; decide
    have s5 : Sz 31 2147483629 := by unfold Sz; decide
    exact (((s3.fmod (i := z * 48271 + j * 69621 + 11) (by decide)).mul s5).add (s5.fmod (by decide))).mono (by decide)
/-! ### the law's maker of lowest terms (one, other = other, one - one // other * other) -/
def B_lmake : QSs := .cons (.par 2 3 (.var 3) (.bin .Sub (.var 2) (.bin .Mult (.bin .FloorDiv (.var 2) (.var 3)) (.var 3)))) .nil
def T_lmake : QT := .v (.cmp .Gt (.var 3) (.con (.int (0))))
def C_lmake : QSs := .cons (.par 2 3 (.bi .abs (.cons (.var 0) .nil)) (.bi .abs (.cons (.var 1) .nil)))
  (.cons (.whl T_lmake B_lmake)
  (.cons (.ife (.v (.cmp .Lt (.var 1) (.con (.int (0))))) (.cons (.asg (.nm 2) (.neg (.var 2))) .nil) .nil)
  (.cons (.ret (.tup (.cons (.bin .FloorDiv (.var 0) (.var 2)) (.cons (.bin .FloorDiv (.var 1) (.var 2)) .nil)))) .nil)))
theorem lmake_loop (ev : Ev) (v0 v1 : Option D) : ∀ (n : Nat) (a b : Int) (h : Hd), 0 ≤ a → 0 ≤ b → b.toNat < n → Sz 9000000 a → Sz 8900 b →
    loopW (evT ev T_lmake) (exSs ev B_lmake) n [v0, v1, some (.int a), some (.int b)] h = .nx [v0, v1, some (.int (gd a b)), some (.int 0)] h
  | 0, a, b, h, ha, hb, hn, sa, sb => by omega
  | n + 1, a, b, h, ha, hb, hn, sa, sb => by
    by_cases hb0 : b = 0
    · subst hb0
      have e : gd a 0 = a := by unfold gd; simp; omega
      rw [loopW_stop (h1 := h) (by simp [T_lmake]), e]
    · have hp : 0 < b := by omega
      have h0 := (fmod_b a hp).1
      have h1 := (fmod_b a hp).2
      have ih := lmake_loop ev v0 v1 n b (a.fmod b) h (by omega) h0 (by omega) (sb.mono (by decide)) (sb.fmod hb0)
      rw [gd_step ha hp] at ih
      have d := divOk_sz (i := a) sb (by decide) hb0
      have m := mulOk_sz (sa.fdiv (j := b)) sb (by decide)
      have e : a - a.fdiv b * b = a.fmod b := by rw [Int.fmod_def, Int.mul_comm]
      rw [loopW_go (h1 := h) (s2 := [v0, v1, some (.int b), some (.int (a.fmod b))]) (h2 := h) (by simp [T_lmake, hp]) (by simp [B_lmake, d, m, e])]
      exact ih
theorem t_lmake {a b : Int} (hF : 2 ^ 8900 ≤ ev.fuel) (hb : b ≠ 0) (sa : Sz 9000000 a) (sb : Sz 8900 b) : fin h (exSs ev C_lmake (startD 4 [.int a, .int b]) h) = .ok (rv (Rat.divInt a b)) h := by
  have lp := lmake_loop ev (some (.int a)) (some (.int b)) ev.fuel (a.natAbs : Nat) (b.natAbs : Nat) h (by omega) (by omega) (by unfold Sz at sb; omega) (by unfold Sz at *; simpa using sa) (by unfold Sz at *; simpa using sb)
  have g : gd (a.natAbs : Nat) (b.natAbs : Nat) = gd a b := by unfold gd; simp
  rw [g] at lp
  have gp := gd_pos (a := a) hb
  have sg := gd_sz (a := a) hb sb
  rw [← mkR_rv hb]
  by_cases hlt : b < 0
  · have d : ∀ x, divOk x (-gd a b) = true := fun x => divOk_sz sg.neg (by omega) (by omega)
    have e3 : mkR a b = (a.fdiv (-gd a b), b.fdiv (-gd a b)) := if_pos hlt
    simp [C_lmake, startD, absI]
    rw [lp]
    simp [hlt, d, e3]
  · have d : ∀ x, divOk x (gd a b) = true := fun x => divOk_sz sg (by omega) (by omega)
    have e3 : mkR a b = (a.fdiv (gd a b), b.fdiv (gd a b)) := if_neg hlt
    simp [C_lmake, startD, absI]
    rw [lp]
    simp [hlt, d, e3]
/-! ### the drawn ratio of a rich number -/
def C_lratio (mk : Nat) : QSs := .cons (.asg (.nm 1) (.bin .Sub (.bin .Mod (.var 0) (.con (.int (13)))) (.con (.int (6)))))
  (.cons (.ife (.v (.cmp .Eq (.bin .Mod (.bin .FloorDiv (.var 0) (.con (.int (13)))) (.con (.int (5)))) (.con (.int (0))))) (.cons (.asg (.nm 1) (.bin .Sub (.bin .Mod (.bin .FloorDiv (.var 0) (.con (.int (65)))) (.con (.int (201)))) (.con (.int (100))))) .nil) .nil)
  (.cons (.ret (.call mk (.cons (.var 1) (.cons (.idx (.lst (.cons (.con (.int (1))) (.cons (.con (.int (1))) (.cons (.con (.int (1))) (.cons (.con (.int (2))) (.cons (.con (.int (3))) (.cons (.con (.int (4))) (.cons (.con (.int (7))) .nil)))))))) (.bin .Mod (.bin .FloorDiv (.var 0) (.con (.int (13065)))) (.con (.int (7))))) .nil)) .nil [.inl (.inl 0), .inl (.inl 1)])) .nil))
def lrA (c : Int) : Int := if (c.fdiv 13).fmod 5 = 0 then (c.fdiv 65).fmod 201 - 100 else c.fmod 13 - 6
def lrB (c : Int) : Int := ([1, 1, 1, 2, 3, 4, 7] : List Int).getD ((c.fdiv 13065).fmod 7).toNat 1
def lrat (c : Int) : Rat := Rat.divInt (lrA c) (lrB c)
theorem lrB_ok (c : Int) : 1 ≤ lrB c ∧ lrB c ≤ 7 := by
  unfold lrB
  obtain ⟨n, hn, e⟩ := fmod_n (c.fdiv 13065) (m := 7) (by decide)
  have e : (c.fdiv 13065).fmod 7 = n := e
  rw [e, Int.toNat_natCast]
  match n, hn with
  | 0, _ | 1, _ | 2, _ | 3, _ | 4, _ | 5, _ | 6, _ => decide
theorem lrA_sz (c : Int) : Sz 7 (lrA c) := by
  have f := fmod_b (c.fdiv 65) (m := 201) (by decide)
  have g := fmod_b c (m := 13) (by decide)
  unfold lrA Sz
  split <;> omega
theorem lrat_sz (c : Int) : Qn 7 (lrat c) := by
  obtain ⟨b1, b2⟩ := lrB_ok c
  exact Qn.divInt (by omega) (lrA_sz c) (by unfold Sz; omega)
theorem t_lratio {mk : Nat} (hm : MakesA ev mk) (c : Int) : fin h (exSs ev (C_lratio mk) (startD 2 [.int c]) h) = .ok (rv (lrat c)) h := by
  obtain ⟨b1, b2⟩ := lrB_ok c
  have d1 := div_ok (j := 13) c (by decide) (by decide)
  have d2 := div_ok (j := 65) c (by decide) (by decide)
  have d3 := div_ok (j := 13065) c (by decide) (by decide)
  have n7 : decide ((7 : Nat) ≤ line) = true := by decide
  have ix : L2.atI ([.int 1, .int 1, .int 1, .int 2, .int 3, .int 4, .int 7] : List D) ((c.fdiv 13065).fmod 7) = some (.int (lrB c)) := by
    obtain ⟨n, hn, e⟩ := fmod_n (c.fdiv 13065) (m := 7) (by decide)
    have e : (c.fdiv 13065).fmod 7 = n := e
    rw [e, at_n (by simpa using hn)]
    unfold lrB
    rw [e, Int.toNat_natCast]
    match n, hn with
    | 0, _ | 1, _ | 2, _ | 3, _ | 4, _ | 5, _ | 6, _ => rfl
  have mk' := hm (lrA c) (lrB c) (by omega) ((lrA_sz c).mono (by decide)) (by
    have : Sz 3 (lrB c) := by unfold Sz; omega
    exact this.mono (by decide)) (h ++ [.lst [.int 1, .int 1, .int 1, .int 2, .int 3, .int 4, .int 7]])
  by_cases q : (c.fdiv 13).fmod 5 = 0
  · have e : lrA c = _ := if_pos q
    rw [e] at mk'
    have er : lrat c = Rat.divInt ((c.fdiv 65).fmod 201 - 100) (lrB c) := by unfold lrat; rw [e]
    simp [C_lratio, startD, d1, d2, d3, q, n7, ix, arrD, mk', er]
    exact fin_app (rv_lt _ _)
  · have e : lrA c = _ := if_neg q
    rw [e] at mk'
    have er : lrat c = Rat.divInt (c.fmod 13 - 6) (lrB c) := by unfold lrat; rw [e]
    simp [C_lratio, startD, d1, d2, d3, q, n7, ix, arrD, mk', er]
    exact fin_app (rv_lt _ _)
end
end PV
/-! PVEq: when two values are equal: plain values (no list within) by their shape. -/
namespace PV
open PySem
/-- plain data of a depth of at most n -/
def Sh (n : Nat) (x : D) : Prop := ∀ h, (toPy h x).canLay0 = true ∧ (toPy h x).depth ≤ n
/-- equal, as Python has it -/
def eqD (x y : D) : Bool := PyData.eqv (toPy [] x) (toPy [] y)
def eqDs (xs ys : List D) : Bool := PyData.eqvAll (toPys [] xs) (toPys [] ys)
mutual
theorem toPy_h (h : Hd) : ∀ x : D, toPy h x = toPy [] x
  | .non | .bl _ | .int _ | .str _ | .ref _ => by simp [toPy]
  | .tup xs => by simp only [toPy]; rw [toPys_h h xs]
  | .fl xs => by simp only [toPy]; rw [toPys_h h xs]
theorem toPys_h (h : Hd) : ∀ xs : List D, toPys h xs = toPys [] xs
  | [] => by simp [toPys]
  | x :: xs => by simp only [toPys]; rw [toPy_h h x, toPys_h h xs]
end
theorem Sh.mono {n m : Nat} {x : D} (s : Sh n x) (l : n ≤ m) : Sh m x := fun h => ⟨(s h).1, Nat.le_trans (s h).2 l⟩
theorem Sh.noref {n k : Nat} (s : Sh n (.ref k)) : False := by
  have := (s []).1
  simp [toPy, PyData.canLay0] at this
mutual
theorem toPyF_eq {f : Nat → PyData} : ∀ x : D, (toPy [] x).canLay0 = true → toPyF f x = toPy [] x
  | .non, _ | .bl _, _ | .int _, _ | .str _, _ => by simp [toPy, toPyF]
  | .ref _, c => by simp [toPy, PyData.canLay0] at c
  | .tup xs, c => by
    simp only [toPy, toPyF] at c ⊢
    rw [toPysF_eq xs (by simpa [PyData.canLay0] using c)]
  | .fl xs, c => by
    simp only [toPy, toPyF] at c ⊢
    rw [toPysF_eq xs (by simpa [PyData.canLay0] using c)]
theorem toPysF_eq {f : Nat → PyData} : ∀ xs : List D, PyData.canLayAll0 (toPys [] xs) = true → toPysF f xs = toPys [] xs
  | [], _ => by simp [toPys, toPysF]
  | x :: xs, c => by
    simp only [toPys, toPysF, PyData.canLayAll0, Bool.and_eq_true] at c ⊢
    rw [toPyF_eq x c.1, toPysF_eq xs c.2]
end
theorem toPyT_sh {n : Nat} {x : D} (s : Sh n x) (h : Hd) : toPyT h x = toPy [] x := toPyF_eq x (s []).1
theorem toPyT_ref {h : Hd} {a : Nat} {xs : List D} {n : Nat} (ea : lstAt h a = some xs) (sx : PyData.canLayAll0 (toPys [] xs) = true) : toPyT h (.ref a) = .list (toPys [] xs) := by
  show (match lstAt h a with
      | some xs => PyData.list (toPysF (refPy h 3) xs)
      | none => .dict []) = _
  rw [ea]
  show PyData.list (toPysF (refPy h 3) xs) = _
  rw [toPysF_eq xs sx]
theorem eqV_sh {n m : Nat} {x y : D} (s : Sh n x) (t : Sh m y) (hn : n ≤ 64) (hm : m ≤ 64) (h : Hd) : eqV h x y = some (eqD x y) := by
  unfold eqV
  rw [toPyT_sh s h, toPyT_sh t h]
  have a := s []
  have b := t []
  have e1 : SeqAt.shaped (toPy [] x) = true := by unfold SeqAt.shaped; rw [a.1, decide_eq_true (Nat.le_trans a.2 hn)]; rfl
  have e2 : SeqAt.shaped (toPy [] y) = true := by unfold SeqAt.shaped; rw [b.1, decide_eq_true (Nat.le_trans b.2 hm)]; rfl
  rw [e1, e2]
  rfl
@[simp] theorem sh_non : Sh 0 .non := fun h => by simp [toPy, PyData.canLay0, PyData.depth]
@[simp] theorem sh_bl (b : Bool) : Sh 0 (.bl b) := fun h => by simp [toPy, PyData.canLay0, PyData.depth]
@[simp] theorem sh_int (i : Int) : Sh 0 (.int i) := fun h => by simp [toPy, PyData.canLay0, PyData.depth]
theorem shs (n : Nat) (h : Hd) : ∀ {xs : List D}, (∀ x ∈ xs, Sh n x) → PyData.canLayAll0 (toPys h xs) = true ∧ PyData.depthAll (toPys h xs) ≤ n
  | [], _ => by simp [toPys, PyData.canLayAll0, PyData.depthAll]
  | x :: xs, k => by
    have a := k x List.mem_cons_self h
    have b := shs n h fun y hy => k y (List.mem_cons_of_mem _ hy)
    simp only [toPys, PyData.canLayAll0, PyData.depthAll, a.1, b.1, Bool.and_self, true_and]
    have := a.2
    have := b.2
    omega
theorem sh_tup {n : Nat} {xs : List D} (k : ∀ x ∈ xs, Sh n x) : Sh (n + 1) (.tup xs) := fun h => by
  have a := shs n h k
  simp only [toPy, PyData.canLay0, PyData.depth, a.1, true_and]
  have := a.2
  omega
theorem sh_rv (q : Rat) : Sh 1 (rv q) := sh_tup fun x hx => by
  simp at hx
  rcases hx with rfl | rfl <;> exact sh_int _
theorem sh_map {α : Type} {n : Nat} {r : α → D} {as : List α} (k : ∀ a ∈ as, Sh n (r a)) : Sh (n + 1) (.tup (as.map r)) := sh_tup fun x hx => by
  obtain ⟨a, ha, rfl⟩ := List.mem_map.mp hx
  exact k a ha
theorem sh_vv (v : List Rat) : Sh 2 (vv v) := sh_map fun a _ => sh_rv a
theorem sh_mv (v : List (List Rat)) : Sh 3 (mv v) := sh_map fun a _ => sh_vv a
theorem sh_pair {n m k : Nat} {x y : D} (a : Sh n x) (b : Sh m y) (h1 : n < k) (h2 : m < k) : Sh k (.tup [x, y]) := by
  obtain ⟨k, rfl⟩ : ∃ j, k = j + 1 := ⟨k - 1, by omega⟩
  refine sh_tup fun z hz => ?_
  simp at hz
  rcases hz with rfl | rfl
  · exact a.mono (by omega)
  · exact b.mono (by omega)
@[simp] theorem eqD_int (a b : Int) : eqD (.int a) (.int b) = decide (a = b) := by
  simp [eqD, toPy, PyData.eqv]
  rfl
@[simp] theorem eqD_bl (a b : Bool) : eqD (.bl a) (.bl b) = (a == b) := by simp [eqD, toPy, PyData.eqv]
@[simp] theorem eqD_str (a b : Str) : eqD (.str a) (.str b) = (a == b) := by simp [eqD, toPy, PyData.eqv]
@[simp] theorem eqD_tup (xs ys : List D) : eqD (.tup xs) (.tup ys) = eqDs xs ys := by simp [eqD, eqDs, toPy, PyData.eqv]
@[simp] theorem eqDs_nil : eqDs [] [] = true := by simp [eqDs, toPys, PyData.eqvAll]
@[simp] theorem eqDs_cons (x y : D) (xs ys : List D) : eqDs (x :: xs) (y :: ys) = (eqD x y && eqDs xs ys) := by simp [eqDs, eqD, toPys, PyData.eqvAll]
@[simp] theorem eqDs_nc (y : D) (ys : List D) : eqDs [] (y :: ys) = false := by simp [eqDs, toPys, PyData.eqvAll]
@[simp] theorem eqDs_cn (x : D) (xs : List D) : eqDs (x :: xs) [] = false := by simp [eqDs, toPys, PyData.eqvAll]
@[simp] theorem eqD_rv (p q : Rat) : eqD (rv p) (rv q) = decide (p = q) := by
  have e : (p = q) ↔ (p.num = q.num ∧ (p.den : Int) = q.den) := ⟨fun e => by rw [e]; exact ⟨rfl, rfl⟩, fun ⟨a, b⟩ => Rat.ext a (by omega)⟩
  unfold rv
  simp only [eqD_tup, eqDs_cons, eqDs_nil, eqD_int, decide_eq_decide.mpr e, Bool.and_true]
  by_cases h1 : p.num = q.num
  · by_cases h2 : (p.den : Int) = q.den
    · simp [h1, h2]
    · simp [h1, h2]
  · simp [h1]
theorem eqDs_map {α : Type} [DecidableEq α] {r : α → D} (k : ∀ a b, eqD (r a) (r b) = decide (a = b)) : ∀ as bs : List α, eqDs (as.map r) (bs.map r) = decide (as = bs)
  | [], [] => by simp
  | [], _ :: _ => by simp
  | _ :: _, [] => by simp
  | a :: as, b :: bs => by simp [k a b, eqDs_map k as bs]
@[simp] theorem eqD_vv (v w : List Rat) : eqD (vv v) (vv w) = decide (v = w) := by
  unfold vv
  rw [eqD_tup, eqDs_map eqD_rv]
@[simp] theorem eqD_mv (v w : List (List Rat)) : eqD (mv v) (mv w) = decide (v = w) := by
  unfold mv
  rw [eqD_tup, eqDs_map eqD_vv]
theorem eqV_vv (v w : List Rat) (h : Hd) : eqV h (vv v) (vv w) = some (decide (v = w)) := by rw [eqV_sh (sh_vv v) (sh_vv w) (by decide) (by decide), eqD_vv]
/-- lists of the heap -/
theorem eqV_ref {h : Hd} {a b : Nat} {xs ys : List D} {n : Nat} (ea : lstAt h a = some xs) (eb : lstAt h b = some ys) (sx : ∀ x ∈ xs, Sh n x) (sy : ∀ y ∈ ys, Sh n y) (hn : n ≤ 63) : eqV h (.ref a) (.ref b) = some (eqDs xs ys) := by
  have a1 := shs n [] sx
  have a2 := shs n [] sy
  have e1 : toPyT h (.ref a) = .list (toPys [] xs) := toPyT_ref (n := n) ea a1.1
  have e2 : toPyT h (.ref b) = .list (toPys [] ys) := toPyT_ref (n := n) eb a2.1
  unfold eqV
  rw [e1, e2]
  have q1 : SeqAt.shaped (.list (toPys [] xs)) = true := by
    unfold SeqAt.shaped
    simp only [PyData.canLay0, PyData.depth, a1.1, Bool.true_and]
    exact decide_eq_true (by have := a1.2; omega)
  have q2 : SeqAt.shaped (.list (toPys [] ys)) = true := by
    unfold SeqAt.shaped
    simp only [PyData.canLay0, PyData.depth, a2.1, Bool.true_and]
    exact decide_eq_true (by have := a2.2; omega)
  rw [q1, q2]
  simp [eqDs, PyData.eqv]
end PV
/-! PVV: vectors by places with bounded ratios; items by place. -/
namespace PV
open PySem
def Qf (n : Nat) (f : Nat → Rat) : Prop := ∀ i, Qn n (f i)
theorem Qf.mono {n m : Nat} {f : Nat → Rat} (h : Qf n f) (l : n ≤ m) : Qf m f := fun i => (h i).mono l
theorem vec_mem {n : Nat} {f : Nat → Rat} {x : Rat} (h : x ∈ vec n f) : ∃ i, i < n ∧ x = f i := by
  obtain ⟨i, hi, e⟩ := List.mem_map.mp h
  exact ⟨i, List.mem_range.mp hi, e.symm⟩
theorem zip_mem {n b : Nat} {f g : Nat → Rat} (hf : Qf b f) (hg : Qf b g) : ∀ p ∈ (vec n f).zip (vec n g), Qn b p.1 ∧ Qn b p.2 := fun p hp => by
  obtain ⟨i, _, e1⟩ := vec_mem (List.of_mem_zip hp).1
  obtain ⟨j, _, e2⟩ := vec_mem (List.of_mem_zip hp).2
  rw [e1, e2]
  exact ⟨hf i, hg j⟩
@[simp] theorem at_rng {r : Nat → D} {n i : Nat} (hi : i < n) : L2.atI ((List.range n).map r) (i : Int) = some (r i) := by
  rw [at_n (by simpa using hi)]
  simp
theorem at_vec {n i : Nat} {f : Nat → Rat} (hi : i < n) (h : Hd) : idxV (vv (vec n f)) (.int (i : Int)) h = .ok (rv (f i)) h := by
  unfold vv vec
  rw [t_idx, List.map_map, at_rng hi]
  rfl
theorem vv_vec (n : Nat) (f : Nat → Rat) : D.tup ((List.range n).map fun i => rv (f i)) = vv (vec n f) := by
  unfold vv vec
  rw [List.map_map]
  rfl
theorem walk_vec (n : Nat) (f : Nat → Rat) (h : Hd) : walkV (vv (vec n f)) h = .ok ⟨(List.range n).map fun i => rv (f i), []⟩ h := by
  rw [← vv_vec]
  rfl
theorem len_vec (n : Nat) (f : Nat → Rat) (h : Hd) : biV .len [vv (vec n f)] h = .ok (.int (n : Int)) h := by
  rw [← vv_vec, bi_len_tup]
  simp
theorem sum_sz {b c : Nat} {f : Nat → Rat} (hf : Qf b f) : ∀ n : Nat, n * (b + 1) < c → Qn c (sumN f n)
  | 0, h => Qn.zero (by omega)
  | n + 1, h => by
    have e : (n + 1) * (b + 1) = n * (b + 1) + (b + 1) := by rw [Nat.add_mul]; omega
    have i := sum_sz (c := n * (b + 1) + 1) hf n (by omega)
    exact (i.add (hf n)).mono (by omega)
/-- one item of a list of the heap set -/
theorem set_rng {r r' : Nat → D} {n j : Nat} (hj : ∀ i, i ≠ j → r' i = r i) : ((List.range n).map r).set j (r' j) = (List.range n).map r' := by
  apply List.ext_getElem
  · simp
  · intro i h1 h2
    rw [List.getElem_set]
    by_cases e : j = i
    · subst e; simp
    · rw [if_neg e]
      simp [hj i fun q => e q.symm]
theorem app_rng {r : Nat → D} {n : Nat} : (List.range n).map r ++ [r n] = (List.range (n + 1)).map r := by
  rw [List.range_succ, List.map_append]
  rfl
theorem zip_rng {r q : Nat → D} : ∀ n : Nat, zipD ((List.range n).map r) ((List.range n).map q) = (List.range n).map fun i => .tup [r i, q i] := fun n => by
  have := zip_map r q (List.range n) (List.range n)
  rw [this]
  apply List.ext_getElem
  · simp
  · intro i h1 h2
    simp
/-- a list of the heap as a tuple keeps it -/
theorem seq_tup (xs : List D) (h : Hd) : seqOf (.tup xs) h = some ⟨xs, []⟩ := rfl
end PV
/-! PVTk: objects; a heap of which one cell changes; the law's streams. -/
namespace PV
open PySem
/-! ### a def's end, its heap no longer -/
theorem gc_len {h h' : Hd} {d : D} (e : h'.length = h.length) : gc h d h' = .ok d h' := by
  unfold gc
  split
  · rw [← e, List.take_length]
  · rfl
theorem gcE_len {h h' : Hd} {e : Exn} (q : h'.length = h.length) : gcE h e h' = .ex e h' := by
  unfold gcE
  split
  · rw [← q, List.take_length]
  · rfl
theorem keeps_set {m : Nat} {c : Cell} (hc : Cell.lt m c = true) : ∀ (h l : Hd) (n : Nat), keepsCells m h (h.set n c ++ l) = true
  | [], _, _ => rfl
  | x :: h, l, 0 => by
    show ((Cell.beq x c || Cell.lt m c) && keepsCells m h (h ++ l)) = true
    rw [hc, keeps_pre]
    simp
  | x :: h, l, n + 1 => by
    show ((Cell.beq x x || Cell.lt m x) && keepsCells m h (h.set n c ++ l)) = true
    rw [Cell.beq_refl, keeps_set hc h l n]
    rfl
theorem gc_upd {h l : Hd} {n : Nat} {c : Cell} {d : D} (hc : Cell.lt h.length c = true) (hd : D.lt h.length d = true) : gc h d (h.set n c ++ l) = .ok d (h.set n c) := by
  unfold gc gcOk
  rw [keeps_set hc, hd]
  have e : h.length = (h.set n c).length := by simp
  simp only [Bool.and_self, if_true]
  rw [e, List.take_left']
  rfl
@[simp] theorem fin_rt_set {h : Hd} {d : D} (n : Nat) (c : Cell) : fin h (.rt d (h.set n c)) = .ok d (h.set n c) := gc_len (by simp)
@[simp] theorem fin_nx_set {h : Hd} {s : Sl} (n : Nat) (c : Cell) : fin h (.nx s (h.set n c)) = .ok .non (h.set n c) := gc_len (by simp)
@[simp] theorem at_3 {α : Type} (a b c d : α) (l : List α) : L2.atI (a :: b :: c :: d :: l) 3 = some d := at_n (xs := a :: b :: c :: d :: l) (i := 3) (by simp)
@[simp] theorem at_4 {α : Type} (a b c d e : α) (l : List α) : L2.atI (a :: b :: c :: d :: e :: l) 4 = some e := at_n (xs := a :: b :: c :: d :: e :: l) (i := 4) (by simp)
/-! ### objects -/
theorem obj_lt {h : Hd} {n : Nat} {o : Nat × List (Str × D)} (e : objAt h n = some o) : n < h.length := by
  unfold objAt at e
  cases q : h[n]? with
  | none => rw [q] at e; cases e
  | some x => exact (List.getElem?_eq_some_iff.mp q).1
theorem o_set {h : Hd} {n C : Nat} {o : Nat × List (Str × D)} {fs : List (Str × D)} (e : objAt h n = some o) : objAt (h.set n (.obj C fs)) n = some (C, fs) := by
  unfold objAt
  rw [List.getElem?_set_self (obj_lt e)]
theorem o_set_ne {h : Hd} {n m : Nat} {o : Nat × List (Str × D)} {c : Cell} (e : objAt h m = some o) (q : n ≠ m) : objAt (h.set n c) m = some o := by
  unfold objAt at *
  rw [List.getElem?_set_ne q]
  exact e
theorem o_pre {h H : Hd} {n : Nat} {o : Nat × List (Str × D)} (e : objAt h n = some o) (p : h <+: H) : objAt H n = some o := by
  obtain ⟨l, rfl⟩ := p
  have := obj_lt e
  unfold objAt at *
  rw [List.getElem?_append_left this]
  exact e
theorem o_off (h : Hd) (C : Nat) (fs : List (Str × D)) (l : Hd) : objAt (h ++ .obj C fs :: l) h.length = some (C, fs) := by
  unfold objAt
  rw [List.getElem?_append_right (Nat.le_refl _), Nat.sub_self]
  rfl
theorem o_fld {h : Hd} {n C : Nat} {fs : List (Str × D)} (e : objAt h n = some (C, fs)) (f : Str) : fldV f (.ref n) h = idO h (fs.lookup f) := by
  show (match objAt h n with
    | some (_, fs) => match fs.lookup f with
      | some d => Out.ok d h
      | none => .no
    | none => .no) = _
  rw [e]
  show (match fs.lookup f with
    | some d => Out.ok d h
    | none => .no) = _
  cases fs.lookup f <;> rfl
theorem o_setF {h : Hd} {n C : Nat} {fs : List (Str × D)} (e : objAt h n = some (C, fs)) (l : fs.length < 1000) (f : Str) (d : D) (s : Sl) : setF f d s (.ref n) h = .nx s (h.set n (.obj C (putD f d fs))) := by
  show (match objAt h n with
    | some (C, fs) => match decide (fs.length < 1000) with
      | true => SOut.nx s (h.set n (.obj C (putD f d fs)))
      | false => .no
    | none => .no) = _
  rw [e]
  show (match decide (fs.length < 1000) with
      | true => SOut.nx s (h.set n (.obj C (putD f d fs)))
      | false => .no) = _
  rw [decide_eq_true l]
/-! ### a loop, item by item -/
def a_for (fix : List (Nat × List D)) (g : D → Sl → Option Sl) (b : Sl → Hd → SOut) (xs : List D) : SOut → SOut
  | .nx s h => loopF fix g b xs s h
  | .ct s h => loopF fix g b xs s h
  | .bk s h => .nx s h
  | o => o
def b_for (fix : List (Nat × List D)) (g : D → Sl → Option Sl) (b : Sl → Hd → SOut) (xs : List D) (h : Hd) : Bool → Option Sl → SOut
  | true, some s => a_for fix g b xs (b s h)
  | _, _ => .no
section
variable (fix : List (Nat × List D)) (g : D → Sl → Option Sl) (b : Sl → Hd → SOut) (xs : List D) (h : Hd) (s : Sl)
@[simp] theorem a_for_nx : a_for fix g b xs (.nx s h) = loopF fix g b xs s h := rfl
@[simp] theorem a_for_ct : a_for fix g b xs (.ct s h) = loopF fix g b xs s h := rfl
@[simp] theorem a_for_bk : a_for fix g b xs (.bk s h) = .nx s h := rfl
@[simp] theorem a_for_rt (d : D) : a_for fix g b xs (.rt d h) = .rt d h := rfl
@[simp] theorem a_for_ex (e : Exn) : a_for fix g b xs (.ex e s h) = .ex e s h := rfl
@[simp] theorem b_for_ok : b_for fix g b xs h true (some s) = a_for fix g b xs (b s h) := rfl
theorem loopF_cons (x : D) : loopF fix g b (x :: xs) s h = b_for fix g b xs h (fixOk h fix) (g x s) := by
  conv => lhs; unfold loopF
  cases fixOk h fix with
  | false => rfl
  | true =>
    cases g x s with
    | none => rfl
    | some s1 =>
      show (match b s1 h with
        | .nx s2 h2 => loopF fix g b xs s2 h2
        | .ct s2 h2 => loopF fix g b xs s2 h2
        | .bk s2 h2 => .nx s2 h2
        | o => o) = a_for fix g b xs (b s1 h)
      cases b s1 h <;> rfl
theorem loopF_end : loopF [] g b [] s h = .nx s h := loopF_nil rfl
end
@[simp] theorem enum_tup (xs : List D) (h : Hd) : enumV (.tup xs) h = .ok ⟨enumD 0 xs, []⟩ h := rfl
/-! ### streams -/
def St (a b : Int) : Prop := 0 ≤ a ∧ Sz 1048577 a ∧ Sz 1048577 b
abbrev stC (a b : Int) : Cell := .lst [.int a, .int b]
def IsSt (n : Nat) (h : Hd) : Prop := ∃ a b, St a b ∧ lstAt h n = some [.int a, .int b]
/-- the stream goes on, nothing else changes -/
def Adv (n : Nat) (h H : Hd) : Prop := ∃ a b, St a b ∧ H = h.set n (stC a b)
/-- .. and the heap grows -/
def AdvL (n : Nat) (h H : Hd) : Prop := ∃ a b l, St a b ∧ H = h.set n (stC a b) ++ l
theorem IsSt.lt {n : Nat} {h : Hd} (q : IsSt n h) : n < h.length := by
  obtain ⟨a, b, _, e⟩ := q
  exact lst_lt e
theorem IsSt.refl {n : Nat} {h : Hd} (q : IsSt n h) : AdvL n h h := by
  obtain ⟨a, b, s, e⟩ := q
  refine ⟨a, b, [], s, ?_⟩
  rw [List.append_nil]
  unfold lstAt at e
  cases q : h[n]? with
  | none => rw [q] at e; cases e
  | some x =>
    rw [q] at e
    cases x with
    | lst xs =>
      cases e
      have lt := (List.getElem?_eq_some_iff.mp q).1
      refine List.ext_getElem (by simp) fun i h1 h2 => ?_
      rw [List.getElem_set]
      split
      · rename_i e; subst e; exact (List.getElem?_eq_some_iff.mp q).2
      · rfl
    | _ => cases e
theorem AdvL.st {n : Nat} {h H : Hd} (q : AdvL n h H) (hn : n < h.length) : IsSt n H := by
  obtain ⟨a, b, l, s, rfl⟩ := q
  refine ⟨a, b, s, ?_⟩
  unfold lstAt
  rw [List.getElem?_append_left (by simpa using hn), List.getElem?_set_self hn]
theorem Adv.st {n : Nat} {h H : Hd} (q : Adv n h H) (hn : n < h.length) : IsSt n H := by
  obtain ⟨a, b, s, rfl⟩ := q
  refine ⟨a, b, s, ?_⟩
  unfold lstAt
  rw [List.getElem?_set_self hn]
theorem AdvL.step {n : Nat} {h H H' : Hd} (q : AdvL n h H) (hn : n < h.length) (z : Adv n H H') : AdvL n h H' := by
  obtain ⟨a, b, l, s, rfl⟩ := q
  obtain ⟨a', b', s', rfl⟩ := z
  refine ⟨a', b', l, s', ?_⟩
  rw [List.set_append_left _ _ (by simpa using hn), List.set_set]
theorem AdvL.app {n : Nat} {h H : Hd} (q : AdvL n h H) (l : Hd) : AdvL n h (H ++ l) := by
  obtain ⟨a, b, l', s, rfl⟩ := q
  exact ⟨a, b, l' ++ l, s, by rw [List.append_assoc]⟩
theorem Adv.len {n : Nat} {h H : Hd} (q : Adv n h H) : H.length = h.length := by
  obtain ⟨a, b, s, rfl⟩ := q
  simp
theorem AdvL.len {n : Nat} {h H : Hd} (q : AdvL n h H) : h.length ≤ H.length := by
  obtain ⟨a, b, l, s, rfl⟩ := q
  simp
theorem Adv.toL {n : Nat} {h H : Hd} (q : Adv n h H) : AdvL n h H := by
  obtain ⟨a, b, s, rfl⟩ := q
  exact ⟨a, b, [], s, by simp⟩
theorem AdvL.lst {n m : Nat} {h H : Hd} {xs : List D} (q : AdvL n h H) (e : lstAt h m = some xs) (ne : n ≠ m) : lstAt H m = some xs := by
  obtain ⟨a, b, l, s, rfl⟩ := q
  exact lst_old (r_set_ne e ne) l
theorem Adv.lst {n m : Nat} {h H : Hd} {xs : List D} (q : Adv n h H) (e : lstAt h m = some xs) (ne : n ≠ m) : lstAt H m = some xs := q.toL.lst e ne
/-- a def that goes on with a stream, its value no new list -/
theorem fin_adv {n : Nat} {h : Hd} {o : SOut} {P : D → Prop} {X : Exn → Hd → Prop} (hp : ∀ d, P d → D.lt h.length d = true) (H : WpS o ⟨noS, fun d H => P d ∧ AdvL n h H, noS, noS, fun _ _ _ => False⟩) : WpE (fin h o) (fun d H => P d ∧ Adv n h H) X := by
  cases o with
  | rt d h' =>
    obtain ⟨p, a, b, l, s, rfl⟩ := H
    show WpE (gc h d (h.set n (stC a b) ++ l)) _ X
    rw [gc_upd (by simp [Cell.lt, D.lts, D.lt]) (hp d p)]
    exact ⟨p, a, b, s, rfl⟩
  | nx s h => exact H.elim
  | bk s h => exact H.elim
  | ct s h => exact H.elim
  | ex e s h => exact H.elim
  | no => exact H.elim
/-- .. whatever its value -/
theorem fin_advL {n : Nat} {h : Hd} {o : SOut} {P : D → Hd → Prop} {X : Exn → Hd → Prop} (hp : ∀ d a b l, St a b → P d (h.set n (stC a b) ++ l) → D.lt h.length d = true → P d (h.set n (stC a b))) (H : WpS o ⟨noS, fun d H => P d H ∧ AdvL n h H, noS, noS, fun _ _ _ => False⟩) : WpE (fin h o) (fun d H => P d H ∧ AdvL n h H) X := by
  cases o with
  | rt d h' =>
    obtain ⟨p, a, b, l, s, rfl⟩ := H
    show WpE (gc h d (h.set n (stC a b) ++ l)) _ X
    cases q : D.lt h.length d with
    | true =>
      rw [gc_upd (by simp [Cell.lt, D.lts, D.lt]) q]
      exact ⟨hp d a b l s p q, a, b, [], s, by simp⟩
    | false =>
      have e : gc h d (h.set n (stC a b) ++ l) = .ok d (h.set n (stC a b) ++ l) := by
        unfold gc
        rw [q]
        simp
      rw [e]
      exact ⟨p, a, b, l, s, rfl⟩
  | nx s h => exact H.elim
  | bk s h => exact H.elim
  | ct s h => exact H.elim
  | ex e s h => exact H.elim
  | no => exact H.elim
def C_stream : QSs := (.cons (.ife (.v (.cmp .GtE (.var 0) (.bin .Pow (.con (.int (10))) (.con (.int (18)))))) (.cons (.ret (.lst (.cons (.var 0) (.cons (.con (.int (1))) .nil))))
  .nil) .nil)
  (.cons (.ret (.lst (.cons (.con (.int (0))) (.cons (.var 0) .nil))))
  .nil))
def C_take : QSs := (.cons (.ife (.v (.cmp .Gt (.idx (.var 0) (.con (.int (0)))) (.con (.int (0))))) (.cons (.asg (.nm 2) (.bin .Mod (.bi .int (.cons (.idx (.var 0) (.con (.int (0)))) .nil)) (.var 1)))
  (.cons (.sub (.var 0) (.con (.int (0))) (.bin .FloorDiv (.idx (.var 0) (.con (.int (0)))) (.var 1)))
  (.cons (.ret (.var 2))
  .nil))) .nil)
  (.cons (.sub (.var 0) (.con (.int (1))) (.bin .Mod (.bi .int (.cons (.bin .Add (.bin .Mult (.idx (.var 0) (.con (.int (1)))) (.con (.int (48271)))) (.con (.int (69621)))) .nil)) (.con (.int (2147483647)))))
  (.cons (.ret (.bin .Mod (.bi .int (.cons (.bin .Add (.bin .FloorDiv (.bin .Mult (.idx (.var 0) (.con (.int (1)))) (.idx (.var 0) (.con (.int (1))))) (.con (.int (1009)))) (.bin .FloorDiv (.idx (.var 0) (.con (.int (1)))) (.con (.int (7))))) .nil)) (.var 1)))
  .nil)))
theorem ix20 : L2.ixN 2 0 = some 0 := by decide
theorem ix21 : L2.ixN 2 1 = some 1 := by decide
section
variable {ev : Ev} {h : Hd}
theorem t_stream {c : Int} (sz : Sz 1048577 c) : ∃ a b, St a b ∧ fin h (exSs ev C_stream (startD 1 [.int c]) h) = .ok (.ref h.length) (h ++ [stC a b]) := by
  have p : powOk 10 18 = true := by decide
  have k : D.lt h.length (.ref h.length) = false := by simp [D.lt]
  by_cases q : (10 : Int) ^ 18 ≤ c
  · refine ⟨c, 1, ⟨by omega, sz, by unfold Sz; exact Nat.one_lt_two_pow (by omega)⟩, ?_⟩
    have q' : (1000000000000000000 : Int) ≤ c := q
    simp [C_stream, startD, p, q']
    exact fin_keep k
  · refine ⟨0, c, ⟨by omega, by unfold Sz; exact Nat.two_pow_pos _, sz⟩, ?_⟩
    have q' : ¬ (1000000000000000000 : Int) ≤ c := q
    simp [C_stream, startD, p, q']
    exact fin_keep k
theorem t_take {n : Nat} {a b m : Int} (st : lstAt h n = some [.int a, .int b]) (s : St a b) (hm : 0 < m) (sm : Sz 8990 m) : ∃ r a' b', 0 ≤ r ∧ r < m ∧ St a' b' ∧ fin h (exSs ev C_take (startD 3 [.ref n, .int m]) h) = .ok (.int r) (h.set n (stC a' b')) := by
  obtain ⟨s0, s1, s2⟩ := s
  have m0 : m ≠ 0 := by omega
  have dm := divOk_sz (i := a) sm (Nat.le_refl _) m0
  by_cases q : 0 < a
  · have f := fmod_b a hm
    refine ⟨a.fmod m, a.fdiv m, b, f.1, f.2, ⟨Int.fdiv_nonneg s0 (by omega), s1.fdiv, s2⟩, ?_⟩
    simp [C_take, startD, st, q, m0, dm, r_sub _ _ st, ix20]
  · let x : Int := (b * 48271 + 69621).fmod 2147483647
    have fx := fmod_b (b * 48271 + 69621) (m := 2147483647) (by decide)
    let r : Int := ((x * x).fdiv 1009 + x.fdiv 7).fmod m
    have fr := fmod_b ((x * x).fdiv 1009 + x.fdiv 7) hm
    have sx : Sz 31 x := by show (_ : Nat) < 2 ^ 31; omega
    have mb : mulOk b 48271 = true := mulOk_sz (m := 16) s2 (by unfold Sz; decide) (by decide)
    have mx : mulOk x x = true := mulOk_sz sx sx (by decide)
    have d1 := div_ok (j := 1009) (x * x) (by decide) (by decide)
    have d2 := div_ok (j := 7) x (by decide) (by decide)
    refine ⟨r, a, x, fr.1, fr.2, ⟨s0, s1, sx.mono (by decide)⟩, ?_⟩
    have st' : lstAt (h.set n (.lst [.int a, .int x])) n = some [.int a, .int x] := r_set st
    simp [C_take, startD, st, q, m0, mb, r_sub _ _ st, ix21, st', mx, d1, d2, x, r]
end
section
variable {fns : List FnC} {sub : Nat → Nat → Bool} {fuel k : Nat} {X : Exn → Hd → Prop}
theorem w_take {i n : Nat} {m : Int} {h : Hd} (hf : fns[i]? = some ⟨2, 3, C_take⟩) (st : IsSt n h) (hm : 0 < m) (sm : Sz 8990 m) : WpE (callI fns sub fuel (k + 1) i [.ref n, .int m] h) (fun d H => ∃ r : Int, d = .int r ∧ 0 ≤ r ∧ r < m ∧ Adv n h H) X := by
  obtain ⟨a, b, s, e⟩ := st
  obtain ⟨r, a', b', r0, r1, s', q⟩ := t_take (ev := evL fns sub fuel k) e s hm sm
  rw [call_eq hf rfl, q]
  exact ⟨r, rfl, r0, r1, a', b', s', rfl⟩
theorem w_stream {i : Nat} {c : Int} {h : Hd} (hf : fns[i]? = some ⟨1, 1, C_stream⟩) (sz : Sz 1048577 c) : WpE (callI fns sub fuel (k + 1) i [.int c] h) (fun d H => d = .ref h.length ∧ ∃ a b, St a b ∧ H = h ++ [stC a b]) X := by
  obtain ⟨a, b, s, q⟩ := t_stream (ev := evL fns sub fuel k) (h := h) sz
  rw [call_eq hf rfl, q]
  exact ⟨rfl, a, b, s, rfl⟩
end
end PV
/-! the data of this law: globals, codes, the head (printed by gen.py) -/
namespace K66
open PySem PySem.Spec PyProof.Rows L2 PV
def top (i : Nat) : Stmt := PySem.Challenge.pw_kinkatlas_k66_code_is_checked.main.body.getD i (.Pass ⟨0, 0, 0, 0⟩)
def inCls (i j : Nat) : Stmt := match top i with
  | .ClassDef _ _ _ b _ _ _ _ _ _ _ => b.getD j (.Pass ⟨0, 0, 0, 0⟩)
  | s => s
def gl : List (Str × Gv) :=
  ("int", .ty .int) ::
  ("len", .bi .len) ::
  ("tuple", .ty .tuple) ::
  ("list", .ty .list) ::
  ("max", .bi .max) ::
  ("min", .bi .min) ::
  ("str", .ty .str) ::
  ("isinstance", .isi) ::
  ("range", .rng) ::
  ("enumerate", .enum) ::
  ("bool", .ty .bool) ::
  ("LEAST_WIDTH", .con (.int (2))) ::
  ("MOST_WIDTH", .con (.int (200))) ::
  ("MOST_REGISTERS", .con (.int (10000))) ::
  ("KinkError", .exc 0 []) ::
  ("BadCode", .exc 1 ["place"]) ::
  (".", .flds ["width", "inputs", "registers", "instructions"]) ::
  ("SIZES", .dct [("load", (.int (3))), ("set", (.int (3))), ("times", (.int (4))), ("add", (.int (3))), ("bend", (.int (2))), ("give", (.int (2)))]) ::
  (".BadCode", .xin 1 ["place"]) ::
  ("Code", .own 0 18 5) ::
  ("is_integer", .fn 0 1 [(1, [], arrOf [] [.inl (.inl 0)])]) ::
  ("power_of_two", .fn 1 1 [(1, [], arrOf [] [.inl (.inl 0)])]) ::
  ("fits", .fn 2 2 [(2, [], arrOf [] [.inl (.inl 0), .inl (.inl 1)])]) ::
  ("is_index", .fn 3 2 [(2, [], arrOf [] [.inl (.inl 0), .inl (.inl 1)])]) ::
  ("is_instruction", .fn 4 2 [(2, [], arrOf [] [.inl (.inl 0), .inl (.inl 1)])]) ::
  ("check_code", .fn 5 1 [(1, [], arrOf [] [.inl (.inl 0)])]) ::
  ("_law_cell", .fn 6 2 [(2, [], arrOf [] [.inl (.inl 0), .inl (.inl 1)])]) ::
  ("_law_stream", .fn 7 1 [(1, [], arrOf [] [.inl (.inl 0)])]) ::
  ("_law_take", .fn 8 2 [(2, [], arrOf [] [.inl (.inl 0), .inl (.inl 1)])]) ::
  ("_law_width", .fn 9 1 [(1, [], arrOf [] [.inl (.inl 0)])]) ::
  ("_law_integer", .fn 10 2 [(2, [], arrOf [] [.inl (.inl 0), .inl (.inl 1)])]) ::
  ("_law_row", .fn 11 4 [(4, [], arrOf [] [.inl (.inl 0), .inl (.inl 1), .inl (.inl 2), .inl (.inl 3)])]) ::
  ("_law_index", .fn 12 2 [(2, [], arrOf [] [.inl (.inl 0), .inl (.inl 1)])]) ::
  ("_law_fits", .fn 13 2 [(2, [], arrOf [] [.inl (.inl 0), .inl (.inl 1)])]) ::
  ("_law_good", .fn 14 4 [(4, [], arrOf [] [.inl (.inl 0), .inl (.inl 1), .inl (.inl 2), .inl (.inl 3)])]) ::
  ("_law_spoilt", .fn 15 5 [(5, [], arrOf [] [.inl (.inl 0), .inl (.inl 1), .inl (.inl 2), .inl (.inl 3), .inl (.inl 4)])]) ::
  ("_law_place", .fn 16 1 [(1, [], arrOf [] [.inl (.inl 0)])]) ::
  ("law", .fn 17 1 [(1, [], arrOf [] [.inl (.inl 0)])]) :: []
def n_is_integer : List Str := ["value"]
def c_is_integer : QSs := (.cons (.ret (.andv (.isi (.var 0) .int) (.nott (.isi (.var 0) .bool))))
  .nil)
def n_power_of_two : List Str := ["exponent"]
def c_power_of_two : QSs := (.cons (.ret (.bin .LShift (.con (.int (1))) (.var 0)))
  .nil)
def n_fits : List Str := ["width", "value", "half"]
def c_fits : QSs := (.cons (.asg (.nm 2) (.call 1 (.cons (.bin .Sub (.var 0) (.con (.int (1)))) .nil) .nil [.inl (.inl 0)]))
  (.cons (.ret (.chain .LtE .Lt (.neg (.var 2)) (.var 1) (.var 2)))
  .nil))
def n_is_index : List Str := ["value", "count"]
def c_is_index : QSs := (.cons (.ret (.andv (.call 0 (.cons (.var 0) .nil) .nil [.inl (.inl 0)]) (.chain .LtE .Lt (.con (.int (0))) (.var 0) (.var 1))))
  .nil)
def n_is_instruction : List Str := ["code", "row"]
def c_is_instruction : QSs := (.cons (.ife (.or (.not (.v (.isi (.var 1) .tuple))) (.or (.v (.cmp .Lt (.bi .len (.cons (.var 1) .nil)) (.con (.int (2))))) (.or (.not (.v (.isi (.idx (.var 1) (.con (.int (0)))) .str))) (.v (.cmp .NotEq (.dget [("load", (.int (3))), ("set", (.int (3))), ("times", (.int (4))), ("add", (.int (3))), ("bend", (.int (2))), ("give", (.int (2)))] (.idx (.var 1) (.con (.int (0))))) (.bi .len (.cons (.var 1) .nil))))))) (.cons (.ret (.con (.bl false)))
  .nil) .nil)
  (.cons (.ife (.not (.v (.call 3 (.cons (.idx (.var 1) (.con (.int (1)))) (.cons (.fld (.var 0) "registers") .nil)) .nil [.inl (.inl 0), .inl (.inl 1)]))) (.cons (.ret (.con (.bl false)))
  .nil) .nil)
  (.cons (.ife (.v (.cmp .Eq (.idx (.var 1) (.con (.int (0)))) (.con (.str "load")))) (.cons (.ret (.call 3 (.cons (.idx (.var 1) (.con (.int (2)))) (.cons (.fld (.var 0) "inputs") .nil)) .nil [.inl (.inl 0), .inl (.inl 1)]))
  .nil) .nil)
  (.cons (.ife (.v (.cmp .Eq (.idx (.var 1) (.con (.int (0)))) (.con (.str "set")))) (.cons (.ret (.andv (.call 0 (.cons (.idx (.var 1) (.con (.int (2)))) .nil) .nil [.inl (.inl 0)]) (.call 2 (.cons (.fld (.var 0) "width") (.cons (.idx (.var 1) (.con (.int (2)))) .nil)) .nil [.inl (.inl 0), .inl (.inl 1)])))
  .nil) .nil)
  (.cons (.ife (.v (.cmp .Eq (.idx (.var 1) (.con (.int (0)))) (.con (.str "times")))) (.cons (.ret (.andv (.call 3 (.cons (.idx (.var 1) (.con (.int (2)))) (.cons (.fld (.var 0) "registers") .nil)) .nil [.inl (.inl 0), .inl (.inl 1)]) (.andv (.call 0 (.cons (.idx (.var 1) (.con (.int (3)))) .nil) .nil [.inl (.inl 0)]) (.call 2 (.cons (.fld (.var 0) "width") (.cons (.idx (.var 1) (.con (.int (3)))) .nil)) .nil [.inl (.inl 0), .inl (.inl 1)]))))
  .nil) .nil)
  (.cons (.ife (.v (.cmp .Eq (.idx (.var 1) (.con (.int (0)))) (.con (.str "add")))) (.cons (.ret (.call 3 (.cons (.idx (.var 1) (.con (.int (2)))) (.cons (.fld (.var 0) "registers") .nil)) .nil [.inl (.inl 0), .inl (.inl 1)]))
  .nil) .nil)
  (.cons (.ret (.con (.bl true)))
  .nil)))))))
def n_check_code : List Str := ["code", "value", "place", "row"]
def c_check_code : QSs := (.cons (.ife (.or (.not (.v (.call 0 (.cons (.fld (.var 0) "width") .nil) .nil [.inl (.inl 0)]))) (.or (.v (.cmp .Lt (.fld (.var 0) "width") (.con (.int (2))))) (.v (.cmp .Gt (.fld (.var 0) "width") (.con (.int (200))))))) (.cons (.raise 1 ["place"] (.cons (.neg (.con (.int (1)))) .nil))
  .nil) .nil)
  (.cons (.for (.nm 1) (.v (.tup (.cons (.fld (.var 0) "inputs") (.cons (.fld (.var 0) "registers") .nil)))) (.cons (.ife (.or (.not (.v (.call 0 (.cons (.var 1) .nil) .nil [.inl (.inl 0)]))) (.or (.v (.cmp .Lt (.var 1) (.con (.int (1))))) (.v (.cmp .Gt (.var 1) (.con (.int (10000))))))) (.cons (.raise 1 ["place"] (.cons (.neg (.con (.int (1)))) .nil))
  .nil) .nil)
  .nil))
  (.cons (.ife (.not (.v (.isi (.fld (.var 0) "instructions") .tuple))) (.cons (.raise 1 ["place"] (.cons (.neg (.con (.int (1)))) .nil))
  .nil) .nil)
  (.cons (.for (.tp [(.nm 2), (.nm 3)]) (.enum (.fld (.var 0) "instructions")) (.cons (.ife (.not (.v (.call 4 (.cons (.var 0) (.cons (.var 3) .nil)) .nil [.inl (.inl 0), .inl (.inl 1)]))) (.cons (.raise 1 ["place"] (.cons (.var 2) .nil))
  .nil) .nil)
  .nil))
  .nil))))
def n__law_cell : List Str := ["script", "k"]
def c__law_cell : QSs := (.cons (.ife (.v (.cmp .Lt (.var 1) (.bi .len (.cons (.var 0) .nil)))) (.cons (.ret (.idx (.var 0) (.var 1)))
  .nil) .nil)
  (.cons (.ret (.con (.int (0))))
  .nil))
def n__law_stream : List Str := ["cell"]
def c__law_stream : QSs := (.cons (.ife (.v (.cmp .GtE (.var 0) (.bin .Pow (.con (.int (10))) (.con (.int (18)))))) (.cons (.ret (.lst (.cons (.var 0) (.cons (.con (.int (1))) .nil))))
  .nil) .nil)
  (.cons (.ret (.lst (.cons (.con (.int (0))) (.cons (.var 0) .nil))))
  .nil))
def n__law_take : List Str := ["stream", "many", "worth"]
def c__law_take : QSs := (.cons (.ife (.v (.cmp .Gt (.idx (.var 0) (.con (.int (0)))) (.con (.int (0))))) (.cons (.asg (.nm 2) (.bin .Mod (.bi .int (.cons (.idx (.var 0) (.con (.int (0)))) .nil)) (.var 1)))
  (.cons (.sub (.var 0) (.con (.int (0))) (.bin .FloorDiv (.idx (.var 0) (.con (.int (0)))) (.var 1)))
  (.cons (.ret (.var 2))
  .nil))) .nil)
  (.cons (.sub (.var 0) (.con (.int (1))) (.bin .Mod (.bi .int (.cons (.bin .Add (.bin .Mult (.idx (.var 0) (.con (.int (1)))) (.con (.int (48271)))) (.con (.int (69621)))) .nil)) (.con (.int (2147483647)))))
  (.cons (.ret (.bin .Mod (.bi .int (.cons (.bin .Add (.bin .FloorDiv (.bin .Mult (.idx (.var 0) (.con (.int (1)))) (.idx (.var 0) (.con (.int (1))))) (.con (.int (1009)))) (.bin .FloorDiv (.idx (.var 0) (.con (.int (1)))) (.con (.int (7))))) .nil)) (.var 1)))
  .nil)))
def n__law_width : List Str := ["stream"]
def c__law_width : QSs := (.cons (.ret (.idx (.lst (.cons (.bin .Add (.con (.int (2))) (.call 8 (.cons (.var 0) (.cons (.con (.int (7))) .nil)) .nil [.inl (.inl 0), .inl (.inl 1)])) (.cons (.bin .Add (.con (.int (2))) (.call 8 (.cons (.var 0) (.cons (.con (.int (30))) .nil)) .nil [.inl (.inl 0), .inl (.inl 1)])) (.cons (.bin .Add (.con (.int (2))) (.call 8 (.cons (.var 0) (.cons (.con (.int (199))) .nil)) .nil [.inl (.inl 0), .inl (.inl 1)])) (.cons (.con (.int (200))) .nil))))) (.call 8 (.cons (.var 0) (.cons (.con (.int (4))) .nil)) .nil [.inl (.inl 0), .inl (.inl 1)])))
  .nil)
def n__law_integer : List Str := ["stream", "width", "half", "near", "menu"]
def c__law_integer : QSs := (.cons (.asg (.nm 2) (.bin .LShift (.con (.int (1))) (.bin .Sub (.var 1) (.con (.int (1))))))
  (.cons (.asg (.nm 3) (.call 8 (.cons (.var 0) (.cons (.con (.int (3))) .nil)) .nil [.inl (.inl 0), .inl (.inl 1)]))
  (.cons (.asg (.nm 4) (.lst (.cons (.var 3) (.cons (.neg (.var 3)) (.cons (.bin .Sub (.bin .Sub (.var 2) (.con (.int (1)))) (.var 3)) (.cons (.bin .Sub (.var 3) (.var 2)) (.cons (.bin .Sub (.call 8 (.cons (.var 0) (.cons (.bin .Mult (.con (.int (2))) (.var 2)) .nil)) .nil [.inl (.inl 0), .inl (.inl 1)]) (.var 2)) (.cons (.bin .Sub (.call 8 (.cons (.var 0) (.cons (.con (.int (9))) .nil)) .nil [.inl (.inl 0), .inl (.inl 1)]) (.con (.int (4)))) .nil))))))))
  (.cons (.ret (.bi .max (.cons (.neg (.var 2)) (.cons (.bi .min (.cons (.bin .Sub (.var 2) (.con (.int (1)))) (.cons (.idx (.var 4) (.call 8 (.cons (.var 0) (.cons (.con (.int (6))) .nil)) .nil [.inl (.inl 0), .inl (.inl 1)])) .nil))) .nil))))
  .nil))))
def n__law_row : List Str := ["stream", "width", "inputs", "registers", "kind", "one", "two"]
def c__law_row : QSs := (.cons (.asg (.nm 4) (.call 8 (.cons (.var 0) (.cons (.con (.int (7))) .nil)) .nil [.inl (.inl 0), .inl (.inl 1)]))
  (.cons (.asg (.nm 5) (.call 8 (.cons (.var 0) (.cons (.var 3) .nil)) .nil [.inl (.inl 0), .inl (.inl 1)]))
  (.cons (.asg (.nm 6) (.call 8 (.cons (.var 0) (.cons (.var 3) .nil)) .nil [.inl (.inl 0), .inl (.inl 1)]))
  (.cons (.ife (.v (.cmp .Eq (.var 4) (.con (.int (0))))) (.cons (.ret (.tup (.cons (.con (.str "load")) (.cons (.var 5) (.cons (.call 8 (.cons (.var 0) (.cons (.var 2) .nil)) .nil [.inl (.inl 0), .inl (.inl 1)]) .nil)))))
  .nil) .nil)
  (.cons (.ife (.v (.cmp .Eq (.var 4) (.con (.int (1))))) (.cons (.ret (.tup (.cons (.con (.str "set")) (.cons (.var 5) (.cons (.call 10 (.cons (.var 0) (.cons (.var 1) .nil)) .nil [.inl (.inl 0), .inl (.inl 1)]) .nil)))))
  .nil) .nil)
  (.cons (.ife (.v (.cmp .Eq (.var 4) (.con (.int (2))))) (.cons (.ret (.tup (.cons (.con (.str "times")) (.cons (.var 5) (.cons (.var 6) (.cons (.call 10 (.cons (.var 0) (.cons (.var 1) .nil)) .nil [.inl (.inl 0), .inl (.inl 1)]) .nil))))))
  .nil) .nil)
  (.cons (.ife (.v (.cmp .Lt (.var 4) (.con (.int (5))))) (.cons (.ret (.tup (.cons (.con (.str "add")) (.cons (.var 5) (.cons (.var 6) .nil)))))
  .nil) .nil)
  (.cons (.ret (.idx (.lst (.cons (.tup (.cons (.con (.str "bend")) (.cons (.var 5) .nil))) (.cons (.tup (.cons (.con (.str "give")) (.cons (.var 5) .nil))) .nil))) (.bin .Sub (.var 4) (.con (.int (5))))))
  .nil))))))))
def n__law_index : List Str := ["value", "count"]
def c__law_index : QSs := (.cons (.ret (.andv (.isi (.var 0) .int) (.andv (.nott (.isi (.var 0) .bool)) (.andv (.cmp .LtE (.con (.int (0))) (.var 0)) (.cmp .Lt (.var 0) (.var 1))))))
  .nil)
def n__law_fits : List Str := ["value", "width", "half"]
def c__law_fits : QSs := (.cons (.asg (.nm 2) (.bin .LShift (.con (.int (1))) (.bin .Sub (.var 1) (.con (.int (1))))))
  (.cons (.ret (.andv (.isi (.var 0) .int) (.andv (.nott (.isi (.var 0) .bool)) (.andv (.cmp .LtE (.neg (.var 2)) (.var 0)) (.cmp .Lt (.var 0) (.var 2))))))
  .nil))
def n__law_good : List Str := ["row", "width", "inputs", "registers"]
def c__law_good : QSs := (.cons (.ife (.or (.not (.v (.isi (.var 0) .tuple))) (.or (.v (.cmp .Lt (.bi .len (.cons (.var 0) .nil)) (.con (.int (2))))) (.not (.v (.call 12 (.cons (.idx (.var 0) (.con (.int (1)))) (.cons (.var 3) .nil)) .nil [.inl (.inl 0), .inl (.inl 1)]))))) (.cons (.ret (.con (.bl false)))
  .nil) .nil)
  (.cons (.ife (.and (.v (.cmp .Eq (.idx (.var 0) (.con (.int (0)))) (.con (.str "load")))) (.v (.cmp .Eq (.bi .len (.cons (.var 0) .nil)) (.con (.int (3)))))) (.cons (.ret (.call 12 (.cons (.idx (.var 0) (.con (.int (2)))) (.cons (.var 2) .nil)) .nil [.inl (.inl 0), .inl (.inl 1)]))
  .nil) .nil)
  (.cons (.ife (.and (.v (.cmp .Eq (.idx (.var 0) (.con (.int (0)))) (.con (.str "set")))) (.v (.cmp .Eq (.bi .len (.cons (.var 0) .nil)) (.con (.int (3)))))) (.cons (.ret (.call 13 (.cons (.idx (.var 0) (.con (.int (2)))) (.cons (.var 1) .nil)) .nil [.inl (.inl 0), .inl (.inl 1)]))
  .nil) .nil)
  (.cons (.ife (.and (.v (.cmp .Eq (.idx (.var 0) (.con (.int (0)))) (.con (.str "times")))) (.v (.cmp .Eq (.bi .len (.cons (.var 0) .nil)) (.con (.int (4)))))) (.cons (.ret (.andv (.call 12 (.cons (.idx (.var 0) (.con (.int (2)))) (.cons (.var 3) .nil)) .nil [.inl (.inl 0), .inl (.inl 1)]) (.call 13 (.cons (.idx (.var 0) (.con (.int (3)))) (.cons (.var 1) .nil)) .nil [.inl (.inl 0), .inl (.inl 1)])))
  .nil) .nil)
  (.cons (.ife (.and (.v (.cmp .Eq (.idx (.var 0) (.con (.int (0)))) (.con (.str "add")))) (.v (.cmp .Eq (.bi .len (.cons (.var 0) .nil)) (.con (.int (3)))))) (.cons (.ret (.call 12 (.cons (.idx (.var 0) (.con (.int (2)))) (.cons (.var 3) .nil)) .nil [.inl (.inl 0), .inl (.inl 1)]))
  .nil) .nil)
  (.cons (.ret (.andv (.orv (.cmp .Eq (.idx (.var 0) (.con (.int (0)))) (.con (.str "bend"))) (.cmp .Eq (.idx (.var 0) (.con (.int (0)))) (.con (.str "give")))) (.cmp .Eq (.bi .len (.cons (.var 0) .nil)) (.con (.int (2))))))
  .nil))))))
def n__law_spoilt : List Str := ["stream", "row", "width", "inputs", "registers", "half", "place", "odd", "part", "mode"]
def c__law_spoilt : QSs := (.cons (.asg (.nm 5) (.bin .LShift (.con (.int (1))) (.bin .Sub (.var 2) (.con (.int (1))))))
  (.cons (.asg (.nm 6) (.call 8 (.cons (.var 0) (.cons (.bi .len (.cons (.var 1) .nil)) .nil)) .nil [.inl (.inl 0), .inl (.inl 1)]))
  (.cons (.asg (.nm 7) (.lst (.cons (.con .non) (.cons (.con (.bl true)) (.cons (.neg (.con (.int (1)))) (.cons (.var 3) (.cons (.var 4) (.cons (.var 5) (.cons (.bin .Sub (.neg (.var 5)) (.con (.int (1)))) (.cons (.bin .Sub (.var 5) (.con (.int (1)))) (.cons (.con (.str "add")) (.cons (.con (.str "jump")) (.cons (.tup (.cons (.con (.int (0))) .nil)) (.cons (.con (.int (0))) (.cons (.con (.int (1))) (.cons (.con (.bl false)) (.cons (.con (.str "set")) .nil)))))))))))))))))
  (.cons (.asg (.nm 8) (.idx (.var 7) (.call 8 (.cons (.var 0) (.cons (.con (.int (15))) .nil)) .nil [.inl (.inl 0), .inl (.inl 1)])))
  (.cons (.asg (.nm 9) (.call 8 (.cons (.var 0) (.cons (.con (.int (8))) .nil)) .nil [.inl (.inl 0), .inl (.inl 1)]))
  (.cons (.ife (.v (.cmp .Eq (.var 9) (.con (.int (0))))) (.cons (.ret (.bin .Add (.slc (.var 1) .none (.some (.var 6))) (.slc (.var 1) (.some (.bin .Add (.var 6) (.con (.int (1))))) .none)))
  .nil) .nil)
  (.cons (.ife (.v (.cmp .Eq (.var 9) (.con (.int (1))))) (.cons (.ret (.bin .Add (.var 1) (.tup (.cons (.var 8) .nil))))
  .nil) .nil)
  (.cons (.ife (.v (.cmp .Eq (.var 9) (.con (.int (2))))) (.cons (.ret (.idx (.lst (.cons (.bi .list (.cons (.var 1) .nil)) (.cons (.con .non) (.cons (.tup .nil) (.cons (.idx (.var 1) (.con (.int (0)))) (.cons (.tup (.cons (.var 1) .nil)) (.cons (.tup (.cons (.con (.str "times")) (.cons (.con (.int (0))) (.cons (.con (.int (0))) .nil)))) .nil))))))) (.call 8 (.cons (.var 0) (.cons (.con (.int (6))) .nil)) .nil [.inl (.inl 0), .inl (.inl 1)])))
  .nil) .nil)
  (.cons (.ret (.bin .Add (.bin .Add (.slc (.var 1) .none (.some (.var 6))) (.tup (.cons (.var 8) .nil))) (.slc (.var 1) (.some (.bin .Add (.var 6) (.con (.int (1))))) .none)))
  .nil)))))))))
def n__law_place : List Str := ["code", "told", "e"]
def c__law_place : QSs := (.cons (.try (.cons (.asg (.nm 1) (.call 5 (.cons (.var 0) .nil) .nil [.inl (.inl 0)]))
  .nil) 1 (.some 2) (.cons (.ife (.and (.v (.excIs 0)) (.and (.v (.isi (.excF "place") .int)) (.not (.v (.isi (.excF "place") .bool))))) (.cons (.ret (.excF "place"))
  .nil) .nil)
  (.cons (.ret (.neg (.con (.int (3)))))
  .nil)))
  (.cons (.ife (.v (.cmp .Is (.var 1) (.con .non))) (.cons (.ret (.neg (.con (.int (2)))))
  .nil) .nil)
  (.cons (.ret (.neg (.con (.int (3)))))
  .nil)))
def n_law : List Str := ["script", "stream", "width", "inputs", "registers", "rows", "cell", "k", "place", "row", "due", "bad", "wide", "code"]
def c_law : QSs := (.cons (.asg (.nm 1) (.call 7 (.cons (.call 6 (.cons (.var 0) (.cons (.con (.int (0))) .nil)) .nil [.inl (.inl 0), .inl (.inl 1)]) .nil) .nil [.inl (.inl 0)]))
  (.cons (.asg (.nm 2) (.call 9 (.cons (.var 1) .nil) .nil [.inl (.inl 0)]))
  (.cons (.asg (.nm 3) (.bin .Add (.con (.int (1))) (.call 8 (.cons (.var 1) (.cons (.con (.int (4))) .nil)) .nil [.inl (.inl 0), .inl (.inl 1)])))
  (.cons (.asg (.nm 4) (.bin .Add (.con (.int (1))) (.call 8 (.cons (.var 1) (.cons (.con (.int (6))) .nil)) .nil [.inl (.inl 0), .inl (.inl 1)])))
  (.cons (.asg (.nm 5) (.lst .nil))
  (.cons (.for (.nm 6) (.v (.slc (.var 0) (.some (.con (.int (1)))) (.some (.con (.int (31)))))) (.cons (.expr (.mth 0 (.var 5) (.cons (.call 11 (.cons (.call 7 (.cons (.var 6) .nil) .nil [.inl (.inl 0)]) (.cons (.var 2) (.cons (.var 3) (.cons (.var 4) .nil)))) .nil [.inl (.inl 0), .inl (.inl 1), .inl (.inl 2), .inl (.inl 3)]) .nil)))
  .nil))
  (.cons (.for (.nm 7) (.rng1 (.call 8 (.cons (.var 1) (.cons (.con (.int (3))) .nil)) .nil [.inl (.inl 0), .inl (.inl 1)])) (.cons (.ife (.v (.cmp .NotEq (.var 5) (.lst .nil))) (.cons (.asg (.nm 8) (.call 8 (.cons (.var 1) (.cons (.bi .len (.cons (.var 5) .nil)) .nil)) .nil [.inl (.inl 0), .inl (.inl 1)]))
  (.cons (.asg (.nm 9) (.idx (.var 5) (.var 8)))
  (.cons (.ife (.and (.v (.isi (.var 9) .tuple)) (.v (.cmp .Gt (.bi .len (.cons (.var 9) .nil)) (.con (.int (0)))))) (.cons (.sub (.var 5) (.var 8) (.call 15 (.cons (.var 1) (.cons (.var 9) (.cons (.var 2) (.cons (.var 3) (.cons (.var 4) .nil))))) .nil [.inl (.inl 0), .inl (.inl 1), .inl (.inl 2), .inl (.inl 3), .inl (.inl 4)]))
  .nil) .nil)
  .nil))) .nil)
  .nil))
  (.cons (.asg (.nm 10) (.neg (.con (.int (2)))))
  (.cons (.for (.nm 7) (.rng1 (.bi .len (.cons (.var 5) .nil))) (.cons (.ife (.and (.v (.cmp .Eq (.var 10) (.neg (.con (.int (2)))))) (.not (.v (.call 14 (.cons (.idx (.var 5) (.var 7)) (.cons (.var 2) (.cons (.var 3) (.cons (.var 4) .nil)))) .nil [.inl (.inl 0), .inl (.inl 1), .inl (.inl 2), .inl (.inl 3)])))) (.cons (.asg (.nm 10) (.var 7))
  .nil) .nil)
  .nil))
  (.cons (.ife (.v (.cmp .NotEq (.call 16 (.cons (.make 0 18 (.cons (.var 2) (.cons (.var 3) (.cons (.var 4) (.cons (.bi .tuple (.cons (.var 5) .nil)) .nil))))) .nil) .nil [.inl (.inl 0)]) (.var 10))) (.cons (.ret (.con (.bl false)))
  .nil) .nil)
  (.cons (.asg (.nm 11) (.idx (.lst (.cons (.con (.int (0))) (.cons (.neg (.con (.int (1)))) (.cons (.con (.int (10001))) (.cons (.con .non) (.cons (.con (.bl true)) (.cons (.con (.str "2")) (.cons (.tup (.cons (.con (.int (2))) .nil)) .nil)))))))) (.call 8 (.cons (.var 1) (.cons (.con (.int (7))) .nil)) .nil [.inl (.inl 0), .inl (.inl 1)])))
  (.cons (.asg (.nm 12) (.idx (.lst (.cons (.con (.int (1))) (.cons (.con (.int (0))) (.cons (.con (.int (201))) (.cons (.neg (.con (.int (2)))) (.cons (.con .non) (.cons (.con (.bl true)) (.cons (.con (.str "8")) (.cons (.tup (.cons (.con (.int (8))) .nil)) .nil))))))))) (.call 8 (.cons (.var 1) (.cons (.con (.int (8))) .nil)) .nil [.inl (.inl 0), .inl (.inl 1)])))
  (.cons (.for (.nm 13) (.v (.lst (.cons (.make 0 18 (.cons (.var 12) (.cons (.var 3) (.cons (.var 4) (.cons (.bi .tuple (.cons (.var 5) .nil)) .nil))))) (.cons (.make 0 18 (.cons (.var 2) (.cons (.var 11) (.cons (.var 4) (.cons (.bi .tuple (.cons (.var 5) .nil)) .nil))))) .nil)))) (.cons (.ife (.v (.cmp .NotEq (.call 16 (.cons (.var 13) .nil) .nil [.inl (.inl 0)]) (.neg (.con (.int (1)))))) (.cons (.ret (.con (.bl false)))
  .nil) .nil)
  .nil))
  (.cons (.ife (.v (.cmp .NotEq (.call 16 (.cons (.make 0 18 (.cons (.var 2) (.cons (.var 3) (.cons (.var 11) (.cons (.bi .tuple (.cons (.var 5) .nil)) .nil))))) .nil) .nil [.inl (.inl 0)]) (.neg (.con (.int (1)))))) (.cons (.ret (.con (.bl false)))
  .nil) .nil)
  (.cons (.ife (.or (.v (.cmp .NotEq (.call 16 (.cons (.make 0 18 (.cons (.var 2) (.cons (.var 3) (.cons (.var 4) (.cons (.bi .list (.cons (.var 5) .nil)) .nil))))) .nil) .nil [.inl (.inl 0)]) (.neg (.con (.int (1)))))) (.v (.cmp .NotEq (.call 16 (.cons (.make 0 18 (.cons (.var 2) (.cons (.con (.int (1))) (.cons (.con (.int (1))) (.cons (.con .non) .nil))))) .nil) .nil [.inl (.inl 0)]) (.neg (.con (.int (1))))))) (.cons (.ret (.con (.bl false)))
  .nil) .nil)
  (.cons (.ret (.cmp .Eq (.call 16 (.cons (.make 0 18 (.cons (.con (.int (200))) (.cons (.con (.int (10000))) (.cons (.con (.int (10000))) (.cons (.tup (.cons (.tup (.cons (.con (.str "load")) (.cons (.con (.int (9999))) (.cons (.con (.int (9999))) .nil)))) .nil)) .nil))))) .nil) .nil [.inl (.inl 0)]) (.neg (.con (.int (2))))))
  .nil))))))))))))))))
def n_Code__init : List Str := ["self", "width", "inputs", "registers", "instructions"]
def c_Code__init : QSs := (.cons (.fset (.var 0) "width" (.var 1))
  (.cons (.fset (.var 0) "inputs" (.var 2))
  (.cons (.fset (.var 0) "registers" (.var 3))
  (.cons (.fset (.var 0) "instructions" (.var 4))
  .nil))))
def fns : List FnC := ⟨1, 1, c_is_integer⟩ :: ⟨1, 1, c_power_of_two⟩ :: ⟨2, 3, c_fits⟩ :: ⟨2, 2, c_is_index⟩ :: ⟨2, 2, c_is_instruction⟩ :: ⟨1, 4, c_check_code⟩ :: ⟨2, 2, c__law_cell⟩ :: ⟨1, 1, c__law_stream⟩ :: ⟨2, 3, c__law_take⟩ :: ⟨1, 1, c__law_width⟩ :: ⟨2, 5, c__law_integer⟩ :: ⟨4, 7, c__law_row⟩ :: ⟨2, 2, c__law_index⟩ :: ⟨2, 3, c__law_fits⟩ :: ⟨4, 4, c__law_good⟩ :: ⟨5, 10, c__law_spoilt⟩ :: ⟨1, 3, c__law_place⟩ :: ⟨1, 14, c_law⟩ :: ⟨5, 5, c_Code__init⟩ :: []
def sub (a b : Nat) : Bool := [(0, 0), (1, 0), (1, 1)].contains (a, b)
abbrev s_is_integer : Stmt := top 4
def d_is_integer : He.DefD := ⟨("is_integer", none), "is_integer", "is_integer", defArgs s_is_integer, defBody s_is_integer, defScope s_is_integer, [], []⟩
abbrev s_power_of_two : Stmt := top 11
def d_power_of_two : He.DefD := ⟨("power_of_two", none), "power_of_two", "power_of_two", defArgs s_power_of_two, defBody s_power_of_two, defScope s_power_of_two, [], []⟩
abbrev s_fits : Stmt := top 12
def d_fits : He.DefD := ⟨("fits", none), "fits", "fits", defArgs s_fits, defBody s_fits, defScope s_fits, [], []⟩
abbrev s_is_index : Stmt := top 13
def d_is_index : He.DefD := ⟨("is_index", none), "is_index", "is_index", defArgs s_is_index, defBody s_is_index, defScope s_is_index, [], []⟩
abbrev s_is_instruction : Stmt := top 14
def d_is_instruction : He.DefD := ⟨("is_instruction", none), "is_instruction", "is_instruction", defArgs s_is_instruction, defBody s_is_instruction, defScope s_is_instruction, [], []⟩
abbrev s_check_code : Stmt := top 15
def d_check_code : He.DefD := ⟨("check_code", none), "check_code", "check_code", defArgs s_check_code, defBody s_check_code, defScope s_check_code, [], []⟩
abbrev s__law_cell : Stmt := top 17
def d__law_cell : He.DefD := ⟨("_law_cell", none), "_law_cell", "_law_cell", defArgs s__law_cell, defBody s__law_cell, defScope s__law_cell, [], []⟩
abbrev s__law_stream : Stmt := top 18
def d__law_stream : He.DefD := ⟨("_law_stream", none), "_law_stream", "_law_stream", defArgs s__law_stream, defBody s__law_stream, defScope s__law_stream, [], []⟩
abbrev s__law_take : Stmt := top 19
def d__law_take : He.DefD := ⟨("_law_take", none), "_law_take", "_law_take", defArgs s__law_take, defBody s__law_take, defScope s__law_take, [], []⟩
abbrev s__law_width : Stmt := top 20
def d__law_width : He.DefD := ⟨("_law_width", none), "_law_width", "_law_width", defArgs s__law_width, defBody s__law_width, defScope s__law_width, [], []⟩
abbrev s__law_integer : Stmt := top 21
def d__law_integer : He.DefD := ⟨("_law_integer", none), "_law_integer", "_law_integer", defArgs s__law_integer, defBody s__law_integer, defScope s__law_integer, [], []⟩
abbrev s__law_row : Stmt := top 22
def d__law_row : He.DefD := ⟨("_law_row", none), "_law_row", "_law_row", defArgs s__law_row, defBody s__law_row, defScope s__law_row, [], []⟩
abbrev s__law_index : Stmt := top 23
def d__law_index : He.DefD := ⟨("_law_index", none), "_law_index", "_law_index", defArgs s__law_index, defBody s__law_index, defScope s__law_index, [], []⟩
abbrev s__law_fits : Stmt := top 24
def d__law_fits : He.DefD := ⟨("_law_fits", none), "_law_fits", "_law_fits", defArgs s__law_fits, defBody s__law_fits, defScope s__law_fits, [], []⟩
abbrev s__law_good : Stmt := top 25
def d__law_good : He.DefD := ⟨("_law_good", none), "_law_good", "_law_good", defArgs s__law_good, defBody s__law_good, defScope s__law_good, [], []⟩
abbrev s__law_spoilt : Stmt := top 26
def d__law_spoilt : He.DefD := ⟨("_law_spoilt", none), "_law_spoilt", "_law_spoilt", defArgs s__law_spoilt, defBody s__law_spoilt, defScope s__law_spoilt, [], []⟩
abbrev s__law_place : Stmt := top 27
def d__law_place : He.DefD := ⟨("_law_place", none), "_law_place", "_law_place", defArgs s__law_place, defBody s__law_place, defScope s__law_place, [], []⟩
abbrev s_law : Stmt := top 28
def d_law : He.DefD := ⟨("law", none), "law", "law", defArgs s_law, defBody s_law, defScope s_law, [], []⟩
abbrev s_Code__init : Stmt := inCls 10 0
def d_Code__init : He.DefD := ⟨("Code", some "__init__"), "__init__", "Code.__init__", defArgs s_Code__init, defBody s_Code__init, defScope s_Code__init, [], []⟩
abbrev s_BadCode__init : Stmt := inCls 2 0
def d_BadCode__init : He.DefD := ⟨("BadCode", some "__init__"), "__init__", "BadCode.__init__", defArgs s_BadCode__init, defBody s_BadCode__init, defScope s_BadCode__init, [], []⟩
def dd : List He.DefD := d_is_integer :: d_power_of_two :: d_fits :: d_is_index :: d_is_instruction :: d_check_code :: d__law_cell :: d__law_stream :: d__law_take :: d__law_width :: d__law_integer :: d__law_row :: d__law_index :: d__law_fits :: d__law_good :: d__law_spoilt :: d__law_place :: d_law :: d_Code__init :: d_BadCode__init :: []
def L : LawD := ⟨gl, fns, sub, ["KinkError", "BadCode"], dd, ["Code"], [("SIZES", [("load", (.int (3))), ("set", (.int (3))), ("times", (.int (4))), ("add", (.int (3))), ("bend", (.int (2))), ("give", (.int (2)))])]⟩
theorem cs_Code__init : cSs 40 ⟨n_Code__init, (d_Code__init).scope, asOf (d_Code__init).scope.names, L.gl, false, none⟩ (d_Code__init).body = some c_Code__init := by kernel_rfl
theorem sc_Code__init : FnScope n_Code__init ["self", "width", "inputs", "registers", "instructions"] (d_Code__init).scope := fnScope_by (by kernel_rfl)
theorem as_Code__init : asOk (d_Code__init).scope = true := by kernel_rfl
theorem ok_Code__init : MetOk L d_Code__init 18 5 := ⟨["self", "width", "inputs", "registers", "instructions"], n_Code__init, c_Code__init, rfl, sc_Code__init, as_Code__init, rfl, cs_Code__init, fun K f fd FD => bindM FD fun _ _ _ _ _ _ us h => match us, h with | [_, _, _, _, _], _ => rfl⟩
theorem sci_BadCode : FnScope ["self", "place"] ["self", "place"] (d_BadCode__init).scope := fnScope_by (by kernel_rfl)
theorem iok_BadCode : InitOk d_BadCode__init ["place"] := ⟨fun P w K mg base Ca f fd FD T h => ⟨["self", "place"], init1 FD sci_BadCode T (h _ (by simp)) (by kernel_rfl) (by kernel_rfl) (by kernel_rfl) (by kernel_rfl), bindM FD fun _ _ _ _ _ _ us h => match us, h with | [_, _], _ => rfl⟩⟩
theorem cs_is_integer : cSs 40 ⟨n_is_integer, (d_is_integer).scope, asOf (d_is_integer).scope.names, L.gl, false, none⟩ (d_is_integer).body = some c_is_integer := by kernel_rfl
theorem sc_is_integer : FnScope n_is_integer ["value"] (d_is_integer).scope := fnScope_by (by kernel_rfl)
theorem as_is_integer : asOk (d_is_integer).scope = true := by kernel_rfl
theorem ok_is_integer : DefOk L d_is_integer 0 1 [(1, [], arrOf [] [.inl (.inl 0)])] := ⟨["value"], n_is_integer, c_is_integer, rfl, sc_is_integer, as_is_integer, rfl, cs_is_integer, fun K f fd FD n ks arr hm => by
  simp only [List.mem_cons, List.not_mem_nil, or_false, Prod.mk.injEq] at hm
  obtain ⟨rfl, rfl, rfl⟩ := hm
  exact ⟨rfl, rfl, kb_A FD [.inl (.inl 0)] fun _ _ _ _ _ _ us ws h1 h2 => match us, ws, h1, h2 with | [_], [], _, _ => rfl⟩⟩
theorem cs_power_of_two : cSs 40 ⟨n_power_of_two, (d_power_of_two).scope, asOf (d_power_of_two).scope.names, L.gl, false, none⟩ (d_power_of_two).body = some c_power_of_two := by kernel_rfl
theorem sc_power_of_two : FnScope n_power_of_two ["exponent"] (d_power_of_two).scope := fnScope_by (by kernel_rfl)
theorem as_power_of_two : asOk (d_power_of_two).scope = true := by kernel_rfl
theorem ok_power_of_two : DefOk L d_power_of_two 1 1 [(1, [], arrOf [] [.inl (.inl 0)])] := ⟨["exponent"], n_power_of_two, c_power_of_two, rfl, sc_power_of_two, as_power_of_two, rfl, cs_power_of_two, fun K f fd FD n ks arr hm => by
  simp only [List.mem_cons, List.not_mem_nil, or_false, Prod.mk.injEq] at hm
  obtain ⟨rfl, rfl, rfl⟩ := hm
  exact ⟨rfl, rfl, kb_A FD [.inl (.inl 0)] fun _ _ _ _ _ _ us ws h1 h2 => match us, ws, h1, h2 with | [_], [], _, _ => rfl⟩⟩
theorem cs_fits : cSs 40 ⟨n_fits, (d_fits).scope, asOf (d_fits).scope.names, L.gl, false, none⟩ (d_fits).body = some c_fits := by kernel_rfl
theorem sc_fits : FnScope n_fits ["width", "value"] (d_fits).scope := fnScope_by (by kernel_rfl)
theorem as_fits : asOk (d_fits).scope = true := by kernel_rfl
theorem ok_fits : DefOk L d_fits 2 2 [(2, [], arrOf [] [.inl (.inl 0), .inl (.inl 1)])] := ⟨["width", "value"], n_fits, c_fits, rfl, sc_fits, as_fits, rfl, cs_fits, fun K f fd FD n ks arr hm => by
  simp only [List.mem_cons, List.not_mem_nil, or_false, Prod.mk.injEq] at hm
  obtain ⟨rfl, rfl, rfl⟩ := hm
  exact ⟨rfl, rfl, kb_A FD [.inl (.inl 0), .inl (.inl 1)] fun _ _ _ _ _ _ us ws h1 h2 => match us, ws, h1, h2 with | [_, _], [], _, _ => rfl⟩⟩
theorem cs_is_index : cSs 40 ⟨n_is_index, (d_is_index).scope, asOf (d_is_index).scope.names, L.gl, false, none⟩ (d_is_index).body = some c_is_index := by kernel_rfl
theorem sc_is_index : FnScope n_is_index ["value", "count"] (d_is_index).scope := fnScope_by (by kernel_rfl)
theorem as_is_index : asOk (d_is_index).scope = true := by kernel_rfl
theorem ok_is_index : DefOk L d_is_index 3 2 [(2, [], arrOf [] [.inl (.inl 0), .inl (.inl 1)])] := ⟨["value", "count"], n_is_index, c_is_index, rfl, sc_is_index, as_is_index, rfl, cs_is_index, fun K f fd FD n ks arr hm => by
  simp only [List.mem_cons, List.not_mem_nil, or_false, Prod.mk.injEq] at hm
  obtain ⟨rfl, rfl, rfl⟩ := hm
  exact ⟨rfl, rfl, kb_A FD [.inl (.inl 0), .inl (.inl 1)] fun _ _ _ _ _ _ us ws h1 h2 => match us, ws, h1, h2 with | [_, _], [], _, _ => rfl⟩⟩
theorem cs_is_instruction : cSs 40 ⟨n_is_instruction, (d_is_instruction).scope, asOf (d_is_instruction).scope.names, L.gl, false, none⟩ (d_is_instruction).body = some c_is_instruction := by kernel_rfl
theorem sc_is_instruction : FnScope n_is_instruction ["code", "row"] (d_is_instruction).scope := fnScope_by (by kernel_rfl)
theorem as_is_instruction : asOk (d_is_instruction).scope = true := by kernel_rfl
theorem ok_is_instruction : DefOk L d_is_instruction 4 2 [(2, [], arrOf [] [.inl (.inl 0), .inl (.inl 1)])] := ⟨["code", "row"], n_is_instruction, c_is_instruction, rfl, sc_is_instruction, as_is_instruction, rfl, cs_is_instruction, fun K f fd FD n ks arr hm => by
  simp only [List.mem_cons, List.not_mem_nil, or_false, Prod.mk.injEq] at hm
  obtain ⟨rfl, rfl, rfl⟩ := hm
  exact ⟨rfl, rfl, kb_A FD [.inl (.inl 0), .inl (.inl 1)] fun _ _ _ _ _ _ us ws h1 h2 => match us, ws, h1, h2 with | [_, _], [], _, _ => rfl⟩⟩
theorem cs_check_code : cSs 40 ⟨n_check_code, (d_check_code).scope, asOf (d_check_code).scope.names, L.gl, false, none⟩ (d_check_code).body = some c_check_code := by kernel_rfl
theorem sc_check_code : FnScope n_check_code ["code"] (d_check_code).scope := fnScope_by (by kernel_rfl)
theorem as_check_code : asOk (d_check_code).scope = true := by kernel_rfl
theorem ok_check_code : DefOk L d_check_code 5 1 [(1, [], arrOf [] [.inl (.inl 0)])] := ⟨["code"], n_check_code, c_check_code, rfl, sc_check_code, as_check_code, rfl, cs_check_code, fun K f fd FD n ks arr hm => by
  simp only [List.mem_cons, List.not_mem_nil, or_false, Prod.mk.injEq] at hm
  obtain ⟨rfl, rfl, rfl⟩ := hm
  exact ⟨rfl, rfl, kb_A FD [.inl (.inl 0)] fun _ _ _ _ _ _ us ws h1 h2 => match us, ws, h1, h2 with | [_], [], _, _ => rfl⟩⟩
theorem cs__law_cell : cSs 40 ⟨n__law_cell, (d__law_cell).scope, asOf (d__law_cell).scope.names, L.gl, false, none⟩ (d__law_cell).body = some c__law_cell := by kernel_rfl
theorem sc__law_cell : FnScope n__law_cell ["script", "k"] (d__law_cell).scope := fnScope_by (by kernel_rfl)
theorem as__law_cell : asOk (d__law_cell).scope = true := by kernel_rfl
theorem ok__law_cell : DefOk L d__law_cell 6 2 [(2, [], arrOf [] [.inl (.inl 0), .inl (.inl 1)])] := ⟨["script", "k"], n__law_cell, c__law_cell, rfl, sc__law_cell, as__law_cell, rfl, cs__law_cell, fun K f fd FD n ks arr hm => by
  simp only [List.mem_cons, List.not_mem_nil, or_false, Prod.mk.injEq] at hm
  obtain ⟨rfl, rfl, rfl⟩ := hm
  exact ⟨rfl, rfl, kb_A FD [.inl (.inl 0), .inl (.inl 1)] fun _ _ _ _ _ _ us ws h1 h2 => match us, ws, h1, h2 with | [_, _], [], _, _ => rfl⟩⟩
theorem cs__law_stream : cSs 40 ⟨n__law_stream, (d__law_stream).scope, asOf (d__law_stream).scope.names, L.gl, false, none⟩ (d__law_stream).body = some c__law_stream := by kernel_rfl
theorem sc__law_stream : FnScope n__law_stream ["cell"] (d__law_stream).scope := fnScope_by (by kernel_rfl)
theorem as__law_stream : asOk (d__law_stream).scope = true := by kernel_rfl
theorem ok__law_stream : DefOk L d__law_stream 7 1 [(1, [], arrOf [] [.inl (.inl 0)])] := ⟨["cell"], n__law_stream, c__law_stream, rfl, sc__law_stream, as__law_stream, rfl, cs__law_stream, fun K f fd FD n ks arr hm => by
  simp only [List.mem_cons, List.not_mem_nil, or_false, Prod.mk.injEq] at hm
  obtain ⟨rfl, rfl, rfl⟩ := hm
  exact ⟨rfl, rfl, kb_A FD [.inl (.inl 0)] fun _ _ _ _ _ _ us ws h1 h2 => match us, ws, h1, h2 with | [_], [], _, _ => rfl⟩⟩
theorem cs__law_take : cSs 40 ⟨n__law_take, (d__law_take).scope, asOf (d__law_take).scope.names, L.gl, false, none⟩ (d__law_take).body = some c__law_take := by kernel_rfl
theorem sc__law_take : FnScope n__law_take ["stream", "many"] (d__law_take).scope := fnScope_by (by kernel_rfl)
theorem as__law_take : asOk (d__law_take).scope = true := by kernel_rfl
theorem ok__law_take : DefOk L d__law_take 8 2 [(2, [], arrOf [] [.inl (.inl 0), .inl (.inl 1)])] := ⟨["stream", "many"], n__law_take, c__law_take, rfl, sc__law_take, as__law_take, rfl, cs__law_take, fun K f fd FD n ks arr hm => by
  simp only [List.mem_cons, List.not_mem_nil, or_false, Prod.mk.injEq] at hm
  obtain ⟨rfl, rfl, rfl⟩ := hm
  exact ⟨rfl, rfl, kb_A FD [.inl (.inl 0), .inl (.inl 1)] fun _ _ _ _ _ _ us ws h1 h2 => match us, ws, h1, h2 with | [_, _], [], _, _ => rfl⟩⟩
theorem cs__law_width : cSs 40 ⟨n__law_width, (d__law_width).scope, asOf (d__law_width).scope.names, L.gl, false, none⟩ (d__law_width).body = some c__law_width := by kernel_rfl
theorem sc__law_width : FnScope n__law_width ["stream"] (d__law_width).scope := fnScope_by (by kernel_rfl)
theorem as__law_width : asOk (d__law_width).scope = true := by kernel_rfl
theorem ok__law_width : DefOk L d__law_width 9 1 [(1, [], arrOf [] [.inl (.inl 0)])] := ⟨["stream"], n__law_width, c__law_width, rfl, sc__law_width, as__law_width, rfl, cs__law_width, fun K f fd FD n ks arr hm => by
  simp only [List.mem_cons, List.not_mem_nil, or_false, Prod.mk.injEq] at hm
  obtain ⟨rfl, rfl, rfl⟩ := hm
  exact ⟨rfl, rfl, kb_A FD [.inl (.inl 0)] fun _ _ _ _ _ _ us ws h1 h2 => match us, ws, h1, h2 with | [_], [], _, _ => rfl⟩⟩
theorem cs__law_integer : cSs 40 ⟨n__law_integer, (d__law_integer).scope, asOf (d__law_integer).scope.names, L.gl, false, none⟩ (d__law_integer).body = some c__law_integer := by kernel_rfl
theorem sc__law_integer : FnScope n__law_integer ["stream", "width"] (d__law_integer).scope := fnScope_by (by kernel_rfl)
theorem as__law_integer : asOk (d__law_integer).scope = true := by kernel_rfl
theorem ok__law_integer : DefOk L d__law_integer 10 2 [(2, [], arrOf [] [.inl (.inl 0), .inl (.inl 1)])] := ⟨["stream", "width"], n__law_integer, c__law_integer, rfl, sc__law_integer, as__law_integer, rfl, cs__law_integer, fun K f fd FD n ks arr hm => by
  simp only [List.mem_cons, List.not_mem_nil, or_false, Prod.mk.injEq] at hm
  obtain ⟨rfl, rfl, rfl⟩ := hm
  exact ⟨rfl, rfl, kb_A FD [.inl (.inl 0), .inl (.inl 1)] fun _ _ _ _ _ _ us ws h1 h2 => match us, ws, h1, h2 with | [_, _], [], _, _ => rfl⟩⟩
theorem cs__law_row : cSs 40 ⟨n__law_row, (d__law_row).scope, asOf (d__law_row).scope.names, L.gl, false, none⟩ (d__law_row).body = some c__law_row := by kernel_rfl
theorem sc__law_row : FnScope n__law_row ["stream", "width", "inputs", "registers"] (d__law_row).scope := fnScope_by (by kernel_rfl)
theorem as__law_row : asOk (d__law_row).scope = true := by kernel_rfl
theorem ok__law_row : DefOk L d__law_row 11 4 [(4, [], arrOf [] [.inl (.inl 0), .inl (.inl 1), .inl (.inl 2), .inl (.inl 3)])] := ⟨["stream", "width", "inputs", "registers"], n__law_row, c__law_row, rfl, sc__law_row, as__law_row, rfl, cs__law_row, fun K f fd FD n ks arr hm => by
  simp only [List.mem_cons, List.not_mem_nil, or_false, Prod.mk.injEq] at hm
  obtain ⟨rfl, rfl, rfl⟩ := hm
  exact ⟨rfl, rfl, kb_A FD [.inl (.inl 0), .inl (.inl 1), .inl (.inl 2), .inl (.inl 3)] fun _ _ _ _ _ _ us ws h1 h2 => match us, ws, h1, h2 with | [_, _, _, _], [], _, _ => rfl⟩⟩
theorem cs__law_index : cSs 40 ⟨n__law_index, (d__law_index).scope, asOf (d__law_index).scope.names, L.gl, false, none⟩ (d__law_index).body = some c__law_index := by kernel_rfl
theorem sc__law_index : FnScope n__law_index ["value", "count"] (d__law_index).scope := fnScope_by (by kernel_rfl)
theorem as__law_index : asOk (d__law_index).scope = true := by kernel_rfl
theorem ok__law_index : DefOk L d__law_index 12 2 [(2, [], arrOf [] [.inl (.inl 0), .inl (.inl 1)])] := ⟨["value", "count"], n__law_index, c__law_index, rfl, sc__law_index, as__law_index, rfl, cs__law_index, fun K f fd FD n ks arr hm => by
  simp only [List.mem_cons, List.not_mem_nil, or_false, Prod.mk.injEq] at hm
  obtain ⟨rfl, rfl, rfl⟩ := hm
  exact ⟨rfl, rfl, kb_A FD [.inl (.inl 0), .inl (.inl 1)] fun _ _ _ _ _ _ us ws h1 h2 => match us, ws, h1, h2 with | [_, _], [], _, _ => rfl⟩⟩
theorem cs__law_fits : cSs 40 ⟨n__law_fits, (d__law_fits).scope, asOf (d__law_fits).scope.names, L.gl, false, none⟩ (d__law_fits).body = some c__law_fits := by kernel_rfl
theorem sc__law_fits : FnScope n__law_fits ["value", "width"] (d__law_fits).scope := fnScope_by (by kernel_rfl)
theorem as__law_fits : asOk (d__law_fits).scope = true := by kernel_rfl
theorem ok__law_fits : DefOk L d__law_fits 13 2 [(2, [], arrOf [] [.inl (.inl 0), .inl (.inl 1)])] := ⟨["value", "width"], n__law_fits, c__law_fits, rfl, sc__law_fits, as__law_fits, rfl, cs__law_fits, fun K f fd FD n ks arr hm => by
  simp only [List.mem_cons, List.not_mem_nil, or_false, Prod.mk.injEq] at hm
  obtain ⟨rfl, rfl, rfl⟩ := hm
  exact ⟨rfl, rfl, kb_A FD [.inl (.inl 0), .inl (.inl 1)] fun _ _ _ _ _ _ us ws h1 h2 => match us, ws, h1, h2 with | [_, _], [], _, _ => rfl⟩⟩
theorem cs__law_good : cSs 40 ⟨n__law_good, (d__law_good).scope, asOf (d__law_good).scope.names, L.gl, false, none⟩ (d__law_good).body = some c__law_good := by kernel_rfl
theorem sc__law_good : FnScope n__law_good ["row", "width", "inputs", "registers"] (d__law_good).scope := fnScope_by (by kernel_rfl)
theorem as__law_good : asOk (d__law_good).scope = true := by kernel_rfl
theorem ok__law_good : DefOk L d__law_good 14 4 [(4, [], arrOf [] [.inl (.inl 0), .inl (.inl 1), .inl (.inl 2), .inl (.inl 3)])] := ⟨["row", "width", "inputs", "registers"], n__law_good, c__law_good, rfl, sc__law_good, as__law_good, rfl, cs__law_good, fun K f fd FD n ks arr hm => by
  simp only [List.mem_cons, List.not_mem_nil, or_false, Prod.mk.injEq] at hm
  obtain ⟨rfl, rfl, rfl⟩ := hm
  exact ⟨rfl, rfl, kb_A FD [.inl (.inl 0), .inl (.inl 1), .inl (.inl 2), .inl (.inl 3)] fun _ _ _ _ _ _ us ws h1 h2 => match us, ws, h1, h2 with | [_, _, _, _], [], _, _ => rfl⟩⟩
theorem cs__law_spoilt : cSs 40 ⟨n__law_spoilt, (d__law_spoilt).scope, asOf (d__law_spoilt).scope.names, L.gl, false, none⟩ (d__law_spoilt).body = some c__law_spoilt := by kernel_rfl
theorem sc__law_spoilt : FnScope n__law_spoilt ["stream", "row", "width", "inputs", "registers"] (d__law_spoilt).scope := fnScope_by (by kernel_rfl)
theorem as__law_spoilt : asOk (d__law_spoilt).scope = true := by kernel_rfl
theorem ok__law_spoilt : DefOk L d__law_spoilt 15 5 [(5, [], arrOf [] [.inl (.inl 0), .inl (.inl 1), .inl (.inl 2), .inl (.inl 3), .inl (.inl 4)])] := ⟨["stream", "row", "width", "inputs", "registers"], n__law_spoilt, c__law_spoilt, rfl, sc__law_spoilt, as__law_spoilt, rfl, cs__law_spoilt, fun K f fd FD n ks arr hm => by
  simp only [List.mem_cons, List.not_mem_nil, or_false, Prod.mk.injEq] at hm
  obtain ⟨rfl, rfl, rfl⟩ := hm
  exact ⟨rfl, rfl, kb_A FD [.inl (.inl 0), .inl (.inl 1), .inl (.inl 2), .inl (.inl 3), .inl (.inl 4)] fun _ _ _ _ _ _ us ws h1 h2 => match us, ws, h1, h2 with | [_, _, _, _, _], [], _, _ => rfl⟩⟩
theorem cs__law_place : cSs 40 ⟨n__law_place, (d__law_place).scope, asOf (d__law_place).scope.names, L.gl, false, none⟩ (d__law_place).body = some c__law_place := by kernel_rfl
theorem sc__law_place : FnScope n__law_place ["code"] (d__law_place).scope := fnScope_by (by kernel_rfl)
theorem as__law_place : asOk (d__law_place).scope = true := by kernel_rfl
theorem ok__law_place : DefOk L d__law_place 16 1 [(1, [], arrOf [] [.inl (.inl 0)])] := ⟨["code"], n__law_place, c__law_place, rfl, sc__law_place, as__law_place, rfl, cs__law_place, fun K f fd FD n ks arr hm => by
  simp only [List.mem_cons, List.not_mem_nil, or_false, Prod.mk.injEq] at hm
  obtain ⟨rfl, rfl, rfl⟩ := hm
  exact ⟨rfl, rfl, kb_A FD [.inl (.inl 0)] fun _ _ _ _ _ _ us ws h1 h2 => match us, ws, h1, h2 with | [_], [], _, _ => rfl⟩⟩
theorem cs_law : cSs 40 ⟨n_law, (d_law).scope, asOf (d_law).scope.names, L.gl, false, none⟩ (d_law).body = some c_law := by kernel_rfl
theorem sc_law : FnScope n_law ["script"] (d_law).scope := fnScope_by (by kernel_rfl)
theorem as_law : asOk (d_law).scope = true := by kernel_rfl
theorem ok_law : DefOk L d_law 17 1 [(1, [], arrOf [] [.inl (.inl 0)])] := ⟨["script"], n_law, c_law, rfl, sc_law, as_law, rfl, cs_law, fun K f fd FD n ks arr hm => by
  simp only [List.mem_cons, List.not_mem_nil, or_false, Prod.mk.injEq] at hm
  obtain ⟨rfl, rfl, rfl⟩ := hm
  exact ⟨rfl, rfl, kb_A FD [.inl (.inl 0)] fun _ _ _ _ _ _ us ws h1 h2 => match us, ws, h1, h2 with | [_], [], _, _ => rfl⟩⟩
theorem allT : AllT L L.gl := ⟨trivial, trivial, trivial, trivial, trivial, trivial, trivial, trivial, trivial, trivial, trivial, trivial, trivial, trivial, trivial, trivial, trivial, List.mem_of_getElem? (i := 0) rfl, ⟨d_BadCode__init, "BadCode", List.mem_of_getElem? (i := 19) rfl, rfl, rfl, iok_BadCode⟩, ⟨d_Code__init, rfl, rfl, ok_Code__init⟩, ⟨d_is_integer, rfl, rfl, ok_is_integer⟩, ⟨d_power_of_two, rfl, rfl, ok_power_of_two⟩, ⟨d_fits, rfl, rfl, ok_fits⟩, ⟨d_is_index, rfl, rfl, ok_is_index⟩, ⟨d_is_instruction, rfl, rfl, ok_is_instruction⟩, ⟨d_check_code, rfl, rfl, ok_check_code⟩, ⟨d__law_cell, rfl, rfl, ok__law_cell⟩, ⟨d__law_stream, rfl, rfl, ok__law_stream⟩, ⟨d__law_take, rfl, rfl, ok__law_take⟩, ⟨d__law_width, rfl, rfl, ok__law_width⟩, ⟨d__law_integer, rfl, rfl, ok__law_integer⟩, ⟨d__law_row, rfl, rfl, ok__law_row⟩, ⟨d__law_index, rfl, rfl, ok__law_index⟩, ⟨d__law_fits, rfl, rfl, ok__law_fits⟩, ⟨d__law_good, rfl, rfl, ok__law_good⟩, ⟨d__law_spoilt, rfl, rfl, ok__law_spoilt⟩, ⟨d__law_place, rfl, rfl, ok__law_place⟩, ⟨d_law, rfl, rfl, ok_law⟩, trivial⟩
theorem boots : (L.gl.all fun p => bootB p.1 p.2) = true := by kernel_rfl
abbrev R : PySem.W.OpenRow := PySem.W.OpenLaw.row PySem.Challenge.rw_kinkatlas_k66_code_is_checked
abbrev hk : PySem.W.Hook := He.hookX 6 [] L.dd (tabsOf L) [] (exB L)
def ob (s : PySem.W.SharedT) : He.AlX := He.obsX 6 [] L.dd (tabsOf L) [] (exB L) (HandSHeadRun.getT s)
theorem ob_eq (s : PySem.W.SharedT) : ob s = hk.obs s.abs := He.obsX_eq (HandSHeadRun.getT_eq s)
def loose0 : List PySem.Str := ["__name__", "KinkError", "BadCode", "is_integer", "LEAST_WIDTH", "MOST_WIDTH", "MOST_REGISTERS", "SIZES", "Code", "power_of_two", "fits", "is_index", "is_instruction", "check_code", "_law_cell", "_law_stream", "_law_take", "_law_width", "_law_integer", "_law_row", "_law_index", "_law_fits", "_law_good", "_law_spoilt", "_law_place"]
abbrev loose : List PySem.Str := loose0
theorem run (w : World) : HandSHeadRun.RunEq R (PySem.W.view R.prog [28]) hk ob 7740 loose w := PySem.W.byRow2 "special-get-raises" (P := fun w => HandSHeadRun.RunEq R (PySem.W.view R.prog [28]) hk ob 7740 loose w)
  (fun w => by
    intro os
    kernel_rfl) (fun w => by
    intro os
    kernel_rfl) w
end K66
open PySem PySem.W PySem.Calls PyProof.Rows in
theorem K66.done {fuel k : Nat} (hr : L2.Room (3 * (k + 1)) callerA) (plain : ∀ ns : List Int, ns.length ≤ 63 → (∀ z ∈ ns, Builtin.Int.intBits z ≤ 1048576) → ∃ h, PV.callI K66.fns K66.sub fuel (k + 1) 17 [.fl (ns.map PV.D.int)] [] = .ok (.bl true) h) : PySem.Challenge.rw_kinkatlas_k66_code_is_checked.Holds := by
  w_on; o_law
  refine HandSHeadRun.head_any (r := OpenLaw.row PySem.Challenge.rw_kinkatlas_k66_code_is_checked) (q := view (OpenLaw.row PySem.Challenge.rw_kinkatlas_k66_code_is_checked).prog [28]) (H := K66.hk) (ob := K66.ob) (M := 7740) (loose := K66.loose) (d := HandSHeadRun.topDef (OpenLaw.row PySem.Challenge.rw_kinkatlas_k66_code_is_checked).prog 28) (kwd := []) K66.ob_eq
    (by kernel_rfl) (fun s => by kernel_rfl) K66.run (by kernel_rfl) (by kernel_rfl) (by kernel_rfl) (by rfl) (by first | assumption | decide +kernel) (by decide +kernel) ⟨rfl, rfl, rfl, rfl, rfl, by decide +kernel⟩ ?hw ?hc
  case hw => w_witness2
  case hc =>
    exact PV.pv_walk (L := K66.L) (l := PySem.Challenge.rw_kinkatlas_k66_code_is_checked) (n := 63) (fuel := fuel) (k := k) (i := 17) (x := "script") (N := K66.n_law) (code := K66.c_law) (dL := K66.d_law) rfl (by decide) (by kernel_rfl) (by kernel_rfl) hr K66.boots K66.allT rfl rfl rfl K66.sc_law K66.as_law rfl K66.cs_law ⟨_, by exact rfl⟩
      (fun _ _ _ _ _ _ us h => match us, h with | [_], _ => rfl) plain
/-! K66b: k66's plain law: instructions. -/
namespace K66
open PySem PV
/-! ### plain values: no lists of the heap -/
def Flt : D → Prop
  | .non | .bl _ | .int _ => True
  | .str z => PyData.strOk z = true
  | _ => False
def Pln : Nat → D → Prop
  | 0, x => Flt x
  | n + 1, x => Flt x ∨ ∃ xs, x = .tup xs ∧ xs.length ≤ 9 * 3 ^ n ∧ ∀ y ∈ xs, Pln n y
theorem Flt.sh {x : D} (f : Flt x) : Sh 0 x := by
  cases x with
  | non => exact sh_non
  | bl b => exact sh_bl b
  | int i => exact sh_int i
  | str z => exact fun h => ⟨by simp only [toPy, PyData.canLay0]; exact f, by simp [toPy, PyData.depth]⟩
  | _ => exact f.elim
theorem Pln.sh : ∀ {n : Nat} {x : D}, Pln n x → Sh n x
  | 0, _, p => Flt.sh p
  | n + 1, _, .inl f => (Flt.sh f).mono (Nat.zero_le _)
  | n + 1, _, .inr ⟨xs, rfl, _, k⟩ => sh_tup fun y hy => Pln.sh (k y hy)
theorem Pln.up : ∀ {n : Nat} {x : D}, Pln n x → Pln (n + 1) x
  | 0, _, p => .inl p
  | n + 1, _, .inl f => .inl f
  | n + 1, _, .inr ⟨xs, e, l, k⟩ => .inr ⟨xs, e, by rw [Nat.pow_succ]; omega, fun y hy => Pln.up (k y hy)⟩
theorem Pln.mono {n m : Nat} {x : D} (p : Pln n x) (l : n ≤ m) : Pln m x := by
  induction l with
  | refl => exact p
  | step _ ih => exact ih.up
theorem Flt.pln {n : Nat} {x : D} (f : Flt x) : Pln n x := by
  cases n with
  | zero => exact f
  | succ n => exact .inl f
theorem Pln.mem {n : Nat} {xs : List D} (p : Pln (n + 1) (.tup xs)) : ∀ y ∈ xs, Pln n y := by
  rcases p with f | ⟨ys, e, _, k⟩
  · exact f.elim
  · cases e; exact k
theorem Pln.len {n : Nat} {xs : List D} (p : Pln (n + 1) (.tup xs)) : xs.length ≤ 9 * 3 ^ n := by
  rcases p with f | ⟨ys, e, l, _⟩
  · exact f.elim
  · cases e; exact l
def NoR (x : D) : Prop := ∀ n, x ≠ .ref n
theorem Pln.noR {n : Nat} {x : D} (p : Pln n x) : NoR x := fun k e => by
  subst e
  exact p.sh.noref
/-! ### texts -/
theorem ok_load : PyData.strOk "load" = true := by decide +kernel
@[simp] theorem q_load_load : (("load" : Str) == "load") = true := by decide
@[simp] theorem q_load_set : (("load" : Str) == "set") = false := by decide
@[simp] theorem q_load_times : (("load" : Str) == "times") = false := by decide
@[simp] theorem q_load_add : (("load" : Str) == "add") = false := by decide
@[simp] theorem q_load_bend : (("load" : Str) == "bend") = false := by decide
@[simp] theorem q_load_give : (("load" : Str) == "give") = false := by decide
theorem ok_set : PyData.strOk "set" = true := by decide +kernel
@[simp] theorem q_set_load : (("set" : Str) == "load") = false := by decide
@[simp] theorem q_set_set : (("set" : Str) == "set") = true := by decide
@[simp] theorem q_set_times : (("set" : Str) == "times") = false := by decide
@[simp] theorem q_set_add : (("set" : Str) == "add") = false := by decide
@[simp] theorem q_set_bend : (("set" : Str) == "bend") = false := by decide
@[simp] theorem q_set_give : (("set" : Str) == "give") = false := by decide
theorem ok_times : PyData.strOk "times" = true := by decide +kernel
@[simp] theorem q_times_load : (("times" : Str) == "load") = false := by decide
@[simp] theorem q_times_set : (("times" : Str) == "set") = false := by decide
@[simp] theorem q_times_times : (("times" : Str) == "times") = true := by decide
@[simp] theorem q_times_add : (("times" : Str) == "add") = false := by decide
@[simp] theorem q_times_bend : (("times" : Str) == "bend") = false := by decide
@[simp] theorem q_times_give : (("times" : Str) == "give") = false := by decide
theorem ok_add : PyData.strOk "add" = true := by decide +kernel
@[simp] theorem q_add_load : (("add" : Str) == "load") = false := by decide
@[simp] theorem q_add_set : (("add" : Str) == "set") = false := by decide
@[simp] theorem q_add_times : (("add" : Str) == "times") = false := by decide
@[simp] theorem q_add_add : (("add" : Str) == "add") = true := by decide
@[simp] theorem q_add_bend : (("add" : Str) == "bend") = false := by decide
@[simp] theorem q_add_give : (("add" : Str) == "give") = false := by decide
theorem ok_bend : PyData.strOk "bend" = true := by decide +kernel
@[simp] theorem q_bend_load : (("bend" : Str) == "load") = false := by decide
@[simp] theorem q_bend_set : (("bend" : Str) == "set") = false := by decide
@[simp] theorem q_bend_times : (("bend" : Str) == "times") = false := by decide
@[simp] theorem q_bend_add : (("bend" : Str) == "add") = false := by decide
@[simp] theorem q_bend_bend : (("bend" : Str) == "bend") = true := by decide
@[simp] theorem q_bend_give : (("bend" : Str) == "give") = false := by decide
theorem ok_give : PyData.strOk "give" = true := by decide +kernel
@[simp] theorem q_give_load : (("give" : Str) == "load") = false := by decide
@[simp] theorem q_give_set : (("give" : Str) == "set") = false := by decide
@[simp] theorem q_give_times : (("give" : Str) == "times") = false := by decide
@[simp] theorem q_give_add : (("give" : Str) == "add") = false := by decide
@[simp] theorem q_give_bend : (("give" : Str) == "bend") = false := by decide
@[simp] theorem q_give_give : (("give" : Str) == "give") = true := by decide
/-! ### the defs -/
abbrev E (fuel k : Nat) : Ev := evL fns sub fuel k
section
variable {fuel k : Nat}
def isI : D → Bool
  | .int _ => true
  | _ => false
def ixB (v : D) (n : Int) : Bool := match v with
  | .int j => decide (0 ≤ j) && decide (j < n)
  | _ => false
def half (w : Int) : Int := 2 ^ (w - 1).toNat
def fitB (v : D) (w : Int) : Bool := match v with
  | .int j => decide (-half w ≤ j) && decide (j < half w)
  | _ => false
theorem g_integer {v : D} (nr : NoR v) : Giv (E fuel (k + 1)) 0 [v] (.bl (isI v)) := givC (code := c_is_integer) rfl rfl fun h => by
  cases v with
  | ref n => exact (nr n rfl).elim
  | _ => simp [c_is_integer, startD, isI]
theorem shl_ok {w : Int} (h1 : 1 ≤ w) (h2 : w ≤ 200) : shlOk 1 (w - 1) = true := by
  unfold shlOk
  have e : Nat.log2 (Int.natAbs 1) = 0 := by decide
  rw [e]
  simp
  omega
theorem shl_half {w : Int} (h1 : 1 ≤ w) (h2 : w ≤ 200) (h : Hd) : binV .LShift (.int 1) (.int (w - 1)) h = .ok (.int (half w)) h := by
  show ret (shlOk 1 (w - 1)) (D.int (1 * 2 ^ (w - 1).toNat)) h = _
  rw [shl_ok h1 h2, Int.one_mul]
  rfl
theorem g_power {w : Int} (h1 : 1 ≤ w) (h2 : w ≤ 200) : Giv (E fuel (k + 1)) 1 [.int (w - 1)] (.int (half w)) := givC (code := c_power_of_two) rfl rfl fun h => by
  simp [c_power_of_two, startD, shl_half h1 h2, -binV_shl]
theorem g_fits {w j : Int} (h1 : 1 ≤ w) (h2 : w ≤ 200) : Giv (E fuel (k + 2)) 2 [.int w, .int j] (.bl (fitB (.int j) w)) := givC (code := c_fits) rfl rfl fun h => by
  have p := gc' (g_power (fuel := fuel) (k := k) h1 h2)
  simp [c_fits, startD, arrD, p]
  by_cases q : -half w ≤ j
  · simp [q, fitB]
  · simp [q, fitB]
theorem g_index {v : D} {n : Int} (nr : NoR v) : Giv (E fuel (k + 2)) 3 [v, .int n] (.bl (ixB v n)) := givC (code := c_is_index) rfl rfl fun h => by
  have p := gc' (g_integer (fuel := fuel) (k := k) nr)
  cases v with
  | int j =>
    simp [c_is_index, startD, arrD, p, isI]
    by_cases q : 0 ≤ j
    · simp [q, ixB]
    · simp [q, ixB]
  | _ => simp [c_is_index, startD, arrD, p, isI, ixB]
theorem g_lindex {v : D} {n : Int} (nr : NoR v) : Giv (E fuel (k + 1)) 12 [v, .int n] (.bl (ixB v n)) := givC (code := c__law_index) rfl rfl fun h => by
  cases v with
  | ref n => exact (nr n rfl).elim
  | int j =>
    simp [c__law_index, startD]
    by_cases q : 0 ≤ j
    · simp [q, ixB]
    · simp [q, ixB]
  | _ => simp [c__law_index, startD, ixB]
theorem g_lfits {v : D} {w : Int} (nr : NoR v) (h1 : 1 ≤ w) (h2 : w ≤ 200) : Giv (E fuel (k + 1)) 13 [v, .int w] (.bl (fitB v w)) := givC (code := c__law_fits) rfl rfl fun h => by
  have sh := shl_half h1 h2
  cases v with
  | ref n => exact (nr n rfl).elim
  | int j =>
    simp [c__law_fits, startD, sh, -binV_shl]
    by_cases q : -half w ≤ j
    · simp [q, fitB]
    · simp [q, fitB]
  | _ => simp [c__law_fits, startD, sh, fitB, -binV_shl]
/-- a right instruction -/
def goodT (w i r : Int) (a o : D) (xs : List D) : Bool := ixB o r && (match a, xs with
  | .str z, [x] => if z == "load" then ixB x i else if z == "set" then fitB x w else if z == "add" then ixB x r else false
  | .str z, [x, y] => if z == "times" then ixB x r && fitB y w else false
  | .str z, [] => z == "bend" || z == "give"
  | _, _ => false)
def goodB (w i r : Int) : D → Bool
  | .tup (a :: o :: xs) => goodT w i r a o xs
  | _ => false
end
end K66
/-! K66c: k66's plain law: an instruction is one just if the law takes it. -/
namespace K66
open PySem PV
section
variable {fuel k : Nat} {w i r : Int}
theorem eqV_str {z : Str} {y : Str} (f : PyData.strOk z = true) (g : PyData.strOk y = true) (h : Hd) : eqV h (.str z) (.str y) = some (z == y) := by
  rw [eqV_sh (n := 0) (m := 0) (Flt.sh (x := .str z) f) (Flt.sh (x := .str y) g) (by decide) (by decide), eqD_str]
theorem eqD_nstr {x : D} {y : Str} (n : ∀ z, x ≠ .str z) : eqD x (.str y) = false := by
  cases x with
  | str z => exact (n z rfl).elim
  | _ => simp [eqD, toPy, PyData.eqv]
theorem eqV_nstr {x : D} {y : Str} {n : Nat} (s : Sh n x) (hn : n ≤ 64) (g : PyData.strOk y = true) (q : ∀ z, x ≠ .str z) (h : Hd) : eqV h x (.str y) = some false := by
  rw [eqV_sh s (Flt.sh (x := .str y) g) hn (by decide), eqD_nstr q]
abbrev szs : List (Str × D) := [("load", (.int (3))), ("set", (.int (3))), ("times", (.int (4))), ("add", (.int (3))), ("bend", (.int (2))), ("give", (.int (2)))]
theorem l1 : List.lookup ("load" : Str) szs = some (D.int 3) := rfl
theorem l2 : List.lookup ("set" : Str) szs = some (D.int 3) := rfl
theorem l3 : List.lookup ("times" : Str) szs = some (D.int 4) := rfl
theorem l4 : List.lookup ("add" : Str) szs = some (D.int 3) := rfl
theorem l5 : List.lookup ("bend" : Str) szs = some (D.int 2) := rfl
theorem l6 : List.lookup ("give" : Str) szs = some (D.int 2) := rfl
theorem l0 {z : Str} (h1 : (z == "load") = false) (h2 : (z == "set") = false) (h3 : (z == "times") = false) (h4 : (z == "add") = false) (h5 : (z == "bend") = false) (h6 : (z == "give") = false) : szs.lookup z = none := by
  simp [szs, List.lookup, h1, h2, h3, h4, h5, h6]
theorem eqV_nonint (j : Int) (h : Hd) : eqV h .non (.int j) = some false := by
  rw [eqV_sh (n := 0) (m := 0) sh_non (sh_int j) (by decide) (by decide)]
  simp [eqD, toPy, PyData.eqv]
/-- what the law says -/
theorem g_good (h1 : 1 ≤ w) (h2 : w ≤ 200) {n : Nat} {a o : D} {xs : List D} (pa : Pln n a) (hn : n ≤ 64) (po : Pln n o) (px : ∀ y ∈ xs, Pln n y) : Giv (E fuel (k + 2)) 14 [.tup (a :: o :: xs), .int w, .int i, .int r] (.bl (goodT w i r a o xs)) := givC (code := c__law_good) rfl rfl fun h => by
  have p := gc' (g_lindex (fuel := fuel) (k := k) (v := o) (n := r) po.noR)
  have ln : ¬ (((xs.length : Int) + 1 + 1) < 2) := by omega
  cases q : ixB o r with
  | false =>
    simp [c__law_good, startD, arrD, p, ln, q, goodT]
  | true =>
    by_cases hs : ∃ z, a = .str z
    · obtain ⟨z, rfl⟩ := hs
      have oz : PyData.strOk z = true := by
        cases n with
        | zero => exact pa
        | succ n => rcases pa with f | ⟨_, e, _⟩; exact f; cases e
      have t1 := fun h => eqV_str oz ok_load h
      have t2 := fun h => eqV_str oz ok_set h
      have t3 := fun h => eqV_str oz ok_times h
      have t4 := fun h => eqV_str oz ok_add h
      have t5 := fun h => eqV_str oz ok_bend h
      have t6 := fun h => eqV_str oz ok_give h
      have P : ∀ (v : D) (n : Int), NoR v → ∀ h, callI fns sub fuel (k + 1) 12 [v, .int n] h = .ok (.bl (ixB v n)) h := fun v n nr => gc' (g_lindex nr)
      have F : ∀ (v : D), NoR v → ∀ h, callI fns sub fuel (k + 1) 13 [v, .int w] h = .ok (.bl (fitB v w)) h := fun v nr => gc' (g_lfits nr h1 h2)
      have no := po.noR
      have nx : ∀ y ∈ xs, NoR y := fun y hy => (px y hy).noR
      clear p px pa po
      by_cases z_load : z = "load"
      · subst z_load
        rcases xs with _ | ⟨x, _ | ⟨y, _ | ⟨u, xs⟩⟩⟩
        · simp [c__law_good, startD, arrD, P o r no, q, t1, t2, t3, t4, t5, t6, goodT]
        · have n1 : NoR x := nx x (by simp)
          simp [c__law_good, startD, arrD, P o r no, P x i n1, P x r n1, F x n1, q, t1, t2, t3, t4, t5, t6, goodT]
        · have n1 : NoR x := nx x (by simp)
          have n2 : NoR y := nx y (by simp)
          cases u : ixB x r <;> simp [c__law_good, startD, arrD, P o r no, P x i n1, P x r n1, F y n2, q, t1, t2, t3, t4, t5, t6, goodT, u]
        · have l1 : ¬ ((xs.length : Int) + 1 + 1 + 1 + 1 + 1 < 2) := by omega
          have l2 : ¬ ((xs.length : Int) + 1 + 1 + 1 + 1 + 1 = 2) := by omega
          have l3 : ¬ ((xs.length : Int) + 1 + 1 + 1 + 1 + 1 = 3) := by omega
          have l4 : ¬ ((xs.length : Int) + 1 + 1 + 1 + 1 + 1 = 4) := by omega
          simp [c__law_good, startD, arrD, P o r no, q, t1, t2, t3, t4, t5, t6, goodT, l1, l2, l3, l4]
      by_cases z_set : z = "set"
      · subst z_set
        rcases xs with _ | ⟨x, _ | ⟨y, _ | ⟨u, xs⟩⟩⟩
        · simp [c__law_good, startD, arrD, P o r no, q, t1, t2, t3, t4, t5, t6, goodT]
        · have n1 : NoR x := nx x (by simp)
          simp [c__law_good, startD, arrD, P o r no, P x i n1, P x r n1, F x n1, q, t1, t2, t3, t4, t5, t6, goodT]
        · have n1 : NoR x := nx x (by simp)
          have n2 : NoR y := nx y (by simp)
          cases u : ixB x r <;> simp [c__law_good, startD, arrD, P o r no, P x i n1, P x r n1, F y n2, q, t1, t2, t3, t4, t5, t6, goodT, u]
        · have l1 : ¬ ((xs.length : Int) + 1 + 1 + 1 + 1 + 1 < 2) := by omega
          have l2 : ¬ ((xs.length : Int) + 1 + 1 + 1 + 1 + 1 = 2) := by omega
          have l3 : ¬ ((xs.length : Int) + 1 + 1 + 1 + 1 + 1 = 3) := by omega
          have l4 : ¬ ((xs.length : Int) + 1 + 1 + 1 + 1 + 1 = 4) := by omega
          simp [c__law_good, startD, arrD, P o r no, q, t1, t2, t3, t4, t5, t6, goodT, l1, l2, l3, l4]
      by_cases z_times : z = "times"
      · subst z_times
        rcases xs with _ | ⟨x, _ | ⟨y, _ | ⟨u, xs⟩⟩⟩
        · simp [c__law_good, startD, arrD, P o r no, q, t1, t2, t3, t4, t5, t6, goodT]
        · have n1 : NoR x := nx x (by simp)
          simp [c__law_good, startD, arrD, P o r no, P x i n1, P x r n1, F x n1, q, t1, t2, t3, t4, t5, t6, goodT]
        · have n1 : NoR x := nx x (by simp)
          have n2 : NoR y := nx y (by simp)
          cases u : ixB x r <;> simp [c__law_good, startD, arrD, P o r no, P x i n1, P x r n1, F y n2, q, t1, t2, t3, t4, t5, t6, goodT, u]
        · have l1 : ¬ ((xs.length : Int) + 1 + 1 + 1 + 1 + 1 < 2) := by omega
          have l2 : ¬ ((xs.length : Int) + 1 + 1 + 1 + 1 + 1 = 2) := by omega
          have l3 : ¬ ((xs.length : Int) + 1 + 1 + 1 + 1 + 1 = 3) := by omega
          have l4 : ¬ ((xs.length : Int) + 1 + 1 + 1 + 1 + 1 = 4) := by omega
          simp [c__law_good, startD, arrD, P o r no, q, t1, t2, t3, t4, t5, t6, goodT, l1, l2, l3, l4]
      by_cases z_add : z = "add"
      · subst z_add
        rcases xs with _ | ⟨x, _ | ⟨y, _ | ⟨u, xs⟩⟩⟩
        · simp [c__law_good, startD, arrD, P o r no, q, t1, t2, t3, t4, t5, t6, goodT]
        · have n1 : NoR x := nx x (by simp)
          simp [c__law_good, startD, arrD, P o r no, P x i n1, P x r n1, F x n1, q, t1, t2, t3, t4, t5, t6, goodT]
        · have n1 : NoR x := nx x (by simp)
          have n2 : NoR y := nx y (by simp)
          cases u : ixB x r <;> simp [c__law_good, startD, arrD, P o r no, P x i n1, P x r n1, F y n2, q, t1, t2, t3, t4, t5, t6, goodT, u]
        · have l1 : ¬ ((xs.length : Int) + 1 + 1 + 1 + 1 + 1 < 2) := by omega
          have l2 : ¬ ((xs.length : Int) + 1 + 1 + 1 + 1 + 1 = 2) := by omega
          have l3 : ¬ ((xs.length : Int) + 1 + 1 + 1 + 1 + 1 = 3) := by omega
          have l4 : ¬ ((xs.length : Int) + 1 + 1 + 1 + 1 + 1 = 4) := by omega
          simp [c__law_good, startD, arrD, P o r no, q, t1, t2, t3, t4, t5, t6, goodT, l1, l2, l3, l4]
      by_cases z_bend : z = "bend"
      · subst z_bend
        rcases xs with _ | ⟨x, _ | ⟨y, _ | ⟨u, xs⟩⟩⟩
        · simp [c__law_good, startD, arrD, P o r no, q, t1, t2, t3, t4, t5, t6, goodT]
        · have n1 : NoR x := nx x (by simp)
          simp [c__law_good, startD, arrD, P o r no, P x i n1, P x r n1, F x n1, q, t1, t2, t3, t4, t5, t6, goodT]
        · have n1 : NoR x := nx x (by simp)
          have n2 : NoR y := nx y (by simp)
          cases u : ixB x r <;> simp [c__law_good, startD, arrD, P o r no, P x i n1, P x r n1, F y n2, q, t1, t2, t3, t4, t5, t6, goodT, u]
        · have l1 : ¬ ((xs.length : Int) + 1 + 1 + 1 + 1 + 1 < 2) := by omega
          have l2 : ¬ ((xs.length : Int) + 1 + 1 + 1 + 1 + 1 = 2) := by omega
          have l3 : ¬ ((xs.length : Int) + 1 + 1 + 1 + 1 + 1 = 3) := by omega
          have l4 : ¬ ((xs.length : Int) + 1 + 1 + 1 + 1 + 1 = 4) := by omega
          simp [c__law_good, startD, arrD, P o r no, q, t1, t2, t3, t4, t5, t6, goodT, l1, l2, l3, l4]
      by_cases z_give : z = "give"
      · subst z_give
        rcases xs with _ | ⟨x, _ | ⟨y, _ | ⟨u, xs⟩⟩⟩
        · simp [c__law_good, startD, arrD, P o r no, q, t1, t2, t3, t4, t5, t6, goodT]
        · have n1 : NoR x := nx x (by simp)
          simp [c__law_good, startD, arrD, P o r no, P x i n1, P x r n1, F x n1, q, t1, t2, t3, t4, t5, t6, goodT]
        · have n1 : NoR x := nx x (by simp)
          have n2 : NoR y := nx y (by simp)
          cases u : ixB x r <;> simp [c__law_good, startD, arrD, P o r no, P x i n1, P x r n1, F y n2, q, t1, t2, t3, t4, t5, t6, goodT, u]
        · have l1 : ¬ ((xs.length : Int) + 1 + 1 + 1 + 1 + 1 < 2) := by omega
          have l2 : ¬ ((xs.length : Int) + 1 + 1 + 1 + 1 + 1 = 2) := by omega
          have l3 : ¬ ((xs.length : Int) + 1 + 1 + 1 + 1 + 1 = 3) := by omega
          have l4 : ¬ ((xs.length : Int) + 1 + 1 + 1 + 1 + 1 = 4) := by omega
          simp [c__law_good, startD, arrD, P o r no, q, t1, t2, t3, t4, t5, t6, goodT, l1, l2, l3, l4]
      have e1 : (z == "load") = false := by simpa using z_load
      have e2 : (z == "set") = false := by simpa using z_set
      have e3 : (z == "times") = false := by simpa using z_times
      have e4 : (z == "add") = false := by simpa using z_add
      have e5 : (z == "bend") = false := by simpa using z_bend
      have e6 : (z == "give") = false := by simpa using z_give
      have e : goodT w i r (.str z) o xs = false := by
        rcases xs with _ | ⟨x, _ | ⟨y, _ | ⟨u, xs⟩⟩⟩ <;> simp [goodT, e1, e2, e3, e4, e5, e6]
      simp [c__law_good, startD, arrD, P o r no, ln, q, t1, t2, t3, t4, t5, t6, e1, e2, e3, e4, e5, e6, e]
    · have ns : ∀ z, a ≠ .str z := fun z e => hs ⟨z, e⟩
      have t1 := fun h => eqV_nstr pa.sh hn ok_load ns h
      have t2 := fun h => eqV_nstr pa.sh hn ok_set ns h
      have t3 := fun h => eqV_nstr pa.sh hn ok_times ns h
      have t4 := fun h => eqV_nstr pa.sh hn ok_add ns h
      have t5 := fun h => eqV_nstr pa.sh hn ok_bend ns h
      have t6 := fun h => eqV_nstr pa.sh hn ok_give ns h
      have e : goodT w i r a o xs = false := by
        unfold goodT
        cases a with
        | str z => exact (ns z rfl).elim
        | _ => simp
      simp [c__law_good, startD, arrD, p, ln, q, t1, t2, t3, t4, t5, t6, e]
end
end K66
/-! K66d: k66's plain law: is_instruction says what the law says; rows. -/
namespace K66
open PySem PV
abbrev codeF (w i r ins : D) : List (Str × D) := [("width", w), ("inputs", i), ("registers", r), ("instructions", ins)]
section
variable {w i r ins : D}
theorem f_width : (codeF w i r ins).lookup ("width" : Str) = some w := rfl
theorem f_inputs : (codeF w i r ins).lookup ("inputs" : Str) = some i := rfl
theorem f_registers : (codeF w i r ins).lookup ("registers" : Str) = some r := rfl
theorem f_instructions : (codeF w i r ins).lookup ("instructions" : Str) = some ins := rfl
end
section
variable {fuel k : Nat} {w i r : Int} {ins : D}
theorem eqV_ints (a b : Int) (h : Hd) : eqV h (.int a) (.int b) = some (decide (a = b)) := eqV_int h a b
theorem g_instr (h1 : 1 ≤ w) (h2 : w ≤ 200) {n c : Nat} {a o : D} {xs : List D} (pa : Pln n a) (hn : n ≤ 64) (po : Pln n o) (px : ∀ y ∈ xs, Pln n y) {h : Hd} (ob : objAt h c = some (0, codeF (.int w) (.int i) (.int r) ins)) : callI fns sub fuel (k + 3) 4 [.ref c, .tup (a :: o :: xs)] h = .ok (.bl (goodT w i r a o xs)) h := by
  rw [call_eq (code := c_is_instruction) rfl rfl]
  have ln : ¬ (((xs.length : Int) + 1 + 1) < 2) := by omega
  have ns : (∀ z, a ≠ .str z) → isiV a .str h = some false := fun q => by
    cases a with
    | str z => exact (q z rfl).elim
    | ref n => exact (pa.noR n rfl).elim
    | _ => rfl
  by_cases hs : ∃ z, a = .str z
  · obtain ⟨z, rfl⟩ := hs
    have oz : PyData.strOk z = true := by
      cases n with
      | zero => exact pa
      | succ n => rcases pa with f | ⟨_, e, _⟩; exact f; cases e
    have t1 := fun h => eqV_str oz ok_load h
    have t2 := fun h => eqV_str oz ok_set h
    have t3 := fun h => eqV_str oz ok_times h
    have t4 := fun h => eqV_str oz ok_add h
    have P : ∀ (v : D) (n : Int), NoR v → ∀ h, callI fns sub fuel (k + 2) 3 [v, .int n] h = .ok (.bl (ixB v n)) h := fun v n nr => gc' (g_index nr)
    have I : ∀ (v : D), NoR v → ∀ h, callI fns sub fuel (k + 2) 0 [v] h = .ok (.bl (isI v)) h := fun v nr => gc' (g_integer nr)
    have F : ∀ (j : Int) (h : Hd), callI fns sub fuel (k + 2) 2 [.int w, .int j] h = .ok (.bl (fitB (.int j) w)) h := fun j => gc' (g_fits h1 h2)
    have IF : ∀ v : D, isI v = true → ∃ j, v = .int j := fun v e => by
      cases v with
      | int j => exact ⟨j, rfl⟩
      | _ => cases e
    have NF : ∀ v : D, isI v = false → fitB v w = false := fun v e => by
      cases v with
      | int j => cases e
      | _ => rfl
    have no := po.noR
    have nx : ∀ y ∈ xs, NoR y := fun y hy => (px y hy).noR
    clear px pa po
    by_cases z_load : z = "load"
    · subst z_load
      rcases xs with _ | ⟨x, _ | ⟨y, _ | ⟨u, xs⟩⟩⟩
      · cases q : ixB o r <;> simp [c_is_instruction, startD, arrD, P o r no, t1, t2, t3, t4, goodT, o_fld ob, f_width, f_inputs, f_registers, l1, q]
      · have n1 : NoR x := nx x (by simp)
        cases q : ixB o r <;> cases v : isI x
        · simp [c_is_instruction, startD, arrD, P o r no, t1, t2, t3, t4, goodT, o_fld ob, f_width, f_inputs, f_registers, l1, q]
        · simp [c_is_instruction, startD, arrD, P o r no, t1, t2, t3, t4, goodT, o_fld ob, f_width, f_inputs, f_registers, l1, q]
        · simp [c_is_instruction, startD, arrD, P o r no, t1, t2, t3, t4, goodT, o_fld ob, f_width, f_inputs, f_registers, l1, q, P x i n1, P x r n1, I x n1, v, NF x v]
        · obtain ⟨j, rfl⟩ := IF x v
          simp [c_is_instruction, startD, arrD, P o r no, t1, t2, t3, t4, goodT, o_fld ob, f_width, f_inputs, f_registers, l1, q, P _ i n1, P _ r n1, I _ n1, v, F]
      · have n1 : NoR x := nx x (by simp)
        have n2 : NoR y := nx y (by simp)
        cases q : ixB o r <;> cases p : ixB x r <;> cases v : isI y
        · simp [c_is_instruction, startD, arrD, P o r no, t1, t2, t3, t4, goodT, o_fld ob, f_width, f_inputs, f_registers, l1, q]
        · simp [c_is_instruction, startD, arrD, P o r no, t1, t2, t3, t4, goodT, o_fld ob, f_width, f_inputs, f_registers, l1, q]
        · simp [c_is_instruction, startD, arrD, P o r no, t1, t2, t3, t4, goodT, o_fld ob, f_width, f_inputs, f_registers, l1, q]
        · simp [c_is_instruction, startD, arrD, P o r no, t1, t2, t3, t4, goodT, o_fld ob, f_width, f_inputs, f_registers, l1, q]
        · simp [c_is_instruction, startD, arrD, P o r no, t1, t2, t3, t4, goodT, o_fld ob, f_width, f_inputs, f_registers, l1, q, P x r n1, p]
        · simp [c_is_instruction, startD, arrD, P o r no, t1, t2, t3, t4, goodT, o_fld ob, f_width, f_inputs, f_registers, l1, q, P x r n1, p]
        · simp [c_is_instruction, startD, arrD, P o r no, t1, t2, t3, t4, goodT, o_fld ob, f_width, f_inputs, f_registers, l1, q, P x r n1, p, I y n2, v, NF y v]
        · obtain ⟨j, rfl⟩ := IF y v
          simp [c_is_instruction, startD, arrD, P o r no, t1, t2, t3, t4, goodT, o_fld ob, f_width, f_inputs, f_registers, l1, q, P x r n1, p, I _ n2, v, F]
      · have m2 : ¬ ((2 : Int) = (xs.length : Int) + 1 + 1 + 1 + 1 + 1) := by omega
        have m3 : ¬ ((3 : Int) = (xs.length : Int) + 1 + 1 + 1 + 1 + 1) := by omega
        have m4 : ¬ ((4 : Int) = (xs.length : Int) + 1 + 1 + 1 + 1 + 1) := by omega
        have ln : ¬ ((xs.length : Int) + 1 + 1 + 1 + 1 + 1 < 2) := by omega
        simp [c_is_instruction, startD, arrD, P o r no, t1, t2, t3, t4, goodT, o_fld ob, f_width, f_inputs, f_registers, l1, m2, m3, m4, ln]
    by_cases z_set : z = "set"
    · subst z_set
      rcases xs with _ | ⟨x, _ | ⟨y, _ | ⟨u, xs⟩⟩⟩
      · cases q : ixB o r <;> simp [c_is_instruction, startD, arrD, P o r no, t1, t2, t3, t4, goodT, o_fld ob, f_width, f_inputs, f_registers, l2, q]
      · have n1 : NoR x := nx x (by simp)
        cases q : ixB o r <;> cases v : isI x
        · simp [c_is_instruction, startD, arrD, P o r no, t1, t2, t3, t4, goodT, o_fld ob, f_width, f_inputs, f_registers, l2, q]
        · simp [c_is_instruction, startD, arrD, P o r no, t1, t2, t3, t4, goodT, o_fld ob, f_width, f_inputs, f_registers, l2, q]
        · simp [c_is_instruction, startD, arrD, P o r no, t1, t2, t3, t4, goodT, o_fld ob, f_width, f_inputs, f_registers, l2, q, P x i n1, P x r n1, I x n1, v, NF x v]
        · obtain ⟨j, rfl⟩ := IF x v
          simp [c_is_instruction, startD, arrD, P o r no, t1, t2, t3, t4, goodT, o_fld ob, f_width, f_inputs, f_registers, l2, q, P _ i n1, P _ r n1, I _ n1, v, F]
      · have n1 : NoR x := nx x (by simp)
        have n2 : NoR y := nx y (by simp)
        cases q : ixB o r <;> cases p : ixB x r <;> cases v : isI y
        · simp [c_is_instruction, startD, arrD, P o r no, t1, t2, t3, t4, goodT, o_fld ob, f_width, f_inputs, f_registers, l2, q]
        · simp [c_is_instruction, startD, arrD, P o r no, t1, t2, t3, t4, goodT, o_fld ob, f_width, f_inputs, f_registers, l2, q]
        · simp [c_is_instruction, startD, arrD, P o r no, t1, t2, t3, t4, goodT, o_fld ob, f_width, f_inputs, f_registers, l2, q]
        · simp [c_is_instruction, startD, arrD, P o r no, t1, t2, t3, t4, goodT, o_fld ob, f_width, f_inputs, f_registers, l2, q]
        · simp [c_is_instruction, startD, arrD, P o r no, t1, t2, t3, t4, goodT, o_fld ob, f_width, f_inputs, f_registers, l2, q, P x r n1, p]
        · simp [c_is_instruction, startD, arrD, P o r no, t1, t2, t3, t4, goodT, o_fld ob, f_width, f_inputs, f_registers, l2, q, P x r n1, p]
        · simp [c_is_instruction, startD, arrD, P o r no, t1, t2, t3, t4, goodT, o_fld ob, f_width, f_inputs, f_registers, l2, q, P x r n1, p, I y n2, v, NF y v]
        · obtain ⟨j, rfl⟩ := IF y v
          simp [c_is_instruction, startD, arrD, P o r no, t1, t2, t3, t4, goodT, o_fld ob, f_width, f_inputs, f_registers, l2, q, P x r n1, p, I _ n2, v, F]
      · have m2 : ¬ ((2 : Int) = (xs.length : Int) + 1 + 1 + 1 + 1 + 1) := by omega
        have m3 : ¬ ((3 : Int) = (xs.length : Int) + 1 + 1 + 1 + 1 + 1) := by omega
        have m4 : ¬ ((4 : Int) = (xs.length : Int) + 1 + 1 + 1 + 1 + 1) := by omega
        have ln : ¬ ((xs.length : Int) + 1 + 1 + 1 + 1 + 1 < 2) := by omega
        simp [c_is_instruction, startD, arrD, P o r no, t1, t2, t3, t4, goodT, o_fld ob, f_width, f_inputs, f_registers, l2, m2, m3, m4, ln]
    by_cases z_times : z = "times"
    · subst z_times
      rcases xs with _ | ⟨x, _ | ⟨y, _ | ⟨u, xs⟩⟩⟩
      · cases q : ixB o r <;> simp [c_is_instruction, startD, arrD, P o r no, t1, t2, t3, t4, goodT, o_fld ob, f_width, f_inputs, f_registers, l3, q]
      · have n1 : NoR x := nx x (by simp)
        cases q : ixB o r <;> cases v : isI x
        · simp [c_is_instruction, startD, arrD, P o r no, t1, t2, t3, t4, goodT, o_fld ob, f_width, f_inputs, f_registers, l3, q]
        · simp [c_is_instruction, startD, arrD, P o r no, t1, t2, t3, t4, goodT, o_fld ob, f_width, f_inputs, f_registers, l3, q]
        · simp [c_is_instruction, startD, arrD, P o r no, t1, t2, t3, t4, goodT, o_fld ob, f_width, f_inputs, f_registers, l3, q, P x i n1, P x r n1, I x n1, v, NF x v]
        · obtain ⟨j, rfl⟩ := IF x v
          simp [c_is_instruction, startD, arrD, P o r no, t1, t2, t3, t4, goodT, o_fld ob, f_width, f_inputs, f_registers, l3, q, P _ i n1, P _ r n1, I _ n1, v, F]
      · have n1 : NoR x := nx x (by simp)
        have n2 : NoR y := nx y (by simp)
        cases q : ixB o r <;> cases p : ixB x r <;> cases v : isI y
        · simp [c_is_instruction, startD, arrD, P o r no, t1, t2, t3, t4, goodT, o_fld ob, f_width, f_inputs, f_registers, l3, q]
        · simp [c_is_instruction, startD, arrD, P o r no, t1, t2, t3, t4, goodT, o_fld ob, f_width, f_inputs, f_registers, l3, q]
        · simp [c_is_instruction, startD, arrD, P o r no, t1, t2, t3, t4, goodT, o_fld ob, f_width, f_inputs, f_registers, l3, q]
        · simp [c_is_instruction, startD, arrD, P o r no, t1, t2, t3, t4, goodT, o_fld ob, f_width, f_inputs, f_registers, l3, q]
        · simp [c_is_instruction, startD, arrD, P o r no, t1, t2, t3, t4, goodT, o_fld ob, f_width, f_inputs, f_registers, l3, q, P x r n1, p]
        · simp [c_is_instruction, startD, arrD, P o r no, t1, t2, t3, t4, goodT, o_fld ob, f_width, f_inputs, f_registers, l3, q, P x r n1, p]
        · simp [c_is_instruction, startD, arrD, P o r no, t1, t2, t3, t4, goodT, o_fld ob, f_width, f_inputs, f_registers, l3, q, P x r n1, p, I y n2, v, NF y v]
        · obtain ⟨j, rfl⟩ := IF y v
          simp [c_is_instruction, startD, arrD, P o r no, t1, t2, t3, t4, goodT, o_fld ob, f_width, f_inputs, f_registers, l3, q, P x r n1, p, I _ n2, v, F]
      · have m2 : ¬ ((2 : Int) = (xs.length : Int) + 1 + 1 + 1 + 1 + 1) := by omega
        have m3 : ¬ ((3 : Int) = (xs.length : Int) + 1 + 1 + 1 + 1 + 1) := by omega
        have m4 : ¬ ((4 : Int) = (xs.length : Int) + 1 + 1 + 1 + 1 + 1) := by omega
        have ln : ¬ ((xs.length : Int) + 1 + 1 + 1 + 1 + 1 < 2) := by omega
        simp [c_is_instruction, startD, arrD, P o r no, t1, t2, t3, t4, goodT, o_fld ob, f_width, f_inputs, f_registers, l3, m2, m3, m4, ln]
    by_cases z_add : z = "add"
    · subst z_add
      rcases xs with _ | ⟨x, _ | ⟨y, _ | ⟨u, xs⟩⟩⟩
      · cases q : ixB o r <;> simp [c_is_instruction, startD, arrD, P o r no, t1, t2, t3, t4, goodT, o_fld ob, f_width, f_inputs, f_registers, l4, q]
      · have n1 : NoR x := nx x (by simp)
        cases q : ixB o r <;> cases v : isI x
        · simp [c_is_instruction, startD, arrD, P o r no, t1, t2, t3, t4, goodT, o_fld ob, f_width, f_inputs, f_registers, l4, q]
        · simp [c_is_instruction, startD, arrD, P o r no, t1, t2, t3, t4, goodT, o_fld ob, f_width, f_inputs, f_registers, l4, q]
        · simp [c_is_instruction, startD, arrD, P o r no, t1, t2, t3, t4, goodT, o_fld ob, f_width, f_inputs, f_registers, l4, q, P x i n1, P x r n1, I x n1, v, NF x v]
        · obtain ⟨j, rfl⟩ := IF x v
          simp [c_is_instruction, startD, arrD, P o r no, t1, t2, t3, t4, goodT, o_fld ob, f_width, f_inputs, f_registers, l4, q, P _ i n1, P _ r n1, I _ n1, v, F]
      · have n1 : NoR x := nx x (by simp)
        have n2 : NoR y := nx y (by simp)
        cases q : ixB o r <;> cases p : ixB x r <;> cases v : isI y
        · simp [c_is_instruction, startD, arrD, P o r no, t1, t2, t3, t4, goodT, o_fld ob, f_width, f_inputs, f_registers, l4, q]
        · simp [c_is_instruction, startD, arrD, P o r no, t1, t2, t3, t4, goodT, o_fld ob, f_width, f_inputs, f_registers, l4, q]
        · simp [c_is_instruction, startD, arrD, P o r no, t1, t2, t3, t4, goodT, o_fld ob, f_width, f_inputs, f_registers, l4, q]
        · simp [c_is_instruction, startD, arrD, P o r no, t1, t2, t3, t4, goodT, o_fld ob, f_width, f_inputs, f_registers, l4, q]
        · simp [c_is_instruction, startD, arrD, P o r no, t1, t2, t3, t4, goodT, o_fld ob, f_width, f_inputs, f_registers, l4, q, P x r n1, p]
        · simp [c_is_instruction, startD, arrD, P o r no, t1, t2, t3, t4, goodT, o_fld ob, f_width, f_inputs, f_registers, l4, q, P x r n1, p]
        · simp [c_is_instruction, startD, arrD, P o r no, t1, t2, t3, t4, goodT, o_fld ob, f_width, f_inputs, f_registers, l4, q, P x r n1, p, I y n2, v, NF y v]
        · obtain ⟨j, rfl⟩ := IF y v
          simp [c_is_instruction, startD, arrD, P o r no, t1, t2, t3, t4, goodT, o_fld ob, f_width, f_inputs, f_registers, l4, q, P x r n1, p, I _ n2, v, F]
      · have m2 : ¬ ((2 : Int) = (xs.length : Int) + 1 + 1 + 1 + 1 + 1) := by omega
        have m3 : ¬ ((3 : Int) = (xs.length : Int) + 1 + 1 + 1 + 1 + 1) := by omega
        have m4 : ¬ ((4 : Int) = (xs.length : Int) + 1 + 1 + 1 + 1 + 1) := by omega
        have ln : ¬ ((xs.length : Int) + 1 + 1 + 1 + 1 + 1 < 2) := by omega
        simp [c_is_instruction, startD, arrD, P o r no, t1, t2, t3, t4, goodT, o_fld ob, f_width, f_inputs, f_registers, l4, m2, m3, m4, ln]
    by_cases z_bend : z = "bend"
    · subst z_bend
      rcases xs with _ | ⟨x, _ | ⟨y, _ | ⟨u, xs⟩⟩⟩
      · cases q : ixB o r <;> simp [c_is_instruction, startD, arrD, P o r no, t1, t2, t3, t4, goodT, o_fld ob, f_width, f_inputs, f_registers, l5, q]
      · have n1 : NoR x := nx x (by simp)
        cases q : ixB o r <;> cases v : isI x
        · simp [c_is_instruction, startD, arrD, P o r no, t1, t2, t3, t4, goodT, o_fld ob, f_width, f_inputs, f_registers, l5, q]
        · simp [c_is_instruction, startD, arrD, P o r no, t1, t2, t3, t4, goodT, o_fld ob, f_width, f_inputs, f_registers, l5, q]
        · simp [c_is_instruction, startD, arrD, P o r no, t1, t2, t3, t4, goodT, o_fld ob, f_width, f_inputs, f_registers, l5, q, P x i n1, P x r n1, I x n1, v, NF x v]
        · obtain ⟨j, rfl⟩ := IF x v
          simp [c_is_instruction, startD, arrD, P o r no, t1, t2, t3, t4, goodT, o_fld ob, f_width, f_inputs, f_registers, l5, q, P _ i n1, P _ r n1, I _ n1, v, F]
      · have n1 : NoR x := nx x (by simp)
        have n2 : NoR y := nx y (by simp)
        cases q : ixB o r <;> cases p : ixB x r <;> cases v : isI y
        · simp [c_is_instruction, startD, arrD, P o r no, t1, t2, t3, t4, goodT, o_fld ob, f_width, f_inputs, f_registers, l5, q]
        · simp [c_is_instruction, startD, arrD, P o r no, t1, t2, t3, t4, goodT, o_fld ob, f_width, f_inputs, f_registers, l5, q]
        · simp [c_is_instruction, startD, arrD, P o r no, t1, t2, t3, t4, goodT, o_fld ob, f_width, f_inputs, f_registers, l5, q]
        · simp [c_is_instruction, startD, arrD, P o r no, t1, t2, t3, t4, goodT, o_fld ob, f_width, f_inputs, f_registers, l5, q]
        · simp [c_is_instruction, startD, arrD, P o r no, t1, t2, t3, t4, goodT, o_fld ob, f_width, f_inputs, f_registers, l5, q, P x r n1, p]
        · simp [c_is_instruction, startD, arrD, P o r no, t1, t2, t3, t4, goodT, o_fld ob, f_width, f_inputs, f_registers, l5, q, P x r n1, p]
        · simp [c_is_instruction, startD, arrD, P o r no, t1, t2, t3, t4, goodT, o_fld ob, f_width, f_inputs, f_registers, l5, q, P x r n1, p, I y n2, v, NF y v]
        · obtain ⟨j, rfl⟩ := IF y v
          simp [c_is_instruction, startD, arrD, P o r no, t1, t2, t3, t4, goodT, o_fld ob, f_width, f_inputs, f_registers, l5, q, P x r n1, p, I _ n2, v, F]
      · have m2 : ¬ ((2 : Int) = (xs.length : Int) + 1 + 1 + 1 + 1 + 1) := by omega
        have m3 : ¬ ((3 : Int) = (xs.length : Int) + 1 + 1 + 1 + 1 + 1) := by omega
        have m4 : ¬ ((4 : Int) = (xs.length : Int) + 1 + 1 + 1 + 1 + 1) := by omega
        have ln : ¬ ((xs.length : Int) + 1 + 1 + 1 + 1 + 1 < 2) := by omega
        simp [c_is_instruction, startD, arrD, P o r no, t1, t2, t3, t4, goodT, o_fld ob, f_width, f_inputs, f_registers, l5, m2, m3, m4, ln]
    by_cases z_give : z = "give"
    · subst z_give
      rcases xs with _ | ⟨x, _ | ⟨y, _ | ⟨u, xs⟩⟩⟩
      · cases q : ixB o r <;> simp [c_is_instruction, startD, arrD, P o r no, t1, t2, t3, t4, goodT, o_fld ob, f_width, f_inputs, f_registers, l6, q]
      · have n1 : NoR x := nx x (by simp)
        cases q : ixB o r <;> cases v : isI x
        · simp [c_is_instruction, startD, arrD, P o r no, t1, t2, t3, t4, goodT, o_fld ob, f_width, f_inputs, f_registers, l6, q]
        · simp [c_is_instruction, startD, arrD, P o r no, t1, t2, t3, t4, goodT, o_fld ob, f_width, f_inputs, f_registers, l6, q]
        · simp [c_is_instruction, startD, arrD, P o r no, t1, t2, t3, t4, goodT, o_fld ob, f_width, f_inputs, f_registers, l6, q, P x i n1, P x r n1, I x n1, v, NF x v]
        · obtain ⟨j, rfl⟩ := IF x v
          simp [c_is_instruction, startD, arrD, P o r no, t1, t2, t3, t4, goodT, o_fld ob, f_width, f_inputs, f_registers, l6, q, P _ i n1, P _ r n1, I _ n1, v, F]
      · have n1 : NoR x := nx x (by simp)
        have n2 : NoR y := nx y (by simp)
        cases q : ixB o r <;> cases p : ixB x r <;> cases v : isI y
        · simp [c_is_instruction, startD, arrD, P o r no, t1, t2, t3, t4, goodT, o_fld ob, f_width, f_inputs, f_registers, l6, q]
        · simp [c_is_instruction, startD, arrD, P o r no, t1, t2, t3, t4, goodT, o_fld ob, f_width, f_inputs, f_registers, l6, q]
        · simp [c_is_instruction, startD, arrD, P o r no, t1, t2, t3, t4, goodT, o_fld ob, f_width, f_inputs, f_registers, l6, q]
        · simp [c_is_instruction, startD, arrD, P o r no, t1, t2, t3, t4, goodT, o_fld ob, f_width, f_inputs, f_registers, l6, q]
        · simp [c_is_instruction, startD, arrD, P o r no, t1, t2, t3, t4, goodT, o_fld ob, f_width, f_inputs, f_registers, l6, q, P x r n1, p]
        · simp [c_is_instruction, startD, arrD, P o r no, t1, t2, t3, t4, goodT, o_fld ob, f_width, f_inputs, f_registers, l6, q, P x r n1, p]
        · simp [c_is_instruction, startD, arrD, P o r no, t1, t2, t3, t4, goodT, o_fld ob, f_width, f_inputs, f_registers, l6, q, P x r n1, p, I y n2, v, NF y v]
        · obtain ⟨j, rfl⟩ := IF y v
          simp [c_is_instruction, startD, arrD, P o r no, t1, t2, t3, t4, goodT, o_fld ob, f_width, f_inputs, f_registers, l6, q, P x r n1, p, I _ n2, v, F]
      · have m2 : ¬ ((2 : Int) = (xs.length : Int) + 1 + 1 + 1 + 1 + 1) := by omega
        have m3 : ¬ ((3 : Int) = (xs.length : Int) + 1 + 1 + 1 + 1 + 1) := by omega
        have m4 : ¬ ((4 : Int) = (xs.length : Int) + 1 + 1 + 1 + 1 + 1) := by omega
        have ln : ¬ ((xs.length : Int) + 1 + 1 + 1 + 1 + 1 < 2) := by omega
        simp [c_is_instruction, startD, arrD, P o r no, t1, t2, t3, t4, goodT, o_fld ob, f_width, f_inputs, f_registers, l6, m2, m3, m4, ln]
    have e1 : (z == "load") = false := by simpa using z_load
    have e2 : (z == "set") = false := by simpa using z_set
    have e3 : (z == "times") = false := by simpa using z_times
    have e4 : (z == "add") = false := by simpa using z_add
    have e5 : (z == "bend") = false := by simpa using z_bend
    have e6 : (z == "give") = false := by simpa using z_give
    have e : goodT w i r (.str z) o xs = false := by
      rcases xs with _ | ⟨x, _ | ⟨y, _ | ⟨u, xs⟩⟩⟩ <;> simp [goodT, e1, e2, e3, e4, e5, e6]
    simp [c_is_instruction, startD, ln, l0 e1 e2 e3 e4 e5 e6, eqV_nonint, e]
  · have ns' := ns fun z e => hs ⟨z, e⟩
    have e : goodT w i r a o xs = false := by
      unfold goodT
      cases a with
      | str z => exact (hs ⟨z, rfl⟩).elim
      | _ => simp
    simp [c_is_instruction, startD, ln, ns', e]
/-! ### rows -/
/-- a row: a plain value or a list of such -/
def Row (n : Nat) (h : Hd) (x : D) : Prop := Pln (n + 1) x ∨ ∃ m ys, x = .ref m ∧ lstAt h m = some ys ∧ ∀ y ∈ ys, Pln n y
theorem row_cases {n : Nat} {h : Hd} {x : D} (R : Row n h x) : (isiV x .tuple h = some false ∧ goodB w i r x = false ∧ ∀ xs, x ≠ .tup xs) ∨ x = .tup [] ∨ (∃ a, x = .tup [a]) ∨ ∃ a o xs, x = .tup (a :: o :: xs) ∧ Pln n a ∧ Pln n o ∧ ∀ y ∈ xs, Pln n y := by
  rcases R with f | ⟨m, ys, rfl, e, _⟩
  · cases x with
    | non => exact .inl ⟨rfl, rfl, by simp⟩
    | bl b => exact .inl ⟨rfl, rfl, by simp⟩
    | int j => exact .inl ⟨rfl, rfl, by simp⟩
    | str z => exact .inl ⟨rfl, rfl, by simp⟩
    | fl ys => rcases f with f | ⟨_, e, _⟩; exact f.elim; cases e
    | ref ys => rcases f with f | ⟨_, e, _⟩; exact f.elim; cases e
    | tup xs =>
      have k := f.mem
      rcases xs with _ | ⟨a, _ | ⟨o, xs⟩⟩
      · exact .inr (.inl rfl)
      · exact .inr (.inr (.inl ⟨a, rfl⟩))
      · exact .inr (.inr (.inr ⟨a, o, xs, rfl, k a (by simp), k o (by simp), fun y hy => k y (by simp [hy])⟩))
  · exact .inl ⟨by show (lstAt h m).map _ = _; rw [e]; rfl, rfl, by simp⟩
theorem r_good (h1 : 1 ≤ w) (h2 : w ≤ 200) {n : Nat} (hn : n ≤ 64) {h : Hd} {x : D} (R : Row n h x) : callI fns sub fuel (k + 2) 14 [x, .int w, .int i, .int r] h = .ok (.bl (goodB w i r x)) h := by
  rcases row_cases (w := w) (i := i) (r := r) R with ⟨e1, e2, _⟩ | rfl | ⟨a, rfl⟩ | ⟨a, o, xs, rfl, pa, po, px⟩
  · rw [call_eq (code := c__law_good) rfl rfl, e2]
    simp [c__law_good, startD, e1]
  · rw [call_eq (code := c__law_good) rfl rfl]
    simp [c__law_good, startD, goodB]
  · rw [call_eq (code := c__law_good) rfl rfl]
    simp [c__law_good, startD, goodB]
  · exact g_good h1 h2 pa hn po px h
theorem r_instr (h1 : 1 ≤ w) (h2 : w ≤ 200) {n c : Nat} (hn : n ≤ 64) {h : Hd} {x : D} (R : Row n h x) (ob : objAt h c = some (0, codeF (.int w) (.int i) (.int r) ins)) : callI fns sub fuel (k + 3) 4 [.ref c, x] h = .ok (.bl (goodB w i r x)) h := by
  rcases row_cases (w := w) (i := i) (r := r) R with ⟨e1, e2, _⟩ | rfl | ⟨a, rfl⟩ | ⟨a, o, xs, rfl, pa, po, px⟩
  · rw [call_eq (code := c_is_instruction) rfl rfl, e2]
    simp [c_is_instruction, startD, e1]
  · rw [call_eq (code := c_is_instruction) rfl rfl]
    simp [c_is_instruction, startD, goodB]
  · rw [call_eq (code := c_is_instruction) rfl rfl]
    simp [c_is_instruction, startD, goodB]
  · exact g_instr h1 h2 pa hn po px ob
end
end K66
/-! K66e: k66's plain law: check_code, _law_place. -/
namespace K66
open PySem PV
/-- the first wrong row -/
def resF (w i r : Int) (j : Int) : List D → Option Int
  | [] => none
  | x :: xs => if goodB w i r x then resF w i r (j + 1) xs else some j
def okV (lo hi : Int) : D → Bool
  | .int j => decide (lo ≤ j) && decide (j ≤ hi)
  | _ => false
abbrev bad (p : Int) : Exn := ⟨1, [("place", .int p)]⟩
section
variable {fuel k : Nat}
theorem resF_lt {w i r : Int} : ∀ {xs : List D} {j p : Int}, 0 ≤ j → resF w i r j xs = some p → 0 ≤ p
  | [], _, _, _, e => by cases e
  | x :: xs, j, p, h, e => by
    unfold resF at e
    split at e
    · exact resF_lt (by omega) e
    · cases e; exact h
theorem check_rows {w i r : Int} {ins : D} {n c : Nat} {h : Hd} (h1 : 1 ≤ w) (h2 : w ≤ 200) (hn : n ≤ 64) (ob : objAt h c = some (0, codeF (.int w) (.int i) (.int r) ins)) (b : QSs) (hb : b = (.cons (.ife (.not (.v (.call 4 (.cons (.var 0) (.cons (.var 3) .nil)) .nil [.inl (.inl 0), .inl (.inl 1)]))) (.cons (.raise 1 ["place"] (.cons (.var 2) .nil)) .nil) .nil) .nil)) (v1 : Option D) : ∀ (xs : List D) (j : Int) (v2 v3 : Option D), (∀ x ∈ xs, Row n h x) → ∃ s', loopF [] (bindG (.tp [(.nm 2), (.nm 3)])) (exSs (E fuel (k + 3)) b) (enumD j xs) [some (.ref c), v1, v2, v3] h = (match resF w i r j xs with
    | none => .nx s' h
    | some p => .ex (bad p) s' h)
  | [], j, v2, v3, _ => ⟨_, loopF_nil rfl⟩
  | x :: xs, j, v2, v3, R => by
    have q := r_instr (fuel := fuel) (k := k) h1 h2 hn (R x (by simp)) ob
    cases g : goodB w i r x with
    | true =>
      obtain ⟨s', e⟩ := check_rows h1 h2 hn ob b hb v1 xs (j + 1) (some (.int j)) (some x) fun x hx => R x (by simp [hx])
      refine ⟨s', ?_⟩
      have er : resF w i r j (x :: xs) = resF w i r (j + 1) xs := by simp [resF, g]
      rw [er, ← e]
      rw [g] at q
      subst hb
      simp [enumD, loopF_cons, arrD, q]
    | false =>
      have er : resF w i r j (x :: xs) = some j := by simp [resF, g]
      rw [er]
      rw [g] at q
      subst hb
      simp [enumD, loopF_cons, arrD, q]
theorem c_head {w i r ins : D} {c : Nat} {h : Hd} (ob : objAt h c = some (0, codeF w i r ins)) (nw : NoR w) (ni : NoR i) (nr : NoR r) (bd : (okV 2 200 w && (okV 1 10000 i && okV 1 10000 r)) = false) : callI fns sub fuel (k + 4) 5 [.ref c] h = .ex (bad (-1)) h := by
  rw [call_eq (code := c_check_code) rfl rfl]
  have I : ∀ (v : D), NoR v → ∀ h, callI fns sub fuel (k + 3) 0 [v] h = .ok (.bl (isI v)) h := fun v nr => gc' (g_integer nr)
  have NI : ∀ {v : D} {a b : Int}, okV a b v = true → ∃ j, v = .int j ∧ ¬ (j < a) ∧ ¬ (b < j) := fun {v a b} e => by
    cases v with
    | int j => exact ⟨j, rfl, by simp [okV] at e; omega⟩
    | _ => cases e
  cases hw : okV 2 200 w with
  | false =>
    cases w with
    | int j =>
      simp only [okV, Bool.and_eq_false_iff, decide_eq_false_iff_not] at hw
      by_cases q : j < 2
      · simp [c_check_code, startD, arrD, o_fld ob, f_width, I _ nw, isI, q]
      · have q2 : 200 < j := by omega
        simp [c_check_code, startD, arrD, o_fld ob, f_width, I _ nw, isI, q, q2]
    | ref n => exact (nw n rfl).elim
    | _ => simp [c_check_code, startD, arrD, o_fld ob, f_width, I _ nw, isI]
  | true =>
    obtain ⟨j, rfl, j1, j2⟩ := NI hw
    cases hi : okV 1 10000 i with
    | false =>
      cases i with
      | int j =>
        simp only [okV, Bool.and_eq_false_iff, decide_eq_false_iff_not] at hi
        by_cases q : j < 1
        · simp [c_check_code, startD, arrD, o_fld ob, f_width, f_inputs, f_registers, I _ nw, I _ ni, isI, q, j1, j2, loopF_cons]
        · have q2 : 10000 < j := by omega
          simp [c_check_code, startD, arrD, o_fld ob, f_width, f_inputs, f_registers, I _ nw, I _ ni, isI, q, q2, j1, j2, loopF_cons]
      | ref n => exact (ni n rfl).elim
      | _ => simp [c_check_code, startD, arrD, o_fld ob, f_width, f_inputs, f_registers, I _ nw, I _ ni, isI, j1, j2, loopF_cons]
    | true =>
      obtain ⟨u, rfl, u1, u2⟩ := NI hi
      have hr : okV 1 10000 r = false := by rw [hw, hi] at bd; exact bd
      cases r with
      | int j =>
        simp only [okV, Bool.and_eq_false_iff, decide_eq_false_iff_not] at hr
        by_cases q : j < 1
        · simp [c_check_code, startD, arrD, o_fld ob, f_width, f_inputs, f_registers, I _ nw, I _ ni, I _ nr, isI, q, j1, j2, u1, u2, loopF_cons]
        · have q2 : 10000 < j := by omega
          simp [c_check_code, startD, arrD, o_fld ob, f_width, f_inputs, f_registers, I _ nw, I _ ni, I _ nr, isI, q, q2, j1, j2, u1, u2, loopF_cons]
      | ref n => exact (nr n rfl).elim
      | _ => simp [c_check_code, startD, arrD, o_fld ob, f_width, f_inputs, f_registers, I _ nw, I _ ni, I _ nr, isI, j1, j2, u1, u2, loopF_cons]
theorem c_ins {w i r : Int} {ins : D} {c : Nat} {h : Hd} (ob : objAt h c = some (0, codeF (.int w) (.int i) (.int r) ins)) (hw : okV 2 200 (.int w) = true) (hi : okV 1 10000 (.int i) = true) (hr : okV 1 10000 (.int r) = true) (nt : isiV ins .tuple h = some false) : callI fns sub fuel (k + 4) 5 [.ref c] h = .ex (bad (-1)) h := by
  rw [call_eq (code := c_check_code) rfl rfl]
  have I : ∀ (v : Int) (h : Hd), callI fns sub fuel (k + 3) 0 [.int v] h = .ok (.bl true) h := fun v => gc' (g_integer (v := .int v) (by simp [NoR]))
  simp [okV] at hw hi hr
  have a1 : ¬ w < 2 := by omega
  have a2 : ¬ 200 < w := by omega
  have a3 : ¬ i < 1 := by omega
  have a4 : ¬ 10000 < i := by omega
  have a5 : ¬ r < 1 := by omega
  have a6 : ¬ 10000 < r := by omega
  simp [c_check_code, startD, arrD, o_fld ob, f_width, f_inputs, f_registers, f_instructions, I, isI, a1, a2, a3, a4, a5, a6, loopF_cons, loopF_end, nt]
theorem c_rows {w i r : Int} {xs : List D} {n c : Nat} {h : Hd} (ob : objAt h c = some (0, codeF (.int w) (.int i) (.int r) (.tup xs))) (hw : okV 2 200 (.int w) = true) (hi : okV 1 10000 (.int i) = true) (hr : okV 1 10000 (.int r) = true) (hn : n ≤ 64) (R : ∀ x ∈ xs, Row n h x) : callI fns sub fuel (k + 4) 5 [.ref c] h = (match resF w i r 0 xs with
    | none => .ok .non h
    | some p => .ex (bad p) h) := by
  rw [call_eq (code := c_check_code) rfl rfl]
  have I : ∀ (v : Int) (h : Hd), callI fns sub fuel (k + 3) 0 [.int v] h = .ok (.bl true) h := fun v => gc' (g_integer (v := .int v) (by simp [NoR]))
  simp [okV] at hw hi hr
  have a1 : ¬ w < 2 := by omega
  have a2 : ¬ 200 < w := by omega
  have a3 : ¬ i < 1 := by omega
  have a4 : ¬ 10000 < i := by omega
  have a5 : ¬ r < 1 := by omega
  have a6 : ¬ 10000 < r := by omega
  obtain ⟨s', e⟩ := check_rows (fuel := fuel) (k := k) (by omega) (by omega) hn ob _ rfl (some (.int r)) xs 0 none none R
  simp [c_check_code, startD, arrD, o_fld ob, f_width, f_inputs, f_registers, f_instructions, I, isI, a1, a2, a3, a4, a5, a6, loopF_cons, loopF_end]
  rw [e]
  cases resF w i r 0 xs <;> simp
end
end K66
/-! K66f: k66's plain law: _law_place; the law's own rows. -/
namespace K66
open PySem PV
section
variable {fuel k : Nat}
theorem sub11 : sub 1 1 = true := by decide
theorem sub10 : sub 1 0 = true := by decide
theorem p_ex {c : Nat} {p : Int} {h : Hd} (q : callI fns sub fuel (k + 4) 5 [.ref c] h = .ex (bad p) h) : callI fns sub fuel (k + 5) 16 [.ref c] h = .ok (.int p) h := by
  rw [call_eq (code := c__law_place) rfl rfl]
  simp [c__law_place, startD, arrD, q]
  rw [tryS_ex _ _ _ _ _ _ _ (by exact sub11) (by rfl)]
  have l : List.lookup ("place" : Str) [(("place" : Str), D.int p)] = some (.int p) := rfl
  simp [goS, sub10, l]
theorem p_ok {c : Nat} {h : Hd} (q : callI fns sub fuel (k + 4) 5 [.ref c] h = .ok .non h) : callI fns sub fuel (k + 5) 16 [.ref c] h = .ok (.int (-2)) h := by
  rw [call_eq (code := c__law_place) rfl rfl]
  simp [c__law_place, startD, arrD, q]
abbrev noE : Exn → Hd → Prop := fun _ _ => False
theorem half_sz {w : Int} (h1 : 1 ≤ w) (h2 : w ≤ 200) : 1 ≤ half w ∧ Sz 200 (half w) := by
  have e : (half w) = ((2 ^ (w - 1).toNat : Nat) : Int) := by unfold half; norm_cast
  have p := Nat.two_pow_pos (w - 1).toNat
  rw [e]
  refine ⟨by omega, ?_⟩
  show (2 ^ (w - 1).toNat : Nat) < 2 ^ 200
  exact Nat.pow_lt_pow_right (by omega) (by omega)
theorem tk {n : Nat} {m : Int} {H : Hd} (s : IsSt n H) (q : 0 < m) (q' : m < 2 ^ 256) : WpE (callI fns sub fuel (k + 1) 8 [.ref n, .int m] H) (fun d H' => ∃ r : Int, d = .int r ∧ 0 ≤ r ∧ r < m ∧ Adv n H H') noE := w_take rfl s q (by
  have z : Sz 256 m := by
    show (_ : Nat) < 2 ^ 256
    omega
  exact z.mono (by decide))
/-- 2 .. 200 -/
theorem l_width {n : Nat} {h : Hd} (st : IsSt n h) : WpE (callI fns sub fuel (k + 2) 9 [.ref n] h) (fun d H => (∃ w : Int, d = .int w ∧ 2 ≤ w ∧ w ≤ 200) ∧ Adv n h H) noE := by
  rw [call_eq (code := c__law_width) rfl rfl]
  refine fin_adv (n := n) (P := fun d => ∃ w : Int, d = .int w ∧ 2 ≤ w ∧ w ≤ 200) (fun d ⟨w, e, _⟩ => by subst e; rfl) ?_
  have hn := st.lt
  simp [c__law_width, startD, arrD]
  refine WpE_mono (tk st (by decide) (by decide)) ?_ (fun _ _ z => z)
  rintro _ H1 ⟨r1, rfl, b1, c1, A1⟩
  simp
  have M1 := st.refl.step hn A1
  refine WpE_mono (tk (M1.st hn) (by decide) (by decide)) ?_ (fun _ _ z => z)
  rintro _ H2 ⟨r2, rfl, b2, c2, A2⟩
  simp
  have M2 := M1.step hn A2
  refine WpE_mono (tk (M2.st hn) (by decide) (by decide)) ?_ (fun _ _ z => z)
  rintro _ H3 ⟨r3, rfl, b3, c3, A3⟩
  simp
  have M3 := (M2.step hn A3).app [.lst [.int (2 + r1), .int (2 + r2), .int (2 + r3), .int 200]]
  refine WpE_mono (tk (M3.st hn) (by decide) (by decide)) ?_ (fun _ _ z => z)
  rintro _ H4 ⟨r4, rfl, b4, c4, A4⟩
  have M4 := M3.step hn A4
  have e : lstAt H4 H3.length = some [.int (2 + r1), .int (2 + r2), .int (2 + r3), .int 200] := by
    refine A4.lst (lst_new H3 _) ?_
    have := (M2.step hn A3).len
    omega
  simp [e]
  have c : r4 = 0 ∨ r4 = 1 ∨ r4 = 2 ∨ r4 = 3 := by omega
  rcases c with rfl | rfl | rfl | rfl
  · simp
    exact ⟨by omega, M4⟩
  · simp
    exact ⟨by omega, M4⟩
  · simp
    exact ⟨by omega, M4⟩
  · simp
    exact M4
/-- any integer -/
theorem l_integer {n : Nat} {w : Int} {h : Hd} (h1 : 1 ≤ w) (h2 : w ≤ 200) (st : IsSt n h) : WpE (callI fns sub fuel (k + 2) 10 [.ref n, .int w] h) (fun d H => (∃ j : Int, d = .int j) ∧ Adv n h H) noE := by
  rw [call_eq (code := c__law_integer) rfl rfl]
  refine fin_adv (n := n) (P := fun d => ∃ w : Int, d = .int w) (fun d ⟨w, e⟩ => by subst e; rfl) ?_
  have hn := st.lt
  obtain ⟨g1, g2⟩ := half_sz h1 h2
  have g3 : half w < 2 ^ 200 := by
    have : (half w).natAbs < 2 ^ 200 := g2
    omega
  have g4 : mulOk 2 (half w) = true := mulOk_sz (n := 2) (i := 2) (by show (2 : Int).natAbs < 2 ^ 2; decide) g2 (by decide)
  have sh := shl_half h1 h2
  simp [c__law_integer, startD, arrD, sh, -binV_shl]
  refine WpE_mono (tk st (by decide) (by decide)) ?_ (fun _ _ z => z)
  rintro _ H1 ⟨r1, rfl, b1, c1, A1⟩
  have M1 := st.refl.step hn A1
  simp [g4]
  refine WpE_mono (tk (M1.st hn) (by omega) (by omega)) ?_ (fun _ _ z => z)
  rintro _ H2 ⟨r2, rfl, b2, c2, A2⟩
  have M2 := M1.step hn A2
  simp
  refine WpE_mono (tk (M2.st hn) (by decide) (by decide)) ?_ (fun _ _ z => z)
  rintro _ H3 ⟨r3, rfl, b3, c3, A3⟩
  have n6 : decide ((6 : Nat) ≤ line) = true := by decide
  simp [n6]
  let menu : List D := [.int r1, .int (-r1), .int (half w - 1 - r1), .int (r1 - half w), .int (r2 - half w), .int (r3 - 4)]
  have M3 := (M2.step hn A3).app [.lst menu]
  refine WpE_mono (tk (M3.st hn) (by decide) (by decide)) ?_ (fun _ _ z => z)
  rintro _ H4 ⟨r4, rfl, b4, c4, A4⟩
  have M4 := M3.step hn A4
  have e : lstAt H4 H3.length = some menu := by
    refine A4.lst (lst_new H3 _) ?_
    have := (M2.step hn A3).len
    omega
  simp [e]
  have cs : ∃ j, L2.atI menu r4 = some (D.int j) := by
    have c : r4 = 0 ∨ r4 = 1 ∨ r4 = 2 ∨ r4 = 3 ∨ r4 = 4 ∨ r4 = 5 := by omega
    rcases c with rfl | rfl | rfl | rfl | rfl | rfl
    · exact ⟨_, rfl⟩
    · exact ⟨_, rfl⟩
    · exact ⟨_, rfl⟩
    · exact ⟨_, rfl⟩
    · exact ⟨_, rfl⟩
    · exact ⟨_, rfl⟩
  obtain ⟨j, ej⟩ := cs
  simp [ej]
  exact M4
theorem Flt.lt {x : D} (m : Nat) (f : Flt x) : D.lt m x = true := by
  cases x with
  | tup _ => exact f.elim
  | fl _ => exact f.elim
  | ref _ => exact f.elim
  | _ => rfl
theorem flts_lt (m : Nat) : ∀ {xs : List D}, (∀ y ∈ xs, Flt y) → D.lts m xs = true
  | [], _ => rfl
  | x :: xs, f => by
    show (D.lt m x && D.lts m xs) = true
    rw [(f x (by simp)).lt m, flts_lt m fun y hy => f y (by simp [hy])]
    rfl
theorem plns_lt (m n : Nat) (k : ∀ x, Pln n x → D.lt m x = true) : ∀ {xs : List D}, (∀ y ∈ xs, Pln n y) → D.lts m xs = true
  | [], _ => rfl
  | x :: xs, f => by
    show (D.lt m x && D.lts m xs) = true
    rw [k x (f x (by simp)), plns_lt m n k fun y hy => f y (by simp [hy])]
    rfl
theorem Pln.lt (m : Nat) : ∀ (n : Nat) (x : D), Pln n x → D.lt m x = true
  | 0, _, f => Flt.lt m f
  | n + 1, _, .inl f => Flt.lt m f
  | n + 1, _, .inr ⟨xs, e, _, f⟩ => by
    subst e
    exact plns_lt m n (Pln.lt m n) f
/-- a row of the law's own: a tuple of flat values -/
def RowV (d : D) : Prop := ∃ xs, d = .tup xs ∧ xs.length ≤ 9 ∧ ∀ y ∈ xs, Flt y
theorem l_row {n : Nat} {w i r : Int} {h : Hd} (h1 : 1 ≤ w) (h2 : w ≤ 200) (i1 : 1 ≤ i) (i2 : i ≤ 100) (r1 : 1 ≤ r) (r2 : r ≤ 100) (st : IsSt n h) : WpE (callI fns sub fuel (k + 3) 11 [.ref n, .int w, .int i, .int r] h) (fun d H => RowV d ∧ Adv n h H) noE := by
  rw [call_eq (code := c__law_row) rfl rfl]
  refine fin_adv (n := n) (P := RowV) (fun d ⟨xs, e, _, f⟩ => by
    subst e
    exact flts_lt _ f) ?_
  have hn := st.lt
  simp [c__law_row, startD, arrD]
  refine WpE_mono (tk st (by decide) (by decide)) ?_ (fun _ _ z => z)
  rintro _ H1 ⟨q1, rfl, b1, c1, A1⟩
  have M1 := st.refl.step hn A1
  simp
  refine WpE_mono (tk (M1.st hn) (by omega) (by omega)) ?_ (fun _ _ z => z)
  rintro _ H2 ⟨q2, rfl, b2, c2, A2⟩
  have M2 := M1.step hn A2
  simp
  refine WpE_mono (tk (M2.st hn) (by omega) (by omega)) ?_ (fun _ _ z => z)
  rintro _ H3 ⟨q3, rfl, b3, c3, A3⟩
  have M3 := M2.step hn A3
  by_cases z0 : q1 = 0
  · simp [z0]
    refine WpE_mono (tk (M3.st hn) (by omega) (by omega)) ?_ (fun _ _ z => z)
    rintro _ H4 ⟨q4, rfl, b4, c4, A4⟩
    simp
    exact ⟨⟨_, rfl, by simp, by simp [Flt, ok_load]⟩, M3.step hn A4⟩
  by_cases z1 : q1 = 1
  · simp [z1]
    refine WpE_mono (l_integer h1 h2 (M3.st hn)) ?_ (fun _ _ z => z)
    rintro _ H4 ⟨⟨q4, rfl⟩, A4⟩
    simp
    exact ⟨⟨_, rfl, by simp, by simp [Flt, ok_set]⟩, M3.step hn A4⟩
  by_cases z2 : q1 = 2
  · simp [z2]
    refine WpE_mono (l_integer h1 h2 (M3.st hn)) ?_ (fun _ _ z => z)
    rintro _ H4 ⟨⟨q4, rfl⟩, A4⟩
    simp
    exact ⟨⟨_, rfl, by simp, by simp [Flt, ok_times]⟩, M3.step hn A4⟩
  by_cases z3 : q1 < 5
  · simp [z0, z1, z2, z3]
    exact ⟨⟨_, rfl, by simp, by simp [Flt, ok_add]⟩, M3⟩
  have c : q1 = 5 ∨ q1 = 6 := by omega
  rcases c with rfl | rfl
  · simp
    exact ⟨⟨_, rfl, by simp, by simp [Flt, ok_bend]⟩, M3.app _⟩
  · simp
    exact ⟨⟨_, rfl, by simp, by simp [Flt, ok_give]⟩, M3.app _⟩
end
end K66
/-! K66g: k66's plain law: spoilt rows. -/
namespace K66
open PySem PV
theorem cut_mem {xs : List D} {lo hi : Option Int} {y : D} (h : y ∈ cut xs lo hi) : y ∈ xs := List.mem_of_mem_drop (List.mem_of_mem_take h)
theorem cut_len {xs : List D} {lo hi : Option Int} : (cut xs lo hi).length ≤ xs.length := by
  unfold cut
  rw [List.length_take, List.length_drop]
  omega
theorem at_mem {xs : List D} {r : Int} (h0 : 0 ≤ r) (h1 : r < xs.length) : ∃ p ∈ xs, L2.atI xs r = some p := by
  have lt : r.toNat < xs.length := by omega
  refine ⟨xs[r.toNat], List.getElem_mem lt, ?_⟩
  have := at_n lt
  rwa [Int.toNat_of_nonneg h0] at this
theorem Row.drop {n : Nat} {H l : Hd} {d : D} (R : Row n (H ++ l) d) (q : D.lt H.length d = true) : Row n H d := by
  rcases R with f | ⟨m, ys, rfl, e, k⟩
  · exact .inl f
  · refine .inr ⟨m, ys, rfl, ?_, k⟩
    have lt : m < H.length := by simpa [D.lt] using q
    unfold lstAt at *
    rwa [List.getElem?_append_left lt] at e
theorem tup_pln {m : Nat} {xs : List D} (hl : xs.length ≤ 9 * 3 ^ (m + 1)) (hx : ∀ y ∈ xs, Pln m y) : Pln (m + 2) (.tup xs) := .inr ⟨xs, rfl, hl, fun y hy => (hx y hy).up⟩
section
variable {fuel k : Nat}
theorem l_spoilt {n m : Nat} {w i r : Int} {xs : List D} {h : Hd} (h1 : 1 ≤ w) (h2 : w ≤ 200) (m1 : 1 ≤ m) (m2 : m ≤ 4) (hl : xs.length ≤ 9 * 3 ^ m) (ne : xs ≠ []) (hx : ∀ y ∈ xs, Pln m y) (st : IsSt n h) : WpE (callI fns sub fuel (k + 2) 15 [.ref n, .tup xs, .int w, .int i, .int r] h) (fun d H => (Row (m + 1) H d ∧ ∀ m', d = .ref m' → h.length ≤ m') ∧ AdvL n h H) noE := by
  rw [call_eq (code := c__law_spoilt) rfl rfl]
  refine fin_advL (n := n) (P := fun d H => Row (m + 1) H d ∧ ∀ m', d = .ref m' → h.length ≤ m') (fun d a b l s R q => ⟨Row.drop R.1 (by simpa using q), R.2⟩) ?_
  have hn := st.lt
  have sh := shl_half h1 h2
  have lp : 0 < xs.length := List.length_pos_iff.mpr ne
  have p3 : (3 : Nat) ^ m ≤ 3 ^ 4 := Nat.pow_le_pow_right (by omega) m2
  have l3 : xs.length ≤ 729 := by omega
  have lb : (xs.length : Int) < 2 ^ 256 := by
    have : (1000 : Int) < 2 ^ 256 := by decide
    omega
  simp [c__law_spoilt, startD, arrD, sh, -binV_shl]
  refine WpE_mono (tk st (by omega) lb) ?_ (fun _ _ z => z)
  rintro _ H1 ⟨p, rfl, b1, c1, A1⟩
  have M1 := st.refl.step hn A1
  have n15 : decide ((15 : Nat) ≤ line) = true := by decide
  let odd : List D := [.non, .bl true, .int (-1), .int i, .int r, .int (half w), .int (-half w - 1), .int (half w - 1), .str "add", .str "jump", .tup [.int 0], .int 0, .int 1, .bl false, .str "set"]
  have n1 : decide ((1 : Nat) ≤ line) = true := by decide
  have n6 : decide ((6 : Nat) ≤ line) = true := by decide
  simp [n1, n15]
  have M2 := M1.app [.lst odd]
  refine WpE_mono (tk (M2.st hn) (by decide) (by decide)) ?_ (fun _ _ z => z)
  rintro _ H2 ⟨q2, rfl, b2, c2, A2⟩
  have M3 := M2.step hn A2
  have e : lstAt H2 H1.length = some odd := by
    refine A2.lst (lst_new H1 _) ?_
    have := M1.len
    omega
  obtain ⟨y, my, ey⟩ := at_mem (xs := odd) b2 (by show q2 < (15 : Nat); exact c2)
  have okj : PyData.strOk "jump" = true := by decide +kernel
  have py : Pln m y := by
    refine Pln.mono (n := 1) ?_ m1
    simp only [odd, List.mem_cons, List.not_mem_nil, or_false] at my
    rcases my with rfl | rfl | rfl | rfl | rfl | rfl | rfl | rfl | rfl | rfl | rfl | rfl | rfl | rfl | rfl
    case inr.inr.inr.inr.inr.inr.inr.inr.inr.inr.inl => exact .inr ⟨_, rfl, by simp, by simp [Pln, Flt]⟩
    all_goals exact .inl (by simp [Flt, ok_add, okj, ok_set])
  simp [e, ey]
  refine WpE_mono (tk (M3.st hn) (by decide) (by decide)) ?_ (fun _ _ z => z)
  rintro _ H3 ⟨q3, rfl, b3, c3, A3⟩
  have M4 := M3.step hn A3
  have la := cut_len (xs := xs) (lo := none) (hi := some p)
  have lc := cut_len (xs := xs) (lo := some (p + 1)) (hi := none)
  have ma := fun y => cut_mem (xs := xs) (lo := none) (hi := some p) (y := y)
  have mc := fun y => cut_mem (xs := xs) (lo := some (p + 1)) (hi := none) (y := y)
  have p1 : 3 ^ (m + 1) = 3 * 3 ^ m := by rw [Nat.pow_succ]; omega
  have p0 : 1 ≤ 3 ^ m := Nat.pow_pos (by omega)
  by_cases z0 : q3 = 0
  · subst z0
    have lk : decide ((cut xs none (some p)).length + (cut xs (some (p + 1)) none).length ≤ line) = true := decide_eq_true (Nat.le_trans (by omega : _ ≤ 2000) (by decide))
    simp [lk]
    refine ⟨.inl (tup_pln ?_ ?_), M4⟩
    · rw [List.length_append]; omega
    · intro y hy
      rcases List.mem_append.mp hy with g | g
      · exact hx y (ma y g)
      · exact hx y (mc y g)
  by_cases z1 : q3 = 1
  · subst z1
    have lk : decide (xs.length + 1 ≤ line) = true := decide_eq_true (Nat.le_trans (by omega : _ ≤ 2000) (by decide))
    simp [n1, lk]
    refine ⟨.inl (tup_pln ?_ ?_), M4⟩
    · rw [List.length_append, List.length_singleton]; omega
    · intro u hu
      rcases List.mem_append.mp hu with g | g
      · exact hx u g
      · rw [List.mem_singleton.mp g]; exact py
  by_cases z2 : q3 = 2
  · subst z2
    obtain ⟨x0, m0, e0⟩ := at_mem (xs := xs) (r := 0) (by decide) (by omega)
    simp [e0, n1, n6]
    let menu : List D := [.ref H3.length, .non, .tup [], x0, .tup [.tup xs], .tup [.str "times", .int 0, .int 0]]
    have M5 := (M4.app [.lst xs]).app [.lst menu]
    rw [show H3 ++ [Cell.lst xs, Cell.lst [D.ref (List.length H3), D.non, D.tup [], x0, D.tup [D.tup xs], D.tup [D.str (Str.ofString "times"), D.int 0, D.int 0]]] = (H3 ++ [.lst xs]) ++ [.lst menu] from by simp [menu]]
    refine WpE_mono (tk (M5.st hn) (by decide) (by decide)) ?_ (fun _ _ z => z)
    rintro _ H4 ⟨q4, rfl, b4, c4, A4⟩
    have M6 := M5.step hn A4
    have ne1 : n ≠ H3.length + 1 := by have := M4.len; omega
    have ne2 : n ≠ H3.length := by have := M4.len; omega
    have e1 : lstAt H4 (H3.length + 1) = some menu := by
      have := lst_new (H3 ++ [.lst xs]) menu
      rw [List.length_append, List.length_singleton] at this
      exact A4.lst this ne1
    have e2 : lstAt H4 H3.length = some xs := A4.lst (lst_old (lst_new H3 xs) _) ne2
    obtain ⟨y4, my4, ey4⟩ := at_mem (xs := menu) b4 (by show q4 < (6 : Nat); exact c4)
    simp [e1, ey4]
    have fr := M4.len
    refine ⟨?_, M6⟩
    have px : Pln (m + 1) (.tup xs) := .inr ⟨xs, rfl, hl, hx⟩
    simp only [menu, List.mem_cons, List.not_mem_nil, or_false] at my4
    rcases my4 with rfl | rfl | rfl | rfl | rfl | rfl
    · exact ⟨.inr ⟨_, xs, rfl, e2, fun y hy => (hx y hy).up⟩, fun m' e => by cases e; exact fr⟩
    · exact ⟨.inl (.inl trivial), fun _ e => nomatch e⟩
    · exact ⟨.inl (.inr ⟨[], rfl, by simp, by simp⟩), fun _ e => nomatch e⟩
    · exact ⟨.inl ((hx _ m0).mono (by omega)), fun q e => ((hx _ m0).noR q e).elim⟩
    · exact ⟨.inl (.inr ⟨_, rfl, by simp; omega, by simpa using px⟩), fun _ e => nomatch e⟩
    · exact ⟨.inl (.inr ⟨_, rfl, by simp; omega, by simp only [List.mem_cons, List.not_mem_nil, or_false]; rintro y (rfl | rfl | rfl) <;> exact .inl (by simp [Flt, ok_times])⟩), fun _ e => nomatch e⟩
  have lk : decide ((cut xs none (some p)).length + 1 ≤ line) = true := decide_eq_true (Nat.le_trans (by omega : _ ≤ 2000) (by decide))
  have lk2 : decide ((cut xs none (some p)).length + 1 + (cut xs (some (p + 1)) none).length ≤ line) = true := decide_eq_true (Nat.le_trans (by omega : _ ≤ 3000) (by decide))
  simp [z0, z1, z2, n1, lk, lk2]
  refine ⟨.inl (tup_pln ?_ ?_), M4⟩
  · simp only [List.length_append, List.length_cons, List.length_nil]; omega
  · intro u hu
    simp only [List.mem_append, List.mem_cons, List.not_mem_nil, or_false] at hu
    rcases hu with g | rfl | g
    · exact hx u (ma u g)
    · exact py
    · exact hx u (mc u g)
end
end K66
/-! K66h: k66's plain law: the heap of the law, its loops. -/
namespace K66
open PySem PV
section
variable {fuel k : Nat}
theorem g_cell (ns : List Int) (j : Nat) : Giv (E fuel (k + 1)) 6 [.fl (ns.map .int), .int (j : Int)] (.int (cellI ns j)) := givC (code := c__law_cell) rfl rfl fun h => by
  by_cases hj : j < ns.length
  · have hj' : (j : Int) < ns.length := by omega
    have a : L2.atI (ns.map D.int) (j : Int) = some (.int (cellI ns j)) := by
      rw [at_n (by simpa using hj)]
      simp [cellI, hj]
    simp [c__law_cell, startD, a, hj']
  · have hj' : ¬ (j : Int) < ns.length := by omega
    have e : cellI ns j = 0 := by
      unfold cellI
      simp [List.getD_eq_getElem?_getD, hj]
    simp [c__law_cell, startD, hj', e]
/-- a new Code -/
theorem mk (H : Hd) (a b c d : D) : callI fns sub fuel (k + 1) 18 [.ref H.length, a, b, c, d] (H ++ [.obj 0 []]) = .ok .non (H ++ [.obj 0 (codeF a b c d)]) := by
  have S : ∀ (fs : List (Str × D)) (f : Str) (x : D) (s : Sl), fs.length < 1000 → setF f x s (.ref H.length) (H ++ [.obj 0 fs]) = .nx s (H ++ [.obj 0 (putD f x fs)]) := fun fs f x s l => by
    rw [o_setF (o_off H 0 fs []) l, List.set_append_right _ _ (Nat.le_refl _), Nat.sub_self]
    rfl
  rw [call_eq (code := c_Code__init) rfl rfl]
  have e1 : putD "width" a [] = [(("width" : Str), a)] := rfl
  have e2 : putD "inputs" b [(("width" : Str), a)] = [(("width" : Str), a), (("inputs" : Str), b)] := rfl
  have e3 : putD "registers" c [(("width" : Str), a), (("inputs" : Str), b)] = [(("width" : Str), a), (("inputs" : Str), b), (("registers" : Str), c)] := rfl
  have e4 : putD "instructions" d [(("width" : Str), a), (("inputs" : Str), b), (("registers" : Str), c)] = codeF a b c d := rfl
  simp [c_Code__init, startD, S, e1, e2, e3, e4]
  exact gc_len (by simp)
/-! ### rows in the heap: a list of theirs is neither the stream nor the list of all rows -/
def RowQ (q n : Nat) (H : Hd) (x : D) : Prop := Pln (n + 1) x ∨ ∃ m ys, x = .ref m ∧ m ≠ 0 ∧ m ≠ q ∧ lstAt H m = some ys ∧ ∀ y ∈ ys, Pln n y
theorem RowQ.row {q n : Nat} {H : Hd} {x : D} (R : RowQ q n H x) : Row n H x := by
  rcases R with f | ⟨m, ys, e, _, _, e', k⟩
  · exact .inl f
  · exact .inr ⟨m, ys, e, e', k⟩
theorem RowQ.up {q n : Nat} {H : Hd} {x : D} (R : RowQ q n H x) : RowQ q (n + 1) H x := by
  rcases R with f | ⟨m, ys, e, a, b, e', k⟩
  · exact .inl f.up
  · exact .inr ⟨m, ys, e, a, b, e', fun y hy => (k y hy).up⟩
theorem RowQ.keep {q n : Nat} {H H' : Hd} {x : D} (R : RowQ q n H x) (s : ∀ m ys, m ≠ 0 → m ≠ q → lstAt H m = some ys → lstAt H' m = some ys) : RowQ q n H' x := by
  rcases R with f | ⟨m, ys, e, a, b, e', k⟩
  · exact .inl f
  · exact .inr ⟨m, ys, e, a, b, s m ys a b e', k⟩
/-- the stream at 0, the rows at q -/
structure SP (q n : Nat) (xs : List D) (H : Hd) : Prop where
  st : IsSt 0 H
  ne : q ≠ 0
  at_ : lstAt H q = some xs
  le : xs.length ≤ 63
  row : ∀ x ∈ xs, RowQ q n H x
theorem IsSt.app {n : Nat} {H : Hd} (s : IsSt n H) (l : Hd) : IsSt n (H ++ l) := by
  obtain ⟨a, b, s, e⟩ := s
  exact ⟨a, b, s, lst_old e l⟩
theorem SP.app {q n : Nat} {xs : List D} {H : Hd} (S : SP q n xs H) (l : Hd) : SP q n xs (H ++ l) := ⟨IsSt.app S.st l, S.ne, lst_old S.at_ l, S.le, fun x hx => (S.row x hx).keep fun m ys _ _ e => lst_old e l⟩
theorem SP.adv {q n : Nat} {xs : List D} {H H' : Hd} (S : SP q n xs H) (A : AdvL 0 H H') : SP q n xs H' := ⟨A.st S.st.lt, S.ne, A.lst S.at_ (Ne.symm S.ne), S.le, fun x hx => (S.row x hx).keep fun m ys a _ e => A.lst e (Ne.symm a)⟩
theorem SP.up {q n : Nat} {xs : List D} {H : Hd} (S : SP q n xs H) : SP q (n + 1) xs H := ⟨S.st, S.ne, S.at_, S.le, fun x hx => (S.row x hx).up⟩
theorem IsSt.set {q : Nat} {H : Hd} {c : Cell} (s : IsSt 0 H) (ne : q ≠ 0) : IsSt 0 (H.set q c) := by
  obtain ⟨a, b, s, e⟩ := s
  refine ⟨a, b, s, ?_⟩
  unfold lstAt at *
  rwa [List.getElem?_set_ne ne]
theorem lst_set {q m : Nat} {H : Hd} {c : Cell} {ys : List D} (e : lstAt H m = some ys) (ne : m ≠ q) : lstAt (H.set q c) m = some ys := by
  unfold lstAt at *
  rwa [List.getElem?_set_ne (Ne.symm ne)]
/-- other rows -/
theorem SP.put {q n : Nat} {xs ys : List D} {H : Hd} (S : SP q n xs H) (l : ys.length ≤ 63) (R : ∀ y ∈ ys, RowQ q n H y) : SP q n ys (H.set q (.lst ys)) := ⟨IsSt.set S.st S.ne, S.ne, r_set S.at_, l, fun y hy => (R y hy).keep fun m zs _ b e => lst_set e b⟩
theorem SP.rows {q n : Nat} {xs : List D} {H : Hd} (S : SP q n xs H) : ∀ x ∈ xs, Row n H x := fun x hx => (S.row x hx).row
theorem RowV.pln {q n : Nat} {H : Hd} {x : D} (R : RowV x) : RowQ q (n + 1) H x := by
  obtain ⟨xs, rfl, l, f⟩ := R
  refine .inl (.inr ⟨xs, rfl, ?_, fun y hy => (f y hy).pln⟩)
  have : 1 ≤ 3 ^ (n + 1) := Nat.pow_pos (by omega)
  omega
/-! ### is there a row at all -/
theorem canAll {f : Nat → PyData} : ∀ {xs : List D} {n : Nat}, (∀ x ∈ xs, (toPyF f x).canLay0 = true ∧ (toPyF f x).depth ≤ n) → PyData.canLayAll0 (toPysF f xs) = true ∧ PyData.depthAll (toPysF f xs) ≤ n
  | [], _, _ => by simp [toPysF, PyData.canLayAll0, PyData.depthAll]
  | x :: xs, n, k => by
    obtain ⟨a, b⟩ := canAll fun y hy => k y (List.mem_cons_of_mem _ hy)
    obtain ⟨c, d⟩ := k x List.mem_cons_self
    simp only [toPysF, PyData.canLayAll0, PyData.depthAll, a, c]
    exact ⟨rfl, by omega⟩
theorem row_py {n : Nat} {H : Hd} {x : D} (R : Row n H x) : (toPyF (refPy H 3) x).canLay0 = true ∧ (toPyF (refPy H 3) x).depth ≤ n + 1 := by
  rcases R with f | ⟨m, ys, rfl, e, k⟩
  · have s := f.sh []
    rw [toPyF_eq x s.1]
    exact s
  · have a := shs n [] fun y hy => (k y hy).sh
    have e2 : toPyF (refPy H 3) (.ref m) = .list (toPys [] ys) := by
      show (match lstAt H m with
        | some xs => PyData.list (toPysF (refPy H 2) xs)
        | none => .dict []) = _
      rw [e]
      show PyData.list (toPysF (refPy H 2) ys) = _
      rw [toPysF_eq ys a.1]
    rw [e2]
    simp only [PyData.canLay0, PyData.depth]
    exact ⟨a.1, by omega⟩
theorem eqV_none {q b n : Nat} {xs : List D} {H : Hd} (e : lstAt H q = some xs) (e' : lstAt H b = some []) (R : ∀ x ∈ xs, Row n H x) (hn : n ≤ 60) : eqV H (.ref q) (.ref b) = some xs.isEmpty := by
  have c := canAll fun x hx => row_py (R x hx)
  have t : ∀ {a : Nat} {zs : List D}, lstAt H a = some zs → toPyT H (.ref a) = .list (toPysF (refPy H 3) zs) := fun {a zs} e => by
    show (match lstAt H a with
      | some xs => PyData.list (toPysF (refPy H 3) xs)
      | none => .dict []) = _
    rw [e]
  unfold eqV
  rw [t e, t e']
  have q1 : SeqAt.shaped (.list (toPysF (refPy H 3) xs)) = true := by
    unfold SeqAt.shaped
    simp only [PyData.canLay0, PyData.depth, c.1, Bool.true_and]
    exact decide_eq_true (by have := c.2; omega)
  have q2 : SeqAt.shaped (.list (toPysF (refPy H 3) [])) = true := by simp [toPysF, SeqAt.shaped, PyData.canLay0, PyData.canLayAll0, PyData.depth, PyData.depthAll]
  rw [q1, q2]
  cases xs <;> simp [toPysF, PyData.eqv, PyData.eqvAll]
/-- the first wrong row, as the law looks for it -/
def dueF (w i r : Int) (xs : List D) : Int := (resF w i r 0 xs).getD (-2)
theorem resF_app {w i r : Int} (x : D) : ∀ (xs : List D) (j : Int), resF w i r j (xs ++ [x]) = (match resF w i r j xs with
    | some p => some p
    | none => if goodB w i r x then none else some (j + xs.length))
  | [], j => by simp [resF]
  | y :: xs, j => by
    have e1 : resF w i r j (y :: xs) = if goodB w i r y then resF w i r (j + 1) xs else some j := rfl
    have e2 : resF w i r j (y :: xs ++ [x]) = if goodB w i r y then resF w i r (j + 1) (xs ++ [x]) else some j := rfl
    rw [e1, e2, resF_app x xs (j + 1)]
    cases goodB w i r y with
    | true =>
      simp only [if_true]
      have e : j + 1 + (xs.length : Int) = j + ((y :: xs).length : Int) := by simp; omega
      rw [e]
    | false => simp
end
end K66
/-! K66i: k66's plain law: the law. -/
namespace K66
open PySem PV
section
variable {fuel : Nat}
theorem fix1 {H : Hd} {n : Nat} {xs : List D} (e : lstAt H n = some xs) : fixOk H [(n, xs)] = true := by
  unfold fixOk
  rw [e]
  simp [D.beqs_refl]
theorem cut_map {α : Type} (f : α → D) (xs : List α) (lo hi : Option Int) : cut (xs.map f) lo hi = (cut xs lo hi).map f := by
  unfold cut
  simp [List.map_drop, List.map_take]
theorem cut_mem' {α : Type} {xs : List α} {lo hi : Option Int} {y : α} (h : y ∈ cut xs lo hi) : y ∈ xs := List.mem_of_mem_drop (List.mem_of_mem_take h)
theorem cut_len' {α : Type} {xs : List α} {lo hi : Option Int} : (cut xs lo hi).length ≤ xs.length := by
  unfold cut
  rw [List.length_take, List.length_drop]
  omega
theorem ix_i {n : Nat} {p : Int} (h0 : 0 ≤ p) (h1 : p < n) : L2.ixN n p = some p.toNat := by
  have := ix_n (n := n) (i := p.toNat) (by omega)
  rwa [Int.toNat_of_nonneg h0] at this
theorem okV_of {lo hi j : Int} (a : lo ≤ j) (b : j ≤ hi) : okV lo hi (.int j) = true := by simp [okV, a, b]
theorem pl_rows {w i r : Int} {q n : Nat} {xs : List D} {H : Hd} (w1 : 2 ≤ w) (w2 : w ≤ 200) (i1 : 1 ≤ i) (i2 : i ≤ 100) (r1 : 1 ≤ r) (r2 : r ≤ 100) (hn : n ≤ 64) (S : SP q n xs H) : callI fns sub fuel 5 16 [.ref H.length] (H ++ [.obj 0 (codeF (.int w) (.int i) (.int r) (.tup xs))]) = .ok (.int (dueF w i r xs)) (H ++ [.obj 0 (codeF (.int w) (.int i) (.int r) (.tup xs))]) := by
  have c := c_rows (fuel := fuel) (k := 0) (o_off H 0 (codeF (.int w) (.int i) (.int r) (.tup xs)) []) (okV_of w1 w2) (okV_of i1 (by omega)) (okV_of r1 (by omega)) hn (S.app _).rows
  unfold dueF
  cases e : resF w i r 0 xs with
  | none =>
    rw [e] at c
    exact p_ok (k := 0) c
  | some p =>
    rw [e] at c
    exact p_ex (k := 0) c
theorem pl_bad {w i r ins : D} {c : Nat} {H : Hd} (ob : objAt H c = some (0, codeF w i r ins)) (nw : NoR w) (ni : NoR i) (nr : NoR r) (bd : (okV 2 200 w && (okV 1 10000 i && okV 1 10000 r)) = false) : callI fns sub fuel 5 16 [.ref c] H = .ok (.int (-1)) H := p_ex (k := 0) (c_head ob nw ni nr bd)
theorem pl_ins {w i r : Int} {ins : D} {c : Nat} {H : Hd} (ob : objAt H c = some (0, codeF (.int w) (.int i) (.int r) ins)) (hw : okV 2 200 (.int w) = true) (hi : okV 1 10000 (.int i) = true) (hr : okV 1 10000 (.int r) = true) (nt : isiV ins .tuple H = some false) : callI fns sub fuel 5 16 [.ref c] H = .ok (.int (-1)) H := p_ex (k := 0) (c_ins ob hw hi hr nt)
theorem nor_int (j : Int) : NoR (.int j) := by simp [NoR]
theorem mk1 (H : Hd) (x : Cell) (a b c d : D) : callI fns sub fuel 5 18 [.ref (H.length + 1), a, b, c, d] (H ++ [x, .obj 0 []]) = .ok .non (H ++ [x, .obj 0 (codeF a b c d)]) := by
  have := mk (fuel := fuel) (k := 4) (H ++ [x]) a b c d
  simpa using this
theorem mk2 (H : Hd) (x y : Cell) (a b c d : D) : callI fns sub fuel 5 18 [.ref (H.length + 2), a, b, c, d] (H ++ [x, y, .obj 0 []]) = .ok .non (H ++ [x, y, .obj 0 (codeF a b c d)]) := by
  have := mk (fuel := fuel) (k := 4) (H ++ [x, y]) a b c d
  simpa using this
theorem mk3 (H : Hd) (x y z : Cell) (a b c d : D) : callI fns sub fuel 5 18 [.ref (H.length + 3), a, b, c, d] (H ++ [x, y, z, .obj 0 []]) = .ok .non (H ++ [x, y, z, .obj 0 (codeF a b c d)]) := by
  have := mk (fuel := fuel) (k := 4) (H ++ [x, y, z]) a b c d
  simpa using this
theorem o1 (H : Hd) (x : Cell) (C : Nat) (fs : List (Str × D)) (l : Hd) : objAt (H ++ x :: .obj C fs :: l) (H.length + 1) = some (C, fs) := by
  have := o_off (H ++ [x]) C fs l
  simpa using this
theorem o2 (H : Hd) (x y : Cell) (C : Nat) (fs : List (Str × D)) (l : Hd) : objAt (H ++ x :: y :: .obj C fs :: l) (H.length + 2) = some (C, fs) := by
  have := o_off (H ++ [x, y]) C fs l
  simpa using this
theorem o3 (H : Hd) (x y z : Cell) (C : Nat) (fs : List (Str × D)) (l : Hd) : objAt (H ++ x :: y :: z :: .obj C fs :: l) (H.length + 3) = some (C, fs) := by
  have := o_off (H ++ [x, y, z]) C fs l
  simpa using this
theorem mk4 (H : Hd) (x y z u : Cell) (a b c d : D) : callI fns sub fuel 5 18 [.ref (H.length + 4), a, b, c, d] (H ++ [x, y, z, u, .obj 0 []]) = .ok .non (H ++ [x, y, z, u, .obj 0 (codeF a b c d)]) := by
  have := mk (fuel := fuel) (k := 4) (H ++ [x, y, z, u]) a b c d
  simpa using this
theorem o4 (H : Hd) (x y z u : Cell) (C : Nat) (fs : List (Str × D)) (l : Hd) : objAt (H ++ x :: y :: z :: u :: .obj C fs :: l) (H.length + 4) = some (C, fs) := by
  have := o_off (H ++ [x, y, z, u]) C fs l
  simpa using this
abbrev Pl : Po := ⟨noS, fun d _ => d = .bl true, noS, noS, fun _ _ _ => False⟩
theorem e_law {ns : List Int} (hn : Ints ns) (hl : ns.length ≤ 63) : ∃ h, callI fns sub fuel 6 17 [.fl (ns.map .int)] [] = .ok (.bl true) h := by
  rw [call_eq (code := c_law) rfl rfl]
  suffices key : WpS (exSs (evL fns sub fuel 5) c_law (startD 14 [.fl (ns.map .int)]) []) Pl by
    cases q : exSs (evL fns sub fuel 5) c_law (startD 14 [.fl (ns.map .int)]) [] with
    | rt d h =>
      rw [q] at key
      have e : d = .bl true := key
      subst e
      show ∃ h', gc [] (.bl true) h = _
      unfold gc
      split
      · exact ⟨_, rfl⟩
      · exact ⟨_, rfl⟩
    | _ => rw [q] at key; exact key.elim
  have c0 : ∀ h, callI fns sub fuel 5 6 [.fl (ns.map .int), .int 0] h = .ok (.int (cellI ns 0)) h := gc' (g_cell (k := 4) ns 0)
  simp [c_law, startD, arrD, c0]
  refine WpE_mono (w_stream (i := 7) rfl (cell_sz hn 0)) ?_ (fun _ _ z => z)
  rintro _ H0 ⟨rfl, a, b, sab, rfl⟩
  have s0 : IsSt 0 [stC a b] := ⟨a, b, sab, rfl⟩
  simp
  refine WpE_mono (l_width (k := 3) s0) ?_ (fun _ _ z => z)
  rintro _ H1 ⟨⟨w, rfl, w1, w2⟩, A1⟩
  have s1 := A1.st s0.lt
  simp
  refine WpE_mono (tk (k := 4) s1 (by decide) (by decide)) ?_ (fun _ _ z => z)
  rintro _ H2 ⟨i0, rfl, i1, i2, A2⟩
  have s2 := A2.st s1.lt
  simp
  refine WpE_mono (tk (k := 4) s2 (by decide) (by decide)) ?_ (fun _ _ z => z)
  rintro _ H3 ⟨r0, rfl, r1, r2, A3⟩
  have s3 := A3.st s2.lt
  simp
  have hq : H3.length = 1 := by rw [A3.len, A2.len, A1.len]; rfl
  generalize eq : H3.length = q at *
  have zq : q ≠ 0 := by omega
  let cs : List Int := cut ns (some 1) (some 31)
  have ecs : cut (ns.map D.int) (some 1) (some 31) = cs.map D.int := cut_map _ _ _ _
  have lcs : cs.length ≤ 63 := Nat.le_trans cut_len' hl
  rw [ecs]
  have w1' : 1 ≤ w := by omega
  have S0 : SP q 1 [] (H3 ++ [Cell.lst [], Cell.lst (cs.map D.int)]) := by
    refine ⟨IsSt.app s3 _, zq, ?_, by simp, by simp⟩
    rw [← eq]
    simp
  have Z0 : lstAt (H3 ++ [Cell.lst [], Cell.lst (cs.map D.int)]) (q + 1) = some (cs.map D.int) := by
    rw [← eq]
    simp
  refine WpS_for cs D.int (fun j s H => (∃ v6, s = [some (D.fl (List.map D.int ns)), some (D.ref 0), some (D.int w), some (D.int (1 + i0)), some (D.int (1 + r0)), some (D.ref q), v6, none, none, none, none, none, none, none]) ∧ ∃ xs, SP q 1 xs H ∧ xs.length = j ∧ lstAt H (q + 1) = some (cs.map D.int)) rfl ⟨⟨none, rfl⟩, [], S0, rfl, Z0⟩ ?_ ?_
  · rintro j hj _ H ⟨⟨v6, rfl⟩, xs, S, lx, Z⟩
    refine ⟨fix1 Z, _, bindG_nm _ _ _, ?_⟩
    have mem : cs[j] ∈ ns := cut_mem' (List.getElem_mem hj)
    simp [arrD, S.at_]
    refine WpE_mono (w_stream (i := 7) (h := H) rfl (hn _ mem)) ?_ (fun _ _ z => z)
    rintro _ G1 ⟨rfl, a1, b1, sab1, rfl⟩
    have st1 : IsSt H.length (H ++ [stC a1 b1]) := ⟨a1, b1, sab1, lst_new _ _⟩
    simp
    refine WpE_mono (l_row (k := 2) w1' w2 (by omega) (by omega) (by omega) (by omega) st1) ?_ (fun _ _ z => z)
    rintro row G2 ⟨rv, a2, b2, sab2, e2⟩
    have e2 : G2 = H ++ [stC a2 b2] := by rw [e2, List.set_append_right _ _ (Nat.le_refl _), Nat.sub_self]; rfl
    have S2 : SP q 1 xs G2 := e2 ▸ S.app _
    have Z2 : lstAt G2 (q + 1) = some (cs.map D.int) := e2 ▸ lst_old Z _
    have lt : decide (xs.length < line) = true := decide_eq_true (Nat.lt_of_le_of_lt S.le (by decide))
    simp [S2.at_, lt]
    refine ⟨xs ++ [row], S2.put (by simp; omega) ?_, by simp; omega, lst_set Z2 (by omega)⟩
    intro y hy
    rcases List.mem_append.mp hy with g | g
    · exact S2.row y g
    · rw [List.mem_singleton.mp g]
      exact RowV.pln rv
  rintro _ H4 ⟨⟨v6, rfl⟩, xs0, S4, _, Z4⟩
  refine ⟨fix1 Z4, ?_⟩
  simp [arrD]
  refine WpE_mono (tk (k := 4) S4.st (by decide) (by decide)) ?_ (fun _ _ z => z)
  rintro _ H5 ⟨t, rfl, t0, t1, A5⟩
  have S5 := S4.adv A5.toL
  have et : t = (t.toNat : Int) := by omega
  have tn : t.toNat ≤ 2 := by omega
  generalize t.toNat = tt at et tn
  subst et
  simp [rngV_k rfl (show tt ≤ 1000000 by omega)]
  refine WpS_rng tt (fun j s H => (∃ v6 v7 v8 v9, s = [some (D.fl (List.map D.int ns)), some (D.ref 0), some (D.int w), some (D.int (1 + i0)), some (D.int (1 + r0)), some (D.ref q), v6, v7, v8, v9, none, none, none, none]) ∧ ∃ xs, SP q (1 + j) xs H) ⟨⟨_, _, _, _, rfl⟩, xs0, S5⟩ ?_ ?_
  · rintro j hj _ H ⟨⟨v6, v7, v8, v9, rfl⟩, xs, S⟩
    refine ⟨_, bindG_nm _ _ _, ?_⟩
    have ee : eqV (H ++ [.lst []]) (.ref q) (.ref H.length) = some xs.isEmpty := eqV_none (S.app _).at_ (lst_new _ _) (S.app _).rows (by omega)
    have ej : 1 + (j + 1) = 1 + j + 1 := by omega
    cases emp : xs.isEmpty with
    | true =>
      rw [emp] at ee
      simp [ee]
      exact ⟨xs, ej ▸ (S.app _).up⟩
    | false =>
      rw [emp] at ee
      have l0 : 0 < xs.length := by
        cases xs with
        | nil => cases emp
        | cons _ _ => simp
      have S6 := S.app [.lst []]
      simp [ee, arrD, S6.at_]
      refine WpE_mono (tk (k := 4) S6.st (by omega) (by have := S.le; have : (100 : Int) < 2 ^ 256 := by decide
                                                        omega)) ?_ (fun _ _ z => z)
      rintro _ H7 ⟨p, rfl, p0, p1, A7⟩
      have S7 := S6.adv A7.toL
      obtain ⟨x, mx, ex⟩ := at_mem p0 p1
      simp [S7.at_, ex]
      by_cases tx : ∃ ys, x = .tup ys ∧ ys ≠ []
      · obtain ⟨ys, rfl, ny⟩ := tx
        have ly : 0 < ys.length := List.length_pos_iff.mpr ny
        have pl : Pln (1 + j + 1) (.tup ys) := by
          rcases S7.row _ mx with f | ⟨_, _, e, _⟩
          · exact f
          · cases e
        simp [ly, arrD]
        refine WpE_mono (l_spoilt (k := 3) (i := 1 + i0) (r := 1 + r0) (m := 1 + j) w1' w2 (by omega) (by omega) pl.len ny pl.mem S7.st) ?_ (fun _ _ z => z)
        rintro d H8 ⟨⟨R8, fr⟩, A8⟩
        have S8 := S7.adv A8
        have ql := lst_lt S7.at_
        simp [r_sub _ _ S8.at_, ix_i p0 p1]
        refine ⟨xs.set p.toNat d, ej ▸ S8.up.put (by simpa using S8.le) ?_⟩
        intro y hy
        rcases List.mem_or_eq_of_mem_set hy with g | rfl
        · exact S8.up.row y g
        · rcases R8 with f | ⟨m', zs, rfl, e, kk⟩
          · exact .inl f
          · have := fr m' rfl
            exact .inr ⟨m', zs, rfl, by omega, by omega, e, kk⟩
      · have S9 : SP q (1 + (j + 1)) xs H7 := ej ▸ S7.up
        rcases row_cases (w := w) (i := 1) (r := 1) (S7.rows x mx) with ⟨e1, _, _⟩ | rfl | ⟨a, rfl⟩ | ⟨a, o, ys, rfl, _⟩
        · simp [e1]
          exact ⟨xs, S9⟩
        · simp
          exact ⟨xs, S9⟩
        · exact (tx ⟨_, rfl, by simp⟩).elim
        · exact (tx ⟨_, rfl, by simp⟩).elim
  rintro _ H9 ⟨⟨v6, v7, v8, v9, rfl⟩, xs, S⟩
  have lx := S.le
  simp [S.at_, rngV_k rfl (show xs.length ≤ 1000000 by omega)]
  refine WpS_rng xs.length (fun j s H => H = H9 ∧ ∃ v7, s = [some (D.fl (List.map D.int ns)), some (D.ref 0), some (D.int w), some (D.int (1 + i0)), some (D.int (1 + r0)), some (D.ref q), v6, v7, v8, v9, some (.int (dueF w (1 + i0) (1 + r0) (xs.take j))), none, none, none]) ⟨rfl, _, rfl⟩ ?_ ?_
  · rintro j hj _ H ⟨rfl, v7, rfl⟩
    refine ⟨_, bindG_nm _ _ _, ?_⟩
    have rg := r_good (fuel := fuel) (k := 3) (i := 1 + i0) (r := 1 + r0) w1' w2 (by omega) (S.rows xs[j] (List.getElem_mem hj))
    have ra : dueF w (1 + i0) (1 + r0) (xs.take (j + 1)) = (match resF w (1 + i0) (1 + r0) 0 (xs.take j) with
      | some p => p
      | none => if goodB w (1 + i0) (1 + r0) xs[j] then -2 else (j : Int)) := by
      unfold dueF
      rw [List.take_succ_eq_append_getElem hj, resF_app]
      cases resF w (1 + i0) (1 + r0) 0 (xs.take j) with
      | some p => rfl
      | none =>
        have e : (xs.take j).length = j := by rw [List.length_take]; omega
        rw [e]
        cases goodB w (1 + i0) (1 + r0) xs[j] <;> simp
    rw [ra]
    have rb : dueF w (1 + i0) (1 + r0) (xs.take j) = (resF w (1 + i0) (1 + r0) 0 (xs.take j)).getD (-2) := rfl
    rw [rb]
    cases e : resF w (1 + i0) (1 + r0) 0 (xs.take j) with
    | some p =>
      have := resF_lt (Int.le_refl 0) e
      have ne : ¬ p = -2 := by omega
      simp [ne]
    | none =>
      cases g : goodB w (1 + i0) (1 + r0) xs[j] with
      | true =>
        rw [g] at rg
        simp [S.at_, at_n hj, arrD, rg]
      | false =>
        rw [g] at rg
        simp [S.at_, at_n hj, arrD, rg]
  rintro _ H ⟨rfl, v7, rfl⟩
  rw [List.take_length]
  have P1 := pl_rows (fuel := fuel) (i := 1 + i0) (r := 1 + r0) w1 w2 (by omega) (by omega) (by omega) (by omega) (by omega : 1 + tt ≤ 64) S
  have MK := fun H a b c d => mk (fuel := fuel) (k := 4) H a b c d
  have MK1 := fun H x a b c d => mk1 (fuel := fuel) H x a b c d
  have MK2 := fun H x y a b c d => mk2 (fuel := fuel) H x y a b c d
  have MK3 := fun H x y z a b c d => mk3 (fuel := fuel) H x y z a b c d
  have vw : okV 2 200 (.int w) = true := okV_of w1 w2
  have vi : okV 1 10000 (.int (1 + i0)) = true := okV_of (by omega) (by omega)
  have vr : okV 1 10000 (.int (1 + r0)) = true := okV_of (by omega) (by omega)
  simp [S.at_, MK, arrD, P1]
  have n7 : decide ((7 : Nat) ≤ line) = true := by decide
  have n8 : decide ((8 : Nat) ≤ line) = true := by decide
  have n1 : decide ((1 : Nat) ≤ line) = true := by decide
  let bads : List D := [.int 0, .int (-1), .int 10001, .non, .bl true, .str "2", .tup [.int 2]]
  have S11 := S.app [.obj 0 (codeF (.int w) (.int (1 + i0)) (.int (1 + r0)) (.tup xs)), .lst bads]
  simp [n1, n7, arrD]
  refine WpE_mono (tk (k := 4) S11.st (by decide) (by decide)) ?_ (fun _ _ z => z)
  rintro _ G1 ⟨p, rfl, p0, p1, B1⟩
  have S12 := S11.adv B1.toL
  have e1 : lstAt G1 (H.length + 1) = some bads := B1.lst (by simp [bads]) (by omega)
  obtain ⟨bd, mbd, ebd⟩ := at_mem (xs := bads) p0 (by show p < (7 : Nat); exact p1)
  have hbd : NoR bd ∧ okV 1 10000 bd = false := by
    simp only [bads, List.mem_cons, List.not_mem_nil, or_false] at mbd
    rcases mbd with rfl | rfl | rfl | rfl | rfl | rfl | rfl <;> simp [NoR, okV]
  let wides : List D := [.int 1, .int 0, .int 201, .int (-2), .non, .bl true, .str "8", .tup [.int 8]]
  have S13 := S12.app [.lst wides]
  simp [e1, ebd, n1, n8, arrD]
  refine WpE_mono (tk (k := 4) S13.st (by decide) (by decide)) ?_ (fun _ _ z => z)
  rintro _ G2 ⟨p', rfl, p0', p1', B2⟩
  have S14 := S13.adv B2.toL
  have e2 : lstAt G2 G1.length = some wides := B2.lst (lst_new _ _) (by have := S12.st.lt; omega)
  obtain ⟨wd, mwd, ewd⟩ := at_mem (xs := wides) p0' (by show p' < (8 : Nat); exact p1')
  have hwd : NoR wd ∧ okV 2 200 wd = false := by
    simp only [wides, List.mem_cons, List.not_mem_nil, or_false] at mwd
    rcases mwd with rfl | rfl | rfl | rfl | rfl | rfl | rfl | rfl <;> simp [NoR, okV]
  have S14a := S14.app [.obj 0 (codeF wd (.int (1 + i0)) (.int (1 + r0)) (.tup xs))]
  simp [e2, ewd, S14.at_, S14a.at_, MK, MK1]
  have Z3 : lstAt (G2 ++ [.obj 0 (codeF wd (.int (1 + i0)) (.int (1 + r0)) (.tup xs)), .obj 0 (codeF (.int w) bd (.int (1 + r0)) (.tup xs)), .lst [.ref G2.length, .ref (G2.length + 1)]]) (G2.length + 2) = some [.ref G2.length, .ref (G2.length + 1)] := by simp
  have Q1 := pl_bad (fuel := fuel) (o_off G2 0 (codeF wd (.int (1 + i0)) (.int (1 + r0)) (.tup xs)) [.obj 0 (codeF (.int w) bd (.int (1 + r0)) (.tup xs)), .lst [.ref G2.length, .ref (G2.length + 1)]]) hwd.1 (nor_int _) (nor_int _) (by rw [hwd.2]; rfl)
  have Q2 := pl_bad (fuel := fuel) (o1 G2 (.obj 0 (codeF wd (.int (1 + i0)) (.int (1 + r0)) (.tup xs))) 0 (codeF (.int w) bd (.int (1 + r0)) (.tup xs)) [.lst [.ref G2.length, .ref (G2.length + 1)]]) (nor_int _) hbd.1 (nor_int _) (by rw [hbd.2, vw]; rfl)
  have S15 := S14.app [.obj 0 (codeF wd (.int (1 + i0)) (.int (1 + r0)) (.tup xs)), .obj 0 (codeF (.int w) bd (.int (1 + r0)) (.tup xs)), .lst [.ref G2.length, .ref (G2.length + 1)]]
  generalize (G2 ++ [Cell.obj 0 (codeF wd (D.int (1 + i0)) (D.int (1 + r0)) (D.tup xs)), Cell.obj 0 (codeF (D.int w) bd (D.int (1 + r0)) (D.tup xs)), Cell.lst [D.ref (List.length G2), D.ref (List.length G2 + 1)]]) = G3 at *
  have F3 := fix1 Z3
  have Q3 := pl_bad (fuel := fuel) (o_off G3 0 (codeF (.int w) (.int (1 + i0)) bd (.tup xs)) []) (nor_int _) (nor_int _) hbd.1 (by rw [hbd.2, vw, vi]; rfl)
  simp [loopF_cons, F3, arrD, Q1, Q2, loopF_nil F3, S15.at_, MK, Q3]
  let c3 : Cell := .obj 0 (codeF (.int w) (.int (1 + i0)) bd (.tup xs))
  have S16 := S15.app [c3]
  have MK4 := fun H x y z u a b c d => mk4 (fuel := fuel) H x y z u a b c d
  let c4 : Cell := .obj 0 (codeF (.int w) (.int (1 + i0)) (.int (1 + r0)) (.ref (G3.length + 1)))
  have Q4 := pl_ins (fuel := fuel) (o2 G3 c3 (.lst xs) 0 (codeF (.int w) (.int (1 + i0)) (.int (1 + r0)) (.ref (G3.length + 1))) []) vw vi vr (by
    show (lstAt _ (G3.length + 1)).map _ = _
    simp)
  have Q5 := pl_ins (fuel := fuel) (o3 G3 c3 (.lst xs) c4 0 (codeF (.int w) (.int 1) (.int 1) .non) []) vw (by decide) (by decide) rfl
  let c5 : Cell := .obj 0 (codeF (.int w) (.int 1) (.int 1) .non)
  let row : D := .tup [.str "load", .int 9999, .int 9999]
  have Q6 := c_rows (fuel := fuel) (k := 0) (xs := [row]) (n := 1) (o4 G3 c3 (.lst xs) c4 c5 0 (codeF (.int 200) (.int 10000) (.int 10000) (.tup [row])) []) (by decide) (by decide) (by decide) (by decide) (by
    intro x hx
    rw [List.mem_singleton.mp hx]
    refine .inl (.inr ⟨_, rfl, by simp, ?_⟩)
    intro y hy
    simp only [List.mem_cons, List.not_mem_nil, or_false] at hy
    rcases hy with rfl | rfl | rfl
    · exact .inl ok_load
    · exact .inl trivial
    · exact .inl trivial)
  have g : resF 200 10000 10000 0 [row] = none := by decide +kernel
  rw [g] at Q6
  have Q7 := p_ok (k := 0) Q6
  simp [S16.at_, S15.at_, MK2, MK3, MK4, arrD, c3, c4, c5, row, n1] at Q4 Q5 Q7 ⊢
  simp [Q4, Q5, Q7, arrD, MK3, MK4, n1]
end
end K66
open PySem PySem.W PySem.Calls in
theorem PySem.Challenge.cw_kinkatlas_k66_code_is_checked_holds : PySem.Challenge.rw_kinkatlas_k66_code_is_checked.Holds := by
  refine K66.done (fuel := 1) (k := 5) ⟨by decide, by decide, by decide⟩ fun ns hl hb => K66.e_law (fun z hz => PV.sz_bits (hb z hz)) hl
