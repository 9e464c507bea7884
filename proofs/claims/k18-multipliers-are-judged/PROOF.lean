import PyProof.Rows.All
import HandS.ForMost
import HandS.TupAny
import HandS.TupMul
import HandS.Wide
import HandS.Exc
import HandS.ExcOwn
import HandS.CallSlots
import HandS.Flow
import HandS.Gcd
import HandS.Zip
import HandS.IsInst
import HandS.Defaults
import HandS.ExcIs
import HandS.ExcField
import PyProof.ExcBaseAll.ValueError
import HandS.ExcInit
import HandS.TryOnly
import HandS.Ends
import HandS.EndBits
import HandS.HeadEnd
import HandS.Head0
import HandS.Head1
import HandS.Head2
import HandS.Head3
import HandS.Codes
import HandS.HeadHook1
import HandS.HeadHook2
import HandS.HeadHook3
import HandS.HeadHook4
import PySem.Challenge.RW_kinkatlas_k18_multipliers_are_judged
set_option Elab.async false
set_option linter.all false
set_option maxRecDepth 100000
set_option maxHeartbeats 0
/-! PVA: deep values, position-free code, the pure evaluator. -/
namespace PV
open PySem

/-- deep values: a list, an object is a place n of the deep heap -/
inductive D where
  | non | bl (b : Bool) | int (i : Int) | str (s : Str) | tup (xs : List D) | fl (xs : List D) | ref (n : Nat)

inductive Cell where
  | lst (xs : List D) | obj (C : Nat) (fs : List (Str × D)) | dct (kvs : List (L2.Key × D))
abbrev Hd := List Cell
abbrev Sl := List (Option D)
structure Exn where
  cls : Nat
  fs : List (Str × D)
inductive Out (α : Type) where
  | ok (a : α) (h : Hd) | ex (e : Exn) (h : Hd) | no
def Out.bind {α β : Type} : Out α → (α → Hd → Out β) → Out β
  | .ok a h, f => f a h
  | .ex e h, _ => .ex e h
  | .no, _ => .no

/-! ### equality of deep values -/
mutual
def D.beq : D → D → Bool
  | .non, .non => true
  | .bl a, .bl b => a == b
  | .int a, .int b => a == b
  | .str a, .str b => a == b
  | .ref a, .ref b => a == b
  | .tup a, .tup b => D.beqs a b
  | .fl a, .fl b => D.beqs a b
  | _, _ => false
def D.beqs : List D → List D → Bool
  | [], [] => true
  | x :: xs, y :: ys => D.beq x y && D.beqs xs ys
  | _, _ => false
end
mutual
theorem D.beq_refl : ∀ d : D, D.beq d d = true
  | .non => by simp [D.beq]
  | .bl _ => by simp [D.beq]
  | .int _ => by simp [D.beq]
  | .str _ => by simp [D.beq]
  | .ref _ => by simp [D.beq]
  | .tup xs => by simp only [D.beq]; exact D.beqs_refl xs
  | .fl xs => by simp only [D.beq]; exact D.beqs_refl xs
theorem D.beqs_refl : ∀ xs : List D, D.beqs xs xs = true
  | [] => by simp [D.beqs]
  | x :: xs => by simp only [D.beqs, D.beq_refl x, D.beqs_refl xs, Bool.and_self]
end
mutual
theorem D.eq_of_beq : ∀ a b : D, D.beq a b = true → a = b
  | .non, b, h => by cases b <;> simp [D.beq] at h <;> rfl
  | .bl _, b, h => by cases b <;> simp [D.beq] at h; rw [h]
  | .int _, b, h => by cases b <;> simp [D.beq] at h; rw [h]
  | .str _, b, h => by cases b <;> simp [D.beq] at h; rw [h]
  | .ref _, b, h => by cases b <;> simp [D.beq] at h; rw [h]
  | .tup xs, b, h => by
    cases b with
    | tup ys => simp only [D.beq] at h; rw [D.eq_of_beqs xs ys h]
    | _ => simp [D.beq] at h
  | .fl xs, b, h => by
    cases b with
    | fl ys => simp only [D.beq] at h; rw [D.eq_of_beqs xs ys h]
    | _ => simp [D.beq] at h
theorem D.eq_of_beqs : ∀ a b : List D, D.beqs a b = true → a = b
  | [], b, h => by cases b <;> simp [D.beqs] at h <;> rfl
  | x :: xs, b, h => by
    cases b with
    | nil => simp [D.beqs] at h
    | cons y ys =>
      simp only [D.beqs, Bool.and_eq_true] at h
      rw [D.eq_of_beq x y h.1, D.eq_of_beqs xs ys h.2]
end
/-! every place it names is below n -/
mutual
def D.lt (n : Nat) : D → Bool
  | .ref k => decide (k < n)
  | .tup xs => D.lts n xs
  | .fl xs => D.lts n xs
  | _ => true
def D.lts (n : Nat) : List D → Bool
  | [] => true
  | x :: xs => D.lt n x && D.lts n xs
end
def fsLt (n : Nat) : List (Str × D) → Bool
  | [] => true
  | x :: xs => D.lt n x.2 && fsLt n xs
def kvLt (n : Nat) : List (L2.Key × D) → Bool
  | [] => true
  | x :: xs => D.lt n x.2 && kvLt n xs
def Cell.lt (n : Nat) : Cell → Bool
  | .lst xs => D.lts n xs
  | .obj _ fs => fsLt n fs
  | .dct kvs => kvLt n kvs
def fsBeq : List (Str × D) → List (Str × D) → Bool
  | [], [] => true
  | x :: xs, y :: ys => x.1 == y.1 && D.beq x.2 y.2 && fsBeq xs ys
  | _, _ => false
def kvBeq : List (L2.Key × D) → List (L2.Key × D) → Bool
  | [], [] => true
  | x :: xs, y :: ys => decide (x.1 = y.1) && D.beq x.2 y.2 && kvBeq xs ys
  | _, _ => false
theorem fsBeq_refl : ∀ xs, fsBeq xs xs = true
  | [] => rfl
  | x :: xs => by simp [fsBeq, D.beq_refl, fsBeq_refl xs]
theorem kvBeq_refl : ∀ xs, kvBeq xs xs = true
  | [] => rfl
  | x :: xs => by simp [kvBeq, D.beq_refl, kvBeq_refl xs]
theorem eq_of_fsBeq : ∀ a b, fsBeq a b = true → a = b
  | [], b, h => by cases b <;> simp [fsBeq] at h <;> rfl
  | (f, x) :: xs, b, h => by
    cases b with
    | nil => simp [fsBeq] at h
    | cons y ys =>
      obtain ⟨g, y⟩ := y
      simp only [fsBeq, Bool.and_eq_true, beq_iff_eq] at h
      rw [h.1.1, D.eq_of_beq x y h.1.2, eq_of_fsBeq xs ys h.2]
theorem eq_of_kvBeq : ∀ a b, kvBeq a b = true → a = b
  | [], b, h => by cases b <;> simp [kvBeq] at h <;> rfl
  | (f, x) :: xs, b, h => by
    cases b with
    | nil => simp [kvBeq] at h
    | cons y ys =>
      obtain ⟨g, y⟩ := y
      simp only [kvBeq, Bool.and_eq_true, decide_eq_true_eq] at h
      rw [h.1.1, D.eq_of_beq x y h.1.2, eq_of_kvBeq xs ys h.2]
def Cell.beq : Cell → Cell → Bool
  | .lst a, .lst b => D.beqs a b
  | .obj C a, .obj E b => C == E && fsBeq a b
  | .dct a, .dct b => kvBeq a b
  | _, _ => false
theorem Cell.beq_refl : ∀ c : Cell, Cell.beq c c = true
  | .lst xs => D.beqs_refl xs
  | .obj C fs => by simp [Cell.beq, fsBeq_refl]
  | .dct kvs => kvBeq_refl kvs
theorem Cell.eq_of_beq : ∀ a b : Cell, Cell.beq a b = true → a = b
  | .lst xs, b, h => by cases b <;> simp [Cell.beq] at h; rw [D.eq_of_beqs _ _ h]
  | .obj C fs, b, h => by
    cases b <;> simp [Cell.beq] at h
    rw [h.1, eq_of_fsBeq _ _ h.2]
  | .dct kvs, b, h => by cases b <;> simp [Cell.beq] at h; rw [eq_of_kvBeq _ _ h]

/-! ### a def's end: what it made and let go is dropped -/
def keepsCells (n : Nat) : Hd → Hd → Bool
  | [], _ => true
  | _ :: _, [] => false
  | a :: r, b :: s => (Cell.beq a b || Cell.lt n b) && keepsCells n r s
/-- h: the heap at the entry -/
def gcOk (h : Hd) (h' : Hd) : Bool := keepsCells h.length h h'
def gc (h : Hd) (d : D) (h' : Hd) : Out D := if gcOk h h' && D.lt h.length d then .ok d (h'.take h.length) else .ok d h'
def gcE (h : Hd) (e : Exn) (h' : Hd) : Out D := if gcOk h h' && fsLt h.length e.fs then .ex e (h'.take h.length) else .ex e h'

/-! ### operations by values -/
abbrev line : Nat := 16777216
def mulOk (i j : Int) : Bool := decide (i.natAbs.log2 + j.natAbs.log2 < 100000000)
def divOk (i j : Int) : Bool := decide (j ≠ 0) && !Builtin.divisionGoesByPylong i j
def powOk (i j : Int) : Bool := decide (0 ≤ j) && decide (((i.natAbs.log2 + 1 : Nat) : Int) * j ≤ 100000000)
def shlOk (i j : Int) : Bool := decide (0 ≤ j) && decide (((i.natAbs.log2 + 1 : Nat) : Int) + j ≤ 100000000)
def ret {α : Type} (c : Bool) (a : α) (h : Hd) : Out α := match c with
  | true => .ok a h
  | false => .no
def newL (xs : List D) (h : Hd) : Out D := .ok (.ref h.length) (h ++ [.lst xs])
def newLc (c : Bool) (xs : List D) (h : Hd) : Out D := match c with
  | true => newL xs h
  | false => .no
/-- the list at a place -/
def lstAt (h : Hd) (n : Nat) : Option (List D) := match h[n]? with
  | some (.lst xs) => some xs
  | _ => none

def addV (x y : D) (h : Hd) : Out D := match x, y with
  | .int i, .int j => .ok (.int (i + j)) h
  | .str a, .str b => ret (decide (a.length + b.length ≤ line)) (.str (a ++ b)) h
  | .tup a, .tup b => ret (decide (a.length + b.length ≤ line)) (.tup (a ++ b)) h
  | .ref a, .ref b => match lstAt h a, lstAt h b with
    | some xs, some ys => newLc (decide (xs.length + ys.length ≤ line)) (xs ++ ys) h
    | _, _ => .no
  | _, _ => .no
def mulV (x y : D) (h : Hd) : Out D := match x, y with
  | .int i, .int j => ret (mulOk i j) (.int (i * j)) h
  | .tup xs, .int k => ret (decide (k ≤ 1000) && decide (-1000 ≤ k) && decide (xs.length ≤ 1000)) (.tup (List.replicate k.toNat xs).flatten) h
  | .ref a, .int k => match lstAt h a with
    | some xs => newLc (decide (k ≤ 1000) && decide (-1000 ≤ k) && decide (xs.length ≤ 1000)) (List.replicate k.toNat xs).flatten h
    | _ => .no
  | _, _ => .no
def binV (op : Operator) (x y : D) (h : Hd) : Out D := match op with
  | .Add => addV x y h
  | .Mult => mulV x y h
  | .Sub => match x, y with
    | .int i, .int j => .ok (.int (i - j)) h
    | _, _ => .no
  | .FloorDiv => match x, y with
    | .int i, .int j => ret (divOk i j) (.int (i.fdiv j)) h
    | _, _ => .no
  | .Mod => match x, y with
    | .int i, .int j => ret (decide (j ≠ 0)) (.int (i.fmod j)) h
    | _, _ => .no
  | .Pow => match x, y with
    | .int i, .int j => ret (powOk i j) (.int (i ^ j.toNat)) h
    | _, _ => .no
  | .LShift => match x, y with
    | .int i, .int j => ret (shlOk i j) (.int (i * 2 ^ j.toNat)) h
    | _, _ => .no
  | _ => .no
def negV (x : D) (h : Hd) : Out D := match x with
  | .int i => .ok (.int (-i)) h
  | _ => .no

mutual
def toPy (h : Hd) : D → PyData
  | .non => .none
  | .bl b => .bool b
  | .int i => .int i
  | .str s => .str s
  | .tup xs => .tuple (toPys h xs)
  | .fl xs => .list (toPys h xs)
  | .ref _ => .dict []
def toPys (h : Hd) : List D → List PyData
  | [] => []
  | x :: xs => toPy h x :: toPys h xs
end
/-- at the top a list, too -/
def toPyT (h : Hd) : D → PyData
  | .ref n => match lstAt h n with
    | some xs => .list (toPys h xs)
    | none => .dict []
  | d => toPy h d

def flatD : D → Bool
  | .non | .bl _ | .int _ | .str _ => true
  | _ => false
def toV : D → L2.V
  | .bl b => .bl b
  | .int i => .int i
  | .str s => .str s
  | _ => .non
def truthD (h : Hd) : D → Option Bool
  | .non => some false
  | .bl b => some b
  | .int i => some (i != 0)
  | .str s => if s.length ≤ line then some ((s.length : Int) != 0) else none
  | .tup xs => some (!xs.isEmpty)
  | .fl xs => some (!xs.isEmpty)
  | .ref n => match lstAt h n with
    | some xs => some (!xs.isEmpty)
    | none => none
def eqV (h : Hd) (x y : D) : Option Bool :=
  if SeqAt.shaped (toPyT h x) && SeqAt.shaped (toPyT h y) then some (PyData.eqv (toPyT h x) (toPyT h y)) else none
/-- x in y -/
def inV (h : Hd) (x y : D) : Option Bool := match y with
  | .tup xs => if flatD x && xs.all flatD then some (L2.inV (toV x) (xs.map toV)) else none
  | .fl xs => if flatD x && xs.all flatD then some (L2.inV (toV x) (xs.map toV)) else none
  | .ref n => match lstAt h n with
    | some xs => if flatD x && xs.all flatD then some (L2.inV (toV x) (xs.map toV)) else none
    | none => none
  | .str z => match x with
    | .str i => some (!(Builtin.Str.occurrences z i 0 z.length 1).isEmpty)
    | _ => none
  | _ => none
def isV (x y : D) : Option Bool := match x, y with
  | .non, .non => some true
  | .bl a, .bl b => some (a == b)
  | .non, .bl _ => some false
  | .bl _, .non => some false
  | .int _, .non => some false
  | .str _, .non => some false
  | .tup _, .non => some false
  | .fl _, .non => some false
  | .ref _, .non => some false
  | _, _ => none
def cmpV (op : CmpOp) (h : Hd) (x y : D) : Option Bool := match op with
  | .Eq => eqV h x y
  | .NotEq => (eqV h x y).map not
  | .Lt => match x, y with
    | .int i, .int j => some (decide (i < j))
    | _, _ => none
  | .LtE => match x, y with
    | .int i, .int j => some (decide (i ≤ j))
    | _, _ => none
  | .Gt => match x, y with
    | .int i, .int j => some (decide (j < i))
    | _, _ => none
  | .GtE => match x, y with
    | .int i, .int j => some (decide (j ≤ i))
    | _, _ => none
  | .Is => isV x y
  | .IsNot => (isV x y).map not
  | .In => inV h x y
  | .NotIn => (inV h x y).map not
def boolO (h : Hd) : Option Bool → Out D
  | some b => .ok (.bl b) h
  | none => .no
def testO (h : Hd) : Option Bool → Out Bool
  | some b => .ok b h
  | none => .no
/-- x[i] -/
def idxV (x i : D) (h : Hd) : Out D := match i with
  | .int k => match x with
    | .tup xs => match L2.atI xs k with
      | some d => .ok d h
      | none => .no
    | .fl xs => match L2.atI xs k with
      | some d => .ok d h
      | none => .no
    | .ref n => match lstAt h n with
      | some xs => match L2.atI xs k with
        | some d => .ok d h
        | none => .no
      | none => .no
    | .str z => match L2.atI z.cps.toList k with
      | some c => ret (decide (z.length ≤ line)) (.str ⟨#[c]⟩) h
      | none => .no
    | _ => .no
  | _ => .no
def cut {α : Type} (xs : List α) (lo hi : Option Int) : List α := (xs.drop (HT.sIx xs.length 0 lo)).take (HT.sIx xs.length xs.length hi - HT.sIx xs.length 0 lo)
def slV (x : D) (lo hi : Option Int) (h : Hd) : Out D := match x with
  | .tup xs => .ok (.tup (cut xs lo hi)) h
  | .fl xs => newL (cut xs lo hi) h
  | .ref n => match lstAt h n with
    | some xs => newL (cut xs lo hi) h
    | none => .no
  | .str z => ret (decide (z.length ≤ line)) (.str ⟨(cut z.cps.toList lo hi).toArray⟩) h
  | _ => .no

/-! ### built-in functions -/
inductive BI where
  | int | abs | len | tuple | list | max | min | all | any | gcd | str
inductive Ty where
  | int | bool | str | tuple | list | cls (n : Nat)
def bls : List D → Option (List Bool)
  | [] => some []
  | .bl b :: r => (bls r).map (b :: ·)
  | _ => none
def biV (b : BI) (xs : List D) (h : Hd) : Out D := match b, xs with
  | .int, [.int i] => .ok (.int i) h
  | .int, [.bl k] => .ok (.int (if k then 1 else 0)) h
  | .abs, [.int i] => .ok (.int (if i < 0 then -i else i)) h
  | .len, [.tup xs] => .ok (.int xs.length) h
  | .len, [.fl xs] => .ok (.int xs.length) h
  | .len, [.str z] => ret (decide (z.length ≤ line)) (.int z.length) h
  | .len, [.ref n] => match lstAt h n with
    | some xs => .ok (.int xs.length) h
    | none => .no
  | .tuple, [.tup xs] => .ok (.tup xs) h
  | .tuple, [.fl xs] => .ok (.tup xs) h
  | .tuple, [.ref n] => match lstAt h n with
    | some xs => .ok (.tup xs) h
    | none => .no
  | .list, [.tup xs] => newL xs h
  | .list, [.fl xs] => newL xs h
  | .list, [.ref n] => match lstAt h n with
    | some xs => newL xs h
    | none => .no
  | .max, [.int i, .int j] => .ok (.int (if j > i then j else i)) h
  | .min, [.int i, .int j] => .ok (.int (if j < i then j else i)) h
  | .all, [.ref n] => match (lstAt h n).bind bls with
    | some bs => .ok (.bl (bs.all id)) h
    | none => .no
  | .any, [.ref n] => match (lstAt h n).bind bls with
    | some bs => .ok (.bl (bs.any id)) h
    | none => .no
  | .gcd, [.int a, .int b] => .ok (.int ((Nat.gcd a.natAbs b.natAbs : Nat) : Int)) h
  | .str, [.int i] => ret (decide (i.natAbs.log2 < 1920)) (.str (toString i)) h
  | _, _ => .no
def isiV (x : D) (t : Ty) (h : Hd) : Option Bool := match t, x with
  | .int, .int _ => some true
  | .int, .bl _ => some true
  | .bool, .bl _ => some true
  | .str, .str _ => some true
  | .tuple, .tup _ => some true
  | .list, .ref n => (lstAt h n).map fun _ => true
  | .list, .fl _ => some true
  | .int, .ref n => (lstAt h n).map fun _ => false
  | .bool, .ref n => (lstAt h n).map fun _ => false
  | .str, .ref n => (lstAt h n).map fun _ => false
  | .tuple, .ref n => (lstAt h n).map fun _ => false
  | .cls _, _ => none
  | _, _ => some false

/-! ### code -/
/-- targets -/
inductive QG where
  | nm (i : Nat) | tp (gs : List QG)
mutual
inductive QE where
  | var (i : Nat) | con (d : D)
  | bin (op : Operator) (a b : QE) | neg (a : QE) | nott (a : QE) | andv (a b : QE) | orv (a b : QE)
  | cmp (op : CmpOp) (a b : QE) | chain (op op' : CmpOp) (a b c : QE)
  | ife (t : QT) (a b : QE)
  | tup (es : QEs) | lst (es : QEs)
  | idx (a i : QE) | slc (a : QE) (lo hi : QO)
  | call (f : Nat) (es kes : QEs) (arr : List (Sum (Sum Nat Nat) D))
  | bi (b : BI) (es : QEs)
  | isi (a : QE) (t : Ty)
  | lc (elt : QE) (g : QG) (it : QI) (own : List Nat) (cond : QT)
  | mth (m : Nat) (o : QE) (es : QEs)
  | excIs (c : Nat) | excF (f : Str)
inductive QEs where
  | nil | cons (e : QE) (es : QEs)
inductive QO where
  | none | some (e : QE)
inductive QT where
  | v (e : QE) | not (t : QT) | and (a b : QT) | or (a b : QT) | yes
inductive QI where
  | v (e : QE) | rng1 (a : QE) | rng2 (a b : QE) | rng3 (a b c : QE) | zip (a b : QE) | enum (a : QE)
end
mutual
inductive QS where
  | expr (e : QE) | asg (g : QG) (e : QE) | sub (o i e : QE) | par (i j : Nat) (a b : QE)
  | aug (i : Nat) (op : Operator) (e : QE)
  | ret (e : QE) | retN | ife (t : QT) (a b : QSs) | whl (t : QT) (b : QSs) | for (g : QG) (it : QI) (b : QSs)
  | raise (c : Nat) (fs : List Str) (es : QEs) | try (b : QSs) (c : Nat) (xi : Option Nat) (su : QSs)
  | pass | brk | cnt
inductive QSs where
  | nil | cons (s : QS) (r : QSs)
end

/-- what the evaluator stands on: the defs' values, the turns a while may take, the exception of the suite, the classes' order -/
structure Ev where
  call : Nat → List D → Hd → Out D
  fuel : Nat
  exn : Option Exn
  sub : Nat → Nat → Bool

def bindG : QG → D → Sl → Option Sl
  | .nm i, d, s => some (s.set i (some d))
  | .tp gs, .tup ds, s => bindGs gs ds s
  | .tp _, _, _ => none
where
  bindGs : List QG → List D → Sl → Option Sl
  | [], [], s => some s
  | g :: gs, d :: ds, s => (bindG g d s).bind fun s' => bindGs gs ds s'
  | _, _, _ => none
def wipeD (s : Sl) : List Nat → Sl
  | [] => s
  | v :: vs => (wipeD s vs).set v none
def rng (a : Int) (c : Int) : Nat → List D
  | 0 => []
  | n + 1 => .int a :: rng (a + c) c n
def zipD : List D → List D → List D
  | x :: xs, y :: ys => .tup [x, y] :: zipD xs ys
  | _, _ => []
def enumD (k : Int) : List D → List D
  | [] => []
  | x :: xs => .tup [.int k, x] :: enumD (k + 1) xs
/-- what is walked: its items, the lists that must stay as they are -/
structure Walk where
  items : List D
  fix : List (Nat × List D)
def fixOk (h : Hd) : List (Nat × List D) → Bool
  | [] => true
  | (n, xs) :: r => (match lstAt h n with
    | some ys => D.beqs xs ys
    | none => false) && fixOk h r
def smallI (i : Int) : Bool := decide (i.natAbs.log2 < 62)
def rngN (a b c : Int) : Nat := if 0 < c then ((b - a + c - 1) / c).toNat else ((a - b - c - 1) / (-c)).toNat
def strD (z : Str) : List D := z.cps.toList.map fun c => .str ⟨#[c]⟩
def walkV (d : D) (h : Hd) : Out Walk := match d with
  | .tup xs => .ok ⟨xs, []⟩ h
  | .fl xs => .ok ⟨xs, []⟩ h
  | .ref n => match lstAt h n with
    | some xs => .ok ⟨xs, [(n, xs)]⟩ h
    | none => .no
  | .str z => .ok ⟨strD z, []⟩ h
  | _ => .no
def seqOf (d : D) (h : Hd) : Option Walk := match d with
  | .tup xs => some ⟨xs, []⟩
  | .fl xs => some ⟨xs, []⟩
  | .ref n => match lstAt h n with
    | some xs => some ⟨xs, [(n, xs)]⟩
    | none => none
  | _ => none
def isTup : D → Bool
  | .tup _ => true
  | _ => false
def zipV (x y : D) (h : Hd) : Out Walk := match seqOf x h, seqOf y h with
  | some a, some b => ret (isTup x == isTup y) ⟨zipD a.items b.items, a.fix ++ b.fix⟩ h
  | _, _ => .no
def enumV (x : D) (h : Hd) : Out Walk := match seqOf x h with
  | some a => .ok ⟨enumD 0 a.items, a.fix⟩ h
  | none => .no
def rngV (xs : List D) (h : Hd) : Out Walk := match xs with
  | [.int b] => ret (smallI b) ⟨rng 0 1 b.toNat, []⟩ h
  | [.int a, .int b] => ret (smallI a && smallI b) ⟨rng a 1 (b - a).toNat, []⟩ h
  | [.int a, .int b, .int c] => ret (smallI a && smallI b && decide (c ≠ 0) && decide (c.natAbs < 1000000)) ⟨rng a c (rngN a b c), []⟩ h
  | _ => .no
/-- methods: 0 append, 1 extend -/
def appV (o : D) (xs : List D) (h : Hd) : Out D := match o, xs with
  | .ref n, [y] => match lstAt h n with
    | some ys => ret (decide (ys.length < line)) .non (h.set n (.lst (ys ++ [y])))
    | none => .no
  | _, _ => .no
def extV (o : D) (xs : List D) (h : Hd) : Out D := match o, xs with
  | .ref n, [.ref b] => match lstAt h n, lstAt h b with
    | some ys, some zs => ret (decide (ys.length + zs.length ≤ line)) .non (h.set n (.lst (ys ++ zs)))
    | _, _ => .no
  | _, _ => .no
def isLst (h : Hd) : D → Bool
  | .ref n => (lstAt h n).isSome
  | _ => false
def mthV (m : Nat) (o : D) (xs : List D) (h : Hd) : Out D := match m with
  | 0 => appV o xs h
  | 1 => extV o xs h
  | _ => .no
def arrD (arr : List (Sum (Sum Nat Nat) D)) (xs ys : List D) : List D := arr.map fun a => match a with
  | .inl (.inl i) => xs.getD i .non
  | .inl (.inr i) => ys.getD i .non
  | .inr d => d
/-- a comprehension's turns: b binds, c tests, e makes -/
def loopC (fix : List (Nat × List D)) (b : D → Option Sl) (c : Sl → Hd → Out Bool) (e : Sl → Hd → Out D) : List D → List D → Hd → Out (List D)
  | [], acc, h => ret (fixOk h fix) acc h
  | x :: xs, acc, h => match fixOk h fix, b x with
    | true, some s => (c s h).bind fun t h1 => match t with
      | true => (e s h1).bind fun y h2 => match decide (acc.length < line) with
        | true => loopC fix b c e xs (acc ++ [y]) h2
        | false => .no
      | false => loopC fix b c e xs acc h1
    | _, _ => .no
/-- no exception leaves a comprehension -/
def noEx {α : Type} : Out α → Out α
  | .ex _ _ => .no
  | o => o
def toI : D → Hd → Out (Option Int)
  | .int i, h => .ok (some i) h
  | _, _ => .no
def pureTrue : Option Bool → Hd → Out Bool := fun o h => testO h o
mutual
def evE (ev : Ev) : QE → Sl → Hd → Out D
  | .var i, s, h => match s[i]? with
    | some (some d) => .ok d h
    | _ => .no
  | .con d, _, h => .ok d h
  | .bin op a b, s, h => (evE ev a s h).bind fun x h1 => (evE ev b s h1).bind fun y h2 => binV op x y h2
  | .neg a, s, h => (evE ev a s h).bind fun x h1 => negV x h1
  | .nott a, s, h => (evE ev a s h).bind fun x h1 => match truthD h1 x with
    | some k => .ok (.bl (!k)) h1
    | none => .no
  | .andv a b, s, h => (evE ev a s h).bind fun x h1 => match truthD h1 x with
    | some true => evE ev b s h1
    | some false => .ok x h1
    | none => .no
  | .orv a b, s, h => (evE ev a s h).bind fun x h1 => match truthD h1 x with
    | some true => .ok x h1
    | some false => evE ev b s h1
    | none => .no
  | .cmp op a b, s, h => (evE ev a s h).bind fun x h1 => (evE ev b s h1).bind fun y h2 => boolO h2 (cmpV op h2 x y)
  | .chain op op' a b c, s, h => (evE ev a s h).bind fun x h1 => (evE ev b s h1).bind fun y h2 => match cmpV op h2 x y with
    | some true => (evE ev c s h2).bind fun z h3 => boolO h3 (cmpV op' h3 y z)
    | some false => .ok (.bl false) h2
    | none => .no
  | .ife t a b, s, h => (evT ev t s h).bind fun k h1 => match k with
    | true => evE ev a s h1
    | false => evE ev b s h1
  | .tup es, s, h => (evEs ev es s h).bind fun xs h1 => ret (decide (xs.length ≤ line)) (.tup xs) h1
  | .lst es, s, h => (evEs ev es s h).bind fun xs h1 => newLc (decide (xs.length ≤ line)) xs h1
  | .idx a i, s, h => (evE ev a s h).bind fun x h1 => (evE ev i s h1).bind fun y h2 => idxV x y h2
  | .slc a lo hi, s, h => (evE ev a s h).bind fun x h1 => (evO ev lo s h1).bind fun l h2 => (evO ev hi s h2).bind fun u h3 => slV x l u h3
  | .call f es kes arr, s, h => (evEs ev es s h).bind fun xs h1 => (evEs ev kes s h1).bind fun ys h2 => ev.call f (arrD arr xs ys) h2
  | .bi b es, s, h => (evEs ev es s h).bind fun xs h1 => biV b xs h1
  | .isi a t, s, h => (evE ev a s h).bind fun x h1 => boolO h1 (isiV x t h1)
  | .lc elt g it own cond, s, h => (evI ev it s h).bind fun w h1 => (noEx (loopC w.fix (fun d => bindG g d (wipeD s own)) (evT ev cond) (evE ev elt) w.items [] h1)).bind fun xs h2 => newL xs h2
  | .mth m o es, s, h => (evE ev o s h).bind fun x h1 => match isLst h1 x with
    | true => (evEs ev es s h1).bind fun xs h2 => mthV m x xs h2
    | false => .no
  | .excIs c, _, h => match ev.exn with
    | some e => .ok (.bl (ev.sub e.cls c)) h
    | none => .no
  | .excF f, _, h => match ev.exn with
    | some e => match e.fs.lookup f with
      | some d => .ok d h
      | none => .no
    | none => .no
def evEs (ev : Ev) : QEs → Sl → Hd → Out (List D)
  | .nil, _, h => .ok [] h
  | .cons e es, s, h => (evE ev e s h).bind fun x h1 => (evEs ev es s h1).bind fun xs h2 => .ok (x :: xs) h2
def evO (ev : Ev) : QO → Sl → Hd → Out (Option Int)
  | .none, _, h => .ok none h
  | .some e, s, h => (evE ev e s h).bind fun x h1 => toI x h1
def evT (ev : Ev) : QT → Sl → Hd → Out Bool
  | .v e, s, h => (evE ev e s h).bind fun x h1 => testO h1 (truthD h1 x)
  | .not t, s, h => (evT ev t s h).bind fun k h1 => .ok (!k) h1
  | .and a b, s, h => (evT ev a s h).bind fun k h1 => match k with
    | true => evT ev b s h1
    | false => .ok false h1
  | .or a b, s, h => (evT ev a s h).bind fun k h1 => match k with
    | true => .ok true h1
    | false => evT ev b s h1
  | .yes, _, h => .ok true h
def evI (ev : Ev) : QI → Sl → Hd → Out Walk
  | .v e, s, h => (evE ev e s h).bind fun x h1 => walkV x h1
  | .rng1 a, s, h => (evE ev a s h).bind fun x h1 => rngV [x] h1
  | .rng2 a b, s, h => (evE ev a s h).bind fun x h1 => (evE ev b s h1).bind fun y h2 => rngV [x, y] h2
  | .rng3 a b c, s, h => (evE ev a s h).bind fun x h1 => (evE ev b s h1).bind fun y h2 => (evE ev c s h2).bind fun z h3 => rngV [x, y, z] h3
  | .zip a b, s, h => (evE ev a s h).bind fun x h1 => (evE ev b s h1).bind fun y h2 => zipV x y h2
  | .enum a, s, h => (evE ev a s h).bind fun x h1 => enumV x h1
end

/-! ### statements -/
inductive SOut where
  | nx (s : Sl) (h : Hd) | rt (d : D) (h : Hd) | bk (s : Sl) (h : Hd) | ct (s : Sl) (h : Hd) | ex (e : Exn) (s : Sl) (h : Hd) | no
/-- an expression's end within a statement -/
def Out.st {α : Type} (o : Out α) (s : Sl) (f : α → Hd → SOut) : SOut := match o with
  | .ok a h => f a h
  | .ex e h => .ex e s h
  | .no => .no
/-- the slot of a suite's exception -/
def inS (xi : Option Nat) (s : Sl) : Bool := match xi with
  | none => true
  | some i => decide (i < s.length)
def goS (xi : Option Nat) (s : Sl) : Sl := match xi with
  | none => s
  | some i => s.set i none
/-- what leaves the suite; nothing may be raised there -/
def SOut.gone (xi : Option Nat) : SOut → SOut
  | .nx s h => .nx (goS xi s) h
  | .bk s h => .bk (goS xi s) h
  | .ct s h => .ct (goS xi s) h
  | .rt d h => .rt d h
  | .ex _ _ _ => .no
  | .no => .no
def SOut.then (o : SOut) (f : Sl → Hd → SOut) : SOut := match o with
  | .nx s h => f s h
  | o => o
def loopW (t : Sl → Hd → Out Bool) (b : Sl → Hd → SOut) : Nat → Sl → Hd → SOut
  | 0, _, _ => .no
  | n + 1, s, h => (t s h).st s fun k h1 => match k with
    | true => match b s h1 with
      | .nx s2 h2 => loopW t b n s2 h2
      | .ct s2 h2 => loopW t b n s2 h2
      | .bk s2 h2 => .nx s2 h2
      | o => o
    | false => .nx s h1
def loopF (fix : List (Nat × List D)) (g : D → Sl → Option Sl) (b : Sl → Hd → SOut) : List D → Sl → Hd → SOut
  | [], s, h => match fixOk h fix with
    | true => .nx s h
    | false => .no
  | x :: xs, s, h => match fixOk h fix, g x s with
    | true, some s1 => match b s1 h with
      | .nx s2 h2 => loopF fix g b xs s2 h2
      | .ct s2 h2 => loopF fix g b xs s2 h2
      | .bk s2 h2 => .nx s2 h2
      | o => o
    | _, _ => .no
def asgO (o : Option Sl) (h : Hd) : SOut := match o with
  | some s => .nx s h
  | none => .no
/-- o[i] = d -/
def subV (o i d : D) (s : Sl) (h : Hd) : SOut := match o, i with
  | .ref n, .int k => match lstAt h n with
    | some xs => match L2.ixN xs.length k with
      | some j => .nx s (h.set n (.lst (xs.set j d)))
      | none => .no
    | none => .no
  | _, _ => .no
def augV (op : Operator) (x y : D) (h : Hd) : Out D := match op, x, y with
  | .Add, .int i, .int j => .ok (.int (i + j)) h
  | .Sub, .int i, .int j => .ok (.int (i - j)) h
  | _, _, _ => .no
mutual
def exS (ev : Ev) : QS → Sl → Hd → SOut
  | .expr e, s, h => (evE ev e s h).st s fun _ h1 => .nx s h1
  | .asg g e, s, h => (evE ev e s h).st s fun d h1 => asgO (bindG g d s) h1
  | .sub o i e, s, h => (evE ev e s h).st s fun d h1 => (evE ev o s h1).st s fun x h2 => (evE ev i s h2).st s fun y h3 => subV x y d s h3
  | .par i j a b, s, h => (evE ev a s h).st s fun x h1 => (evE ev b s h1).st s fun y h2 => .nx ((s.set i (some x)).set j (some y)) h2
  | .aug i op e, s, h => match s[i]? with
    | some (some x) => (evE ev e s h).st s fun y h1 => (augV op x y h1).st s fun z h2 => .nx (s.set i (some z)) h2
    | _ => .no
  | .ret e, s, h => (evE ev e s h).st s fun d h1 => .rt d h1
  | .retN, _, h => .rt .non h
  | .ife t a b, s, h => (evT ev t s h).st s fun k h1 => match k with
    | true => exSs ev a s h1
    | false => exSs ev b s h1
  | .whl t b, s, h => loopW (evT ev t) (exSs ev b) ev.fuel s h
  | .for g it b, s, h => (evI ev it s h).st s fun w h1 => loopF w.fix (bindG g) (exSs ev b) w.items s h1
  | .raise c fs es, s, h => (evEs ev es s h).st s fun xs h1 => match decide (fs.length = xs.length) && xs.all flatD with
    | true => .ex ⟨c, fs.zip xs⟩ s h1
    | false => .no
  | .try b c xi su, s, h => match exSs ev b s h with
    | .ex e s1 h1 => match ev.sub e.cls c with
      | true => match inS xi s1 with
        | true => (exSs { ev with exn := some e } su (goS xi s1) h1).gone xi
        | false => .no
      | false => .ex e s1 h1
    | o => o
  | .pass, s, h => .nx s h
  | .brk, s, h => .bk s h
  | .cnt, s, h => .ct s h
def exSs (ev : Ev) : QSs → Sl → Hd → SOut
  | .nil, s, h => .nx s h
  | .cons a r, s, h => match exS ev a s h with
    | .nx s1 h1 => exSs ev r s1 h1
    | o => o
end

/-- a def: how many parameters, how many names, its code -/
structure FnC where
  np : Nat
  nn : Nat
  code : QSs
def startD (n : Nat) (ds : List D) : Sl := ds.map some ++ List.replicate (n - ds.length) none
def callI (fns : List FnC) (sub : Nat → Nat → Bool) (fuel : Nat) : Nat → Nat → List D → Hd → Out D
  | 0, _, _, _ => .no
  | k + 1, f, ds, h => match fns[f]? with
    | none => .no
    | some fn => match decide (ds.length = fn.np) with
      | false => .no
      | true => match exSs ⟨callI fns sub fuel k, fuel, none, sub⟩ fn.code (startD fn.nn ds) h with
        | .rt d h' => gc h d h'
        | .nx _ h' => gc h .non h'
        | .ex e _ h' => gcE h e h'
        | _ => .no
end PV
/-! PVB: deep state and abstract heap; the operations by values. -/
namespace PV
open PySem PySem.Spec PyProof.Rows L2

/-- what the deep values stand on: the written part, the classes' objects -/
structure GW where
  K : PySem.W.Frag
  cl : Nat → Option Addr
  pins : List (Addr × List (Str × V))

/-! ### values -/
/-- a list that is never written -/
def FrL (K : PySem.W.Frag) (H : Hp) (a : Addr) (vs : List V) : Prop := (∃ o, H a = some (.frz o (.lst vs))) ∨ ∀ H' : Hp, SqL K H' a vs
theorem FrL.sq {K : PySem.W.Frag} {H : Hp} {a : Addr} {vs : List V} (f : FrL K H a vs) : SqL K H a vs := f.elim (fun ⟨o, e⟩ => .inl (.inr ⟨o, e⟩)) fun g => g H
mutual
inductive DR (K : PySem.W.Frag) (m : List Addr) (H : Hp) : D → V → Prop
  | non : DR K m H .non .non
  | bl (b : Bool) : DR K m H (.bl b) (.bl b)
  | int (i : Int) : DR K m H (.int i) (.int i)
  | str (s : Str) : DR K m H (.str s) (.str s)
  | tup {a : Addr} {ds : List D} {vs : List V} : SqT K H a vs → DRs K m H ds vs → DR K m H (.tup ds) (.ref a)
  | fl {a : Addr} {ds : List D} {vs : List V} : FrL K H a vs → DRs K m H ds vs → DR K m H (.fl ds) (.ref a)
  | ref {n : Nat} {a : Addr} : m[n]? = some a → DR K m H (.ref n) (.ref a)
inductive DRs (K : PySem.W.Frag) (m : List Addr) (H : Hp) : List D → List V → Prop
  | nil : DRs K m H [] []
  | cons {d : D} {v : V} {ds : List D} {vs : List V} : DR K m H d v → DRs K m H ds vs → DRs K m H (d :: ds) (v :: vs)
end
/-- what lies behind keeps what lay ahead: m the tracked places ahead, m' behind -/
structure Step (m : List Addr) (H : Hp) (m' : List Addr) (H' : Hp) : Prop where
  pre : ∃ l, m' = m ++ l ∧ ∀ a ∈ l, H a = none
  live : ∀ a ∈ m', H' a ≠ none
  keep : ∀ b o, H b = some o → b ∉ m → H' b = some o
  tups : ∀ b xs, H b = some (.tup xs) → H' b = some (.tup xs)
  frzs : ∀ b o u, H b = some (.frz o u) → H' b = some (.frz o u)
theorem Step.refl {m : List Addr} {H : Hp} (h : ∀ a ∈ m, H a ≠ none) : Step m H m H := ⟨⟨[], by simp, fun _ h => by cases h⟩, h, fun _ _ e _ => e, fun _ _ e => e, fun _ _ _ e => e⟩
theorem Step.trans {m m1 m2 : List Addr} {H H1 H2 : Hp} (a : Step m H m1 H1) (b : Step m1 H1 m2 H2) : Step m H m2 H2 := by
  obtain ⟨l1, e1, n1⟩ := a.pre
  obtain ⟨l2, e2, n2⟩ := b.pre
  refine ⟨⟨l1 ++ l2, by rw [e2, e1, List.append_assoc], fun c hc => ?_⟩, b.live, fun c o e hc => ?_, fun c xs e => b.tups c xs (a.tups c xs e), fun c o u e => b.frzs c o u (a.frzs c o u e)⟩
  · rcases List.mem_append.mp hc with h | h
    · exact n1 c h
    · have h1 := n2 c h
      cases q : H c with
      | none => rfl
      | some o =>
        by_cases hm : c ∈ m
        · exact absurd h1 (a.live c (by rw [e1]; exact List.mem_append_left _ hm))
        · rw [a.keep c o q hm] at h1; cases h1
  · refine b.keep c o (a.keep c o e hc) fun h => ?_
    rw [e1] at h
    rcases List.mem_append.mp h with h | h
    · exact hc h
    · rw [n1 c h] at e; cases e

section
variable {K : PySem.W.Frag} {m m' : List Addr} {H H' : Hp}
theorem FrL.step {a : Addr} {vs : List V} (f : FrL K H a vs) (fz : ∀ b o u, H b = some (.frz o u) → H' b = some (.frz o u)) : FrL K H' a vs := f.elim (fun ⟨o, e⟩ => .inl ⟨o, fz _ _ _ e⟩) .inr
theorem sqT_step {a : Addr} {vs : List V} (t : SqT K H a vs) (tp : ∀ b xs, H b = some (.tup xs) → H' b = some (.tup xs)) (fz : ∀ b o u, H b = some (.frz o u) → H' b = some (.frz o u)) : SqT K H' a vs := by
  rcases t with (t | ⟨o, t⟩) | t
  · exact .inl (.inl (tp _ _ t))
  · exact .inl (.inr ⟨o, fz _ _ _ t⟩)
  · exact .inr t
mutual
theorem DR.mono (pre : ∀ (n : Nat) (a : Addr), m[n]? = some a → m'[n]? = some a) (tp : ∀ b xs, H b = some (.tup xs) → H' b = some (.tup xs)) (fz : ∀ b o u, H b = some (.frz o u) → H' b = some (.frz o u)) :
    ∀ {d : D} {v : V}, DR K m H d v → DR K m' H' d v
  | _, _, .non => .non
  | _, _, .bl b => .bl b
  | _, _, .int i => .int i
  | _, _, .str s => .str s
  | _, _, .tup t r => .tup (sqT_step t tp fz) (DRs.mono pre tp fz r)
  | _, _, .fl t r => .fl (t.step fz) (DRs.mono pre tp fz r)
  | _, _, .ref e => .ref (pre _ _ e)
theorem DRs.mono (pre : ∀ (n : Nat) (a : Addr), m[n]? = some a → m'[n]? = some a) (tp : ∀ b xs, H b = some (.tup xs) → H' b = some (.tup xs)) (fz : ∀ b o u, H b = some (.frz o u) → H' b = some (.frz o u)) :
    ∀ {ds : List D} {vs : List V}, DRs K m H ds vs → DRs K m' H' ds vs
  | _, _, .nil => .nil
  | _, _, .cons a r => .cons (DR.mono pre tp fz a) (DRs.mono pre tp fz r)
end
theorem Step.get (s : Step m H m' H') (n : Nat) (a : Addr) (e : m[n]? = some a) : m'[n]? = some a := by
  obtain ⟨l, e1, _⟩ := s.pre
  rw [e1, List.getElem?_append_left (List.getElem?_eq_some_iff.mp e).1]
  exact e
theorem DR.step {d : D} {v : V} (r : DR K m H d v) (s : Step m H m' H') : DR K m' H' d v := r.mono s.get s.tups s.frzs
theorem DRs.step {d : List D} {v : List V} (r : DRs K m H d v) (s : Step m H m' H') : DRs K m' H' d v := r.mono s.get s.tups s.frzs
theorem DRs.length : ∀ {ds : List D} {vs : List V}, DRs K m H ds vs → ds.length = vs.length
  | _, _, .nil => rfl
  | _, _, .cons _ r => congrArg Nat.succ (DRs.length r)
theorem DRs.get : ∀ {ds : List D} {vs : List V} {i : Nat} {d : D}, DRs K m H ds vs → ds[i]? = some d → ∃ v, vs[i]? = some v ∧ DR K m H d v
  | _, _, _, _, .nil, e => by simp at e
  | _, _, 0, _, .cons a _, e => by simp at e; subst e; exact ⟨_, rfl, a⟩
  | _, _, i + 1, d, .cons _ r, e => by
    obtain ⟨v, h1, h2⟩ := DRs.get (i := i) (d := d) r (by simpa using e)
    exact ⟨v, by simpa using h1, h2⟩
theorem DRs.getV : ∀ {ds : List D} {vs : List V} {i : Nat} {v : V}, DRs K m H ds vs → vs[i]? = some v → ∃ d, ds[i]? = some d ∧ DR K m H d v
  | _, _, _, _, .nil, e => by simp at e
  | _, _, 0, _, .cons a _, e => by simp at e; subst e; exact ⟨_, rfl, a⟩
  | _, _, i + 1, d, .cons _ r, e => by
    obtain ⟨v, h1, h2⟩ := DRs.getV (i := i) (v := d) r (by simpa using e)
    exact ⟨v, by simpa using h1, h2⟩
theorem DRs.append : ∀ {ds es : List D} {vs ws : List V}, DRs K m H ds vs → DRs K m H es ws → DRs K m H (ds ++ es) (vs ++ ws)
  | _, _, _, _, .nil, s => s
  | _, _, _, _, .cons a r, s => .cons a (DRs.append r s)
theorem DRs.take : ∀ {ds : List D} {vs : List V} (n : Nat), DRs K m H ds vs → DRs K m H (ds.take n) (vs.take n)
  | _, _, 0, _ => .nil
  | _, _, _ + 1, .nil => .nil
  | _, _, n + 1, .cons a r => .cons a (DRs.take n r)
theorem DRs.drop : ∀ {ds : List D} {vs : List V} (n : Nat), DRs K m H ds vs → DRs K m H (ds.drop n) (vs.drop n)
  | _, _, 0, r => r
  | _, _, _ + 1, .nil => .nil
  | _, _, n + 1, .cons _ r => DRs.drop n r
theorem DRs.set {d : D} {v : V} (a : DR K m H d v) : ∀ {ds : List D} {vs : List V} (i : Nat), DRs K m H ds vs → DRs K m H (ds.set i d) (vs.set i v)
  | _, _, _, .nil => .nil
  | _, _, 0, .cons _ r => .cons a r
  | _, _, i + 1, .cons b r => .cons b (DRs.set a i r)
theorem DRs.rep {ds : List D} {vs : List V} (r : DRs K m H ds vs) : ∀ n : Nat, DRs K m H (List.replicate n ds).flatten (List.replicate n vs).flatten
  | 0 => .nil
  | n + 1 => by
    rw [List.replicate_succ, List.replicate_succ, List.flatten_cons, List.flatten_cons]
    exact r.append (DRs.rep r n)
theorem DRs.empty {ds : List D} {vs : List V} (r : DRs K m H ds vs) : ds.isEmpty = vs.isEmpty := by
  cases r <;> rfl
theorem DRs.nil_iff {ds : List D} {vs : List V} (r : DRs K m H ds vs) : ds = [] ↔ vs = [] := by
  cases r <;> simp
/-- the flat ones are the same in every heap -/
theorem DR.flat {d : D} {v : V} (r : DR K m H d v) (f : flatD d = true) : v = toV d := by
  cases r <;> first | rfl | cases f
theorem DRs.flat : ∀ {ds : List D} {vs : List V}, DRs K m H ds vs → ds.all flatD = true → vs = ds.map toV
  | _, _, .nil, _ => rfl
  | _, _, .cons a r, f => by
    rw [List.all_cons, Bool.and_eq_true] at f
    rw [List.map_cons, a.flat f.1, DRs.flat r f.2]
theorem dr_toV {d : D} (f : flatD d = true) : DR K m H d (toV d) := by
  cases d <;> first | exact .non | exact .bl _ | exact .int _ | exact .str _ | cases f
theorem flatV_toV {d : D} (f : flatD d = true) : flatV (toV d) = true := by
  cases d <;> first | rfl | cases f
/-- what a value names lies below -/
theorem DR.lt {d : D} {v : V} (r : DR K m H d v) : D.lt m.length d = true := by
  refine DR.rec (motive_1 := fun d v _ => D.lt m.length d = true) (motive_2 := fun ds vs _ => D.lts m.length ds = true) ?_ ?_ ?_ ?_ ?_ ?_ ?_ ?_ ?_ r
  · simp [D.lt]
  · intros; simp [D.lt]
  · intros; simp [D.lt]
  · intros; simp [D.lt]
  · intro a ds vs _ _ ih; simpa [D.lt] using ih
  · intro a ds vs _ _ ih; simpa [D.lt] using ih
  · intro n a e; simp [D.lt, (List.getElem?_eq_some_iff.mp e).1]
  · simp [D.lts]
  · intro d v ds vs _ _ i1 i2; simp [D.lts, i1, i2]
theorem DRs.lts {ds : List D} {vs : List V} (r : DRs K m H ds vs) : D.lts m.length ds = true := by
  induction ds generalizing vs with
  | nil => simp [D.lts]
  | cons d ds ih =>
    cases r with
    | cons a r => simp [D.lts, a.lt, ih r]
/-- .. and then the places behind do not matter -/
theorem DR.cut {l : List Addr} {d : D} {v : V} (r : DR K (m ++ l) H d v) (h : D.lt m.length d = true) : DR K m H d v := by
  refine DR.rec (motive_1 := fun d v _ => D.lt m.length d = true → DR K m H d v) (motive_2 := fun ds vs _ => D.lts m.length ds = true → DRs K m H ds vs) ?_ ?_ ?_ ?_ ?_ ?_ ?_ ?_ ?_ r h
  · intros; exact .non
  · intros; exact .bl _
  · intros; exact .int _
  · intros; exact .str _
  · intro a ds vs t _ ih q; exact .tup t (ih (by simpa [D.lt] using q))
  · intro a ds vs t _ ih q; exact .fl t (ih (by simpa [D.lt] using q))
  · intro n a e q
    have q' : n < m.length := by simpa [D.lt] using q
    rw [List.getElem?_append_left q'] at e
    exact .ref e
  · intros; exact .nil
  · intro d v ds vs _ _ i1 i2 q
    have q' : D.lt m.length d = true ∧ D.lts m.length ds = true := by simpa [D.lts] using q
    exact .cons (i1 q'.1) (i2 q'.2)
theorem DRs.cut {l : List Addr} {ds : List D} {vs : List V} (r : DRs K (m ++ l) H ds vs) (h : D.lts m.length ds = true) : DRs K m H ds vs := by
  induction ds generalizing vs with
  | nil => cases r; exact .nil
  | cons d ds ih =>
    cases r with
    | cons a r =>
      have q' : D.lt m.length d = true ∧ D.lts m.length ds = true := by simpa [D.lts] using h
      exact .cons (a.cut q'.1) (ih r q'.2)
end

/-! ### cells -/
def FsR (K : PySem.W.Frag) (m : List Addr) (H : Hp) : List (Str × D) → List (Str × V) → Prop := Paired fun p q => p.1 = q.1 ∧ DR K m H p.2 q.2
def KvR (K : PySem.W.Frag) (m : List Addr) (H : Hp) : List (L2.Key × D) → List (L2.Key × V) → Prop := Paired fun p q => p.1 = q.1 ∧ DR K m H p.2 q.2
def CellR (G : GW) (m : List Addr) (H : Hp) (a : Addr) : Cell → Prop
  | .lst ds => ∃ vs, H a = some (.lst vs) ∧ DRs G.K m H ds vs
  | .obj C fs => ∃ Ca dx vs, G.cl C = some Ca ∧ H a = some (.ins Ca dx vs) ∧ FsR G.K m H fs vs
  | .dct kvs => ∃ vs, H a = some (.dK vs) ∧ KvR G.K m H kvs vs
structure Rel (G : GW) (m : List Addr) (h : Hd) (H : Hp) : Prop where
  len : m.length = h.length
  nd : m.Nodup
  cell : ∀ (n : Nat) (c : Cell) (a : Addr), h[n]? = some c → m[n]? = some a → CellR G m H a c
  pin : ∀ p ∈ G.pins, H p.1 = some (.xd p.2) ∧ p.1 ∉ m
section
variable {G : GW} {m m' : List Addr} {h h' : Hd} {H H' : Hp}
theorem CellR.live {a : Addr} {c : Cell} (r : CellR G m H a c) : H a ≠ none := by
  cases c with
  | lst ds => obtain ⟨vs, e, _⟩ := r; rw [e]; intro z; cases z
  | obj C fs => obtain ⟨_, _, _, _, e, _⟩ := r; rw [e]; intro z; cases z
  | dct kvs => obtain ⟨vs, e, _⟩ := r; rw [e]; intro z; cases z
theorem Rel.live (r : Rel G m h H) : ∀ a ∈ m, H a ≠ none := fun a ha => by
  obtain ⟨n, hn, e⟩ := List.getElem_of_mem ha
  have e1 : m[n]? = some a := by rw [List.getElem?_eq_getElem hn, e]
  have hl : n < h.length := by rw [← r.len]; exact hn
  exact (r.cell n h[n] a (List.getElem?_eq_getElem hl) e1).live
theorem Rel.step (r : Rel G m h H) : Step m H m H := Step.refl r.live
theorem Rel.notin (r : Rel G m h H) {p : Addr} (hp : H p = none) : p ∉ m := fun z => r.live p z hp
theorem FsR.mono (pre : ∀ (n : Nat) (a : Addr), m[n]? = some a → m'[n]? = some a) (tp : ∀ b xs, H b = some (.tup xs) → H' b = some (.tup xs)) (fz : ∀ b o u, H b = some (.frz o u) → H' b = some (.frz o u)) {K : PySem.W.Frag}
    {fs : List (Str × D)} {vs : List (Str × V)} (r : FsR K m H fs vs) : FsR K m' H' fs vs := Paired.mapP r fun _ _ q => ⟨q.1, q.2.mono pre tp fz⟩
theorem KvR.mono (pre : ∀ (n : Nat) (a : Addr), m[n]? = some a → m'[n]? = some a) (tp : ∀ b xs, H b = some (.tup xs) → H' b = some (.tup xs)) (fz : ∀ b o u, H b = some (.frz o u) → H' b = some (.frz o u)) {K : PySem.W.Frag}
    {fs : List (L2.Key × D)} {vs : List (L2.Key × V)} (r : KvR K m H fs vs) : KvR K m' H' fs vs := Paired.mapP r fun _ _ q => ⟨q.1, q.2.mono pre tp fz⟩
/-- a cell where its own object stands as it was -/
theorem CellR.mono {a : Addr} {c : Cell} (r : CellR G m H a c) (e : H' a = H a) (pre : ∀ (n : Nat) (a : Addr), m[n]? = some a → m'[n]? = some a) (tp : ∀ b xs, H b = some (.tup xs) → H' b = some (.tup xs)) (fz : ∀ b o u, H b = some (.frz o u) → H' b = some (.frz o u)) : CellR G m' H' a c := by
  cases c with
  | lst ds => obtain ⟨vs, q, d⟩ := r; exact ⟨vs, e.trans q, d.mono pre tp fz⟩
  | obj C fs => obtain ⟨Ca, dx, vs, k, q, d⟩ := r; exact ⟨Ca, dx, vs, k, e.trans q, d.mono pre tp fz⟩
  | dct kvs => obtain ⟨vs, q, d⟩ := r; exact ⟨vs, e.trans q, d.mono pre tp fz⟩
/-- a new object that is not tracked by the deep heap -/
theorem new_step (r : Rel G m h H) {p : Addr} {o : HO} (hp : H p = none) : Step m H m (upd H p o) ∧ Rel G m h (upd H p o) := by
  have hk : ∀ b u, H b = some u → upd H p o b = some u := fun b u e => by rw [upd_ne (ne_of_none e hp)]; exact e
  refine ⟨⟨⟨[], by simp, fun _ h => by cases h⟩, fun a ha z => ?_, fun b u e _ => hk b u e, fun b u e => hk b _ e, fun b o u e => hk b _ e⟩, r.len, r.nd, fun n c a e1 e2 => ?_, fun q hq => ⟨hk _ _ (r.pin q hq).1, (r.pin q hq).2⟩⟩
  · cases q : H a with
    | none => exact r.live a ha q
    | some u => rw [hk a u q] at z; cases z
  · refine (r.cell n c a e1 e2).mono ?_ (fun _ _ e => e) (fun b xs e => hk b _ e) (fun b o u e => hk b _ e)
    exact upd_ne fun z => r.notin hp (by rw [← z]; exact List.mem_of_getElem? e2)
/-- a new tracked cell -/
theorem newc_step (r : Rel G m h H) {p : Addr} {o : HO} {c : Cell} (hp : H p = none) (hc : CellR G (m ++ [p]) (upd H p o) p c) : Step m H (m ++ [p]) (upd H p o) ∧ Rel G (m ++ [p]) (h ++ [c]) (upd H p o) := by
  have hk : ∀ b u, H b = some u → upd H p o b = some u := fun b u e => by rw [upd_ne (ne_of_none e hp)]; exact e
  have pr : ∀ (n : Nat) (a : Addr), m[n]? = some a → (m ++ [p])[n]? = some a := fun n a e => by rw [List.getElem?_append_left (List.getElem?_eq_some_iff.mp e).1]; exact e
  have nm := r.notin hp
  have rl : Rel G (m ++ [p]) (h ++ [c]) (upd H p o) := by
    refine ⟨by simp [r.len], ?_, fun n c' a e1 e2 => ?_, fun q hq => ⟨hk _ _ (r.pin q hq).1, fun z => ?_⟩⟩
    rotate_left 2
    · rcases List.mem_append.mp z with z | z
      · exact (r.pin q hq).2 z
      · have z : q.1 = p := by simpa using z
        have := (r.pin q hq).1
        rw [z, hp] at this
        cases this
    · rw [List.nodup_append]
      refine ⟨r.nd, by simp, fun x hx y hy z => ?_⟩
      have : y = p := by simpa using hy
      exact nm (by rw [← this, ← z]; exact hx)
    · by_cases hn : n < h.length
      · rw [List.getElem?_append_left hn] at e1
        rw [List.getElem?_append_left (by rw [r.len]; exact hn)] at e2
        refine (r.cell n c' a e1 e2).mono ?_ pr (fun b xs e => hk b _ e) (fun b o u e => hk b _ e)
        exact upd_ne fun z => nm (by rw [← z]; exact List.mem_of_getElem? e2)
      · rw [List.getElem?_append_right (by omega)] at e1
        rw [List.getElem?_append_right (by rw [r.len]; omega), r.len] at e2
        cases k : n - h.length with
        | zero =>
          rw [k] at e1 e2
          cases e1
          cases e2
          exact hc
        | succ j => rw [k] at e1; cases e1
  exact ⟨⟨⟨[p], rfl, fun a ha => by have : a = p := by simpa using ha
                                    rw [this]; exact hp⟩, rl.live, fun b u e _ => hk b u e, fun b u e => hk b _ e, fun b o u e => hk b _ e⟩, rl⟩
theorem newL_step (r : Rel G m h H) {p : Addr} {ds : List D} {vs : List V} (hp : H p = none) (d : DRs G.K m H ds vs) :
    Step m H (m ++ [p]) (upd H p (.lst vs)) ∧ Rel G (m ++ [p]) (h ++ [.lst ds]) (upd H p (.lst vs)) := by
  have hk : ∀ b u, H b = some u → upd H p (.lst vs) b = some u := fun b u e => by rw [upd_ne (ne_of_none e hp)]; exact e
  have pr : ∀ (n : Nat) (a : Addr), m[n]? = some a → (m ++ [p])[n]? = some a := fun n a e => by rw [List.getElem?_append_left (List.getElem?_eq_some_iff.mp e).1]; exact e
  exact newc_step r hp ⟨vs, upd_same, d.mono pr (fun b xs e => hk b _ e) (fun b o u e => hk b _ e)⟩
/-- a tracked cell is written -/
theorem set_step (r : Rel G m h H) {n : Nat} {p : Addr} {o u : HO} {c : Cell} (e : m[n]? = some p) (ho : H p = some u) (nt : ∀ xs, u ≠ .tup xs) (nf : ∀ ob w, u ≠ .frz ob w) (hc : CellR G m (upd H p o) p c) : Step m H m (upd H p o) ∧ Rel G m (h.set n c) (upd H p o) := by
  have tp : ∀ b xs, H b = some (.tup xs) → upd H p o b = some (.tup xs) := fun b xs q => by
    rw [upd_ne fun z => ?_]; exact q
    rw [z, ho] at q
    exact nt xs (Option.some.inj q)
  have fz : ∀ b ob w, H b = some (.frz ob w) → upd H p o b = some (.frz ob w) := fun b ob w q => by
    rw [upd_ne fun z => ?_]; exact q
    rw [z, ho] at q
    exact nf ob w (Option.some.inj q)
  have rl : Rel G m (h.set n c) (upd H p o) := by
    refine ⟨by simp [r.len], r.nd, fun j c' a e1 e2 => ?_, fun q hq => ⟨?_, (r.pin q hq).2⟩⟩
    rotate_left 1
    · rw [upd_ne fun z => (r.pin q hq).2 (by rw [z]; exact List.mem_of_getElem? e)]
      exact (r.pin q hq).1
    by_cases hj : n = j
    · subst hj
      rw [e] at e2
      cases e2
      rw [List.getElem?_set_self (by rw [← r.len]; exact (List.getElem?_eq_some_iff.mp e).1)] at e1
      cases e1
      exact hc
    · rw [List.getElem?_set_ne hj] at e1
      refine (r.cell j c' a e1 e2).mono (upd_ne fun z => ?_) (fun _ _ q => q) tp fz
      subst z
      obtain ⟨h1, e3⟩ := List.getElem?_eq_some_iff.mp e
      obtain ⟨h2, e4⟩ := List.getElem?_eq_some_iff.mp e2
      exact hj ((List.getElem_inj r.nd).mp (e3.trans e4.symm))
  exact ⟨⟨⟨[], by simp, fun _ z => by cases z⟩, rl.live, fun b w q hb => by
    rw [upd_ne fun z => hb (by rw [z]; exact List.mem_of_getElem? e)]; exact q, tp, fz⟩, rl⟩
theorem Rel.lst (r : Rel G m h H) {n : Nat} {xs : List D} {a : Addr} (e : lstAt h n = some xs) (ea : m[n]? = some a) : ∃ vs, H a = some (.lst vs) ∧ DRs G.K m H xs vs := by
  unfold lstAt at e
  split at e
  · rename_i ys q
    cases e
    exact r.cell n _ a q ea
  · cases e
theorem Rel.at (r : Rel G m h H) {n : Nat} {v : V} (d : DR G.K m H (.ref n) v) : ∃ a, v = .ref a ∧ m[n]? = some a := by
  cases d with
  | ref e => exact ⟨_, rfl, e⟩
/-- of a place that holds a list -/
theorem Rel.lstV (r : Rel G m h H) {n : Nat} {xs : List D} {v : V} (d : DR G.K m H (.ref n) v) (e : lstAt h n = some xs) : ∃ a vs, v = .ref a ∧ m[n]? = some a ∧ H a = some (.lst vs) ∧ DRs G.K m H xs vs := by
  obtain ⟨a, e1, e2⟩ := r.at d
  obtain ⟨vs, e3, e4⟩ := r.lst e e2
  exact ⟨a, vs, e1, e2, e3, e4⟩
end

/-! ### what an evaluation's end asks -/
def ExR (G : GW) (m : List Addr) (H : Hp) (e : Exn) (cls : Value) (dx : Option Addr) : Prop :=
  ∃ Ca, cls = .ref Ca ∧ G.cl e.cls = some Ca ∧ ((dx = none ∧ e.fs = []) ∨ ∃ d vs, dx = some d ∧ H d = some (.xd vs) ∧ ∀ f x, e.fs.lookup f = some x → flatD x = true ∧ vs.lookup f = some (toV x))
abbrev XKE := Value → Option Addr → Hp → Prop
def Sat {α β : Type} (G : GW) (R : List Addr → Hp → α → β → Prop) (m : List Addr) (H : Hp) (o : Out α) (Q : β → Hp → Prop) (E : XKE) : Prop := match o with
  | .ok d h => ∀ m' H' v, Step m H m' H' → Rel G m' h H' → R m' H' d v → Q v H'
  | .ex e h => ∀ m' H' cls dx, Step m H m' H' → Rel G m' h H' → ExR G m' H' e cls dx → E cls dx H'
  | .no => False
section
variable {G : GW} {α β γ δ : Type} {R : List Addr → Hp → α → β → Prop} {S : List Addr → Hp → γ → δ → Prop} {m m' : List Addr} {H H' : Hp} {h : Hd} {Q : β → Hp → Prop} {Q2 : δ → Hp → Prop} {E : XKE}
theorem Sat.trans {o : Out α} (s : Sat G R m H o Q E) (t : Step m H m' H') : Sat G R m' H' o Q E := by
  cases o with
  | ok d h => exact fun m2 H2 v t2 => s m2 H2 v (t.trans t2)
  | ex e h => exact fun m2 H2 c d t2 => s m2 H2 c d (t.trans t2)
  | no => exact s
theorem Sat.bind {o : Out α} {f : α → Hd → Out γ} (s : Sat G S m H (o.bind f) Q2 E) (k : ∀ d h1 m1 H1 v, Step m H m1 H1 → Rel G m1 h1 H1 → R m1 H1 d v → Sat G S m1 H1 (f d h1) Q2 E → Q v H1) : Sat G R m H o Q E := by
  cases o with
  | ok d h => exact fun m1 H1 v t r q => k d h m1 H1 v t r q (Sat.trans (o := f d h) s t)
  | ex e h => exact s
  | no => exact s
theorem Sat.imp {o : Out α} {Q' : β → Hp → Prop} (s : Sat G R m H o Q E) (k : ∀ v H, Q v H → Q' v H) : Sat G R m H o Q' E := by
  cases o with
  | ok d h => exact fun m1 H1 v t r q => k v H1 (s m1 H1 v t r q)
  | ex e h => exact s
  | no => exact s
theorem Sat.ok {d : α} {v : β} (s : Sat G R m H (.ok d h) Q E) (r : Rel G m h H) (q : R m H d v) : Q v H := s m H v r.step r q
theorem Sat.ret {c : Bool} {d : α} (s : Sat G R m H (ret c d h) Q E) : c = true ∧ Sat G R m H (.ok d h) Q E := by
  cases c with
  | true => exact ⟨rfl, s⟩
  | false => exact s.elim
end
abbrev RD (G : GW) : List Addr → Hp → D → V → Prop := DR G.K
abbrev RDs (G : GW) : List Addr → Hp → List D → List V → Prop := DRs G.K
abbrev RB : List Addr → Hp → Bool → Bool → Prop := fun _ _ a b => a = b
abbrev RO : List Addr → Hp → Option Int → Option Int → Prop := fun _ _ a b => a = b
theorem Sat.newL {G : GW} {m : List Addr} {h : Hd} {H : Hp} {xs : List D} {vs : List V} {Q : V → Hp → Prop} {E : XKE} {p : Addr} (s : Sat G (RD G) m H (PV.newL xs h) Q E) (r : Rel G m h H) (d : DRs G.K m H xs vs) (hp : H p = none) : Q (.ref p) (upd H p (.lst vs)) := by
  obtain ⟨t, r'⟩ := newL_step r hp d
  refine s _ _ _ t r' (.ref ?_)
  rw [List.getElem?_append_right (by rw [r.len]; exact Nat.le_refl _), r.len, Nat.sub_self]
  rfl
theorem Sat.tup {G : GW} {m : List Addr} {h : Hd} {H : Hp} {xs : List D} {vs : List V} {Q : V → Hp → Prop} {E : XKE} {p : Addr} (s : Sat G (RD G) m H (.ok (.tup xs) h) Q E) (r : Rel G m h H) (d : DRs G.K m H xs vs) (hp : H p = none) : Q (.ref p) (upd H p (.tup vs)) := by
  obtain ⟨t, r'⟩ := new_step (o := .tup vs) r hp
  exact s _ _ _ t r' (.tup (SqT.of upd_same) (d.step t))
theorem Sat.newLc {G : GW} {m : List Addr} {h : Hd} {H : Hp} {c : Bool} {xs : List D} {Q : V → Hp → Prop} {E : XKE} (s : Sat G (RD G) m H (PV.newLc c xs h) Q E) : c = true ∧ Sat G (RD G) m H (PV.newL xs h) Q E := by
  cases c with
  | true => exact ⟨rfl, s⟩
  | false => exact s.elim
end PV
/-! PVC: each operation by values keeps what the pure one says. -/
namespace PV
open PySem PySem.Spec PyProof.Rows L2
/-- the reading of a two-place operation -/
def r2 (G : GW) (F : D → D → Hd → Out D) : R2 := fun x y H Q => ∃ m h a b NoE, Rel G m h H ∧ DR G.K m H a x ∧ DR G.K m H b y ∧ Sat G (RD G) m H (F a b h) Q NoE
section
variable {X : Cx} {G : GW}
theorem line_eq : line = sizeLine := sizeLine_eq.symm
theorem intBits_le (i : Int) : Builtin.Int.intBits i ≤ i.natAbs.log2 + 1 := by
  unfold Builtin.Int.intBits
  split <;> omega
theorem mulOk_of {i j : Int} (h : mulOk i j = true) : IntMulOk i j := by
  have h3 := of_decide_eq_true h
  have h1 := intBits_le i
  have h2 := intBits_le j
  have e : bitsLine = 134217728 := by decide
  unfold IntMulOk
  intro z
  rw [Bool.and_eq_true] at z
  have z2 := z.2
  unfold Builtin.Int.intTooBig at z2
  have z3 := of_decide_eq_true z2
  rw [e] at z3
  omega
theorem add_ok (hK : X.K = G.K) : OpR X (binaryOp .Add) (r2 G addV) := by
  intro pins s σ H x y v u Q I rx ry ⟨m, h, a, b, NoE, r, da, db, q⟩
  cases a with
  | int i =>
    cases b with
    | int j =>
      cases da
      cases db
      exact op_add pins s σ H _ _ v u Q I rx ry ⟨i, j, rfl, rfl, q.ok r (.int _)⟩
    | _ => exact False.elim q
  | str i =>
    cases b with
    | str j =>
      cases da
      cases db
      obtain ⟨hz, q⟩ := Sat.ret q
      exact op_add_str pins s σ H _ _ v u Q I rx ry ⟨i, j, rfl, rfl, by rw [← line_eq]; exact of_decide_eq_true hz, q.ok r (.str _)⟩
    | _ => exact False.elim q
  | tup xs =>
    cases b with
    | tup ys =>
      cases da with
      | tup ta ra =>
        cases db with
        | tup tb rb =>
          obtain ⟨hz, q⟩ := Sat.ret q
          have hz' := of_decide_eq_true hz
          refine op_catA pins s σ H _ _ v u Q I rx ry ⟨_, _, _, _, rfl, rfl, hK ▸ ta, hK ▸ tb, by rw [← ra.length, ← rb.length, ← line_eq]; exact hz', fun e => ?_, fun _ e => ?_, fun _ _ p hp => ?_⟩
          · have e' := ra.nil_iff.mpr e
            subst e'
            exact q.ok r (.tup tb rb)
          · have e' := rb.nil_iff.mpr e
            subst e'
            exact q.ok r (.tup ta (by rw [List.append_nil]; exact ra))
          · exact q.tup r (ra.append rb) hp
    | _ => exact False.elim q
  | ref n =>
    cases b with
    | ref k =>
      have q' : Sat G (RD G) m H (match lstAt h n, lstAt h k with
        | some xs, some ys => newLc (decide (xs.length + ys.length ≤ line)) (xs ++ ys) h
        | _, _ => .no) Q NoE := q
      split at q'
      · rename_i xs ys e1 e2
        obtain ⟨hz, q2⟩ := Sat.newLc q'
        obtain ⟨a, vs, rfl, _, h1, d1⟩ := r.lstV da e1
        obtain ⟨b, ws, rfl, _, h2, d2⟩ := r.lstV db e2
        exact op_cat pins s σ H _ _ v u Q I rx ry ⟨a, b, vs, ws, rfl, rfl, h1, h2, by rw [← d1.length, ← d2.length, ← line_eq]; exact of_decide_eq_true hz, fun p hp => q2.newL r (d1.append d2) hp⟩
      · exact False.elim q'
    | _ => exact False.elim q
  | _ => exact False.elim q
end
/-! tuple * n, the other ways -/
section
theorem tuple_mulE (l : Addr) (items : Array Value) (n : Nat) (dd : Option Addr) (sl : Array (Option Value)) (x : Int) (u : Tok) (c0 : (decide (x < -(2 ^ 63)) || decide (x ≥ 2 ^ 63)) = false) (c1 : (items.isEmpty || x == 1) = true) :
    Meets (Builtin.«tuple.__mul__» ⟨[.ref l, .int x u], []⟩) (fun _ R s => s.heap.get? l = some { cls := .type "tuple", dict := dd, data := .seq items n, slots := sl } ∧
      R (.ok (.ret (Value.ref l))) s) :=
  .of_wp fun prog w A R s h => by
    obtain ⟨hp, g, d, tk, os⟩ := s
    obtain ⟨hl, h⟩ := h
    have f1 := AutoSeq1.idx_int
    wp_walk using wpAny_loadPart' hl
    refine wpAny_ite_false (decide_eq_false (by rw [c0]; exact Bool.false_ne_true)) ?_
    wp_walk using wpAny_loadPart' hl
    exact ⟨_, rfl, h⟩
theorem tuple_mulZ (l : Addr) (items : Array Value) (n : Nat) (dd : Option Addr) (sl : Array (Option Value)) (x : Int) (u : Tok) (c0 : (decide (x < -(2 ^ 63)) || decide (x ≥ 2 ^ 63)) = false) (c1 : (items.isEmpty || x == 1) = false) (c2 : (decide (x ≤ 0) || items.isEmpty) = true) :
    Meets (Builtin.«tuple.__mul__» ⟨[.ref l, .int x u], []⟩) (fun _ R s => s.heap.get? l = some { cls := .type "tuple", dict := dd, data := .seq items n, slots := sl } ∧
      R (.ok (.ret (Value.ref s.heap.objs.size))) { s with heap := s.heap.push { cls := Value.type "tuple", data := Data.seq #[] }, toks := s.toks }) :=
  .of_wp fun prog w A R s h => by
    obtain ⟨hp, g, d, tk, os⟩ := s
    obtain ⟨hl, h⟩ := h
    have f1 := AutoSeq1.idx_int
    wp_walk using wpAny_loadPart' hl
    repeat (first
      | (refine wpAny_ite_false (decide_eq_false (by rw [c0]; exact Bool.false_ne_true)) ?_; wp_walk using wpAny_loadPart' hl)
      | (refine wpAny_ite_false (decide_eq_false (by rw [c1]; exact Bool.false_ne_true)) ?_; wp_walk using wpAny_loadPart' hl)
      | (refine wpAny_ite_true (decide_eq_true (by rw [c2])) ?_; wp_walk using wpAny_loadPart' hl))
    all_goals first
      | exact ⟨_, rfl, h⟩
      | (show (0 : Nat) ≤ sizeLine; exact Nat.zero_le _)
      | skip
end
section
variable {X : Cx} {G : GW}
/-- the machine's part of tuple * n -/
theorem tup_mul {pins : List (Addr × Obj)} {s : Shared} {σ : L2.St} {H : Hp} {l : Addr} {k : Int} {t : Tok} {xs : List V} {Q : VK} (I : Inv X pins σ H s) (hT : SqT X.K H l xs) (h1 : k ≤ 1000) (h2 : -1000 ≤ k) (hz : xs.length ≤ 1000)
    (q : xs = [] ∨ k = 1 → Q (.ref l) H) (q2 : ∀ p, H p = none → Q (.ref p) (upd H p (.tup (List.replicate k.toNat xs).flatten))) : wpAny (model X.prog X.w) X.A (binaryOp .Mult (.ref l) (.int k t)) (EP X pins σ Q) X.xe s := by
  by_cases he : xs = [] ∨ k = 1
  · obtain ⟨its, r, ⟨⟨cls, dd, data, sl⟩, ho, hc, n, hd⟩, hs⟩ := I.tuple hT
    simp only at hc hd
    subst hc hd
    have c0 : (decide (k < -(2 ^ 63)) || decide (k ≥ 2 ^ 63)) = false := by
      rw [decide_eq_false (by omega), decide_eq_false (by omega)] <;> rfl
    have c1 : (its.toArray.isEmpty || k == 1) = true := by
      rcases he with e | e
      · rw [e] at r
        cases r
        rfl
      · rw [e]
        simp
    exact wpAny_binaryOp_repeat_ref (T := "tuple") (U := "int") (by decide) ⟨_, ho, rfl⟩ (fun s' => typeIs_int s' k t) noFill_tuple_mul F.fills_int_mul F.slot_int_rmul repeat_tuple F.slot_int_index.lookup
      (call_meets F.slot_int_rmul (typeIs_int s k t) F.entry_int_rmul (F.args_int_rmul_2 _ _) (int_rmul_tuple k t l its.toArray n dd sl)
        ⟨ho, rfl, ⟨_, ho, rfl⟩, call_meets F.slot_tuple_mul ⟨_, ho, rfl⟩ F.entry_tuple_mul (F.args_tuple_mul_2 _ _) (tuple_mulE l its.toArray n dd sl k t c0 c1) ⟨ho, .ref l, H, I, rfl, q he⟩⟩)
  · by_cases h0 : k ≤ 0
    · obtain ⟨its, r, ⟨⟨cls, dd, data, sl⟩, ho, hc, n, hd⟩, hs⟩ := I.tuple hT
      simp only at hc hd
      subst hc hd
      have c0 : (decide (k < -(2 ^ 63)) || decide (k ≥ 2 ^ 63)) = false := by
        rw [decide_eq_false (by omega), decide_eq_false (by omega)] <;> rfl
      have c1 : (its.toArray.isEmpty || k == 1) = false := by
        have : its ≠ [] := fun e => he (.inl (by rw [e] at r; cases r; rfl))
        cases its with
        | nil => exact absurd rfl this
        | cons a b =>
          have : (k == 1) = false := beq_eq_false_iff_ne.mpr (by omega)
          rw [this]
          rfl
      have c2 : (decide (k ≤ 0) || its.toArray.isEmpty) = true := by rw [decide_eq_true h0]; rfl
      refine wpAny_binaryOp_repeat_ref (T := "tuple") (U := "int") (by decide) ⟨_, ho, rfl⟩ (fun s' => typeIs_int s' k t) noFill_tuple_mul F.fills_int_mul F.slot_int_rmul repeat_tuple F.slot_int_index.lookup
        (call_meets F.slot_int_rmul (typeIs_int s k t) F.entry_int_rmul (F.args_int_rmul_2 _ _) (int_rmul_tuple k t l its.toArray n dd sl)
          ⟨ho, rfl, ⟨_, ho, rfl⟩, call_meets F.slot_tuple_mul ⟨_, ho, rfl⟩ F.entry_tuple_mul (F.args_tuple_mul_2 _ _) (tuple_mulZ l its.toArray n dd sl k t c0 c1 c2) ⟨ho, ?_⟩⟩)
      have e : k.toNat = 0 := by omega
      have qq := q2 s.heap.objs.size (I.hok.fresh (Nat.le_refl _))
      rw [e] at qq
      refine ⟨.ref s.heap.objs.size, _, I.laid (t' := s.toks) (o := .tup (List.replicate 0 xs).flatten) (fun b ob q => Heap.get?_push_of_some _ q) (Nat.le_refl _) ?_, rfl, qq⟩
      exact ⟨Nat.zero_le _, [], .nil, IsTup.new _ _⟩
    · have h3 : ¬ k = 1 := fun e => he (.inr e)
      exact op_repT pins s σ H (.ref l) (.int k) _ _ Q I rfl ⟨_, rfl⟩ ⟨l, k, xs, rfl, rfl, hT, fun e => he (.inl e), by omega, h1, hz, q2⟩
theorem mul_ok (hK : X.K = G.K) : OpR X (binaryOp .Mult) (r2 G mulV) := by
  intro pins s σ H x y v u Q I rx ry ⟨m, h, a, b, NoE, r, da, db, q⟩
  cases a with
  | int i =>
    cases b with
    | int j =>
      cases da
      cases db
      obtain ⟨t, rfl⟩ := rx
      obtain ⟨t', rfl⟩ := ry
      obtain ⟨hz, q⟩ := Sat.ret q
      exact mul_int ⟨.int _, H, I.tok _, ⟨_, rfl⟩, q.ok r (.int _)⟩ (mulOk_of hz)
    | _ => exact False.elim q
  | tup xs =>
    cases b with
    | int k =>
      cases da with
      | @tup l _ vs ta ra =>
        cases db
        cases rx
        obtain ⟨t', rfl⟩ := ry
        obtain ⟨hz, q⟩ := Sat.ret q
        simp only [Bool.and_eq_true, decide_eq_true_eq] at hz
        refine tup_mul I (hK ▸ ta) hz.1.1 hz.1.2 (by rw [← ra.length]; exact hz.2) (fun e => ?_) fun p hp => q.tup r (ra.rep _) hp
        rcases e with e | e
        · have e' := ra.nil_iff.mpr e
          subst e'
          rw [show (List.replicate k.toNat ([] : List D)).flatten = [] by simp] at q
          exact q.ok r (.tup ta ra)
        · subst e
          rw [show (List.replicate (1 : Int).toNat xs).flatten = xs by simp] at q
          exact q.ok r (.tup ta ra)
    | _ => exact False.elim q
  | ref n =>
    cases b with
    | int k =>
      have q' : Sat G (RD G) m H (match lstAt h n with
        | some xs => newLc (decide (k ≤ 1000) && decide (-1000 ≤ k) && decide (xs.length ≤ 1000)) (List.replicate k.toNat xs).flatten h
        | _ => .no) Q NoE := q
      split at q'
      · rename_i xs e1
        obtain ⟨hz, q2⟩ := Sat.newLc q'
        simp only [Bool.and_eq_true, decide_eq_true_eq] at hz
        obtain ⟨a, vs, rfl, _, h1, d1⟩ := r.lstV da e1
        cases db
        have hl : xs.length * k.toNat ≤ 1000 * 1000 := Nat.mul_le_mul hz.2 (by omega)
        exact op_rep pins s σ H _ _ v u Q I rx ry ⟨a, k, vs, rfl, rfl, h1, by omega, by omega, by rw [← d1.length, sizeLine_eq]; omega, fun p hp => q2.newL r (d1.rep _) hp⟩
      · exact False.elim q'
    | _ => exact False.elim q
  | _ => exact False.elim q
theorem int2_ok {op : Operator} {F : D → D → Hd → Out D} {C : Int → Int → Bool} {g : Int → Int → Int}
    (hF : ∀ a b h, F a b h = match a, b with
      | .int i, .int j => ret (C i j) (.int (g i j)) h
      | _, _ => .no)
    (rule : ∀ (i j : Int) (t u : Tok) (s : Shared) (Q : Value → Shared → Prop) (E : Value → Shared → Prop), C i j = true → Q (.int (g i j) s.toks) { s with toks := s.toks + 1 } → wpAny (model X.prog X.w) X.A (binaryOp op (.int i t) (.int j u)) Q E s) : OpR X (binaryOp op) (r2 G F) := by
  intro pins s σ H x y v u Q I rx ry ⟨m, h, a, b, NoE, r, da, db, q⟩
  rw [hF] at q
  cases a with
  | int i =>
    cases b with
    | int j =>
      cases da
      cases db
      obtain ⟨t, rfl⟩ := rx
      obtain ⟨t', rfl⟩ := ry
      obtain ⟨hz, q⟩ := Sat.ret q
      exact rule i j t t' s _ _ hz ⟨.int _, H, I.tok _, ⟨_, rfl⟩, q.ok r (.int _)⟩
    | _ => exact False.elim q
  | _ => exact False.elim q
theorem bin_ok (hK : X.K = G.K) (op : Operator) : OpR X (binaryOp op) (r2 G (binV op)) := by
  have no : ∀ {op : Operator}, (∀ a b h, binV op a b h = .no) → OpR X (binaryOp op) (r2 G (binV op)) := fun {op} e pins s σ H x y v u Q I rx ry ⟨m, h, a, b, NoE, r, da, db, q⟩ => by
    rw [e] at q
    exact False.elim q
  cases op with
  | Add => exact add_ok hK
  | Mult => exact mul_ok hK
  | Sub => exact int2_ok (C := fun _ _ => true) (g := fun i j => i - j) (fun a b h => by cases a <;> cases b <;> rfl) fun i j t u s Q E _ q => sub_int q
  | FloorDiv =>
    exact int2_ok (C := divOk) (g := fun i j => i.fdiv j) (fun a b h => by cases a <;> cases b <;> rfl) fun i j t u s Q E hc q => by
      unfold divOk at hc
      rw [Bool.and_eq_true, decide_eq_true_eq, Bool.not_eq_true'] at hc
      exact floordiv_int hc.1 q (.inl hc.2)
  | Mod => exact int2_ok (C := fun _ j => decide (j ≠ 0)) (g := fun i j => i.fmod j) (fun a b h => by cases a <;> cases b <;> rfl) fun i j t u s Q E hc q => mod_int' (of_decide_eq_true hc) q
  | Pow =>
    exact int2_ok (C := powOk) (g := fun i j => i ^ j.toNat) (fun a b h => by cases a <;> cases b <;> rfl) fun i j t u s Q E hc q => by
      unfold powOk at hc
      simp only [Bool.and_eq_true, decide_eq_true_eq] at hc
      refine pow_int hc.1 ?_ q
      have h1 : (Builtin.Int.intBits i : Int) ≤ ((i.natAbs.log2 + 1 : Nat) : Int) := Int.ofNat_le.mpr (intBits_le i)
      have h2 := Int.mul_le_mul_of_nonneg_right h1 hc.1
      have h3 : (2 : Int) ^ 27 = 134217728 := by decide
      omega
  | LShift =>
    exact int2_ok (C := shlOk) (g := fun i j => i * 2 ^ j.toNat) (fun a b h => by cases a <;> cases b <;> rfl) fun i j t u s Q E hc q => by
      unfold shlOk at hc
      simp only [Bool.and_eq_true, decide_eq_true_eq] at hc
      refine lshift_int hc.1 ?_ q
      have h1 : (Builtin.Int.intBits i : Int) ≤ ((i.natAbs.log2 + 1 : Nat) : Int) := Int.ofNat_le.mpr (intBits_le i)
      have h3 : (2 : Int) ^ 27 = 134217728 := by decide
      omega
  | _ => exact no fun a b h => rfl
/-- -x -/
def r1 (G : GW) (F : D → Hd → Out D) : V → Hp → VK → Prop := fun x H Q => ∃ m h a NoE, Rel G m h H ∧ DR G.K m H a x ∧ Sat G (RD G) m H (F a h) Q NoE
theorem neg_ok : UnR X (unaryOp .USub) (r1 G negV) := by
  intro pins s σ H x v Q I rx ⟨m, h, a, NoE, r, da, q⟩
  cases a with
  | int i =>
    cases da
    exact un_neg pins s σ H _ v Q I rx ⟨i, rfl, q.ok r (.int _)⟩
  | _ => exact False.elim q
/-! ### truth, comparisons -/
theorem tru_of {m : List Addr} {h : Hd} {H : Hp} {d : D} {v : V} {k : Bool} (hK : X.K = G.K) (r : Rel G m h H) (da : DR G.K m H d v) (e : truthD h d = some k) : TruV X.K v H k := by
  cases d with
  | non => cases da; cases e; rfl
  | bl b => cases da; cases e; rfl
  | int i => cases da; cases e; rfl
  | str z =>
    cases da
    have e' : (if z.length ≤ line then some ((z.length : Int) != 0) else none) = some k := e
    split at e'
    · rename_i hz
      cases e'
      exact ⟨by rw [← line_eq]; exact hz, rfl⟩
    · cases e'
  | tup xs =>
    cases da with
    | tup t d =>
      cases e
      exact .inr (.inl ⟨_, hK ▸ t, by rw [d.empty]⟩)
  | fl xs =>
    cases da with
    | fl t d =>
      cases e
      exact .inl ⟨_, hK ▸ t.sq, by rw [d.empty]⟩
  | ref n =>
    have e' : (match lstAt h n with
      | some xs => some (!xs.isEmpty)
      | none => none) = some k := e
    split at e'
    · rename_i xs e1
      cases e'
      obtain ⟨a, vs, rfl, _, h1, d1⟩ := r.lstV da e1
      exact .inl ⟨vs, SqL.of h1, by rw [d1.empty]⟩
    · cases e'
end
section
variable {K : PySem.W.Frag} {m : List Addr} {H : Hp} {h : Hd}
mutual
theorem dp_of (sh : ∀ d : D, D → Prop) : ∀ {d : D} {v : V}, DR K m H d v → (toPy h d).canLay0 = true → Dp K H v (toPy h d)
  | _, _, .non, _ => by simp only [toPy]; exact .non
  | _, _, .bl b, _ => by simp only [toPy]; exact .bl b
  | _, _, .int i, _ => by simp only [toPy]; exact .int i
  | _, _, .str s, _ => by simp only [toPy]; exact .str s
  | _, _, .tup t d, c => by
    simp only [toPy] at c ⊢
    exact .tup t (dps_of sh d (by simpa [PyData.canLay0] using c))
  | _, _, .fl t d, c => by
    simp only [toPy] at c ⊢
    exact .lst t.sq (dps_of sh d (by simpa [PyData.canLay0] using c))
  | _, _, .ref _, c => by simp [toPy, PyData.canLay0] at c
theorem dps_of (sh : ∀ d : D, D → Prop) : ∀ {ds : List D} {vs : List V}, DRs K m H ds vs → PyData.canLayAll0 (toPys h ds) = true → DpAll K H vs (toPys h ds)
  | _, _, .nil, _ => by simp only [toPys]; exact .nil
  | _, _, .cons a r, c => by
    simp only [toPys] at c ⊢
    rw [PyData.canLayAll0, Bool.and_eq_true] at c
    exact .cons (dp_of sh a c.1) (dps_of sh r c.2)
end
theorem dpT_of {G : GW} {d : D} {v : V} (r : Rel G m h H) (a : DR G.K m H d v) (c : SeqAt.shaped (toPyT h d) = true) : Dp G.K H v (toPyT h d) := by
  have c1 : (toPyT h d).canLay0 = true := by
    unfold SeqAt.shaped at c
    rw [Bool.and_eq_true] at c
    exact c.1
  cases d with
  | ref n =>
    unfold toPyT at c1 ⊢
    dsimp only at c1 ⊢
    split at c1
    · rename_i xs e
      obtain ⟨p, vs, rfl, _, h1, d1⟩ := r.lstV a e
      exact .lst (SqL.of h1) (dps_of (fun _ _ => True) d1 (by simpa [PyData.canLay0] using c1))
    · simp [PyData.canLay0] at c1
  | _ => exact dp_of (fun _ _ => True) a c1
end
section
variable {X : Cx} {G : GW}
/-- the reading of a comparison -/
def rc (G : GW) (F : Hd → D → D → Option Bool) : R2 := r2 G fun x y h => boolO h (F h x y)
theorem rc_out {F : Hd → D → D → Option Bool} {x y : V} {H : Hp} {Q : VK} (q : rc G F x y H Q) : ∃ m h a b c, Rel G m h H ∧ DR G.K m H a x ∧ DR G.K m H b y ∧ F h a b = some c ∧ Q (.bl c) H := by
  obtain ⟨m, h, a, b, NoE, r, da, db, q⟩ := q
  have q : Sat G (RD G) m H (boolO h (F h a b)) Q NoE := q
  cases e : F h a b with
  | none =>
    rw [e] at q
    exact False.elim q
  | some c =>
    rw [e] at q
    exact ⟨m, h, a, b, c, r, da, db, e, Sat.ok (G := G) q r (.bl c)⟩
theorem eq_ok (hK : X.K = G.K) (hu : X.A.units + 64 < cLine) : OpR X (compareOp .Eq) (rc G eqV) := by
  intro pins s σ H x y v u Q I rx ry q
  obtain ⟨m, h, a, b, c, r, da, db, e, q⟩ := rc_out q
  unfold eqV at e
  split at e
  · rename_i hs
    rw [Bool.and_eq_true] at hs
    cases e
    exact op_eqD hu pins s σ H x y v u Q I rx ry ⟨_, _, hK ▸ dpT_of r da hs.1, hK ▸ dpT_of r db hs.2, hs.1, hs.2, q⟩
  · cases e
theorem ne_ok (hK : X.K = G.K) (hu : X.A.units + 64 < cLine) : OpR X (compareOp .NotEq) (rc G fun h x y => (eqV h x y).map not) := by
  intro pins s σ H x y v u Q I rx ry q
  obtain ⟨m, h, a, b, c, r, da, db, e, q⟩ := rc_out q
  unfold eqV at e
  split at e
  · rename_i hs
    rw [Bool.and_eq_true] at hs
    cases e
    exact op_neD hu pins s σ H x y v u Q I rx ry ⟨_, _, hK ▸ dpT_of r da hs.1, hK ▸ dpT_of r db hs.2, hs.1, hs.2, q⟩
  · cases e
theorem ord_ok {op : CmpOp} {F : Hd → D → D → Option Bool} {g : Int → Int → Bool} (hF : ∀ h a b, F h a b = match a, b with
      | .int i, .int j => some (g i j)
      | _, _ => none) (ho : OpR X (compareOp op) (rI0 fun i j => .bl (g i j))) : OpR X (compareOp op) (rc G F) := by
  intro pins s σ H x y v u Q I rx ry q
  obtain ⟨m, h, a, b, c, r, da, db, e, q⟩ := rc_out q
  rw [hF] at e
  cases a with
  | int i =>
    cases b with
    | int j =>
      cases da
      cases db
      cases e
      exact ho pins s σ H _ _ v u Q I rx ry ⟨i, j, rfl, rfl, q⟩
    | _ => cases e
  | _ => cases e
theorem is_none_bl {M : Model} {A : Around} {E : Value → Shared → Prop} {s : Shared} {Q : Value → Shared → Prop} {c : Bool} (h : Q (.bool false) s) : wpAny M A (compareOp .Is .none (.bool c)) Q E s :=
  wpAny_pure (a := Value.bool (Value.none == Value.bool c)) h
theorem isnot_none_bl {M : Model} {A : Around} {E : Value → Shared → Prop} {s : Shared} {Q : Value → Shared → Prop} {c : Bool} (h : Q (.bool true) s) : wpAny M A (compareOp .IsNot .none (.bool c)) Q E s :=
  wpAny_pure (a := Value.bool (!(Value.none == Value.bool c))) h
theorem is_ok : OpR X (compareOp .Is) (rc G fun _ => isV) := by
  intro pins s σ H x y v u Q I rx ry q
  obtain ⟨m, h, a, b, c, r, da, db, e, q⟩ := rc_out q
  cases b with
  | non =>
    cases db
    have e' : isV a .non = some c := e
    refine op_isN pins s σ H _ _ v u Q I rx ry ⟨rfl, ?_⟩
    cases a <;> cases da <;> first | (cases e'; exact q) | cases e'
  | bl k =>
    cases db
    cases ry
    have e' : isV a (.bl k) = some c := e
    cases a with
    | bl j =>
      cases da
      cases rx
      cases e'
      exact is_bool ⟨.bl _, H, I, rfl, q⟩
    | non =>
      cases da
      cases rx
      cases e'
      exact is_none_bl ⟨.bl _, H, I, rfl, q⟩
    | _ => cases e'
  | _ => cases a <;> cases e
theorem isnot_ok : OpR X (compareOp .IsNot) (rc G fun _ x y => (isV x y).map not) := by
  intro pins s σ H x y v u Q I rx ry q
  obtain ⟨m, h, a, b, c, r, da, db, e, q⟩ := rc_out q
  cases b with
  | non =>
    cases db
    have e' : (isV a .non).map not = some c := e
    refine op_notN pins s σ H _ _ v u Q I rx ry ⟨rfl, ?_⟩
    cases a <;> cases da <;> first | (cases e'; exact q) | cases e'
  | bl k =>
    cases db
    cases ry
    have e' : (isV a (.bl k)).map not = some c := e
    cases a with
    | bl j =>
      cases da
      cases rx
      cases e'
      exact isnot_bool ⟨.bl _, H, I, rfl, by
        have : (j != k) = !(j == k) := rfl
        rw [this]
        exact q⟩
    | non =>
      cases da
      cases rx
      cases e'
      exact isnot_none_bl ⟨.bl _, H, I, rfl, q⟩
    | _ => cases e'
  | _ => cases a <;> cases e
theorem all_flatV : ∀ {xs : List D}, xs.all flatD = true → (xs.map toV).all flatV = true
  | [], _ => rfl
  | x :: xs, f => by
    rw [List.all_cons, Bool.and_eq_true] at f
    rw [List.map_cons, List.all_cons, flatV_toV f.1, all_flatV f.2]
    rfl
theorem in_gen (hK : X.K = G.K) {op : CmpOp} {neg : Bool} (ho : OpR X (compareOp op) (rIn X.K neg))
    (hs : ∀ {pins s σ H i z v u Q}, Inv X pins σ H s → RelV (.str i) v → RelV (.str z) u → Q (V.bl (if neg then !(!(Builtin.Str.occurrences z i 0 z.length 1).isEmpty) else !(Builtin.Str.occurrences z i 0 z.length 1).isEmpty)) H → wpAny (model X.prog X.w) X.A (compareOp op v u) (EP X pins σ Q) X.xe s) :
    OpR X (compareOp op) (rc G fun h x y => (inV h x y).map fun b => if neg then !b else b) := by
  intro pins s σ H x y v u Q I rx ry q
  obtain ⟨m, h, a, b, c, r, da, db, e, qq⟩ := rc_out q
  cases e1 : inV h a b with
  | none => rw [e1] at e; cases e
  | some k =>
    rw [e1] at e
    cases e
    have q := qq
    cases b with
    | tup xs =>
      cases db with
      | tup t d =>
        have e2 : (if flatD a && xs.all flatD then some (L2.inV (toV a) (xs.map toV)) else none) = some k := e1
        split at e2
        · rename_i f
          rw [Bool.and_eq_true] at f
          cases e2
          rw [d.flat f.2] at t
          rw [da.flat f.1] at rx
          exact ho pins s σ H _ _ v u Q I rx ry ⟨_, _, rfl, .inr (hK ▸ t), flatV_toV f.1, all_flatV f.2, qq⟩
        · cases e2
    | fl xs =>
      cases db with
      | fl t d =>
        have e2 : (if flatD a && xs.all flatD then some (L2.inV (toV a) (xs.map toV)) else none) = some k := e1
        split at e2
        · rename_i f
          rw [Bool.and_eq_true] at f
          cases e2
          rw [d.flat f.2] at t
          rw [da.flat f.1] at rx
          exact ho pins s σ H _ _ v u Q I rx ry ⟨_, _, rfl, .inl (hK ▸ t.sq), flatV_toV f.1, all_flatV f.2, qq⟩
        · cases e2
    | ref n =>
      have e2 : (match lstAt h n with
        | some xs => if flatD a && xs.all flatD then some (L2.inV (toV a) (xs.map toV)) else none
        | none => none) = some k := e1
      split at e2
      · rename_i xs e3
        split at e2
        · rename_i f
          rw [Bool.and_eq_true] at f
          cases e2
          obtain ⟨p, vs, rfl, _, h1, d⟩ := r.lstV db e3
          rw [d.flat f.2] at h1
          rw [da.flat f.1] at rx
          exact ho pins s σ H _ _ v u Q I rx ry ⟨_, _, rfl, .inl (SqL.of h1), flatV_toV f.1, all_flatV f.2, qq⟩
        · cases e2
      · cases e2
    | str z =>
      cases a with
      | str i =>
        cases da
        cases db
        cases e1
        exact hs I rx ry qq
      | _ => cases e1
    | _ => cases e1
theorem in_ok (hK : X.K = G.K) : OpR X (compareOp .In) (rc G inV) := by
  have := in_gen (G := G) (neg := false) hK op_in_seq fun {pins s σ H i z v u Q} I rx ry q => op_in_str pins s σ H (.str i) (.str z) v u Q I rx ry ⟨i, z, rfl, rfl, q⟩
  have e : (fun h x y => (inV h x y).map fun b => if false = true then !b else b) = inV := by
    funext h x y
    cases inV h x y <;> rfl
  rw [e] at this
  exact this
theorem notin_ok (hK : X.K = G.K) : OpR X (compareOp .NotIn) (rc G fun h x y => (inV h x y).map not) :=
  in_gen (neg := true) hK op_notIn_seq fun {pins s σ H i z v u Q} I rx ry q => op_notin_str pins s σ H (.str i) (.str z) v u Q I rx ry ⟨i, z, rfl, rfl, q⟩
theorem cmp_ok (hK : X.K = G.K) (hu : X.A.units + 64 < cLine) (op : CmpOp) : OpR X (compareOp op) (rc G (cmpV op)) := by
  cases op with
  | Eq => exact eq_ok hK hu
  | NotEq => exact ne_ok hK hu
  | Lt => exact ord_ok (fun h a b => by cases a <;> cases b <;> rfl) op_lt
  | LtE => exact ord_ok (fun h a b => by cases a <;> cases b <;> rfl) op_le
  | Gt => exact ord_ok (fun h a b => by cases a <;> cases b <;> rfl) op_gt
  | GtE => exact ord_ok (fun h a b => by cases a <;> cases b <;> rfl) op_ge
  | Is => exact is_ok
  | IsNot => exact isnot_ok
  | In => exact in_ok hK
  | NotIn => exact notin_ok hK
/-! ### subscripts -/
theorem atI_of {m : List Addr} {H : Hp} {K : PySem.W.Frag} {ds : List D} {vs : List V} {k : Int} {d : D} (r : DRs K m H ds vs) (e : L2.atI ds k = some d) : ∃ v, L2.atI vs k = some v ∧ DR K m H d v := by
  unfold L2.atI at e ⊢
  rw [← r.length]
  cases q : L2.ixN ds.length k with
  | none => rw [q] at e; cases e
  | some j =>
    rw [q] at e
    exact r.get e
theorem idx_ok (hK : X.K = G.K) : IxR X (r2 G idxV) := by
  intro value slice pins s σ H x y v u Q I rx ry ⟨m, h, a, b, NoE, r, da, db, q⟩ hs
  cases b with
  | int k =>
    cases db
    cases a with
    | tup xs =>
      cases da with
      | tup t d =>
        have q' : Sat G (RD G) m H (match L2.atI xs k with
          | some d => .ok d h
          | none => .no) Q NoE := q
        split at q'
        · rename_i d' e
          obtain ⟨w', e2, dw⟩ := atI_of d e
          exact ix_tup value slice pins s σ H _ _ v u Q I rx ry ⟨_, _, k, w', rfl, rfl, hK ▸ t, e2, q'.ok r dw⟩ hs
        · exact False.elim q'
    | fl xs =>
      cases da with
      | fl t d =>
        have q' : Sat G (RD G) m H (match L2.atI xs k with
          | some d => .ok d h
          | none => .no) Q NoE := q
        split at q'
        · rename_i d' e
          obtain ⟨w', e2, dw⟩ := atI_of d e
          exact ix_list value slice pins s σ H _ _ v u Q I rx ry ⟨_, _, k, w', rfl, rfl, hK ▸ t.sq, e2, q'.ok r dw⟩ hs
        · exact False.elim q'
    | ref n =>
      have q' : Sat G (RD G) m H (match lstAt h n with
        | some xs => match L2.atI xs k with
          | some d => .ok d h
          | none => .no
        | none => .no) Q NoE := q
      split at q'
      · rename_i xs e1
        split at q'
        · rename_i d' e
          obtain ⟨p, vs, rfl, _, h1, d⟩ := r.lstV da e1
          obtain ⟨w', e2, dw⟩ := atI_of d e
          exact ix_list value slice pins s σ H _ _ v u Q I rx ry ⟨_, _, k, w', rfl, rfl, SqL.of h1, e2, q'.ok r dw⟩ hs
        · exact False.elim q'
      · exact False.elim q'
    | str z =>
      have q' : Sat G (RD G) m H (match L2.atI z.cps.toList k with
        | some c => PV.ret (decide (z.length ≤ line)) (.str ⟨#[c]⟩) h
        | none => .no) Q NoE := q
      split at q'
      · rename_i c e
        obtain ⟨hz, q2⟩ := Sat.ret q'
        cases da
        exact ix_str value slice pins s σ H _ _ v u Q I rx ry ⟨z, k, c, rfl, rfl, by rw [← line_eq]; exact of_decide_eq_true hz, e, q2.ok r (.str _)⟩ hs
      · exact False.elim q'
    | _ => exact False.elim q
  | _ => exact False.elim q
def rsl (G : GW) : V → Option Int → Option Int → Hp → VK → Prop := fun x lo hi H Q => ∃ m h a NoE, Rel G m h H ∧ DR G.K m H a x ∧ Sat G (RD G) m H (slV a lo hi h) Q NoE
theorem cut_of {m : List Addr} {H : Hp} {K : PySem.W.Frag} {ds : List D} {vs : List V} (lo hi : Option Int) (r : DRs K m H ds vs) : DRs K m H (cut ds lo hi) (cutV vs lo hi) := by
  unfold cut cutV
  rw [r.length]
  exact (r.drop _).take _
theorem cut_whole {ds : List D} {lo hi : Option Int} (h : HT.sIx ds.length 0 lo = 0 ∧ HT.sIx ds.length ds.length hi = ds.length) : cut ds lo hi = ds := by
  unfold cut
  rw [h.1, h.2]
  simp
theorem sl_ok (hK : X.K = G.K) : SlR X (rsl G) := by
  intro pins s σ H x v vl vu lo hi sl Q I rx hs pl pu ⟨m, h, a, NoE, r, da, q⟩
  cases a with
  | tup xs =>
    cases da with
    | tup t d =>
      refine sl_tupA pins s σ H _ v vl vu lo hi sl Q I rx hs pl pu ⟨_, _, rfl, hK ▸ t, fun hw => ?_, fun _ p hp => q.tup r (cut_of lo hi d) hp⟩
      rw [← d.length] at hw
      have q' : Sat G (RD G) m H (.ok (.tup (cut xs lo hi)) h) Q NoE := q
      rw [cut_whole hw] at q'
      exact q'.ok r (.tup t d)
  | fl xs =>
    cases da with
    | fl t d => exact sl_list pins s σ H _ v vl vu lo hi sl Q I rx hs pl pu ⟨_, _, rfl, hK ▸ t.sq, fun p hp => Sat.newL (xs := cut xs lo hi) q r (cut_of lo hi d) hp⟩
  | ref n =>
    have q' : Sat G (RD G) m H (match lstAt h n with
      | some xs => PV.newL (cut xs lo hi) h
      | none => .no) Q NoE := q
    split at q'
    · rename_i xs e1
      obtain ⟨p, vs, rfl, _, h1, d⟩ := r.lstV da e1
      exact sl_list pins s σ H _ v vl vu lo hi sl Q I rx hs pl pu ⟨_, _, rfl, SqL.of h1, fun p hp => q'.newL r (cut_of lo hi d) hp⟩
    · exact False.elim q'
  | str z =>
    cases da
    obtain ⟨hz, q2⟩ := Sat.ret q
    exact sl_str pins s σ H _ v vl vu lo hi sl Q I rx hs pl pu ⟨z, rfl, by rw [← line_eq]; exact of_decide_eq_true hz, q2.ok r (.str _)⟩
  | _ => exact False.elim q
/-! ### built-in functions -/
def rbi (G : GW) (b : BI) : List V → Hp → VK → Prop := fun vs H Q => ∃ m h xs NoE, Rel G m h H ∧ DRs G.K m H xs vs ∧ Sat G (RD G) m H (biV b xs h) Q NoE
def BI.val : BI → Value
  | .int => .type "int" | .abs => .builtin "abs" | .len => .builtin "len" | .tuple => .type "tuple" | .list => .type "list" | .max => .builtin "max" | .min => .builtin "min" | .all => .builtin "all" | .any => .builtin "any" | .gcd => .builtin "math.gcd" | .str => .type "str"
theorem bls_of {m : List Addr} {H : Hp} {K : PySem.W.Frag} : ∀ {ds : List D} {vs : List V} {bs : List Bool}, DRs K m H ds vs → bls ds = some bs → vs = bs.map V.bl
  | _, _, _, .nil, e => by cases e; rfl
  | _, _, bs, .cons (d := d) (ds := ds) a r, e => by
    cases d with
    | bl b =>
      cases a
      have e' : (bls ds).map (b :: ·) = some bs := e
      cases q : bls ds with
      | none => rw [q] at e'; cases e'
      | some cs =>
        rw [q] at e'
        cases e'
        rw [bls_of r q]
        rfl
    | _ => cases e
theorem one_of {m : List Addr} {H : Hp} {K : PySem.W.Frag} {d : D} {vs : List V} (r : DRs K m H [d] vs) : ∃ v, vs = [v] ∧ DR K m H d v := by
  cases r with
  | cons a r => cases r; exact ⟨_, rfl, a⟩
theorem two_of {m : List Addr} {H : Hp} {K : PySem.W.Frag} {d e : D} {vs : List V} (r : DRs K m H [d, e] vs) : ∃ v w, vs = [v, w] ∧ DR K m H d v ∧ DR K m H e w := by
  cases r with
  | cons a r =>
    cases r with
    | cons b r => cases r; exact ⟨_, _, rfl, a, b⟩
theorem bi_ok (hK : X.K = G.K) (hc : X.calm = true) (b : BI) : CallR X b.val (rbi G b) := by
  intro pins s σ H vs us Q I rv ⟨m, h, xs, NoE, r, d, q⟩
  unfold biV at q
  split at q
  · obtain ⟨v, rfl, a⟩ := one_of d
    cases a
    exact call_int1 pins s σ H _ us Q I rv (.inl ⟨_, rfl, q.ok r (.int _)⟩)
  · obtain ⟨v, rfl, a⟩ := one_of d
    cases a
    exact call_int1 pins s σ H _ us Q I rv (.inr ⟨_, rfl, q.ok r (.int _)⟩)
  · obtain ⟨v, rfl, a⟩ := one_of d
    cases a
    exact call_abs pins s σ H _ us Q I rv ⟨_, rfl, q.ok r (.int _)⟩
  · obtain ⟨v, rfl, a⟩ := one_of d
    cases a with
    | tup t d' => exact call_len_seq pins s σ H _ us Q I rv ⟨_, _, rfl, .inr (hK ▸ t), by rw [← d'.length]; exact q.ok r (.int _)⟩
  · obtain ⟨v, rfl, a⟩ := one_of d
    cases a with
    | fl t d' => exact call_len_seq pins s σ H _ us Q I rv ⟨_, _, rfl, .inl (hK ▸ t.sq), by rw [← d'.length]; exact q.ok r (.int _)⟩
  · obtain ⟨v, rfl, a⟩ := one_of d
    cases a
    obtain ⟨hz, q2⟩ := Sat.ret q
    exact call_len_str pins s σ H _ us Q I rv ⟨_, rfl, by rw [← line_eq]; exact of_decide_eq_true hz, q2.ok r (.int _)⟩
  · split at q
    · rename_i e1
      obtain ⟨v, rfl, a⟩ := one_of d
      obtain ⟨p, ws, rfl, _, h1, d'⟩ := r.lstV a e1
      exact call_len_seq pins s σ H _ us Q I rv ⟨_, _, rfl, .inl (SqL.of h1), by rw [← d'.length]; exact q.ok r (.int _)⟩
    · exact False.elim q
  · obtain ⟨v, rfl, a⟩ := one_of d
    cases a with
    | tup t d' => exact call_tuple_of pins s σ H _ us Q I rv ⟨_, _, rfl, .inr ⟨hK ▸ t, q.ok r (.tup t d')⟩⟩
  · obtain ⟨v, rfl, a⟩ := one_of d
    cases a with
    | fl t d' => exact call_tuple_of pins s σ H _ us Q I rv ⟨_, _, rfl, .inl ⟨hK ▸ t.sq, fun p hp => q.tup r d' hp⟩⟩
  · split at q
    · rename_i e1
      obtain ⟨v, rfl, a⟩ := one_of d
      obtain ⟨p, ws, rfl, _, h1, d'⟩ := r.lstV a e1
      exact call_tuple_of pins s σ H _ us Q I rv ⟨_, _, rfl, .inl ⟨SqL.of h1, fun p hp => q.tup r d' hp⟩⟩
    · exact False.elim q
  · obtain ⟨v, rfl, a⟩ := one_of d
    cases a with
    | tup t d' => exact call_list_of pins s σ H _ us Q I rv ⟨_, _, rfl, .inr (hK ▸ t), fun p hp => q.newL r d' hp⟩
  · obtain ⟨v, rfl, a⟩ := one_of d
    cases a with
    | fl t d' => exact call_list_of pins s σ H _ us Q I rv ⟨_, _, rfl, .inl (hK ▸ t.sq), fun p hp => q.newL r d' hp⟩
  · split at q
    · rename_i e1
      obtain ⟨v, rfl, a⟩ := one_of d
      obtain ⟨p, ws, rfl, _, h1, d'⟩ := r.lstV a e1
      exact call_list_of pins s σ H _ us Q I rv ⟨_, _, rfl, .inl (SqL.of h1), fun p hp => q.newL r d' hp⟩
    · exact False.elim q
  · obtain ⟨v, w, rfl, a, b⟩ := two_of d
    cases a
    cases b
    exact call_max2 hc pins s σ H _ us Q I rv ⟨_, _, rfl, q.ok r (.int _)⟩
  · obtain ⟨v, w, rfl, a, b⟩ := two_of d
    cases a
    cases b
    exact call_min2 hc pins s σ H _ us Q I rv ⟨_, _, rfl, q.ok r (.int _)⟩
  · split at q
    · rename_i bs e1
      obtain ⟨v, rfl, a⟩ := one_of d
      cases e2 : lstAt h _ with
      | none => rw [e2] at e1; cases e1
      | some ys =>
        rw [e2] at e1
        obtain ⟨p, ws, rfl, _, h1, d'⟩ := r.lstV a e2
        exact cr_all hc pins s σ H _ us Q I rv ⟨_, bs, rfl, by rw [← bls_of d' e1]; exact SqL.of h1, q.ok r (.bl _)⟩
    · exact False.elim q
  · split at q
    · rename_i bs e1
      obtain ⟨v, rfl, a⟩ := one_of d
      cases e2 : lstAt h _ with
      | none => rw [e2] at e1; cases e1
      | some ys =>
        rw [e2] at e1
        obtain ⟨p, ws, rfl, _, h1, d'⟩ := r.lstV a e2
        exact cr_any hc pins s σ H _ us Q I rv ⟨_, bs, rfl, by rw [← bls_of d' e1]; exact SqL.of h1, q.ok r (.bl _)⟩
    · exact False.elim q
  · obtain ⟨v, w, rfl, a, b⟩ := two_of d
    cases a
    cases b
    exact cr_gcd pins s σ H _ us Q I rv ⟨_, _, rfl, q.ok r (.int _)⟩
  · obtain ⟨v, rfl, a⟩ := one_of d
    cases a
    obtain ⟨hz, q2⟩ := Sat.ret q
    exact call_str_int pins s σ H _ us Q I rv ⟨_, rfl, of_decide_eq_true hz, q2.ok r (.str _)⟩
  · exact False.elim q
/-! ### isinstance, built-in types -/
def Ty.nm : Ty → String
  | .int => "int" | .bool => "bool" | .str => "str" | .tuple => "tuple" | .list => "list" | .cls _ => ""
theorem tyX_tup {m : List Addr} {H : Hp} {a : Addr} {vs : List V} {K : PySem.W.Frag} (t : SqT K H a vs) : TyX K H (.ref a) (.type "tuple") := by
  rcases t with (t | ⟨o, t⟩) | ⟨o, its, n, hk, hc, _⟩
  · exact .base (.tup t)
  · exact .fTuple t
  · exact .kTuple hk hc
theorem tyX_lst {H : Hp} {a : Addr} {vs : List V} {K : PySem.W.Frag} (t : SqL K H a vs) : TyX K H (.ref a) (.type "list") := by
  rcases t with (t | ⟨o, t⟩) | ⟨o, its, n, hk, hc, _⟩
  · exact .base (.lst t)
  · exact .base (.frz t)
  · exact .kList hk hc
/-- isinstance(x, T): the arguments as they stand -/
def risi (G : GW) (t : Ty) : List V → Hp → VK → Prop := fun vs H Q => ∃ m h a v NoE, vs = [v, .ty t.nm] ∧ (∀ n, t ≠ .cls n) ∧ Rel G m h H ∧ DR G.K m H a v ∧ Sat G (RD G) m H (boolO h (isiV a t h)) Q NoE
theorem isi_ok (hK : X.K = G.K) (t : Ty) : CallR X (.builtin "isinstance") (risi G t) := by
  intro pins s σ H vs us Q I rv ⟨m, h, a, v, NoE, e, nc, r, d, q⟩
  subst e
  have go : ∀ {T : String} {b : Bool}, TyX X.K H v (.type T) → kitB T t.nm = some b → isiV a t h = some b → wpAny (model X.prog X.w) X.A (call (.builtin "isinstance") us) (EP X pins σ Q) X.xe s := fun {T b} ty k e => by
    rw [e] at q
    exact call_isi pins s σ H _ us Q I rv ⟨v, .ty t.nm, .type T, .type t.nm, b, rfl, .ty _, ty, kit_ty k, Sat.ok (G := G) q r (.bl b)⟩
  have ref : ∀ {n : Nat}, a = .ref n → ∃ xs, lstAt h n = some xs := fun {n} e => by
    subst e
    cases e2 : lstAt h n with
    | some xs => exact ⟨xs, rfl⟩
    | none =>
      exfalso
      cases t <;> first
        | exact nc _ rfl
        | (have q' : Sat G (RD G) m H (boolO h ((lstAt h n).map fun _ => true)) Q NoE := q
           rw [e2] at q'
           exact False.elim q')
        | (have q' : Sat G (RD G) m H (boolO h ((lstAt h n).map fun _ => false)) Q NoE := q
           rw [e2] at q'
           exact False.elim q')
  cases a with
  | non => cases d; cases t <;> first | exact absurd rfl (nc _) | exact go (.base .non) (by decide +kernel) rfl
  | bl k => cases d; cases t <;> first | exact absurd rfl (nc _) | exact go (.base (.bl _)) (by decide +kernel) rfl
  | int k => cases d; cases t <;> first | exact absurd rfl (nc _) | exact go (.base (.int _)) (by decide +kernel) rfl
  | str k => cases d; cases t <;> first | exact absurd rfl (nc _) | exact go (.base (.str _)) (by decide +kernel) rfl
  | tup xs =>
    cases d with
    | tup tt d' =>
      have ty := tyX_tup (m := m) (hK ▸ tt)
      cases t <;> first | exact absurd rfl (nc _) | exact go ty (by decide +kernel) rfl
  | fl xs =>
    cases d with
    | fl tt d' =>
      have ty := tyX_lst (K := X.K) (hK ▸ tt.sq)
      cases t <;> first | exact absurd rfl (nc _) | exact go ty (by decide +kernel) rfl
  | ref n =>
    obtain ⟨xs, e⟩ := ref rfl
    obtain ⟨p, ws, rfl, _, h1, d'⟩ := r.lstV d e
    have ty := tyX_lst (K := X.K) (SqL.of h1)
    cases t <;> first
      | exact absurd rfl (nc _)
      | exact go (b := true) ty (by decide +kernel) (by unfold isiV; dsimp only; rw [e]; rfl)
      | exact go (b := false) ty (by decide +kernel) (by unfold isiV; dsimp only; rw [e]; rfl)
/-! ### methods of lists, stores, augmented assignments -/
def rmt (G : GW) (F : D → List D → Hd → Out D) : V → List V → Hp → VK → Prop := fun x vs H Q => ∃ m h a xs NoE, Rel G m h H ∧ DR G.K m H a x ∧ DRs G.K m H xs vs ∧ Sat G (RD G) m H (F a xs h) Q NoE
/-- a tracked list is written -/
theorem lst_set {m : List Addr} {h : Hd} {H : Hp} {n : Nat} {p : Addr} {ws ws' : List V} {ys' : List D} (r : Rel G m h H) (ep : m[n]? = some p) (h1 : H p = some (.lst ws)) (d : DRs G.K m H ys' ws') : Step m H m (upd H p (.lst ws')) ∧ Rel G m (h.set n (.lst ys')) (upd H p (.lst ws')) := by
  have hw : ∀ b u, b ≠ p → H b = some u → upd H p (.lst ws') b = some u := fun b u hb e => by rw [upd_ne hb]; exact e
  have tp : ∀ b xs, H b = some (.tup xs) → upd H p (.lst ws') b = some (.tup xs) := fun b xs e => hw b _ (fun z => by rw [z, h1] at e; cases e) e
  have fz : ∀ b o u, H b = some (.frz o u) → upd H p (.lst ws') b = some (.frz o u) := fun b o u e => hw b _ (fun z => by rw [z, h1] at e; cases e) e
  exact set_step (o := .lst ws') (c := .lst ys') r ep h1 (fun _ z => by cases z) (fun _ _ z => by cases z) ⟨_, upd_same, d.mono (fun _ _ e => e) tp fz⟩
theorem append_ok : MtM X "list.append" (rmt G appV) := by
  intro pins s σ H x vs v us Q I rx rv ⟨m, h, a, xs, NoE, r, da, d, q⟩
  unfold appV at q
  split at q
  · split at q
    · rename_i ys e1
      obtain ⟨hz, q2⟩ := Sat.ret q
      obtain ⟨p, ws, rfl, ep, h1, d1⟩ := r.lstV da e1
      obtain ⟨w', rfl, dy⟩ := one_of d
      refine mt_append pins s σ H _ _ v us Q I rx rv ⟨p, ws, w', rfl, rfl, h1, by rw [← d1.length, ← line_eq]; exact of_decide_eq_true hz, ?_⟩
      obtain ⟨st, r'⟩ := lst_set r ep h1 (d1.append (.cons dy .nil))
      exact q2 m _ _ st r' .non
    · exact False.elim q
  · exact False.elim q
theorem extend_ok : MtM X "list.extend" (rmt G extV) := by
  intro pins s σ H x vs v us Q I rx rv ⟨m, h, a, xs, NoE, r, da, d, q⟩
  unfold extV at q
  split at q
  · split at q
    · rename_i ys zs e1 e2
      obtain ⟨hz, q2⟩ := Sat.ret q
      obtain ⟨p, ws, rfl, ep, h1, d1⟩ := r.lstV da e1
      obtain ⟨w', rfl, dy⟩ := one_of d
      obtain ⟨p2, ws2, rfl, ep2, h2, d2⟩ := r.lstV dy e2
      refine mt_extend pins s σ H _ _ v us Q I rx rv ⟨p, p2, ws, ws2, rfl, rfl, h1, h2, by rw [← d1.length, ← d2.length, ← line_eq]; exact of_decide_eq_true hz, ?_⟩
      obtain ⟨st, r'⟩ := lst_set r ep h1 (d1.append d2)
      exact q2 m _ _ st r' .non
    · exact False.elim q
  · exact False.elim q
theorem aug_ok (op : Operator) : PIp X op (r2 G (augV op)) := by
  intro pins s σ H x y v u Q I rx ry ⟨m, h, a, b, NoE, r, da, db, q⟩
  unfold augV at q
  split at q
  · cases da
    cases db
    exact ip_add pins s σ H _ _ v u Q I rx ry ⟨_, _, rfl, rfl, q.ok r (.int _)⟩
  · cases da
    cases db
    exact ip_sub pins s σ H _ _ v u Q I rx ry ⟨_, _, rfl, rfl, q.ok r (.int _)⟩
  · exact False.elim q
end
end PV
/-! PVD: from the text's expressions to code, and that the machine does what the code says. -/
namespace PV
open PySem PySem.Spec PyProof.Rows L2

/-- what a global name stands for -/
abbrev Arr := List (Sum (Sum Nat Nat) D)
inductive Gv where
  | con (d : D) | fn (i np : Nat) (shapes : List (Nat × List Str × Arr)) | bi (b : BI) | ty (t : Ty) | isi | rng | zip | enum | exc (c : Nat) (fs : List Str)
/-- where a piece of text stands: the names by slot, the scope, the names that may be stored, the globals, whether in an except suite, the exception's slot -/
structure CC where
  N : List Str
  sc : Scope
  as : List Str
  gl : List (Str × Gv)
  hot : Bool
  xi : Option Nat

def ixOf (N : List Str) (x : Str) : Option Nat := match N with
  | [] => none
  | y :: r => if x = y then some 0 else (ixOf r x).map (· + 1)
theorem ixOf_get : ∀ {N : List Str} {x : Str} {i : Nat}, ixOf N x = some i → N[i]? = some x
  | [], _, _, e => by cases e
  | y :: r, x, i, e => by
    unfold ixOf at e
    split at e
    · rename_i h
      cases e
      rw [h]
      rfl
    · cases q : ixOf r x with
      | none => rw [q] at e; cases e
      | some j =>
        rw [q] at e
        cases e
        show r[j]? = some x
        exact ixOf_get q
def plainName (x : Str) : Bool := !(x == ("__debug__" : Str)) && !(x == ("__classdict__" : Str)) && decide (x ≠ "__name__")
def visB (sc : Scope) (x : Str) : Bool := match sc.names.lookup x with
  | some .local => true
  | some .cell => true
  | some .free => true
  | _ => false
def glB (sc : Scope) (x : Str) : Bool := match sc.names.lookup x with
  | some .globalImplicit => true
  | _ => false
def cConst : Const → Option D
  | .none => some .non
  | .bool b => some (.bl b)
  | .int i => some (.int i)
  | .str s => some (.str s)
  | _ => none
def cName (cc : CC) (x : Str) : Option QE :=
  if plainName x then
    if visB cc.sc x then match ixOf cc.N x with
      | some i => if cc.xi = some i then none else some (.var i)
      | none => none
    else if glB cc.sc x then match cc.gl.lookup x with
      | some (.con d) => some (.con d)
      | _ => none
    else none
  else none
def foldB (f : Expr → Option QE) (mk : QE → QE → QE) : List Expr → Option QE
  | [] => none
  | [a] => f a
  | a :: b :: r => match f a, foldB f mk (b :: r) with
    | some p, some q => some (mk p q)
    | _, _ => none
def foldT (f : Expr → Option QT) (mk : QT → QT → QT) : List Expr → Option QT
  | [] => none
  | [a] => f a
  | a :: b :: r => match f a, foldT f mk (b :: r) with
    | some p, some q => some (mk p q)
    | _, _ => none
def cList (f : Expr → Option QE) : List Expr → Option QEs
  | [] => some .nil
  | a :: r => match f a, cList f r with
    | some p, some q => some (.cons p q)
    | _, _ => none
def cKws (f : Expr → Option QE) : List Keyword → Option QEs
  | [] => some .nil
  | ⟨some _, a, _⟩ :: r => match f a, cKws f r with
    | some p, some q => some (.cons p q)
    | _, _ => none
  | _ => none
def kwNames (ks : List Keyword) : List Str := ks.filterMap (·.arg)
def cOpt (f : Expr → Option QE) : Option Expr → Option QO
  | none => some .none
  | some e => (f e).map .some
def tyBI : Ty → Option BI
  | .int => some .int
  | .str => some .str
  | .tuple => some .tuple
  | .list => some .list
  | _ => none
def shapeOf (shapes : List (Nat × List Str × Arr)) (n : Nat) (ks : List Str) : Option Arr := match shapes with
  | [] => none
  | (m, ls, a) :: r => if m = n ∧ ls = ks then some a else shapeOf r n ks
theorem shapeOf_mem : ∀ {shapes : List (Nat × List Str × Arr)} {n : Nat} {ks : List Str} {a : Arr}, shapeOf shapes n ks = some a → (n, ks, a) ∈ shapes
  | (m, ls, b) :: r, n, ks, a, e => by
    unfold shapeOf at e
    split at e
    · rename_i h
      cases e
      rw [h.1, h.2]
      exact List.mem_cons_self
    · exact List.mem_cons_of_mem _ (shapeOf_mem e)
/-- targets -/
def cTgts (f : Expr → Option QG) : List Expr → Option (List QG)
  | [] => some []
  | e :: r => match f e, cTgts f r with
    | some g, some gs => some (g :: gs)
    | _, _ => none
def cTgt (cc : CC) : Nat → Expr → Option QG
  | 0, _ => none
  | n + 1, e => match e with
    | .Name x _ => if cc.as.contains x then match ixOf cc.N x with
      | some i => if cc.xi = some i then none else some (.nm i)
      | none => none
      else none
    | .Tuple es _ _ => if cc.hot then none else (cTgts (cTgt cc n) es).map .tp
    | _ => none
def cBi (cc : CC) (f : Expr → Option QE) (b : BI) (args : List Expr) : Option QE := match args with
  | [] => none
  | a :: r => if cc.hot then none else (cList f (a :: r)).map (.bi b)
def tyOf (cc : CC) (e : Expr) : Option Ty := match e with
  | .Name x _ => if plainName x && glB cc.sc x then match cc.gl.lookup x with
    | some (.ty t) => match t with
      | .cls _ => none
      | t => some t
    | _ => none
    else none
  | _ => none
/-- the fields of own exceptions -/
def xFlds : List Str := ["layer", "reason", "row", "place"]
/-- the name of the exception that the suite holds -/
def isXi (cc : CC) (e : Expr) : Bool := cc.hot && (match e with
  | .Name y _ => plainName y && visB cc.sc y && decide (ixOf cc.N y = cc.xi) && cc.xi.isSome
  | _ => false)
def excOf (cc : CC) (e : Expr) : Option Nat := match e with
  | .Name c _ => if plainName c && glB cc.sc c then match cc.gl.lookup c with
    | some (.exc n _) => some n
    | _ => none
    else none
  | _ => none
def cCall (cc : CC) (f : Expr → Option QE) (x : Str) (args : List Expr) (kws : List Keyword) : Option QE :=
  if plainName x && glB cc.sc x then match cc.gl.lookup x with
    | some (.fn i np shapes) => if cc.hot then none else match args, kws with
      | [], _ :: _ => none
      | args, kws => match cList f args, cKws f kws, shapeOf shapes args.length (kwNames kws) with
        | some es, some ks, some arr => some (.call i es ks arr)
        | _, _, _ => none
    | some (.bi b) => match kws with
      | [] => cBi cc f b args
      | _ => none
    | some (.ty t) => match kws, tyBI t with
      | [], some b => cBi cc f b args
      | _, _ => none
    | some .isi => match kws, args with
      | [], [a, t] => if isXi cc a then (excOf cc t).map .excIs else match f a, tyOf cc t with
        | some p, some t => some (.isi p t)
        | _, _ => none
      | _, _ => none
    | _ => none
  else none
def mthOf (m : Str) : Option Nat := if m = ("append" : Str) then some 0 else if m = ("extend" : Str) then some 1 else none
/-- the iterables that are walked -/
def cIter (cc : CC) (f : Expr → Option QE) (tg : QG) (e : Expr) : Option QI := match e with
  | .Call (.Name x p) args kws pos => if plainName x && glB cc.sc x then match cc.gl.lookup x, kws with
    | some .rng, [] => match args with
      | [a] => (f a).map .rng1
      | [a, b] => match f a, f b with
        | some p, some q => some (.rng2 p q)
        | _, _ => none
      | _ => none
    | some .zip, [] => match args, tg with
      | [a, b], .tp _ => match f a, f b with
        | some p, some q => some (.zip p q)
        | _, _ => none
      | _, _ => none
    | _, _ => (f e).map .v
    else none
  | .Set .. => none
  | e => (f e).map .v
def ownOf (N : List Str) : List (Str × NameKind) → Option (List (Str × Nat))
  | [] => some []
  | (x, k) :: r => match k with
    | .local | .cell => match ixOf N x, ownOf N r with
      | some i, some l => some ((x, i) :: l)
      | none, some l => some l
      | _, none => none
    | _ => ownOf N r
def cBlk (cc : CC) (scope : Scope) (own : List (Str × Nat)) : CC := { cc with sc := relS scope cc.sc, as := own.map (·.1), hot := false, xi := none }
def notCall : Expr → Bool
  | .Call .. => false
  | _ => true
mutual
def cE : Nat → CC → Expr → Option QE
  | 0, _, _ => none
  | n + 1, cc, e => match e with
    | .Constant c _ _ => (cConst c).map .con
    | .Name x _ => cName cc x
    | .BinOp a op b _ => match cE n cc a, cE n cc b with
      | some p, some q => some (.bin op p q)
      | _, _ => none
    | .UnaryOp op a _ => match op with
      | .USub => (cE n cc a).map .neg
      | .Not => (cE n cc a).map .nott
      | _ => none
    | .BoolOp op vs _ => match op with
      | .And => foldB (cE n cc) .andv vs
      | .Or => foldB (cE n cc) .orv vs
    | .Compare a ops bs _ => match ops, bs with
      | [op], [b] => match cE n cc a, cE n cc b with
        | some p, some q => some (.cmp op p q)
        | _, _ => none
      | [op, op'], [b, c] => match cE n cc a, cE n cc b, cE n cc c with
        | some p, some q, some r => some (.chain op op' p q r)
        | _, _, _ => none
      | _, _ => none
    | .IfExp t a b _ => match cT n cc t, cE n cc a, cE n cc b with
      | some t, some p, some q => some (.ife t p q)
      | _, _, _ => none
    | .Tuple es _ _ => (cList (cE n cc) es).map .tup
    | .List es _ => (cList (cE n cc) es).map .lst
    | .Subscript a i _ => match i with
      | .Slice lo hi st _ => match st, cE n cc a, cOpt (cE n cc) lo, cOpt (cE n cc) hi with
        | none, some p, some l, some u => some (.slc p l u)
        | _, _, _, _ => none
      | i => match cE n cc a, cE n cc i with
        | some p, some q => some (.idx p q)
        | _, _ => none
    | .Call f args kws cp => match f with
      | .Name x _ => cCall cc (cE n cc) x args kws
      | .Attribute o m ap => match args, kws, mthOf m with
        | [a], [], some k => match (ap.endLine == cp.line) && notCall o, cE n cc o, cE n cc a with
          | true, some p, some q => some (.mth k p (.cons q .nil))
          | _, _, _ => none
        | _, _, _ => none
      | _ => none
    | .Attribute o f _ => if isXi cc o && xFlds.contains f then some (.excF f) else none
    | .ListComp elt gs scope _ => match gs with
      | [⟨tg, it, ifs, as⟩] => match decide (as = 0) && !cc.hot, ownOf cc.N scope.names with
        | true, some own => match blkC cc.N cc.sc scope own with
          | true => match cTgt (cBlk cc scope own) 4 tg with
            | some g => match cIter cc (cE n cc) g it, cE n (cBlk cc scope own) elt with
              | some i, some el => match ifs with
                | [] => some (.lc el g i (own.map (·.2)) .yes)
                | [c] => match cT n (cBlk cc scope own) c with
                  | some t => some (.lc el g i (own.map (·.2)) t)
                  | none => none
                | _ => none
              | _, _ => none
            | none => none
          | false => none
        | _, _ => none
      | _ => none
    | _ => none
def cT : Nat → CC → Expr → Option QT
  | 0, _, _ => none
  | n + 1, cc, e => match e with
    | .UnaryOp op a p => match op with
      | .Not => (cT n cc a).map .not
      | op => (cE n cc (.UnaryOp op a p)).map .v
    | .BoolOp op vs _ => match op with
      | .And => foldT (cT n cc) .and vs
      | .Or => foldT (cT n cc) .or vs
    | .IfExp .. => none
    | e => (cE n cc e).map .v
end

/-! ### the slots -/
def SR (G : GW) (m : List Addr) (H : Hp) (s : Sl) (σ : L2.St) : Prop := s.length = σ.length ∧ ∀ (i : Nat) (d : D), s[i]? = some (some d) → ∃ v, σ[i]? = some (some v) ∧ DR G.K m H d v
section
variable {G : GW} {m m' : List Addr} {H H' : Hp} {s : Sl} {σ : L2.St}
theorem SR.step (r : SR G m H s σ) (t : Step m H m' H') : SR G m' H' s σ := ⟨r.1, fun i d e => let ⟨v, e1, d1⟩ := r.2 i d e; ⟨v, e1, d1.step t⟩⟩
theorem SR.set {d : D} {v : V} (r : SR G m H s σ) (a : DR G.K m H d v) (i : Nat) : SR G m H (s.set i (some d)) (σ.set i (some v)) := by
  refine ⟨by rw [List.length_set, List.length_set, r.1], fun j e he => ?_⟩
  by_cases hj : i = j
  · subst hj
    by_cases hl : i < s.length
    · rw [List.getElem?_set_self hl] at he
      cases he
      exact ⟨v, List.getElem?_set_self (by rw [← r.1]; exact hl), a⟩
    · rw [List.getElem?_eq_none (by simpa using hl)] at he
      cases he
  · rw [List.getElem?_set_ne hj] at he ⊢
    exact r.2 j e he
theorem SR.unset (r : SR G m H s σ) (i : Nat) (o : Option V) : SR G m H (s.set i none) (σ.set i o) := by
  refine ⟨by rw [List.length_set, List.length_set, r.1], fun j e he => ?_⟩
  by_cases hj : i = j
  · subst hj
    by_cases hl : i < s.length
    · rw [List.getElem?_set_self hl] at he
      cases he
    · rw [List.getElem?_eq_none (by simpa using hl)] at he
      cases he
  · rw [List.getElem?_set_ne hj] at he ⊢
    exact r.2 j e he
theorem SR.wipe (r : SR G m H s σ) : ∀ vs : List Nat, SR G m H (wipeD s vs) (L2.wipe σ vs)
  | [] => r
  | v :: vs => (SR.wipe r vs).unset v none
end

/-! ### the context of a piece of code -/
structure WD where
  P : Program
  w : World
  mg : Str → Option Value
  base : Heap
  G : GW
  xa : Addr
def arrV (arr : Arr) (vs zs : List V) : List V := arr.map fun a => match a with
  | .inl (.inl i) => vs.getD i .non
  | .inl (.inr i) => zs.getD i .non
  | .inr d => toV d
def arrFlat (arr : Arr) : Bool := arr.all fun a => match a with
  | .inr d => flatD d
  | _ => true
theorem getD_rel {K : PySem.W.Frag} {m : List Addr} {H : Hp} {xs : List D} {vs : List V} (r : DRs K m H xs vs) (i : Nat) : DR K m H (xs.getD i .non) (vs.getD i .non) := by
  rw [List.getD_eq_getElem?_getD, List.getD_eq_getElem?_getD]
  cases e : xs[i]? with
  | some d =>
    obtain ⟨v, e1, d1⟩ := r.get e
    rw [e1]
    exact d1
  | none =>
    have h1 : xs.length ≤ i := List.getElem?_eq_none_iff.mp e
    rw [List.getElem?_eq_none (by rw [← r.length]; exact h1)]
    exact .non
theorem arr_rel {K : PySem.W.Frag} {m : List Addr} {H : Hp} {xs ys : List D} {vs zs : List V} (r : DRs K m H xs vs) (q : DRs K m H ys zs) : ∀ {arr : Arr}, arrFlat arr = true → DRs K m H (arrD arr xs ys) (arrV arr vs zs)
  | [], _ => .nil
  | a :: r', f => by
    unfold arrFlat at f
    rw [List.all_cons, Bool.and_eq_true] at f
    refine .cons ?_ (arr_rel r q (arr := r') f.2)
    match a, f.1 with
    | .inl (.inl i), _ => exact getD_rel r i
    | .inl (.inr i), _ => exact getD_rel q i
    | .inr d, f => exact dr_toV f
/-- what a def's promise says: what the pure call gives -/
def spF (G : GW) (np : Nat) (F : List D → Hd → Out D) : Sp := fun vs H Q E => ∃ m h ds, Rel G m h H ∧ DRs G.K m H ds vs ∧ ds.length = np ∧ Sat G (RD G) m H (F ds h) Q E
def GvOk (W : WD) (k : Nat) (ev : Ev) (x : Str) : Gv → Prop
  | .con d => ∃ u v, W.mg x = some u ∧ RelV v u ∧ ∀ m H, DR W.G.K m H d v
  | .fn i np shapes => ∃ f fd ps, W.mg x = some (.ref f) ∧ PySem.W.keepIn W.G.K (.ref f) = true ∧ ps.length = np ∧ FnOk W.P W.w W.G.K W.mg W.base (L2.CX W.P W.w) (2 * k) f fd ps (spF W.G np (ev.call i)) ∧
      ∀ n ks arr, (n, ks, arr) ∈ shapes → arr.length = np ∧ arrFlat arr = true ∧ ∃ g, KBn W.G.K fd ps n ks g (arrV arr)
  | .bi b => match b with
    | .gcd => W.mg x = some (.builtin "math.gcd")
    | b => W.mg x = none ∧ bootBuiltins x = some b.val
  | .ty t => W.mg x = none ∧ bootBuiltins x = some (.type t.nm)
  | .isi => W.mg x = none ∧ bootBuiltins x = some (.builtin "isinstance")
  | .rng => x = "range" ∧ W.mg x = none
  | .zip => x = "zip" ∧ W.mg x = none
  | .exc c fs => ∃ Ca, W.mg x = some (.ref Ca) ∧ W.G.cl c = some Ca ∧ (fs = [] → PySem.W.excIn W.G.K Ca [.type "ValueError", .type "Exception", .type "BaseException", .type "object"] "ValueError.__new__" = true)
  | _ => True
/-- what is asked of an own exception class -/
structure ClsOk (W : WD) (ev : Ev) (c : Nat) (Ca : Addr) : Prop where
  kp : PySem.W.keepIn W.G.K (.ref Ca) = true
  ec : ExcC W.G.K Ca
  ty : PySem.W.typeIn W.G.K (.ref Ca) = some (.type "type")
  exm : ∀ d Da, W.G.cl d = some Da → PySem.W.exmOne W.G.K (.ref Ca) (.ref Da) = some (ev.sub c d)
  kit : ∀ d Da, W.G.cl d = some Da → PySem.W.kitOne W.G.K (.ref Ca) (.ref Da) = some (ev.sub c d)
  nof : ∀ f ∈ xFlds, PySem.W.findIn W.G.K (.ref Ca) f = some none
structure XG (W : WD) (cc : CC) (k : Nat) (ev : Ev) (X : Cx) (E : WX) : Prop where
  prog : X.prog = W.P
  wd : X.w = W.w
  K : X.K = W.G.K
  mg : X.mg = W.mg
  base : X.base = W.base
  N : X.N = cc.N
  nd : cc.N.Nodup
  sc : X.env.scope = cc.sc
  asg : ∀ x, x ∈ cc.as → Loc cc.sc x ∧ (X.fn x = true ∨ cc.sc.names.lookup x = some .local)
  room : cc.hot = false → X.calm = true ∧ Room (2 * k) X.A
  units : X.A.units + 64 < cLine
  tk : Takes X E
  gl : ∀ x v, cc.gl.lookup x = some v → GvOk W k ev x v
  cls : ∀ c Ca, W.G.cl c = some Ca → ClsOk W ev c Ca
  hx : cc.hot = true → ∃ (X0 : Cx) (oe : Obj) (pn : List (Addr × Obj)) (d : Option Addr) (ex : Exn) (Ca : Addr), X = Cx.suite X0 W.xa ((W.xa, oe) :: pn) ∧ Zc (.ref Ca) d oe ∧ (∃ vs, oe.data = .fields vs) ∧ ev.exn = some ex ∧ W.G.cl ex.cls = some Ca ∧
    ((d = none ∧ ex.fs = []) ∨ ∃ dd fs, d = some dd ∧ (dd, fs) ∈ W.G.pins ∧ ∀ f x, ex.fs.lookup f = some x → flatD x = true ∧ fs.lookup f = some (toV x))
/-- the exception's slot holds it -/
def XiOk (xi : Option Nat) (a : Addr) (σ : L2.St) : Prop := match xi with
  | none => True
  | some i => σ[i]? = some (some (.ref a))
/-- the reading of a piece of code -/
def rdg {α β : Type} (G : GW) (xi : Option Nat) (a : Addr) (E : WX) (R : List Addr → Hp → α → β → Prop) (F : Sl → Hd → Out α) : L2.St → Hp → (β → Hp → Prop) → Prop := fun σ H Q =>
  ∃ m h s, Rel G m h H ∧ SR G m H s σ ∧ XiOk xi a σ ∧ Sat G R m H (F s h) Q fun c d H' => E c d σ H'
theorem PE.imp {X : Cx} {e : Expr} {t t' : TE} (p : PE X e t) (h : ∀ σ H Q, t' σ H Q → t σ H Q) : PE X e t' := ⟨fun pins s σ H Q I q => p.run pins s σ H Q I (h σ H Q q)⟩
theorem PT.imp {X : Cx} {e : Expr} {t t' : TT} (p : PT X e t) (h : ∀ σ H Q, t' σ H Q → t σ H Q) : PT X e t' := ⟨fun pins s σ H Q I q => p.run pins s σ H Q I (h σ H Q q)⟩
theorem PW.imp {X : Cx} {e : Expr} {t t' : TT} (p : PW X e t) (h : ∀ σ H Q, t' σ H Q → t σ H Q) : PW X e t' := ⟨fun wh pins s σ H Q I q => p.run wh pins s σ H Q I (h σ H Q q)⟩
theorem PA.imp {X : Cx} {e : List Expr} {t t' : TA} (p : PA X e t) (h : ∀ σ H Q, t' σ H Q → t σ H Q) : PA X e t' := ⟨fun po pins s σ H Q I q => p.run po pins s σ H Q I (h σ H Q q)⟩
theorem PK.imp {X : Cx} {e : List Keyword} {t t' : TA} (p : PK X e t) (h : ∀ σ H Q, t' σ H Q → t σ H Q) : PK X e t' := ⟨fun po pins s σ H Q I q => p.run po pins s σ H Q I (h σ H Q q)⟩
end PV
/-! PVE: an expression's code says what the machine does. -/
namespace PV
open PySem PySem.Spec PyProof.Rows L2
section
variable {W : WD} {cc : CC} {k : Nat} {ev : Ev} {X : Cx} {E : WX} {a : Addr}
abbrev RE (W : WD) (cc : CC) (a : Addr) (E : WX) (ev : Ev) (p : QE) : TE := rdg W.G cc.xi W.xa E (RD W.G) (evE ev p)
abbrev RT (W : WD) (cc : CC) (a : Addr) (E : WX) (ev : Ev) (p : QT) : TT := rdg W.G cc.xi W.xa E RB (evT ev p)
abbrev REs (W : WD) (cc : CC) (a : Addr) (E : WX) (ev : Ev) (p : QEs) : TA := rdg W.G cc.xi W.xa E (RDs W.G) (evEs ev p)
abbrev ROp (W : WD) (cc : CC) (a : Addr) (E : WX) (ev : Ev) (p : QO) : TO := rdg W.G cc.xi W.xa E RO (evO ev p)
variable {e e1 e2 e3 : Expr} {p q r : QE} {pos : Pos}

theorem k_con {d : D} {v : V} (h : ∀ m H, DR W.G.K m H d v) {σ : L2.St} {H : Hp} {Q : VK} (z : RE W cc a E ev (.con d) σ H Q) : Q v H := by
  obtain ⟨m, hh, s, rl, sr, xi, z⟩ := z
  have z : Sat W.G (RD W.G) m H (.ok d hh) Q _ := z
  exact z.ok rl (h m H)
theorem k_const {c : Const} {d : D} {j : Nat} (h : cConst c = some d) : PE X (.Constant c j pos) (RE W cc a E ev (.con d)) := by
  cases c <;> cases h
  · exact PE.imp pe_non fun σ H Q z => k_con (v := .non) (fun _ _ => .non) z
  · exact PE.imp pe_bl fun σ H Q z => k_con (v := .bl _) (fun _ _ => .bl _) z
  · exact PE.imp pe_int fun σ H Q z => k_con (v := .int _) (fun _ _ => .int _) z
  · exact PE.imp pe_str fun σ H Q z => k_con (v := .str _) (fun _ _ => .str _) z
theorem vis_of {sc : Scope} {x : Str} (h : visB sc x = true) : Vis sc x := by
  unfold visB at h
  split at h
  · exact .inl (by assumption)
  · exact .inr (.inl (by assumption))
  · exact .inr (.inr (by assumption))
  · cases h
theorem gl_of (x : XG W cc k ev X E) {y : Str} (h : glB cc.sc y = true) : Gl X y := by
  unfold glB at h
  split at h
  · show X.env.scope.names.lookup y = _
    rw [x.sc]
    assumption
  · cases h
theorem pn1 {x : Str} (h : plainName x = true) : (x == ("__debug__" : Str)) = false ∧ (x == ("__classdict__" : Str)) = false ∧ x ≠ "__name__" := by
  unfold plainName at h
  simp only [Bool.and_eq_true, Bool.not_eq_true', decide_eq_true_eq] at h
  exact ⟨h.1.1, h.1.2, h.2⟩
theorem k_name (x : XG W cc k ev X E) {y : Str} (h : cName cc y = some p) : PE X (.Name y pos) (RE W cc a E ev p) := by
  unfold cName at h
  split at h
  · rename_i hp
    obtain ⟨n1, n2, n3⟩ := pn1 hp
    split at h
    · rename_i hv
      split at h
      · rename_i i hi
        split at h
        · cases h
        · cases h
          have hN : X.N[i]? = some y := by rw [x.N]; exact ixOf_get hi
          refine PE.imp (pe_var hN (by rw [x.sc]; exact vis_of hv) n1 n2) fun σ H Q ⟨m, hh, s, rl, sr, xi, z⟩ => ?_
          have z : Sat W.G (RD W.G) m H (match s[i]? with
            | some (some d) => .ok d hh
            | _ => .no) Q _ := z
          split at z
          · rename_i d e
            obtain ⟨v, e1, d1⟩ := sr.2 i d e
            exact ⟨v, e1, z.ok rl d1⟩
          · exact False.elim z
      · cases h
    · split at h
      · rename_i hg
        split at h
        · rename_i d hd
          cases h
          obtain ⟨u, v, e1, e2, e3⟩ := x.gl y _ hd
          exact PE.imp (pe_glob (gl_of x hg) (by rw [x.mg]; exact e1) e2 n1) fun σ H Q z => k_con e3 z
        · cases h
      · cases h
  · cases h
theorem k_bin (x : XG W cc k ev X E) {op : Operator} (ha : PE X e1 (RE W cc a E ev p)) (hb : PE X e2 (RE W cc a E ev q)) : PE X (.BinOp e1 op e2 pos) (RE W cc a E ev (.bin op p q)) :=
  PE.imp (pe_op (bin_ok x.K op) ha hb) fun σ H Q ⟨m, h, s, r, sr, xi, z⟩ => by
    have z : Sat W.G (RD W.G) m H ((evE ev p s h).bind fun x h1 => (evE ev q s h1).bind fun y h2 => binV op x y h2) Q _ := z
    exact ⟨m, h, s, r, sr, xi, z.bind fun d h1 m1 H1 v st r1 dv q1 => ⟨m1, h1, s, r1, sr.step st, xi, q1.bind fun d2 h2 m2 H2 v2 st2 r2 dv2 q2 => ⟨m2, h2, d, d2, _, r2, dv.step st2, dv2, q2⟩⟩⟩
theorem k_neg (x : XG W cc k ev X E) (ha : PE X e1 (RE W cc a E ev p)) : PE X (.UnaryOp .USub e1 pos) (RE W cc a E ev (.neg p)) :=
  PE.imp (pe_un (neg_ok (G := W.G)) ha) fun σ H Q ⟨m, h, s, r, sr, xi, z⟩ => by
    have z : Sat W.G (RD W.G) m H ((evE ev p s h).bind fun x h1 => negV x h1) Q _ := z
    exact ⟨m, h, s, r, sr, xi, z.bind fun d h1 m1 H1 v st r1 dv q1 => ⟨m1, h1, d, _, r1, dv, q1⟩⟩
theorem k_nott (x : XG W cc k ev X E) (ha : PE X e1 (RE W cc a E ev p)) : PE X (.UnaryOp .Not e1 pos) (RE W cc a E ev (.nott p)) :=
  PE.imp (pe_notT ha) fun σ H Q ⟨m, h, s, r, sr, xi, z⟩ => by
    have z : Sat W.G (RD W.G) m H ((evE ev p s h).bind fun x h1 => match truthD h1 x with
      | some k => .ok (.bl (!k)) h1
      | none => .no) Q _ := z
    refine ⟨m, h, s, r, sr, xi, z.bind fun d h1 m1 H1 v st r1 dv q1 => ?_⟩
    split at q1
    · rename_i kk e
      exact ⟨kk, tru_of x.K r1 dv e, q1.ok r1 (.bl _)⟩
    · exact False.elim q1
theorem k_andv (x : XG W cc k ev X E) {rest : List Expr} (ha : PE X e1 (RE W cc a E ev p)) (hb : PE X (.BoolOp .And (e2 :: rest) pos) (RE W cc a E ev q)) : PE X (.BoolOp .And (e1 :: e2 :: rest) pos) (RE W cc a E ev (.andv p q)) :=
  PE.imp (pe_andT ha hb) fun σ H Q ⟨m, h, s, r, sr, xi, z⟩ => by
    have z : Sat W.G (RD W.G) m H ((evE ev p s h).bind fun x h1 => match truthD h1 x with
      | some true => evE ev q s h1
      | some false => .ok x h1
      | none => .no) Q _ := z
    refine ⟨m, h, s, r, sr, xi, z.bind fun d h1 m1 H1 v st r1 dv q1 => ?_⟩
    split at q1
    · rename_i e
      exact ⟨true, tru_of x.K r1 dv e, iteT ⟨m1, h1, s, r1, sr.step st, xi, q1⟩⟩
    · rename_i e
      exact ⟨false, tru_of x.K r1 dv e, iteF (q1.ok r1 dv)⟩
    · exact False.elim q1
theorem k_orv (x : XG W cc k ev X E) {rest : List Expr} (ha : PE X e1 (RE W cc a E ev p)) (hb : PE X (.BoolOp .Or (e2 :: rest) pos) (RE W cc a E ev q)) : PE X (.BoolOp .Or (e1 :: e2 :: rest) pos) (RE W cc a E ev (.orv p q)) :=
  PE.imp (pe_orT ha hb) fun σ H Q ⟨m, h, s, r, sr, xi, z⟩ => by
    have z : Sat W.G (RD W.G) m H ((evE ev p s h).bind fun x h1 => match truthD h1 x with
      | some true => .ok x h1
      | some false => evE ev q s h1
      | none => .no) Q _ := z
    refine ⟨m, h, s, r, sr, xi, z.bind fun d h1 m1 H1 v st r1 dv q1 => ?_⟩
    split at q1
    · rename_i e
      exact ⟨true, tru_of x.K r1 dv e, iteT (q1.ok r1 dv)⟩
    · rename_i e
      exact ⟨false, tru_of x.K r1 dv e, iteF ⟨m1, h1, s, r1, sr.step st, xi, q1⟩⟩
    · exact False.elim q1
def notSet : Expr → Bool
  | .Set .. => false
  | _ => true
theorem nomarkS {op : CmpOp} {e : Expr} (h : notSet e = true) : behindInMarks op e = false := by
  cases e <;> first | rfl | cases h
theorem k_cmp (x : XG W cc k ev X E) {op : CmpOp} (hs : notSet e2 = true) (ha : PE X e1 (RE W cc a E ev p)) (hb : PE X e2 (RE W cc a E ev q)) : PE X (.Compare e1 [op] [e2] pos) (RE W cc a E ev (.cmp op p q)) :=
  PE.imp (pe_cmpR (cmp_ok x.K x.units op) ha hb (nomarkS hs)) fun σ H Q ⟨m, h, s, r, sr, xi, z⟩ => by
    have z : Sat W.G (RD W.G) m H ((evE ev p s h).bind fun x h1 => (evE ev q s h1).bind fun y h2 => boolO h2 (cmpV op h2 x y)) Q _ := z
    exact ⟨m, h, s, r, sr, xi, z.bind fun d h1 m1 H1 v st r1 dv q1 => ⟨m1, h1, s, r1, sr.step st, xi, q1.bind fun d2 h2 m2 H2 v2 st2 r2 dv2 q2 => ⟨m2, h2, d, d2, _, r2, dv.step st2, dv2, q2⟩⟩⟩
theorem bool_test {m : List Addr} {h : Hd} {H : Hp} {c : Option Bool} {Q : Bool → Hp → Prop} {E' : XKE} (z : Sat W.G RB m H ((boolO h c).bind fun x h1 => testO h1 (truthD h1 x)) Q E') : Sat W.G (RD W.G) m H (boolO h c) (fun x H' => ∃ k, x = .bl k ∧ Q k H') E' := by
  cases c with
  | none => exact False.elim z
  | some b =>
    intro m' H' v st r' dv
    cases dv
    exact ⟨b, rfl, z m' H' b st r' rfl⟩
theorem t_cmp (x : XG W cc k ev X E) {op : CmpOp} (hs : notSet e2 = true) (ha : PE X e1 (RE W cc a E ev p)) (hb : PE X e2 (RE W cc a E ev q)) : PT X (.Compare e1 [op] [e2] pos) (RT W cc a E ev (.v (.cmp op p q))) :=
  PT.imp (pt_cmpR (cmp_ok x.K x.units op) ha hb (nomarkS hs)) fun σ H Q ⟨m, h, s, r, sr, xi, z⟩ => by
    have z : Sat W.G RB m H (((evE ev p s h).bind fun x h1 => (evE ev q s h1).bind fun y h2 => boolO h2 (cmpV op h2 x y)).bind fun x h1 => testO h1 (truthD h1 x)) Q _ := z
    refine ⟨m, h, s, r, sr, xi, ?_⟩
    cases e0 : evE ev p s h with
    | no => rw [e0] at z; exact False.elim z
    | ex e h' => rw [e0] at z; exact z
    | ok d h1 =>
      rw [e0] at z
      intro m1 H1 v st r1 dv
      have z : Sat W.G RB m H (((evE ev q s h1).bind fun y h2 => boolO h2 (cmpV op h2 d y)).bind fun x h1 => testO h1 (truthD h1 x)) Q _ := z
      have z := z.trans st
      refine ⟨m1, h1, s, r1, sr.step st, xi, ?_⟩
      cases e0' : evE ev q s h1 with
      | no => rw [e0'] at z; exact False.elim z
      | ex e h' => rw [e0'] at z; exact z
      | ok d2 h2 =>
        rw [e0'] at z
        intro m2 H2 v2 st2 r2 dv2
        exact ⟨m2, h2, d, d2, _, r2, dv.step st2, dv2, bool_test (z.trans st2)⟩
theorem k_ife (x : XG W cc k ev X E) {c : Expr} {t : QT} (hc : PT X c (RT W cc a E ev t)) (ha : PE X e1 (RE W cc a E ev p)) (hb : PE X e2 (RE W cc a E ev q)) : PE X (.IfExp c e1 e2 pos) (RE W cc a E ev (.ife t p q)) :=
  PE.imp (pe_ifExp hc ha hb) fun σ H Q ⟨m, h, s, r, sr, xi, z⟩ => by
    have z : Sat W.G (RD W.G) m H ((evT ev t s h).bind fun k h1 => match k with
      | true => evE ev p s h1
      | false => evE ev q s h1) Q _ := z
    refine ⟨m, h, s, r, sr, xi, z.bind fun d h1 m1 H1 v st r1 dv q1 => ?_⟩
    have dv : d = v := dv
    subst dv
    cases d with
    | true => exact iteT ⟨m1, h1, s, r1, sr.step st, xi, q1⟩
    | false => exact iteF ⟨m1, h1, s, r1, sr.step st, xi, q1⟩
/-! ### tests -/
theorem t_v (x : XG W cc k ev X E) (he : ∀ whole, isTrue e X.env whole = (do let v ← whole; standAt e.pos; holding [v] (truthy v))) (ha : PE X e (RE W cc a E ev p)) : PT X e (RT W cc a E ev (.v p)) :=
  PT.imp (pt_truth ha he) fun σ H Q ⟨m, h, s, r, sr, xi, z⟩ => by
    have z : Sat W.G RB m H ((evE ev p s h).bind fun x h1 => testO h1 (truthD h1 x)) Q _ := z
    refine ⟨m, h, s, r, sr, xi, z.bind fun d h1 m1 H1 v st r1 dv q1 => ?_⟩
    cases e0 : truthD h1 d with
    | none => rw [e0] at q1; exact False.elim q1
    | some b =>
      rw [e0] at q1
      exact ⟨b, tru_of x.K r1 dv e0, Sat.ok (G := W.G) q1 r1 rfl⟩
theorem t_not {t : QT} (ha : PT X e (RT W cc a E ev t)) : PT X (.UnaryOp .Not e pos) (RT W cc a E ev (.not t)) :=
  PT.imp (pt_not ha) fun σ H Q ⟨m, h, s, r, sr, xi, z⟩ => by
    have z : Sat W.G RB m H ((evT ev t s h).bind fun k h1 => .ok (!k) h1) Q _ := z
    refine ⟨m, h, s, r, sr, xi, z.bind fun d h1 m1 H1 v st r1 dv q1 => ?_⟩
    have dv : d = v := dv
    subst dv
    exact q1.ok r1 rfl
theorem t_and {t u : QT} {rest : List Expr} (ha : PT X e1 (RT W cc a E ev t)) (hb : PW X (.BoolOp .And (e2 :: rest) pos) (RT W cc a E ev u)) : PW X (.BoolOp .And (e1 :: e2 :: rest) pos) (RT W cc a E ev (.and t u)) :=
  PW.imp (pw_and ha hb) fun σ H Q ⟨m, h, s, r, sr, xi, z⟩ => by
    have z : Sat W.G RB m H ((evT ev t s h).bind fun k h1 => match k with
      | true => evT ev u s h1
      | false => .ok false h1) Q _ := z
    refine ⟨m, h, s, r, sr, xi, z.bind fun d h1 m1 H1 v st r1 dv q1 => ?_⟩
    have dv : d = v := dv
    subst dv
    cases d with
    | true => exact iteT ⟨m1, h1, s, r1, sr.step st, xi, q1⟩
    | false => exact iteF (Sat.ok (G := W.G) q1 r1 rfl)
theorem t_or {t u : QT} {rest : List Expr} (ha : PT X e1 (RT W cc a E ev t)) (hb : PW X (.BoolOp .Or (e2 :: rest) pos) (RT W cc a E ev u)) : PW X (.BoolOp .Or (e1 :: e2 :: rest) pos) (RT W cc a E ev (.or t u)) :=
  PW.imp (pw_or ha hb) fun σ H Q ⟨m, h, s, r, sr, xi, z⟩ => by
    have z : Sat W.G RB m H ((evT ev t s h).bind fun k h1 => match k with
      | true => .ok true h1
      | false => evT ev u s h1) Q _ := z
    refine ⟨m, h, s, r, sr, xi, z.bind fun d h1 m1 H1 v st r1 dv q1 => ?_⟩
    have dv : d = v := dv
    subst dv
    cases d with
    | true => exact iteT (Sat.ok (G := W.G) q1 r1 rfl)
    | false => exact iteF ⟨m1, h1, s, r1, sr.step st, xi, q1⟩
/-! ### lists of expressions, displays -/
def notStar : Expr → Bool
  | .Starred .. => false
  | _ => true
theorem star1 {env : Env} {es : List Expr} (h : notStar e = true) : starEach (e :: es) env = (false, eval e env) :: starEach es env := by
  cases e <;> first | rfl | cases h
theorem as_nil : PA X [] (REs W cc a E ev .nil) := PA.imp pa_nil fun σ H Q ⟨m, h, s, r, sr, xi, z⟩ => by
  have z : Sat W.G (RDs W.G) m H (.ok [] h) Q _ := z
  exact z.ok r .nil
theorem as_cons {es : List Expr} {ps : QEs} (hs : notStar e = true) (ha : PE X e (RE W cc a E ev p)) (hb : PA X es (REs W cc a E ev ps)) : PA X (e :: es) (REs W cc a E ev (.cons p ps)) :=
  PA.imp (pa_cons ha hb (star1 hs)) fun σ H Q ⟨m, h, s, r, sr, xi, z⟩ => by
    have z : Sat W.G (RDs W.G) m H ((evE ev p s h).bind fun x h1 => (evEs ev ps s h1).bind fun xs h2 => .ok (x :: xs) h2) Q _ := z
    exact ⟨m, h, s, r, sr, xi, z.bind fun d h1 m1 H1 v st r1 dv q1 => ⟨m1, h1, s, r1, sr.step st, xi, q1.bind fun d2 h2 m2 H2 v2 st2 r2 dv2 q2 => q2.ok r2 (.cons (dv.step st2) dv2)⟩⟩
theorem ks_nil : PK X [] (REs W cc a E ev .nil) := PK.imp pk_nil fun σ H Q ⟨m, h, s, r, sr, xi, z⟩ => by
  have z : Sat W.G (RDs W.G) m H (.ok [] h) Q _ := z
  exact z.ok r .nil
theorem ks_cons {es : List Keyword} {ps : QEs} {nm : Option Str} {kp : Pos} (ha : PE X e (RE W cc a E ev p)) (hb : PK X es (REs W cc a E ev ps)) : PK X (⟨nm, e, kp⟩ :: es) (REs W cc a E ev (.cons p ps)) :=
  PK.imp (pk_cons ha hb) fun σ H Q ⟨m, h, s, r, sr, xi, z⟩ => by
    have z : Sat W.G (RDs W.G) m H ((evE ev p s h).bind fun x h1 => (evEs ev ps s h1).bind fun xs h2 => .ok (x :: xs) h2) Q _ := z
    exact ⟨m, h, s, r, sr, xi, z.bind fun d h1 m1 H1 v st r1 dv q1 => ⟨m1, h1, s, r1, sr.step st, xi, q1.bind fun d2 h2 m2 H2 v2 st2 r2 dv2 q2 => q2.ok r2 (.cons (dv.step st2) dv2)⟩⟩
theorem k_tup {es : List Expr} {ps : QEs} {j : Nat} (h : PA X es (REs W cc a E ev ps)) : PE X (.Tuple es j pos) (RE W cc a E ev (.tup ps)) :=
  PE.imp (pe_tup h) fun σ H Q ⟨m, h, s, r, sr, xi, z⟩ => by
    have z : Sat W.G (RD W.G) m H ((evEs ev ps s h).bind fun xs h1 => ret (decide (xs.length ≤ line)) (.tup xs) h1) Q _ := z
    refine ⟨m, h, s, r, sr, xi, z.bind fun d h1 m1 H1 v st r1 dv q1 => ?_⟩
    obtain ⟨hz, q1⟩ := Sat.ret q1
    exact ⟨by rw [← dv.length, ← line_eq]; exact of_decide_eq_true hz, fun p hp => q1.tup r1 dv hp⟩
theorem k_lst {es : List Expr} {ps : QEs} (h : PA X es (REs W cc a E ev ps)) : PE X (.List es pos) (RE W cc a E ev (.lst ps)) :=
  PE.imp (pe_lst h) fun σ H Q ⟨m, h, s, r, sr, xi, z⟩ => by
    have z : Sat W.G (RD W.G) m H ((evEs ev ps s h).bind fun xs h1 => newLc (decide (xs.length ≤ line)) xs h1) Q _ := z
    refine ⟨m, h, s, r, sr, xi, z.bind fun d h1 m1 H1 v st r1 dv q1 => ?_⟩
    obtain ⟨hz, q1⟩ := Sat.newLc q1
    exact ⟨by rw [← dv.length, ← line_eq]; exact of_decide_eq_true hz, fun p hp => q1.newL r1 dv hp⟩
/-! ### subscripts -/
def notSlice : Expr → Bool
  | .Slice .. => false
  | _ => true
theorem plainIx {e : Expr} (h : notSlice e = true) : PlainIx e := fun o i => by
  cases e <;> first | rfl | cases h
theorem k_idx (x : XG W cc k ev X E) (hs : notSlice e2 = true) (ha : PE X e1 (RE W cc a E ev p)) (hb : PE X e2 (RE W cc a E ev q)) : PE X (.Subscript e1 e2 pos) (RE W cc a E ev (.idx p q)) :=
  PE.imp (pe_ix (idx_ok x.K) ha hb (plainIx hs)) fun σ H Q ⟨m, h, s, r, sr, xi, z⟩ => by
    have z : Sat W.G (RD W.G) m H ((evE ev p s h).bind fun x h1 => (evE ev q s h1).bind fun y h2 => idxV x y h2) Q _ := z
    exact ⟨m, h, s, r, sr, xi, z.bind fun d h1 m1 H1 v st r1 dv q1 => ⟨m1, h1, s, r1, sr.step st, xi, q1.bind fun d2 h2 m2 H2 v2 st2 r2 dv2 q2 => ⟨m2, h2, d, d2, _, r2, dv.step st2, dv2, q2⟩⟩⟩
theorem PO.imp {o : Option Expr} {t t' : TO} (p : PO X o t) (h : ∀ σ H Q, t' σ H Q → t σ H Q) : PO X o t' := ⟨fun pins s σ H Q I q => p.run pins s σ H Q I (h σ H Q q)⟩
theorem o_none : PO X none (ROp W cc a E ev .none) := PO.imp po_none fun σ H Q ⟨m, h, s, r, sr, xi, z⟩ => by
  have z : Sat W.G RO m H (.ok none h) Q _ := z
  exact z.ok r rfl
theorem o_some (ha : PE X e (RE W cc a E ev p)) : PO X (some e) (ROp W cc a E ev (.some p)) := PO.imp (po_some ha) fun σ H Q ⟨m, h, s, r, sr, xi, z⟩ => by
  have z : Sat W.G RO m H ((evE ev p s h).bind fun x h1 => toI x h1) Q _ := z
  refine ⟨m, h, s, r, sr, xi, z.bind fun d h1 m1 H1 v st r1 dv q1 => ?_⟩
  cases d with
  | int i => cases dv; exact ⟨i, rfl, Sat.ok (G := W.G) q1 r1 rfl⟩
  | _ => exact False.elim q1
theorem k_slc (x : XG W cc k ev X E) {lo hi : Option Expr} {l u : QO} {pos2 : Pos} (ha : PE X e1 (RE W cc a E ev p)) (hl : PO X lo (ROp W cc a E ev l)) (hu : PO X hi (ROp W cc a E ev u)) : PE X (.Subscript e1 (.Slice lo hi none pos2) pos) (RE W cc a E ev (.slc p l u)) :=
  PE.imp (pe_slice (sl_ok x.K) ha hl hu) fun σ H Q ⟨m, h, s, r, sr, xi, z⟩ => by
    have z : Sat W.G (RD W.G) m H ((evE ev p s h).bind fun x h1 => (evO ev l s h1).bind fun l h2 => (evO ev u s h2).bind fun u h3 => slV x l u h3) Q _ := z
    refine ⟨m, h, s, r, sr, xi, z.bind fun d h1 m1 H1 v st r1 dv q1 => ⟨m1, h1, s, r1, sr.step st, xi, q1.bind fun d2 h2 m2 H2 v2 st2 r2 dv2 q2 => ⟨m2, h2, s, r2, (sr.step st).step st2, xi, q2.bind fun d3 h3 m3 H3 v3 st3 r3 dv3 q3 => ?_⟩⟩⟩
    have e2 : d2 = v2 := dv2
    have e3 : d3 = v3 := dv3
    subst e2 e3
    exact ⟨m3, h3, d, _, r3, (dv.step st2).step st3, q3⟩
end
end PV
/-! PVF: chains, calls, what is walked, comprehensions. -/
namespace PV
open PySem PySem.Spec PyProof.Rows L2
section
variable {W : WD} {cc : CC} {k : Nat} {ev : Ev} {X : Cx} {E : WX} {a : Addr}
variable {e e1 e2 e3 : Expr} {p q r : QE} {pos : Pos}
theorem lastS {op op' : CmpOp} (h3 : notSet e3 = true) : lastMarks [op, op'] [e2, e3] = false := nomarkS h3
/-- the two comparisons of a chain -/
theorem chain_go {m : List Addr} {h2 : Hd} {H2 : Hp} {s : Sl} {σ : L2.St} {d d2 : D} {v v2 : V} {op op' : CmpOp} {Q : VK} (r2 : Rel W.G m h2 H2) (sr : SR W.G m H2 s σ) (xi : XiOk cc.xi W.xa σ) (dv : DR W.G.K m H2 d v) (dv2 : DR W.G.K m H2 d2 v2)
    (z : Sat W.G (RD W.G) m H2 (match cmpV op h2 d d2 with
      | some true => (evE ev r s h2).bind fun z h3 => boolO h3 (cmpV op' h3 d2 z)
      | some false => .ok (.bl false) h2
      | none => .no) Q fun c d H' => E c d σ H') :
    rc W.G (cmpV op) v v2 H2 fun z H3 => ∃ k, z = .bl k ∧ (if k = true then RE W cc a E ev r σ H3 fun w' H4 => rc W.G (cmpV op') v2 w' H4 Q else Q (.bl false) H3) := by
  refine ⟨m, h2, d, d2, (fun c d H' => E c d σ H'), r2, dv, dv2, ?_⟩
  show Sat W.G (RD W.G) m H2 (boolO h2 (cmpV op h2 d d2)) _ _
  split at z
  · rename_i e0
    rw [e0]
    intro m' H' u st r' du
    cases du
    refine ⟨true, rfl, iteT ⟨m', h2, s, r', sr.step st, xi, ?_⟩⟩
    exact (z.trans st).bind fun d3 h3 m3 H3 v3 st3 r3 dv3 q3 => ⟨m3, h3, d2, d3, _, r3, (dv2.step st).step st3, dv3, q3⟩
  · rename_i e0
    rw [e0]
    intro m' H' u st r' du
    cases du
    exact ⟨false, rfl, iteF (z m' H' _ st r' (.bl _))⟩
  · exact False.elim z
theorem k_chain (x : XG W cc k ev X E) {op op' : CmpOp} (hs : notSet e3 = true) (ha : PE X e1 (RE W cc a E ev p)) (hb : PE X e2 (RE W cc a E ev q)) (hc : PE X e3 (RE W cc a E ev r)) : PE X (.Compare e1 [op, op'] [e2, e3] pos) (RE W cc a E ev (.chain op op' p q r)) :=
  PE.imp (pe_chain (cmp_ok x.K x.units op) (cmp_ok x.K x.units op') ha hb hc (lastS hs)) fun σ H Q ⟨m, h, s, r, sr, xi, z⟩ =>
    ⟨m, h, s, r, sr, xi, Sat.bind (S := RD W.G) (f := fun x h1 => (evE ev q s h1).bind fun y h2 => match cmpV op h2 x y with
      | some true => (evE ev _ s h2).bind fun z h3 => boolO h3 (cmpV op' h3 y z)
      | some false => .ok (.bl false) h2
      | none => .no) z fun d h1 m1 H1 v st r1 dv q1 => ⟨m1, h1, s, r1, sr.step st, xi, q1.bind fun d2 h2 m2 H2 v2 st2 r2 dv2 q2 => chain_go r2 ((sr.step st).step st2) xi (dv.step st2) dv2 q2⟩⟩
theorem t_chain (x : XG W cc k ev X E) {op op' : CmpOp} (hs : notSet e3 = true) (ha : PE X e1 (RE W cc a E ev p)) (hb : PE X e2 (RE W cc a E ev q)) (hc : PE X e3 (RE W cc a E ev r)) : PT X (.Compare e1 [op, op'] [e2, e3] pos) (RT W cc a E ev (.v (.chain op op' p q r))) := by
  refine PT.imp (pt_chain (cmp_ok x.K x.units op) (cmp_ok x.K x.units op') ha hb hc (lastS hs)) fun σ H Q ⟨m, h, s, rl, sr, xi, z⟩ => ?_
  have z : Sat W.G RB m H (((evE ev p s h).bind fun x h1 => (evE ev q s h1).bind fun y h2 => match cmpV op h2 x y with
      | some true => (evE ev r s h2).bind fun z h3 => boolO h3 (cmpV op' h3 y z)
      | some false => .ok (.bl false) h2
      | none => .no).bind fun x h1 => testO h1 (truthD h1 x)) Q _ := z
  refine ⟨m, h, s, rl, sr, xi, ?_⟩
  cases e0 : evE ev p s h with
  | no => rw [e0] at z; exact False.elim z
  | ex e h' => rw [e0] at z; exact z
  | ok d h1 =>
    rw [e0] at z
    intro m1 H1 v st r1 dv
    have z : Sat W.G RB m H (((evE ev q s h1).bind fun y h2 => match cmpV op h2 d y with
      | some true => (evE ev r s h2).bind fun z h3 => boolO h3 (cmpV op' h3 y z)
      | some false => .ok (.bl false) h2
      | none => .no).bind fun x h1 => testO h1 (truthD h1 x)) Q _ := z
    have z := z.trans st
    refine ⟨m1, h1, s, r1, sr.step st, xi, ?_⟩
    cases e0' : evE ev q s h1 with
    | no => rw [e0'] at z; exact False.elim z
    | ex e h' => rw [e0'] at z; exact z
    | ok d2 h2 =>
      rw [e0'] at z
      intro m2 H2 v2 st2 r2 dv2
      have z : Sat W.G RB m1 H1 ((match cmpV op h2 d d2 with
        | some true => (evE ev r s h2).bind fun z h3 => boolO h3 (cmpV op' h3 d2 z)
        | some false => .ok (.bl false) h2
        | none => .no).bind fun x h1 => testO h1 (truthD h1 x)) Q _ := z
      have z := z.trans st2
      refine chain_go (Q := fun x H' => ∃ k, x = .bl k ∧ Q k H') r2 ((sr.step st).step st2) xi (dv.step st2) dv2 ?_
      split at z
      · cases e3 : evE ev r s h2 with
        | no => rw [e3] at z; exact False.elim z
        | ex e h' => rw [e3] at z; exact z
        | ok d3 h3 =>
          rw [e3] at z
          exact bool_test z
      · intro m' H' u st' r' du
        cases du
        exact ⟨false, rfl, z m' H' false st' r' rfl⟩
      · exact False.elim z
/-! ### calls -/
theorem run_fnKS {pins : List (Addr × Obj)} {σ : L2.St} {H : Hp} {s : Shared} {Q : VK} {CX : CXT} {j n : Nat} {f : Addr} {fd : FuncData} {ps ks : List Str} {sp : Sp} {F : XK} {us ws : List Value} {vs zs : List V} {g : List Value → List Value → List Value} {gV : List V → List V → List V}
    (Fo : FnOk X.prog X.w X.K X.mg X.base CX j f fd ps sp) (hr : Room j X.A) (hb : KBn X.K fd ps n ks g gV) (hx : PassesAt CX X σ F)
    (I : Inv X pins σ H s) (r : Vals vs us) (rz : Vals zs ws) (l1 : vs.length = n) (l2 : zs.length = ks.length) (h : sp (gV vs zs) H Q F) : wpAny (model X.prog X.w) X.A (call (.ref f) us (ks.zip ws)) (EP X pins σ Q) X.xe s := by
  have r2 := hb.rel r rz
  refine wpAny_call (codeAny_mono (Fo.run X.A X.stack s H ⟨us, ks.zip ws⟩ (g us ws) (gV vs zs) Q F hr I.env0 (hb.to s us ws I.kIn (r.length.symm.trans l1) (rz.length.symm.trans l2)) r2 h) fun r s' hq => ?_)
  cases r with
  | error e => exact hx pins H s e s' I hq
  | ok fl =>
    cases fl with
    | ret u => exact I.after hq
    | next => exact False.elim hq
    | brk => exact False.elim hq
    | cont => exact False.elim hq
theorem starAll {env : Env} : ∀ {es : List Expr}, es.all notStar = true → ∀ po : Pos, (backTo po (starEach es env)).any (·.1) = false
  | [], _, _ => rfl
  | e :: es, h, po => by
    rw [List.all_cons, Bool.and_eq_true] at h
    rw [star1 h.1]
    show (false || (backTo po (starEach es env)).any (·.1)) = false
    rw [starAll h.2 po]
    rfl
def kwAll : List Keyword → Bool
  | [] => true
  | ⟨some _, _, _⟩ :: r => kwAll r
  | _ => false
theorem kwFacts {env : Env} (po : Pos) : ∀ {ks : List Keyword}, kwAll ks = true → (backToKw po (keywordEach ks env)).all (·.1.isSome) = true ∧ (backToKw po (keywordEach ks env)).filterMap (·.1) = kwNames ks ∧ (backToKw po (keywordEach ks env)).any (·.1.isNone) = false
  | [], _ => ⟨rfl, rfl, rfl⟩
  | ⟨some n, v, kp⟩ :: r, h => by
    obtain ⟨h1, h2, h3⟩ := kwFacts po (ks := r) h
    refine ⟨?_, ?_, ?_⟩
    · show (true && (backToKw po (keywordEach r env)).all (·.1.isSome)) = true
      rw [h1]
      rfl
    · show n :: (backToKw po (keywordEach r env)).filterMap (·.1) = n :: kwNames r
      rw [h2]
    · show (false || (backToKw po (keywordEach r env)).any (·.1.isNone)) = false
      rw [h3]
      rfl
theorem kwNames_len : ∀ {ks : List Keyword}, kwAll ks = true → (kwNames ks).length = ks.length
  | [], _ => rfl
  | ⟨some n, v, kp⟩ :: r, h => by
    show ((kwNames r).length + 1) = r.length + 1
    rw [kwNames_len (ks := r) h]
def QEs.len : QEs → Nat
  | .nil => 0
  | .cons _ r => r.len + 1
theorem evEs_len {s : Sl} : ∀ {ps : QEs} {h h' : Hd} {xs : List D}, evEs ev ps s h = .ok xs h' → xs.length = ps.len
  | .nil, h, h', xs, e => by
    have e : Out.ok [] h = Out.ok xs h' := e
    cases e
    rfl
  | .cons p ps, h, h', xs, e => by
    have e : ((evE ev p s h).bind fun x h1 => (evEs ev ps s h1).bind fun xs h2 => .ok (x :: xs) h2) = Out.ok xs h' := e
    cases e1 : evE ev p s h with
    | no => rw [e1] at e; cases e
    | ex _ _ => rw [e1] at e; cases e
    | ok d h1 =>
      rw [e1] at e
      have e : ((evEs ev ps s h1).bind fun xs h2 => .ok (d :: xs) h2) = Out.ok xs h' := e
      cases e2 : evEs ev ps s h1 with
      | no => rw [e2] at e; cases e
      | ex _ _ => rw [e2] at e; cases e
      | ok ys h2 =>
        rw [e2] at e
        have e : Out.ok (d :: ys) h2 = Out.ok xs h' := e
        cases e
        show ys.length + 1 = ps.len + 1
        rw [evEs_len e2]
/-- a list of expressions, its length told -/
theorem Sat.bindL {ps : QEs} {s : Sl} {m : List Addr} {h : Hd} {H : Hp} {f : List D → Hd → Out D} {Q : VK} {F : XKE} {Q1 : List V → Hp → Prop} (z : Sat W.G (RD W.G) m H ((evEs ev ps s h).bind f) Q F)
    (kk : ∀ d h1 m1 H1 v, d.length = ps.len → Step m H m1 H1 → Rel W.G m1 h1 H1 → DRs W.G.K m1 H1 d v → Sat W.G (RD W.G) m1 H1 (f d h1) Q F → Q1 v H1) : Sat W.G (RDs W.G) m H (evEs ev ps s h) Q1 F := by
  cases e : evEs ev ps s h with
  | no => rw [e] at z; exact False.elim z
  | ex _ _ => rw [e] at z; exact z
  | ok d h1 =>
    rw [e] at z
    exact fun m1 H1 v t r q => kk d h1 m1 H1 v (evEs_len e) t r q (Sat.trans (o := f d h1) z t)
theorem k_call (x : XG W cc k ev X E) {y : Str} {i np : Nat} {shapes : List (Nat × List Str × Arr)} {args : List Expr} {kws : List Keyword} {es kes : QEs} {arr : Arr} {p1 : Pos} (hcold : cc.hot = false) (hn : plainName y = true) (hg : glB cc.sc y = true) (hl : cc.gl.lookup y = some (.fn i np shapes))
    (hs : args.all notStar = true) (hk : kwAll kws = true) (h0 : args = [] → kws = []) (l1 : es.len = args.length) (l2 : kes.len = kws.length) (hsh : shapeOf shapes args.length (kwNames kws) = some arr)
    (ha : PA X args (REs W cc a E ev es)) (hb : PK X kws (REs W cc a E ev kes)) : PE X (.Call (.Name y p1) args kws pos) (RE W cc a E ev (.call i es kes arr)) := by
  obtain ⟨f, fd, ps, e1, kp, lps, Fo, hsp⟩ := x.gl y _ hl
  obtain ⟨la, fa, g, KB⟩ := hsp _ _ _ (shapeOf_mem hsh)
  obtain ⟨n1, n2, n3⟩ := pn1 hn
  have Fo : FnOk X.prog X.w X.K X.mg X.base (L2.CX X.prog X.w) (2 * k) f fd ps (spF W.G np (ev.call i)) := by
    rw [x.prog, x.wd, x.K, x.mg, x.base]; exact Fo
  have KB : KBn X.K fd ps args.length (kwNames kws) g (arrV arr) := by rw [x.K]; exact KB
  have kp : PySem.W.keepIn X.K (.ref f) = true := by rw [x.K]; exact kp
  have hgl := gl_of x hg
  have hmg : X.mg y = some (.ref f) := by rw [x.mg]; exact e1
  have hr := (x.room hcold).2
  refine ⟨fun pins s σ H Q I ⟨m, h, sl, rl, sr, xi, z⟩ => ?_⟩
  have z : Sat W.G (RD W.G) m H ((evEs ev es sl h).bind fun xs h1 => (evEs ev kes sl h1).bind fun ys h2 => ev.call i (arrD arr xs ys) h2) Q _ := z
  have rd : REs W cc a E ev es σ H fun vs H1 => vs.length = args.length ∧ REs W cc a E ev kes σ H1 fun zs H2 => zs.length = kws.length ∧ spF W.G np (ev.call i) (arrV arr vs zs) H2 Q (WE E σ) :=
    ⟨m, h, sl, rl, sr, xi, z.bindL fun d h1 m1 H1 v ld st r1 dv q1 => ⟨by rw [← dv.length, ld, l1], m1, h1, sl, r1, sr.step st, xi, q1.bindL fun d2 h2 m2 H2 v2 ld2 st2 r2 dv2 q2 => ⟨by rw [← dv2.length, ld2, l2], m2, h2, _, r2, arr_rel (dv.step st2) dv2 fa, by
      unfold arrD
      rw [List.length_map, la], q2⟩⟩⟩
  refine wpAny_Call_Name_kw (ld_glob I hgl hmg ?_ n1)
  have fin : ∀ {s2 H2 us ws vs zs}, Inv X pins σ H2 s2 → Vals vs us → Vals zs ws → vs.length = args.length → zs.length = kws.length → spF W.G np (ev.call i) (arrV arr vs zs) H2 Q (WE E σ) → wpAny (model X.prog X.w) X.A (call (.ref f) us ((kwNames kws).zip ws)) (EP X pins σ Q) X.xe s2 :=
    fun {s2 H2 us ws vs zs} I2 r rz l1 l2 q => run_fnKS Fo hr KB (passAt x.tk σ) I2 r rz l1 (by rw [l2, kwNames_len hk]) q
  cases args with
  | nil =>
    have hk0 := h0 rfl
    subst hk0
    cases es with
    | cons _ _ => cases l1
    | nil =>
      cases kes with
      | cons _ _ => cases l2
      | nil =>
        have q1 := ha.run pos pins s σ H _ I rd
        refine PySem.W.callWith_K0 I.kIn kp (fin (us := []) (ws := []) (vs := []) (zs := []) I .nil .nil rfl rfl ?_)
        obtain ⟨m', h', s', r', sr', xi', z'⟩ := rd
        have z' : Sat W.G (RDs W.G) m' H (.ok [] h') _ _ := z'
        obtain ⟨_, m2, h2, s2, r2, sr2, xi2, z2⟩ := z'.ok r' .nil
        have z2 : Sat W.G (RDs W.G) m2 H (.ok [] h2) _ _ := z2
        exact (z2.ok r2 .nil).2
  | cons e0 rest =>
    rw [List.all_cons, Bool.and_eq_true] at hs
    have he := star1 (env := X.env) (es := rest) hs.1
    cases kws with
    | nil =>
      cases kes with
      | cons _ _ => cases l2
      | nil =>
        refine PySem.W.callWith_K (h₀ := X.base) I.ok.mod.kin kp (thn (ha.run pos pins s σ H _ I rd) fun us s1 ⟨vs, H1, I1, r, l, m2, h2, s2, r2, sr2, xi2, z2⟩ => ⟨I1.kIn, ?_⟩) he (starAll hs.2 pos)
        have z2 : Sat W.G (RDs W.G) m2 H1 (.ok [] h2) _ _ := z2
        exact fin (ws := []) (zs := []) I1 r .nil l rfl (z2.ok r2 .nil).2
    | cons kw kws =>
      obtain ⟨k1, k2, k3⟩ := kwFacts (env := X.env) pos hk
      refine PySem.W.callWith_KW (h₀ := X.base) I.ok.mod.kin kp k1 (thn (ha.run pos pins s σ H _ I rd) fun us s1 ⟨vs, H1, I1, r, l, q⟩ => ?_) ?_ he
      · refine thn (hb.run pos pins s1 σ H1 _ I1 q) fun ws s2 ⟨zs, H2, I2, rz, l2', q2⟩ => ⟨I2.kIn, ?_⟩
        rw [k2]
        exact fin I2 r rz l l2' q2
      · rw [k3, he]
        show ((false || (backTo pos (starEach rest X.env)).any (·.1)) || false) = false
        rw [starAll hs.2 pos]
        rfl
theorem k_bi (x : XG W cc k ev X E) {y : Str} {b : BI} {es : QEs} {rest : List Expr} {p1 : Pos} (hcold : cc.hot = false) (hn : plainName y = true) (hg : glB cc.sc y = true) (hv : match b with
      | .gcd => X.mg y = some (.builtin "math.gcd")
      | b => X.mg y = none ∧ bootBuiltins y = some b.val) (hs : (e :: rest).all notStar = true) (ha : PA X (e :: rest) (REs W cc a E ev es)) : PE X (.Call (.Name y p1) (e :: rest) [] pos) (RE W cc a E ev (.bi b es)) := by
  obtain ⟨n1, n2, n3⟩ := pn1 hn
  have hgl := gl_of x hg
  have co := bi_ok (G := W.G) x.K (x.room hcold).1 b
  rw [List.all_cons, Bool.and_eq_true] at hs
  have he := star1 (env := X.env) (es := rest) hs.1
  have hpl := starAll (env := X.env) hs.2 pos
  have key : ∀ σ H Q, RE W cc a E ev (.bi b es) σ H Q → tCB (rbi W.G b) (REs W cc a E ev es) σ H Q := fun σ H Q ⟨m, h, s, r, sr, xi, z⟩ => by
    have z : Sat W.G (RD W.G) m H ((evEs ev es s h).bind fun xs h1 => biV b xs h1) Q _ := z
    exact ⟨m, h, s, r, sr, xi, z.bind fun d h1 m1 H1 v st r1 dv q1 => ⟨m1, h1, d, _, r1, dv, q1⟩⟩
  cases b with
  | gcd => exact PE.imp (pe_callBfun co hgl hv ha n1 he hpl) key
  | int => exact PE.imp (pe_callTy co hgl hv.1 hv.2 ha n3 n1 he hpl) key
  | tuple => exact PE.imp (pe_callTy co hgl hv.1 hv.2 ha n3 n1 he hpl) key
  | list => exact PE.imp (pe_callTy co hgl hv.1 hv.2 ha n3 n1 he hpl) key
  | str => exact PE.imp (pe_callTy co hgl hv.1 hv.2 ha n3 n1 he hpl) key
  | abs => exact PE.imp (pe_callB co hgl hv.1 hv.2 ha n3 n1 he hpl) key
  | len => exact PE.imp (pe_callB co hgl hv.1 hv.2 ha n3 n1 he hpl) key
  | max => exact PE.imp (pe_callB co hgl hv.1 hv.2 ha n3 n1 he hpl) key
  | min => exact PE.imp (pe_callB co hgl hv.1 hv.2 ha n3 n1 he hpl) key
  | all => exact PE.imp (pe_callB co hgl hv.1 hv.2 ha n3 n1 he hpl) key
  | any => exact PE.imp (pe_callB co hgl hv.1 hv.2 ha n3 n1 he hpl) key
theorem k_isi (x : XG W cc k ev X E) {y : Str} {t : Ty} {e2 : Expr} {p1 : Pos} (hn : plainName y = true) (hg : glB cc.sc y = true) (hv : X.mg y = none ∧ bootBuiltins y = some (.builtin "isinstance")) (hs : notStar e1 = true) (ht : tyOf cc e2 = some t) (ha : PE X e1 (RE W cc a E ev p)) :
    PE X (.Call (.Name y p1) [e1, e2] [] pos) (RE W cc a E ev (.isi p t)) := by
  obtain ⟨n1, n2, n3⟩ := pn1 hn
  have hgl := gl_of x hg
  have nc : (∀ n, t ≠ .cls n) ∧ notStar e2 = true ∧ PE X e2 (tC (.ty t.nm)) := by
    unfold tyOf at ht
    split at ht
    · split at ht
      · rename_i hp
        rw [Bool.and_eq_true] at hp
        obtain ⟨m1, m2, m3⟩ := pn1 hp.1
        split at ht
        · rename_i t' e0
          obtain ⟨g1, g2⟩ := x.gl _ _ e0
          split at ht
          · cases ht
          · rename_i t2 hne
            cases ht
            exact ⟨fun n z => hne n z, rfl, pe_bltn (gl_of x hp.2) (by rw [x.mg]; exact g1) g2 rfl m3 m1⟩
        · cases ht
      · cases ht
    · cases ht
  obtain ⟨nc, hs2, ht⟩ := nc
  refine PE.imp (pe_callB (isi_ok (G := W.G) x.K t) hgl hv.1 hv.2 (pa_cons ha (pa_cons ht pa_nil (star1 hs2)) (star1 hs)) n3 n1 (star1 hs) (by
    rw [star1 hs2]
    rfl)) fun σ H Q ⟨m, h, s, r, sr, xi, z⟩ => ?_
  have z : Sat W.G (RD W.G) m H ((evE ev p s h).bind fun x h1 => boolO h1 (isiV x t h1)) Q _ := z
  exact ⟨m, h, s, r, sr, xi, z.bind fun d h1 m1 H1 v st r1 dv q1 => ⟨m1, h1, d, v, _, rfl, nc, r1, dv, q1⟩⟩
end
end PV
/-! PVG: methods of lists, what is walked, comprehensions. -/
namespace PV
open PySem PySem.Spec PyProof.Rows L2
section
variable {W : WD} {cc : CC} {k : Nat} {ev : Ev} {X : Cx} {E : WX} {a : Addr}
variable {e e1 e2 e3 : Expr} {p q r : QE} {pos : Pos}
/-! ### methods -/
theorem baseC {o : Expr} {md : Str} {env : Env} {wh : Sem Value} (h : notCall o = true) : attributeBase o md env wh = wh := by
  cases o <;> first | rfl | cases h
theorem k_mthG (x : XG W cc k ev X E) {o : Expr} {md : Str} {j : Nat} {ap : Pos} {id : String} {F : D → List D → Hd → Out D} (hl : (ap.endLine == pos.line) = true) (hc : notCall o = true) (hs : notStar e1 = true) (sl : Slot "list" md id) (hty : typeOf (.builtin id) = pure (.type "method_descriptor")) (hm : MtM X id (rmt W.G F)) (hj : mthV j = F)
    (ho : PE X o (RE W cc a E ev p)) (ha : PE X e1 (RE W cc a E ev q)) : PE X (.Call (.Attribute o md ap) [e1] [] pos) (RE W cc a E ev (.mth j p (.cons q .nil))) := by
  have hst := star1 (env := X.env) (es := []) hs
  refine PE.imp (pe_bm PySem.F.plainAttrs_list sl hty hm ho (as_cons hs ha as_nil) (baseC hc) (by rw [hst]; rfl) hl hst rfl) fun σ H Q ⟨m, h, s, rl, sr, xi, z⟩ => ?_
  have z : Sat W.G (RD W.G) m H ((evE ev p s h).bind fun x h1 => match isLst h1 x with
    | true => (evEs ev (.cons q .nil) s h1).bind fun xs h2 => mthV j x xs h2
    | false => .no) Q _ := z
  refine ⟨m, h, s, rl, sr, xi, z.bind fun d h1 m1 H1 v st r1 dv q1 => ?_⟩
  cases e0 : isLst h1 d with
  | false => rw [e0] at q1; exact False.elim q1
  | true =>
    rw [e0] at q1
    cases d with
    | ref n =>
      cases e5 : lstAt h1 n with
      | none =>
        have e0 : (lstAt h1 n).isSome = true := e0
        rw [e5] at e0
        cases e0
      | some xs =>
        obtain ⟨b, vs, rfl, _, hb, _⟩ := r1.lstV dv e5
        refine ⟨.inl ⟨rfl, vs, SqL.of hb⟩, m1, h1, s, r1, sr.step st, xi, Sat.bind (S := RD W.G) q1 fun d2 h2 m2 H2 v2 st2 r2 dv2 q2 => ?_⟩
        rw [hj] at q2
        exact ⟨m2, h2, _, d2, _, r2, dv.step st2, dv2, q2⟩
    | _ => cases e0
theorem k_mth (x : XG W cc k ev X E) {o : Expr} {md : Str} {j : Nat} {ap : Pos} (hm : mthOf md = some j) (hl : (ap.endLine == pos.line) = true) (hc : notCall o = true) (hs : notStar e1 = true)
    (ho : PE X o (RE W cc a E ev p)) (ha : PE X e1 (RE W cc a E ev q)) : PE X (.Call (.Attribute o md ap) [e1] [] pos) (RE W cc a E ev (.mth j p (.cons q .nil))) := by
  unfold mthOf at hm
  split at hm
  · rename_i e0
    cases hm
    subst e0
    exact k_mthG x hl hc hs PySem.F.slot_list_append PySem.F.type_list_append append_ok rfl ho ha
  · split at hm
    · rename_i e0
      cases hm
      subst e0
      exact k_mthG x hl hc hs PySem.F.slot_list_extend PySem.F.type_list_extend extend_ok rfl ho ha
    · cases hm
/-! ### what is walked -/
/-- J walks w's items, as long as the lists stand -/
def WalkR (G : GW) : List Addr → Hp → Walk → It → Prop := fun m H w J => ∀ m' h' H', Step m H m' H' → Rel G m' h' H' → fixOk h' w.fix = true → ∀ i : Nat,
  (∀ d, w.items[i]? = some d → J.go i H' ∧ ∀ x H'', J.yld i H' x H'' → Rel G m' h' H'' ∧ Step m' H' m' H'' ∧ DR G.K m' H'' d x) ∧ (w.items[i]? = none → J.stop i H')
abbrev RI (W : WD) (cc : CC) (a : Addr) (E : WX) (ev : Ev) (p : QI) : TI := rdg W.G cc.xi W.xa E (WalkR W.G) (evI ev p)
theorem PI.imp {tg : Expr} {t t' : TI} (p : PI X tg e t) (h : ∀ σ H Q, t' σ H Q → t σ H Q) : PI X tg e t' := ⟨fun pins s σ H Q I q => p.run pins s σ H Q I (h σ H Q q)⟩
theorem walk_tup {G : GW} {m : List Addr} {H : Hp} {b : Addr} {ds : List D} {vs : List V} (t : SqT G.K H b vs) (d : DRs G.K m H ds vs) : WalkR G m H ⟨ds, []⟩ (Itt G.K b) := fun m' h' H' st r' _ i => by
  have t' := sqT_step t st.tups st.frzs
  have d' := d.step st
  refine ⟨fun x e0 => ?_, fun e0 => ⟨vs, t', by rw [← d'.length]; exact List.getElem?_eq_none_iff.mp e0⟩⟩
  obtain ⟨v, e1, dv⟩ := d'.get e0
  refine ⟨⟨vs, v, t', e1⟩, fun y H'' ⟨e2, e3⟩ => ?_⟩
  subst e2
  have := e3 vs t'
  rw [e1] at this
  cases this
  exact ⟨r', r'.step, dv⟩
theorem walk_fl {G : GW} {m : List Addr} {H : Hp} {b : Addr} {ds : List D} {vs : List V} (t : FrL G.K H b vs) (d : DRs G.K m H ds vs) : WalkR G m H ⟨ds, []⟩ (Itl G.K b) := fun m' h' H' st r' _ i => by
  have t' := (t.step st.frzs).sq
  have d' := d.step st
  refine ⟨fun x e0 => ?_, fun e0 => ⟨vs, t', by rw [← d'.length]; exact List.getElem?_eq_none_iff.mp e0⟩⟩
  obtain ⟨v, e1, dv⟩ := d'.get e0
  refine ⟨⟨vs, v, t', e1⟩, fun y H'' ⟨e2, e3⟩ => ?_⟩
  subst e2
  have := e3 vs t'
  rw [e1] at this
  cases this
  exact ⟨r', r'.step, dv⟩
theorem fix_cons {h : Hd} {n : Nat} {xs : List D} {r : List (Nat × List D)} (f : fixOk h ((n, xs) :: r) = true) : lstAt h n = some xs ∧ fixOk h r = true := by
  unfold fixOk at f
  rw [Bool.and_eq_true] at f
  refine ⟨?_, f.2⟩
  have f1 := f.1
  split at f1
  · rename_i ys e
    rw [e, D.eq_of_beqs _ _ f1]
  · cases f1
theorem fix_app {h : Hd} : ∀ {l r : List (Nat × List D)}, fixOk h (l ++ r) = true → fixOk h l = true ∧ fixOk h r = true
  | [], _, f => ⟨rfl, f⟩
  | (n, xs) :: l, r, f => by
    rw [List.cons_append] at f
    unfold fixOk at f
    rw [Bool.and_eq_true] at f
    obtain ⟨f2, f3⟩ := fix_app f.2
    exact ⟨by unfold fixOk; rw [Bool.and_eq_true]; exact ⟨f.1, f2⟩, f3⟩
theorem ref_get {G : GW} {m m' : List Addr} {H H' : Hp} {n : Nat} {b : Addr} {h' : Hd} {ds : List D} (e1 : m[n]? = some b) (st : Step m H m' H') (r' : Rel G m' h' H') (f : lstAt h' n = some ds) : ∃ vs, SqL G.K H' b vs ∧ DRs G.K m' H' ds vs := by
  obtain ⟨vs, h1, d1⟩ := r'.lst f (st.get n b e1)
  exact ⟨vs, SqL.of h1, d1⟩
/-- a list that is tracked is read one way -/
theorem sq_one {G : GW} {m : List Addr} {H : Hp} {n : Nat} {b : Addr} {h : Hd} {ds : List D} (e1 : m[n]? = some b) (r : Rel G m h H) (f : lstAt h n = some ds) : ∃ vs, H b = some (.lst vs) ∧ DRs G.K m H ds vs := r.lst f e1
theorem walk_ref {G : GW} {m : List Addr} {H : Hp} {b : Addr} {n : Nat} {ds : List D} (e0 : m[n]? = some b) : WalkR G m H ⟨ds, [(n, ds)]⟩ (Itl G.K b) := fun m' h' H' st r' f i => by
  obtain ⟨f1, _⟩ := fix_cons f
  obtain ⟨vs, t', d'⟩ := ref_get e0 st r' f1
  refine ⟨fun x e0 => ?_, fun e0 => ⟨vs, t', by rw [← d'.length]; exact List.getElem?_eq_none_iff.mp e0⟩⟩
  obtain ⟨v, e1, dv⟩ := d'.get e0
  refine ⟨⟨vs, v, t', e1⟩, fun y H'' ⟨e2, e3⟩ => ?_⟩
  subst e2
  have := e3 vs t'
  rw [e1] at this
  cases this
  exact ⟨r', r'.step, dv⟩
theorem walk_str {G : GW} {m : List Addr} {H : Hp} {z : Str} : WalkR G m H ⟨strD z, []⟩ (Its z) := fun m' h' H' st r' _ i => by
  have get : (strD z)[i]? = (z.cps[i]?).map fun c => D.str ⟨#[c]⟩ := by
    unfold strD
    rw [List.getElem?_map]
    simp
  refine ⟨fun d e0 => ?_, fun e0 => ?_⟩
  · have e0 : (strD z)[i]? = some d := e0
    rw [get] at e0
    cases e1 : z.cps[i]? with
    | none => rw [e1] at e0; cases e0
    | some c =>
      rw [e1] at e0
      cases e0
      refine ⟨(Array.getElem?_eq_some_iff.mp e1).1, fun y H'' ⟨e2, c', e3, e4⟩ => ?_⟩
      subst e2 e4
      rw [e1] at e3
      cases e3
      exact ⟨r', r'.step, .str _⟩
  · have e0 : (strD z)[i]? = none := e0
    rw [get] at e0
    cases e1 : z.cps[i]? with
    | none => exact Array.getElem?_eq_none_iff.mp e1
    | some c => rw [e1] at e0; cases e0
theorem rng_get : ∀ (n : Nat) (lo c : Int) (i : Nat), (rng lo c n)[i]? = if i < n then some (.int (lo + i * c)) else none
  | 0, lo, c, i => by simp [rng]
  | n + 1, lo, c, 0 => by simp [rng]
  | n + 1, lo, c, i + 1 => by
    show (rng (lo + c) c n)[i]? = _
    rw [rng_get n (lo + c) c i]
    by_cases h : i < n
    · rw [if_pos h, if_pos (by omega)]
      have : lo + c + (i : Int) * c = lo + ((i + 1 : Nat) : Int) * c := by
        rw [Int.natCast_add, Int.add_mul]
        simp
        omega
      rw [this]
    · rw [if_neg h, if_neg (by omega)]
theorem walk_rng {G : GW} {m : List Addr} {H : Hp} {lo : Int} {n : Nat} : WalkR G m H ⟨rng lo 1 n, []⟩ (Itr lo n) := fun m' h' H' st r' _ i => by
  refine ⟨fun d e0 => ?_, fun e0 => ?_⟩
  · have e0 : (rng lo 1 n)[i]? = some d := e0
    rw [rng_get] at e0
    split at e0
    · rename_i hi
      cases e0
      refine ⟨hi, fun y H'' ⟨e2, e3⟩ => ?_⟩
      subst e2 e3
      rw [Int.mul_one]
      exact ⟨r', r'.step, .int _⟩
    · cases e0
  · have e0 : (rng lo 1 n)[i]? = none := e0
    rw [rng_get] at e0
    split at e0
    · cases e0
    · rename_i hi
      exact Nat.le_of_not_lt hi
theorem zip_get : ∀ (xs ys : List D) (i : Nat), (zipD xs ys)[i]? = match xs[i]?, ys[i]? with
    | some x, some y => some (.tup [x, y])
    | _, _ => none
  | [], ys, i => by simp [zipD]
  | x :: xs, [], i => by cases i <;> simp [zipD]
  | x :: xs, y :: ys, 0 => by simp [zipD]
  | x :: xs, y :: ys, i + 1 => by
    show (zipD xs ys)[i]? = _
    rw [zip_get xs ys i]
    simp
/-- the pair that zip makes -/
theorem pair_new {G : GW} {m : List Addr} {h : Hd} {H : Hp} {T : Addr} {x y : V} {d1 d2 : D} (r : Rel G m h H) (hT : H T = none) (a1 : DR G.K m H d1 x) (a2 : DR G.K m H d2 y) : Rel G m h (upd H T (.tup [x, y])) ∧ Step m H m (upd H T (.tup [x, y])) ∧ DR G.K m (upd H T (.tup [x, y])) (.tup [d1, d2]) (.ref T) := by
  obtain ⟨st, r'⟩ := new_step (o := .tup [x, y]) r hT
  exact ⟨r', st, .tup (SqT.of upd_same) (.cons (a1.step st) (.cons (a2.step st) .nil))⟩
theorem walk_zipL {G : GW} {m : List Addr} {H : Hp} {b c : Addr} {ds es : List D} {fx : List (Nat × List D)} (hb : ∀ m' h' H', Step m H m' H' → Rel G m' h' H' → fixOk h' fx = true → ∃ vs ws, SqL G.K H' b vs ∧ DRs G.K m' H' ds vs ∧ SqL G.K H' c ws ∧ DRs G.K m' H' es ws) : WalkR G m H ⟨zipD ds es, fx⟩ (Itz G.K b c) := fun m' h' H' st r' f i => by
  obtain ⟨vs, ws, t1, d1, t2, d2⟩ := hb m' h' H' st r' f
  refine ⟨fun d e0 => ?_, fun e0 => ?_⟩
  · have e0 : (zipD ds es)[i]? = some d := e0
    rw [zip_get] at e0
    split at e0
    · rename_i x y e1 e2
      cases e0
      obtain ⟨v, e3, dv⟩ := d1.get e1
      obtain ⟨w', e4, dw⟩ := d2.get e2
      refine ⟨⟨vs, ws, v, w', t1, t2, e3, e4⟩, fun u H'' ⟨T, x', y', e5, hT, e6, e7, e8⟩ => ?_⟩
      have a1 := e7 vs t1
      have a2 := e8 ws t2
      rw [e3] at a1
      rw [e4] at a2
      cases a1
      cases a2
      subst e5 e6
      exact pair_new r' hT dv dw
    · cases e0
  · have e0 : (zipD ds es)[i]? = none := e0
    rw [zip_get] at e0
    refine ⟨vs, ws, t1, t2, ?_⟩
    rw [← d1.length, ← d2.length]
    cases e1 : ds[i]? with
    | none => exact .inl (List.getElem?_eq_none_iff.mp e1)
    | some x =>
      cases e2 : es[i]? with
      | none => exact .inr (List.getElem?_eq_none_iff.mp e2)
      | some y => rw [e1, e2] at e0; cases e0
theorem walk_zipT {G : GW} {m : List Addr} {H : Hp} {b c : Addr} {ds es : List D} {vs ws : List V} (t1 : SqT G.K H b vs) (d1 : DRs G.K m H ds vs) (t2 : SqT G.K H c ws) (d2 : DRs G.K m H es ws) : WalkR G m H ⟨zipD ds es, []⟩ (RZ.ItzT G.K b c) := fun m' h' H' st r' f i => by
  have t1 := sqT_step t1 st.tups st.frzs
  have t2 := sqT_step t2 st.tups st.frzs
  have d1 := d1.step st
  have d2 := d2.step st
  refine ⟨fun d e0 => ?_, fun e0 => ?_⟩
  · have e0 : (zipD ds es)[i]? = some d := e0
    rw [zip_get] at e0
    split at e0
    · rename_i x y e1 e2
      cases e0
      obtain ⟨v, e3, dv⟩ := d1.get e1
      obtain ⟨w', e4, dw⟩ := d2.get e2
      refine ⟨⟨vs, ws, v, w', t1, t2, e3, e4⟩, fun u H'' ⟨T, x', y', e5, hT, e6, e7, e8⟩ => ?_⟩
      have a1 := e7 vs t1
      have a2 := e8 ws t2
      rw [e3] at a1
      rw [e4] at a2
      cases a1
      cases a2
      subst e5 e6
      exact pair_new r' hT dv dw
    · cases e0
  · have e0 : (zipD ds es)[i]? = none := e0
    rw [zip_get] at e0
    refine ⟨vs, ws, t1, t2, ?_⟩
    rw [← d1.length, ← d2.length]
    cases e1 : ds[i]? with
    | none => exact .inl (List.getElem?_eq_none_iff.mp e1)
    | some x =>
      cases e2 : es[i]? with
      | none => exact .inr (List.getElem?_eq_none_iff.mp e2)
      | some y => rw [e1, e2] at e0; cases e0
/-- a value is walked -/
theorem i_v (x : XG W cc k ev X E) {tg : Expr} (ha : PE X e (RE W cc a E ev p)) : PI X tg e (RI W cc a E ev (.v p)) := by
  refine ⟨fun pins st0 σ H R I ⟨m, h, s, r, sr, xi, z⟩ => ?_⟩
  have z : Sat W.G (WalkR W.G) m H ((evE ev p s h).bind fun x h1 => walkV x h1) R _ := z
  have hK := x.K
  cases e0 : evE ev p s h with
  | no => rw [e0] at z; exact False.elim z
  | ex ex h' =>
    rw [e0] at z
    refine (pi_tup (tg := tg) ha).run pins st0 σ H R I ?_
    exact ⟨m, h, s, r, sr, xi, by rw [e0]; exact z⟩
  | ok d h1 =>
    rw [e0] at z
    have z : Sat W.G (WalkR W.G) m H (walkV d h1) R _ := z
    have go : ∀ (t : V → Hp → Prop), (∀ m1 H1 v, Step m H m1 H1 → Rel W.G m1 h1 H1 → DR W.G.K m1 H1 d v → t v H1) → RE W cc a E ev p σ H t := fun t ht => ⟨m, h, s, r, sr, xi, by rw [e0]; exact fun m1 H1 v st r1 dv => ht m1 H1 v st r1 dv⟩
    cases d with
    | tup ds =>
      refine (pi_tup (tg := tg) ha).run pins st0 σ H R I (go _ fun m1 H1 v st r1 dv => ?_)
      cases dv with
      | tup t dd => exact ⟨_, rfl, ⟨_, hK ▸ t⟩, z m1 H1 _ st r1 (hK ▸ walk_tup t dd)⟩
    | fl ds =>
      refine (pi_list (tg := tg) ha).run pins st0 σ H R I (go _ fun m1 H1 v st r1 dv => ?_)
      cases dv with
      | fl t dd => exact ⟨_, rfl, ⟨_, hK ▸ t.sq⟩, z m1 H1 _ st r1 (hK ▸ walk_fl t dd)⟩
    | ref n =>
      have z : Sat W.G (WalkR W.G) m H (match lstAt h1 n with
        | some xs => .ok ⟨xs, [(n, xs)]⟩ h1
        | none => .no) R _ := z
      split at z
      · rename_i xs e1
        refine (pi_list (tg := tg) ha).run pins st0 σ H R I (go _ fun m1 H1 v st r1 dv => ?_)
        obtain ⟨b, vs, rfl, e2, h3, d3⟩ := r1.lstV dv e1
        exact ⟨_, rfl, ⟨_, SqL.of h3⟩, z m1 H1 _ st r1 (hK ▸ walk_ref e2)⟩
      · exact False.elim z
    | str zz =>
      refine (pi_str (tg := tg) ha).run pins st0 σ H R I (go _ fun m1 H1 v st r1 dv => ?_)
      cases dv
      exact ⟨_, rfl, z m1 H1 _ st r1 walk_str⟩
    | _ => exact False.elim z
theorem small_of {i : Int} (h : smallI i = true) : -(2 ^ 62) ≤ i ∧ i < 2 ^ 62 := by
  have h1 : i.natAbs.log2 < 62 := of_decide_eq_true h
  have h2 : i.natAbs < 2 ^ 62 := by
    by_cases z : i.natAbs = 0
    · rw [z]; decide
    · exact (Nat.log2_lt z).mp h1
  have e : (2 : Int) ^ 62 = ((2 ^ 62 : Nat) : Int) := by rw [Int.natCast_pow]; rfl
  rw [e]
  omega
theorem i_rng1 (x : XG W cc k ev X E) {tg : Expr} {p1 : Pos} (hg : glB cc.sc "range" = true) (hm : W.mg "range" = none) (hs : notStar e1 = true) (ha : PE X e1 (RE W cc a E ev p)) : PI X tg (.Call (.Name "range" p1) [e1] [] pos) (RI W cc a E ev (.rng1 p)) :=
  PI.imp (pi_range1 (gl_of x hg) (by rw [x.mg]; exact hm) (as_cons hs ha as_nil) (star1 hs)) fun σ H R ⟨m, h, s, r, sr, xi, z⟩ => by
    have z : Sat W.G (WalkR W.G) m H ((evE ev p s h).bind fun x h1 => rngV [x] h1) R _ := z
    refine ⟨m, h, s, r, sr, xi, ?_⟩
    show Sat W.G (RDs W.G) m H ((evE ev p s h).bind fun x h1 => (Out.ok [] h1).bind fun xs h2 => .ok (x :: xs) h2) _ _
    cases e0 : evE ev p s h with
    | no => rw [e0] at z; exact False.elim z
    | ex _ _ => rw [e0] at z; exact z
    | ok d h1 =>
      rw [e0] at z
      intro m1 H1 v st r1 dv
      have z : Sat W.G (WalkR W.G) m H (rngV [d] h1) R _ := z
      cases d with
      | int i =>
        obtain ⟨hz, z⟩ := Sat.ret z
        obtain ⟨b1, b2⟩ := small_of hz
        cases dv with
        | cons d1 d2 =>
          cases d1
          cases d2
          exact ⟨i, rfl, b1, b2, z m1 H1 _ st r1 walk_rng⟩
      | _ => exact False.elim z
theorem i_rng2 (x : XG W cc k ev X E) {tg : Expr} {p1 : Pos} (hg : glB cc.sc "range" = true) (hm : W.mg "range" = none) (hs : notStar e1 = true) (hs2 : notStar e2 = true) (ha : PE X e1 (RE W cc a E ev p)) (hb : PE X e2 (RE W cc a E ev q)) : PI X tg (.Call (.Name "range" p1) [e1, e2] [] pos) (RI W cc a E ev (.rng2 p q)) :=
  PI.imp (pi_range2 (gl_of x hg) (by rw [x.mg]; exact hm) (as_cons hs ha (as_cons hs2 hb as_nil)) (by rw [star1 hs, star1 hs2]; rfl) (star1 hs2)) fun σ H R ⟨m, h, s, r, sr, xi, z⟩ => by
    have z : Sat W.G (WalkR W.G) m H ((evE ev p s h).bind fun x h1 => (evE ev q s h1).bind fun y h2 => rngV [x, y] h2) R _ := z
    refine ⟨m, h, s, r, sr, xi, ?_⟩
    show Sat W.G (RDs W.G) m H ((evE ev p s h).bind fun x h1 => ((evE ev q s h1).bind fun y h2 => (Out.ok [] h2).bind fun xs h3 => .ok (y :: xs) h3).bind fun xs h2 => .ok (x :: xs) h2) _ _
    cases e0 : evE ev p s h with
    | no => rw [e0] at z; exact False.elim z
    | ex _ _ => rw [e0] at z; exact z
    | ok d h1 =>
      rw [e0] at z
      have z : Sat W.G (WalkR W.G) m H ((evE ev q s h1).bind fun y h2 => rngV [d, y] h2) R _ := z
      show Sat W.G (RDs W.G) m H (((evE ev q s h1).bind fun y h2 => (Out.ok [] h2).bind fun xs h3 => .ok (y :: xs) h3).bind fun xs h2 => .ok (d :: xs) h2) _ _
      cases e1 : evE ev q s h1 with
      | no => rw [e1] at z; exact False.elim z
      | ex _ _ => rw [e1] at z; exact z
      | ok d2 h2 =>
        rw [e1] at z
        intro m1 H1 v st r1 dv
        have z : Sat W.G (WalkR W.G) m H (rngV [d, d2] h2) R _ := z
        cases d with
        | int i =>
          cases d2 with
          | int j =>
            obtain ⟨hz, z⟩ := Sat.ret z
            rw [Bool.and_eq_true] at hz
            obtain ⟨b1, b2⟩ := small_of hz.1
            obtain ⟨b3, b4⟩ := small_of hz.2
            obtain ⟨v1, v2, rfl, d1, d3⟩ := two_of dv
            cases d1
            cases d3
            exact ⟨i, j, rfl, ⟨b1, b2, b3, b4⟩, z m1 H1 _ st r1 walk_rng⟩
          | _ => exact False.elim z
        | _ => exact False.elim z
/-- what zip walks -/
theorem seq_of {G : GW} {m : List Addr} {h : Hd} {H : Hp} {d : D} {w : Walk} {v : V} (r : Rel G m h H) (e : seqOf d h = some w) (dv : DR G.K m H d v) : ∃ b, v = .ref b ∧ ((isTup d = true ∧ ∃ vs, SqT G.K H b vs ∧ DRs G.K m H w.items vs ∧ w.fix = []) ∨
    (isTup d = false ∧ (∃ vs, SqL G.K H b vs) ∧ ∀ m' h' H', Step m H m' H' → Rel G m' h' H' → fixOk h' w.fix = true → ∃ vs, SqL G.K H' b vs ∧ DRs G.K m' H' w.items vs)) := by
  cases d with
  | tup ds =>
    cases e
    cases dv with
    | tup t dd => exact ⟨_, rfl, .inl ⟨rfl, _, t, dd, rfl⟩⟩
  | fl ds =>
    cases e
    cases dv with
    | fl t dd => exact ⟨_, rfl, .inr ⟨rfl, ⟨_, t.sq⟩, fun m' h' H' st _ _ => ⟨_, (t.step st.frzs).sq, dd.step st⟩⟩⟩
  | ref n =>
    have e : (match lstAt h n with
      | some xs => some (⟨xs, [(n, xs)]⟩ : Walk)
      | none => none) = some w := e
    split at e
    · rename_i xs e1
      cases e
      obtain ⟨b, vs, rfl, e2, h3, d3⟩ := r.lstV dv e1
      exact ⟨b, rfl, .inr ⟨rfl, ⟨_, SqL.of h3⟩, fun m' h' H' st r' f => ref_get e2 st r' (fix_cons f).1⟩⟩
    · cases e
  | _ => cases e
theorem i_zip (x : XG W cc k ev X E) {elts : List Expr} {kk : Nat} {tpos : Pos} {p1 : Pos} (hg : glB cc.sc "zip" = true) (hm : W.mg "zip" = none) (hs : notStar e1 = true) (hs2 : notStar e2 = true) (ha : PE X e1 (RE W cc a E ev p)) (hb : PE X e2 (RE W cc a E ev q)) : PI X (.Tuple elts kk tpos) (.Call (.Name "zip" p1) [e1, e2] [] pos) (RI W cc a E ev (.zip p q)) :=
  PI.imp (RZ.pi_zipA (gl_of x hg) (by rw [x.mg]; exact hm) (as_cons hs ha (as_cons hs2 hb as_nil)) (star1 hs) (by rw [star1 hs2]; rfl)) fun σ H R ⟨m, h, s, r, sr, xi, z⟩ => by
    have z : Sat W.G (WalkR W.G) m H ((evE ev p s h).bind fun x h1 => (evE ev q s h1).bind fun y h2 => zipV x y h2) R _ := z
    refine ⟨m, h, s, r, sr, xi, ?_⟩
    show Sat W.G (RDs W.G) m H ((evE ev p s h).bind fun x h1 => ((evE ev q s h1).bind fun y h2 => (Out.ok [] h2).bind fun xs h3 => .ok (y :: xs) h3).bind fun xs h2 => .ok (x :: xs) h2) _ _
    cases e0 : evE ev p s h with
    | no => rw [e0] at z; exact False.elim z
    | ex _ _ => rw [e0] at z; exact z
    | ok d h1 =>
      rw [e0] at z
      have z : Sat W.G (WalkR W.G) m H ((evE ev q s h1).bind fun y h2 => zipV d y h2) R _ := z
      show Sat W.G (RDs W.G) m H (((evE ev q s h1).bind fun y h2 => (Out.ok [] h2).bind fun xs h3 => .ok (y :: xs) h3).bind fun xs h2 => .ok (d :: xs) h2) _ _
      cases e1 : evE ev q s h1 with
      | no => rw [e1] at z; exact False.elim z
      | ex _ _ => rw [e1] at z; exact z
      | ok d2 h2 =>
        rw [e1] at z
        intro m1 H1 v st r1 dv
        have z : Sat W.G (WalkR W.G) m H (match seqOf d h2, seqOf d2 h2 with
          | some a, some b => ret (isTup d == isTup d2) ⟨zipD a.items b.items, a.fix ++ b.fix⟩ h2
          | _, _ => .no) R _ := z
        split at z
        · rename_i wa wb ea eb
          obtain ⟨hz, z⟩ := Sat.ret z
          obtain ⟨v1, v2, rfl, d1, d3⟩ := two_of dv
          have hK := x.K
          obtain ⟨b, rfl, s1⟩ := seq_of r1 ea d1
          obtain ⟨c, rfl, s2⟩ := seq_of r1 eb d3
          rcases s1 with ⟨i1, vs, t1, q1, f1⟩ | ⟨i1, ⟨vs, t1⟩, q1⟩
          · rcases s2 with ⟨i2, ws, t2, q2, f2⟩ | ⟨i2, _, _⟩
            · rw [f1, f2] at z
              exact ⟨b, c, vs, ws, rfl, .inr ⟨hK ▸ t1, hK ▸ t2, z m1 H1 _ st r1 (hK ▸ walk_zipT t1 q1 t2 q2)⟩⟩
            · rw [i1, i2] at hz
              cases hz
          · rcases s2 with ⟨i2, _⟩ | ⟨i2, ⟨ws, t2⟩, q2⟩
            · rw [i1, i2] at hz
              cases hz
            · refine ⟨b, c, vs, ws, rfl, .inl ⟨hK ▸ t1, hK ▸ t2, z m1 H1 _ st r1 (hK ▸ walk_zipL fun m' h' H' st' r' f => ?_)⟩⟩
              obtain ⟨f1, f2⟩ := fix_app f
              obtain ⟨vs', a1, a2⟩ := q1 m' h' H' st' r' f1
              obtain ⟨ws', a3, a4⟩ := q2 m' h' H' st' r' f2
              exact ⟨vs', ws', a1, a2, a3, a4⟩
        · exact False.elim z
end
end PV
/-! PVH: targets, comprehensions. -/
namespace PV
open PySem PySem.Spec PyProof.Rows L2
section
variable {W : WD} {cc : CC} {k : Nat} {ev : Ev} {X : Cx} {E : WX} {a : Addr}
variable {e e1 e2 e3 : Expr} {p q r : QE} {pos : Pos}
/-! ### targets -/
mutual
def gIx : QG → List Nat
  | .nm i => [i]
  | .tp gs => gsIx gs
def gsIx : List QG → List Nat
  | [] => []
  | g :: gs => gIx g ++ gsIx gs
end
/-- the slots outside stay -/
def Fr (l : List Nat) (σ σ2 : L2.St) : Prop := σ2.length = σ.length ∧ ∀ i, i ∉ l → σ2[i]? = σ[i]?
theorem Fr.refl {l : List Nat} {σ : L2.St} : Fr l σ σ := ⟨rfl, fun _ _ => rfl⟩
theorem Fr.trans {l l' : List Nat} {σ σ2 σ3 : L2.St} (f : Fr l σ σ2) (g : Fr l' σ2 σ3) : Fr (l ++ l') σ σ3 := ⟨g.1.trans f.1, fun i h => (g.2 i fun z => h (List.mem_append_right _ z)).trans (f.2 i fun z => h (List.mem_append_left _ z))⟩
theorem Fr.wipe {l vs : List Nat} {σ σ2 : L2.St} (f : Fr l σ σ2) (h : ∀ i ∈ l, i ∈ vs) : L2.wipe σ2 vs = L2.wipe σ vs := by
  refine List.ext_getElem? fun i => ?_
  have key : ∀ (ws : List Nat) (τ : L2.St) (i : Nat), (L2.wipe τ ws)[i]? = if i ∈ ws then (τ[i]?).map (fun _ => none) else τ[i]? := by
    intro ws
    induction ws with
    | nil => intro τ i; simp [L2.wipe]
    | cons w ws ih =>
      intro τ i
      unfold L2.wipe
      by_cases hw : w = i
      · subst hw
        rw [if_pos List.mem_cons_self]
        by_cases hl : w < (L2.wipe τ ws).length
        · rw [List.getElem?_set_self hl]
          rw [L2.wipe_length] at hl
          rw [List.getElem?_eq_getElem hl]
          rfl
        · rw [List.getElem?_eq_none (by simpa using hl)]
          rw [L2.wipe_length] at hl
          rw [List.getElem?_eq_none (Nat.le_of_not_lt hl)]
          rfl
      · rw [List.getElem?_set_ne hw, ih]
        have : i ∈ w :: ws ↔ i ∈ ws := by
          rw [List.mem_cons]
          exact ⟨fun z => z.elim (fun z => absurd z.symm hw) id, .inr⟩
        simp only [this]
  rw [key, key]
  by_cases hv : i ∈ vs
  · rw [if_pos hv, if_pos hv]
    by_cases hi : i < σ.length
    · rw [List.getElem?_eq_getElem hi, List.getElem?_eq_getElem (by rw [f.1]; exact hi)]
      rfl
    · rw [List.getElem?_eq_none (Nat.le_of_not_lt hi), List.getElem?_eq_none (by rw [f.1]; exact Nat.le_of_not_lt hi)]
  · rw [if_neg hv, if_neg hv]
    exact f.2 i fun z => hv (h i z)
/-- v is d, and it is stored -/
def rg (G : GW) (g : QG) : TG := fun v σ H Q => ∃ m h s d s2, Rel G m h H ∧ SR G m H s σ ∧ DR G.K m H d v ∧ bindG g d s = some s2 ∧ ∀ σ2, SR G m H s2 σ2 → Fr (gIx g) σ σ2 → Q σ2 H
def rgs (G : GW) (gs : List QG) : TGs := fun vs σ H Q => ∃ m h s ds s2, Rel G m h H ∧ SR G m H s σ ∧ DRs G.K m H ds vs ∧ bindG.bindGs gs ds s = some s2 ∧ ∀ σ2, SR G m H s2 σ2 → Fr (gsIx gs) σ σ2 → Q σ2 H
theorem PG.imp {e : Expr} {t t' : TG} (p : PG X e t) (h : ∀ v σ H Q, t' v σ H Q → t v σ H Q) : PG X e t' := ⟨fun pins s σ H v u Q I r q => p.run pins s σ H v u Q I r (h v σ H Q q)⟩
theorem PGs.imp {e : List Expr} {t t' : TGs} (p : PGs X e t) (h : ∀ v σ H Q, t' v σ H Q → t v σ H Q) : PGs X e t' := ⟨fun pins s σ H v u Q I r q => p.run pins s σ H v u Q I r (h v σ H Q q)⟩
theorem g_name (x : XG W cc k ev X E) {y : Str} {i : Nat} (hy : y ∈ cc.as) (hi : ixOf cc.N y = some i) : PG X (.Name y pos) (rg W.G (.nm i)) := by
  obtain ⟨h1, h2⟩ := x.asg y hy
  refine PG.imp (pg_name (by rw [x.N]; exact x.nd) (by rw [x.N]; exact ixOf_get hi) (by rw [x.sc]; exact h1) (by rw [x.sc]; exact h2)) fun v σ H Q ⟨m, h, s, d, s2, r, sr, dv, e, hq⟩ => ?_
  have e : some (s.set i (some d)) = some s2 := by simpa [bindG] using e
  cases e
  refine hq _ (sr.set dv i) ⟨by rw [List.length_set], fun j hj => ?_⟩
  rw [List.getElem?_set_ne]
  intro z
  exact hj (by simp [gIx, z])
theorem assignEach1 (h : notStar e = true) (es : List Expr) (env : Env) : assignEach (e :: es) env = (false, assign e env) :: assignEach es env := by
  cases e <;> first | rfl | cases h
theorem tgt_notStar : ∀ {n : Nat} {e : Expr} {g : QG}, cTgt cc n e = some g → notStar e = true
  | 0, _, _, h => by simp [cTgt] at h
  | n + 1, e, g, h => by
    cases e <;> first | rfl | (simp [cTgt] at h)
theorem g_all (x : XG W cc k ev X E) : ∀ (n : Nat) {e : Expr} {g : QG}, cTgt cc n e = some g → PG X e (rg W.G g)
  | 0, _, _, h => by simp [cTgt] at h
  | n + 1, e, g, h => by
    have recu : ∀ (es : List Expr) (gs : List QG), cTgts (cTgt cc n) es = some gs → PGs X es (rgs W.G gs) ∧ (assignEach es X.env).length = gs.length ∧ (assignEach es X.env).findIdx? (·.1) = none := by
      intro es
      induction es with
      | nil =>
        intro gs h
        cases h
        refine ⟨PGs.imp pgs_nil fun vs σ H Q ⟨m, h, s, ds, s2, r, sr, dv, e, hq⟩ => ?_, rfl, rfl⟩
        cases dv with
        | nil =>
          have e : some s = some s2 := by simpa [bindG.bindGs] using e
          cases e
          exact ⟨rfl, hq σ sr Fr.refl⟩
        | cons _ _ => simp [bindG.bindGs] at e
      | cons e es ih =>
        intro gs h
        unfold cTgts at h
        split at h
        · rename_i g gs' h1 h2
          cases h
          obtain ⟨p, l, f⟩ := ih gs' h2
          have ns := tgt_notStar h1
          have ae := assignEach1 ns es X.env
          refine ⟨PGs.imp (pgs_cons (g_all x n h1) p (by rw [ae]; rfl)) fun vs σ H Q ⟨m, h, s, ds, s2, r, sr, dv, e, hq⟩ => ?_, by rw [ae]; simp [l], by rw [ae]; simp [List.findIdx?_cons, f]⟩
          cases dv with
          | nil => simp [bindG.bindGs] at e
          | @cons d v ds vs dv dvs =>
            have e : ((bindG g d s).bind fun s' => bindG.bindGs gs' ds s') = some s2 := by simpa [bindG.bindGs] using e
            cases e1 : bindG g d s with
            | none => rw [e1] at e; cases e
            | some s1 =>
              rw [e1] at e
              have e : bindG.bindGs gs' ds s1 = some s2 := e
              refine ⟨v, vs, rfl, m, _, s, d, s1, r, sr, dv, e1, fun σ1 sr1 f1 => ⟨m, _, s1, ds, s2, r, sr1, dvs, e, fun σ2 sr2 f2 => hq σ2 sr2 ?_⟩⟩
              have := f1.trans f2
              simpa [gsIx] using this
        · cases h
    cases e with
    | Name y py =>
      have h : (if cc.as.contains y then match ixOf cc.N y with
        | some i => if cc.xi = some i then none else some (QG.nm i)
        | none => none
        else none) = some g := h
      split at h
      · rename_i hy
        split at h
        · rename_i i hi
          split at h
          · cases h
          · cases h
            exact g_name x (by simpa using hy) hi
        · cases h
      · cases h
    | Tuple es kk py =>
      have h : (if cc.hot then none else (cTgts (cTgt cc n) es).map QG.tp) = some g := h
      split at h
      · cases h
      · rename_i hc
        cases e1 : cTgts (cTgt cc n) es with
        | none => rw [e1] at h; cases h
        | some gs =>
          rw [e1] at h
          cases h
          obtain ⟨p, l, f⟩ := recu es gs e1
          have hcold : cc.hot = false := by simpa using hc
          refine PG.imp (pg_tup (n := gs.length) (x.room hcold).1 p l f) fun v σ H Q ⟨m, h, s, d, s2, r, sr, dv, e, hq⟩ => ?_
          cases d with
          | tup ds =>
            have e : bindG.bindGs gs ds s = some s2 := by simpa [bindG] using e
            cases dv with
            | @tup b _ vs t dd =>
              have len : ∀ (gs : List QG) (ds : List D) (s : Sl), bindG.bindGs gs ds s = some s2 → ds.length = gs.length := by
                intro gs
                induction gs with
                | nil => intro ds s e; cases ds <;> simp [bindG.bindGs] at e ⊢
                | cons g gs ih =>
                  intro ds s e
                  cases ds with
                  | nil => simp [bindG.bindGs] at e
                  | cons d ds =>
                    have e : ((bindG g d s).bind fun s' => bindG.bindGs gs ds s') = some s2 := by simpa [bindG.bindGs] using e
                    cases e1 : bindG g d s with
                    | none => rw [e1] at e; cases e
                    | some s1 =>
                      rw [e1] at e
                      simp [ih ds s1 e]
              refine ⟨b, vs, rfl, by rw [x.K]; exact t, by rw [← dd.length]; exact len gs ds s e, m, _, s, ds, s2, r, sr, dd, e, fun σ2 sr2 f2 => hq σ2 sr2 ?_⟩
              simpa [gIx] using f2
          | _ => simp [bindG] at e
    | _ => simp [cTgt] at h
/-- the slots it stores at -/
theorem tgt_ix (P : Nat → Prop) (hP : ∀ y ∈ cc.as, ∀ i, ixOf cc.N y = some i → cc.xi ≠ some i → P i) : ∀ (n : Nat) {e : Expr} {g : QG}, cTgt cc n e = some g → ∀ i ∈ gIx g, P i
  | 0, _, _, h => by simp [cTgt] at h
  | n + 1, e, g, h => by
    cases e with
    | Name y py =>
      have h : (if cc.as.contains y then match ixOf cc.N y with
        | some i => if cc.xi = some i then none else some (QG.nm i)
        | none => none
        else none) = some g := h
      split at h
      · rename_i hy
        split at h
        · rename_i i hi
          split at h
          · cases h
          · rename_i hx
            cases h
            intro j hj
            have : j = i := by simpa [gIx] using hj
            subst this
            exact hP y (by simpa using hy) _ hi hx
        · cases h
      · cases h
    | Tuple es kk py =>
      have h : (if cc.hot then none else (cTgts (cTgt cc n) es).map QG.tp) = some g := h
      split at h
      · cases h
      · have recu : ∀ (es : List Expr) (gs : List QG), cTgts (cTgt cc n) es = some gs → ∀ i ∈ gsIx gs, P i := by
          intro es
          induction es with
          | nil => intro gs h; cases h; intro i hi; simp [gsIx] at hi
          | cons e es ih =>
            intro gs h
            unfold cTgts at h
            split at h
            · rename_i g gs' h1 h2
              cases h
              intro i hi
              have hi : i ∈ gIx g ++ gsIx gs' := by simpa [gsIx] using hi
              rcases List.mem_append.mp hi with z | z
              · exact tgt_ix P hP n h1 i z
              · exact ih gs' h2 i z
            · cases h
        cases e1 : cTgts (cTgt cc n) es with
        | none => rw [e1] at h; cases h
        | some gs =>
          rw [e1] at h
          cases h
          intro i hi
          exact recu es gs e1 i (by simpa [gIx] using hi)
    | _ => simp [cTgt] at h
theorem xi_fr {xi : Option Nat} {l : List Nat} {σ σ2 : L2.St} (f : Fr l σ σ2) (h : ∀ i ∈ l, xi ≠ some i) (o : XiOk xi a σ) : XiOk xi a σ2 := by
  cases xi with
  | none => trivial
  | some i =>
    have o : σ[i]? = some (some (.ref a)) := o
    show σ2[i]? = _
    rw [f.2 i fun z => h i z rfl]
    exact o

/-! ### comprehensions -/
theorem tk0 {X : Cx} : Takes X (fun _ _ _ _ => False) := fun _ _ x => by
  obtain ⟨_, _, _, _, _, _, _, _, _, _, _, _, _, _, _, _, z⟩ := x
  exact z.elim
abbrev F0 : WX := fun _ _ _ _ => False
theorem own_mem {N : List Str} : ∀ {l : List (Str × NameKind)} {own : List (Str × Nat)}, ownOf N l = some own → ∀ y i, (y, i) ∈ own → ixOf N y = some i ∧ ((y, NameKind.local) ∈ l ∨ (y, NameKind.cell) ∈ l)
  | [], own, h, y, i, hy => by cases h; cases hy
  | (x, kd) :: r, own, h, y, i, hy => by
    have up : ∀ own', ownOf N r = some own' → (y, i) ∈ own' → ixOf N y = some i ∧ ((y, NameKind.local) ∈ (x, kd) :: r ∨ (y, NameKind.cell) ∈ (x, kd) :: r) := fun own' h1 h2 =>
      let ⟨a1, a2⟩ := own_mem h1 y i h2
      ⟨a1, a2.imp (List.mem_cons_of_mem _) (List.mem_cons_of_mem _)⟩
    have gen : ∀ (hk : kd = .local ∨ kd = .cell), (match ixOf N x, ownOf N r with
      | some i, some l => some ((x, i) :: l)
      | none, some l => some l
      | _, none => none) = some own → ixOf N y = some i ∧ ((y, NameKind.local) ∈ (x, kd) :: r ∨ (y, NameKind.cell) ∈ (x, kd) :: r) := fun hk h => by
      split at h
      · rename_i j l e1 e2
        cases h
        rcases List.mem_cons.mp hy with z | z
        · cases z
          refine ⟨e1, ?_⟩
          rcases hk with rfl | rfl
          · exact .inl List.mem_cons_self
          · exact .inr List.mem_cons_self
        · exact up _ e2 z
      · rename_i l e1 e2
        cases h
        exact up _ e2 hy
      · cases h
    cases kd with
    | «local» => exact gen (.inl rfl) h
    | cell => exact gen (.inr rfl) h
    | _ => exact up own h hy
theorem xg_blk (x : XG W cc k ev X E) (hcold : cc.hot = false) {scope : Scope} {own : List (Str × Nat)} (hown : ownOf cc.N scope.names = some own) (hb : blkC cc.N cc.sc scope own = true) (s : Shared) (H : Hp) (C : Addr) (cl : List (Str × Addr)) (fp : List Addr) :
    XG W (cBlk cc scope own) k ev (X.blk s H scope (compEnvC scope cl C X.env) fp) F0 := by
  have bo := blkOk_by hb
  have hsc : relS scope cc.sc = relS scope X.env.scope := by rw [x.sc]
  refine ⟨x.prog, x.wd, x.K, x.mg, x.base, x.N, x.nd, ?_, fun y hy => ?_, fun _ => x.room hcold, x.units, tk0, x.gl, x.cls, fun z => by cases z⟩
  · show relS scope X.env.scope = relS scope cc.sc
    rw [x.sc]
  · obtain ⟨⟨y', i⟩, hm, e⟩ := List.mem_map.mp hy
    have e : y' = y := e
    subst e
    obtain ⟨h1, h2⟩ := own_mem hown _ _ hm
    show Loc (relS scope cc.sc) y' ∧ ((scope.names.lookup y' == some NameKind.cell) = true ∨ (relS scope cc.sc).names.lookup y' = some .local)
    rcases h2 with h2 | h2
    · have l1 := bo.uniq _ h2
      have l2 : (relS scope cc.sc).names.lookup y' = some .local := lookup_relS_keep (by intro z; cases z) l1
      exact ⟨.inl l2, .inr l2⟩
    · have l1 : scope.names.lookup y' = some .cell := bo.uniq _ h2
      have l2 : (relS scope cc.sc).names.lookup y' = some .cell := lookup_relS_keep (by intro z; cases z) l1
      exact ⟨.inr l2, .inl (by rw [l1]; rfl)⟩
/-- a list that was made on the side is taken up -/
theorem adopt {G : GW} {m : List Addr} {h : Hd} {H : Hp} {p : Addr} {ds : List D} {vs : List V} (r : Rel G m h H) (hm : p ∉ m) (hp : H p = some (.lst vs)) (d : DRs G.K m H ds vs) : Rel G (m ++ [p]) (h ++ [.lst ds]) H := by
  have pr : ∀ (n : Nat) (a : Addr), m[n]? = some a → (m ++ [p])[n]? = some a := fun n a e => by rw [List.getElem?_append_left (List.getElem?_eq_some_iff.mp e).1]; exact e
  refine ⟨by simp [r.len], ?_, fun n c' a e1 e2 => ?_, fun q hq => ⟨(r.pin q hq).1, fun z => ?_⟩⟩
  rotate_left 2
  · rcases List.mem_append.mp z with z | z
    · exact (r.pin q hq).2 z
    · have z : q.1 = p := by simpa using z
      have := (r.pin q hq).1
      rw [z, hp] at this
      cases this
  · rw [List.nodup_append]
    refine ⟨r.nd, by simp, fun x hx y hy z => ?_⟩
    have : y = p := by simpa using hy
    exact hm (by rw [← this, ← z]; exact hx)
  · by_cases hn : n < h.length
    · rw [List.getElem?_append_left hn] at e1
      rw [List.getElem?_append_left (by rw [r.len]; exact hn)] at e2
      exact (r.cell n c' a e1 e2).mono rfl pr (fun b xs e => e) (fun b o u e => e)
    · rw [List.getElem?_append_right (by omega)] at e1
      rw [List.getElem?_append_right (by rw [r.len]; omega), r.len] at e2
      cases k : n - h.length with
      | zero =>
        rw [k] at e1 e2
        cases e1
        cases e2
        exact ⟨vs, hp, d.mono pr (fun b xs e => e) (fun b o u e => e)⟩
      | succ j => rw [k] at e1; cases e1
/-- .. and grows -/
theorem grow {G : GW} {m : List Addr} {h : Hd} {H : Hp} {p : Addr} {us vs : List V} (r : Rel G m h H) (hm : p ∉ m) (hp : H p = some (.lst us)) : Rel G m h (upd H p (.lst vs)) ∧ (∀ b xs, H b = some (.tup xs) → upd H p (.lst vs) b = some (.tup xs)) ∧ (∀ b o u, H b = some (.frz o u) → upd H p (.lst vs) b = some (.frz o u)) := by
  have tp : ∀ b xs, H b = some (.tup xs) → upd H p (.lst vs) b = some (.tup xs) := fun b xs q => by
    rw [upd_ne fun z => ?_]; exact q
    rw [z, hp] at q
    cases q
  have fz : ∀ b ob w, H b = some (.frz ob w) → upd H p (.lst vs) b = some (.frz ob w) := fun b ob w q => by
    rw [upd_ne fun z => ?_]; exact q
    rw [z, hp] at q
    cases q
  refine ⟨⟨r.len, r.nd, fun n c a e1 e2 => ?_, fun q hq => ⟨?_, (r.pin q hq).2⟩⟩, tp, fz⟩
  rotate_left 1
  · have h1 := (r.pin q hq).1
    rw [upd_ne fun z => ?_]; exact h1
    rw [z, hp] at h1
    cases h1
  refine (r.cell n c a e1 e2).mono (upd_ne fun z => hm (by rw [← z]; exact List.mem_of_getElem? e2)) (fun _ _ q => q) tp fz
theorem Step.grow {m0 m : List Addr} {H0 H : Hp} {p : Addr} {us vs : List V} (st : Step m0 H0 m H) (h0 : H0 p = none) (hp : H p = some (.lst us)) : Step m0 H0 m (upd H p (.lst vs)) := by
  refine ⟨st.pre, fun b hb z => ?_, fun b o e hb => ?_, fun b xs e => ?_, fun b o u e => ?_⟩
  · by_cases hq : b = p
    · rw [hq, upd_same] at z; cases z
    · rw [upd_ne hq] at z; exact st.live b hb z
  · rw [upd_ne (ne_of_none e h0)]; exact st.keep b o e hb
  · rw [upd_ne (ne_of_none e h0)]; exact st.tups b xs e
  · rw [upd_ne (ne_of_none e h0)]; exact st.frzs b o u e
theorem Step.side {m m' : List Addr} {H H' : Hp} {p : Addr} {us : List V} (st : Step m H m' H') (hm : p ∉ m) (hp : H p = some (.lst us)) : p ∉ m' ∧ H' p = some (.lst us) := by
  refine ⟨fun z => ?_, st.keep p _ hp hm⟩
  obtain ⟨l, e, n⟩ := st.pre
  rw [e] at z
  rcases List.mem_append.mp z with z | z
  · exact hm z
  · rw [n p z] at hp; cases hp
theorem loopC_cons {fix : List (Nat × List D)} {b : D → Option Sl} {c : Sl → Hd → Out Bool} {e : Sl → Hd → Out D} {x : D} {xs acc ys : List D} {h h' : Hd} (hh : loopC fix b c e (x :: xs) acc h = .ok ys h') : fixOk h fix = true ∧ ∃ s, b x = some s ∧ ∃ t h1, c s h = .ok t h1 ∧
    ((t = true ∧ ∃ y h2, e s h1 = .ok y h2 ∧ acc.length < line ∧ loopC fix b c e xs (acc ++ [y]) h2 = .ok ys h') ∨ (t = false ∧ loopC fix b c e xs acc h1 = .ok ys h')) := by
  unfold loopC at hh
  split at hh
  · rename_i s e1 e2
    refine ⟨e1, s, e2, ?_⟩
    cases ec : c s h with
    | no => rw [ec] at hh; cases hh
    | ex _ _ => rw [ec] at hh; cases hh
    | ok t h1 =>
      rw [ec] at hh
      refine ⟨t, h1, rfl, ?_⟩
      cases t with
      | false => exact .inr ⟨rfl, hh⟩
      | true =>
        have hh : ((e s h1).bind fun y h2 => match decide (acc.length < line) with
          | true => loopC fix b c e xs (acc ++ [y]) h2
          | false => .no) = .ok ys h' := hh
        cases ee : e s h1 with
        | no => rw [ee] at hh; cases hh
        | ex _ _ => rw [ee] at hh; cases hh
        | ok y h2 =>
          rw [ee] at hh
          have hh : (match decide (acc.length < line) with
            | true => loopC fix b c e xs (acc ++ [y]) h2
            | false => .no) = .ok ys h' := hh
          split at hh
          · rename_i hd
            exact .inl ⟨rfl, y, h2, rfl, of_decide_eq_true hd, hh⟩
          · cases hh
  · cases hh
/-- the reading of the turns -/
theorem lc_turns {G : GW} {cx : CC} {m1 : List Addr} {H1 : Hp} {σ : L2.St} {s : Sl} {w : Walk} {J : It} {g : QG} {ct : QT} {el : QE} {vs : List Nat} {h1 h' : Hd} {xs : List D} {Q : V → Hp → Prop} {b : Addr} {Dl : Addr} (hxi : cx.xi = none) (hg : ∀ i ∈ gIx g, i ∈ vs) (r1 : Rel G m1 h1 H1) (sr : SR G m1 H1 s σ) (wj : WalkR G m1 H1 w J)
    (ok : loopC w.fix (fun d => bindG g d (wipeD s vs)) (evT ev ct) (evE ev el) w.items [] h1 = .ok xs h') (fin : ∀ m H v, Step m1 H1 (m ++ [Dl]) H → Rel G (m ++ [Dl]) (h' ++ [.lst xs]) H → v = .ref Dl → Q v H) (hD : H1 Dl = none) :
    ∃ W : Nat → Nat → Hp → Prop, (∃ m, W 0 m (upd H1 Dl (.lst []))) ∧ ∀ i m H, W i m H →
  (J.stop i H ∧ Q (.ref Dl) H) ∨ (J.go i H ∧ ∃ Nx : Hp → Prop, (∀ H', Nx H' → ∃ m', m' < m ∧ W (i + 1) m' H') ∧ ∀ x H', J.yld i H x H' → rg G g x (wipe σ vs) H' fun σ2 H2 => wipe σ2 vs = wipe σ vs ∧ rdg G cx.xi b F0 RB (evT ev ct) σ2 H2 fun b' H3 =>
    if b' = true then rdg G cx.xi b F0 (RD G) (evE ev el) σ2 H3 fun y H4 => ∃ acc, H4 Dl = some (.lst acc) ∧ acc.length < sizeLine ∧ Nx (upd H4 Dl (.lst (acc ++ [y]))) else Nx H3) := by
  refine ⟨fun i n H => n = w.items.length - i ∧ i ≤ w.items.length ∧ ∃ m h acc us, Step m1 H1 m H ∧ Rel G m h H ∧ Dl ∉ m ∧ H Dl = some (.lst us) ∧ DRs G.K m H acc us ∧ loopC w.fix (fun d => bindG g d (wipeD s vs)) (evT ev ct) (evE ev el) (w.items.drop i) acc h = .ok xs h',
    ⟨_, rfl, Nat.zero_le _, m1, h1, [], [], ?_⟩, ?_⟩
  · obtain ⟨st, r⟩ := new_step (o := .lst []) r1 hD
    exact ⟨st, r, r1.notin hD, upd_same, .nil, ok⟩
  · rintro i n H ⟨rfl, hi, m, h, acc, us, st, r, hm, hd, da, lp⟩
    by_cases hlt : i < w.items.length
    · have eg : w.items[i]? = some w.items[i] := List.getElem?_eq_getElem hlt
      rw [List.drop_eq_getElem_cons hlt] at lp
      obtain ⟨fx, s1, hb, t, h2, hc, rest⟩ := loopC_cons lp
      obtain ⟨go, yl⟩ := (wj m h H st r fx i).1 _ eg
      refine .inr ⟨go, fun H' => ∃ m h acc us, Step m1 H1 m H' ∧ Rel G m h H' ∧ Dl ∉ m ∧ H' Dl = some (.lst us) ∧ DRs G.K m H' acc us ∧ loopC w.fix (fun d => bindG g d (wipeD s vs)) (evT ev ct) (evE ev el) (w.items.drop (i + 1)) acc h = .ok xs h', fun H' q => ⟨_, by omega, rfl, hlt, q⟩, fun x H' y => ?_⟩
      obtain ⟨r', st', dx⟩ := yl x H' y
      obtain ⟨hm', hd'⟩ := st'.side hm hd
      have st1 := st.trans st'
      refine ⟨m, h, wipeD s vs, w.items[i], s1, r', (sr.step st1).wipe vs, dx, hb, fun σ2 sr2 fr => ⟨?_, m, h, s1, r', sr2, by rw [hxi]; trivial, ?_⟩⟩
      · have e1 := fr.wipe hg
        rw [e1]
        refine List.ext_getElem? fun j => ?_
        exact congrArg (·[j]?) (Fr.wipe (l := vs) (vs := vs) (σ := σ) (σ2 := wipe σ vs) ⟨L2.wipe_length _ _, fun j hj => wipe_out hj⟩ fun _ h => h)
      · rw [hc]
        intro m3 H3 v3 st3 r3 e3
        have e3 : t = v3 := e3
        subst e3
        obtain ⟨hm3, hd3⟩ := st3.side hm' hd'
        rcases rest with ⟨rfl, y, h4, he, hl, lp⟩ | ⟨rfl, lp⟩
        · refine iteT ⟨m3, h2, s1, r3, sr2.step st3, by rw [hxi]; trivial, ?_⟩
          rw [he]
          intro m4 H4 v4 st4 r4 d4
          obtain ⟨hm4, hd4⟩ := st4.side hm3 hd3
          have da4 := ((da.step st').step st3).step st4
          refine ⟨us, hd4, by rw [← da4.length]; exact hl, ?_⟩
          obtain ⟨r5, tp, fz⟩ := grow (vs := us ++ [v4]) r4 hm4 hd4
          refine ⟨m4, h4, acc ++ [y], us ++ [v4], ((st1.trans st3).trans st4).grow hD hd4, r5, hm4, upd_same, ?_, lp⟩
          have d5 : DRs G.K m4 H4 (acc ++ [y]) (us ++ [v4]) := da4.append (.cons d4 .nil)
          exact d5.mono (fun _ _ e => e) tp fz
        · exact iteF ⟨m3, h2, acc, us, st1.trans st3, r3, hm3, hd3, (da.step st').step st3, lp⟩
    · have ei : i = w.items.length := by omega
      rw [List.drop_eq_nil_of_le (by omega)] at lp
      unfold loopC at lp
      have lp2 : (match fixOk h w.fix with
        | true => Out.ok acc h
        | false => Out.no) = .ok xs h' := lp
      split at lp2
      · rename_i fx
        cases lp2
        have sp := (wj m _ H st r fx i).2 (List.getElem?_eq_none (by omega))
        refine .inl ⟨sp, fin m H _ ?_ (adopt r hm hd da) rfl⟩
        obtain ⟨l, e, n⟩ := st.pre
        refine ⟨⟨l ++ [Dl], by rw [e, List.append_assoc], fun c hc => ?_⟩, fun c hc => ?_, st.keep, st.tups, st.frzs⟩
        · rcases List.mem_append.mp hc with z | z
          · exact n c z
          · have : c = Dl := by simpa using z
            rw [this]; exact hD
        · rcases List.mem_append.mp hc with z | z
          · exact st.live c z
          · have : c = Dl := by simpa using z
            rw [this, hd]; intro z; cases z
      · cases lp2
where
  wipe_out {σ : L2.St} {j : Nat} : ∀ {vs : List Nat}, j ∉ vs → (wipe σ vs)[j]? = σ[j]?
  | [], _ => rfl
  | v :: vs, h => by
    unfold wipe
    rw [List.getElem?_set_ne fun z => h (by rw [z]; exact List.mem_cons_self)]
    exact wipe_out fun z => h (List.mem_cons_of_mem _ z)
/-- [elt for tg in iter if ..] -/
theorem lc_read (x : XG W cc k ev X E) {scope : Scope} {own : List (Str × Nat)} {g : QG} {ct : QT} {el : QE} {it : QI} (hg : ∀ i ∈ gIx g, i ∈ own.map (·.2)) {σ : L2.St} {H : Hp} {Q : VK} (z : RE W cc a E ev (.lc el g it (own.map (·.2)) ct) σ H Q) :
    tLc (RI W cc a E ev it) (rg W.G g) (RT W (cBlk cc scope own) a F0 ev ct) (RE W (cBlk cc scope own) a F0 ev el) (own.map (·.2)) σ H Q := by
  obtain ⟨m, h, s, r, sr, xi, z⟩ := z
  have z : Sat W.G (RD W.G) m H ((evI ev it s h).bind fun w h1 => (noEx (loopC w.fix (fun d => bindG g d (wipeD s (own.map (·.2)))) (evT ev ct) (evE ev el) w.items [] h1)).bind fun xs h2 => newL xs h2) Q _ := z
  refine ⟨m, h, s, r, sr, xi, z.bind fun w h1 m1 H1 J st r1 wj q1 => ?_⟩
  intro Dl hD
  cases e0 : loopC w.fix (fun d => bindG g d (wipeD s (own.map (·.2)))) (evT ev ct) (evE ev el) w.items [] h1 with
  | no => rw [e0] at q1; exact False.elim q1
  | ex _ _ => rw [e0] at q1; exact False.elim q1
  | ok xs h' =>
    rw [e0] at q1
    have q1 : Sat W.G (RD W.G) m1 H1 (.ok (.ref h'.length) (h' ++ [.lst xs])) Q _ := q1
    refine lc_turns (cx := cBlk cc scope own) rfl hg r1 (sr.step st) wj e0 (fun m2 H2 v st2 r2 ev' => ?_) hD
    subst ev'
    refine q1 _ H2 _ st2 r2 (.ref ?_)
    have len : m2.length = h'.length := by
      have := r2.len
      simp at this
      exact this
    rw [List.getElem?_append_right (by omega), len, Nat.sub_self]
    rfl
theorem k_lc (x : XG W cc k ev X E) (hcold : cc.hot = false) {elt tg iter : Expr} {ifs : List Expr} {scope : Scope} {own : List (Str × Nat)} {g : QG} {ct : QT} {el : QE} {it : QI} {n : Nat} (hown : ownOf cc.N scope.names = some own) (hb : blkC cc.N cc.sc scope own = true) (hg : cTgt (cBlk cc scope own) n tg = some g)
    (hi : PI X tg iter (RI W cc a E ev it)) (hel : ∀ X', XG W (cBlk cc scope own) k ev X' F0 → PE X' elt (RE W (cBlk cc scope own) a F0 ev el)) (hts : ∀ X', XG W (cBlk cc scope own) k ev X' F0 → PTs X' ifs (RT W (cBlk cc scope own) a F0 ev ct)) (hs : ∀ x, foldedSetIterable iter X.env x = pure x) :
    PE X (.ListComp elt [⟨tg, iter, ifs, 0⟩] scope pos) (RE W cc a E ev (.lc el g it (own.map (·.2)) ct)) := by
  have xb := xg_blk x hcold hown hb
  have hix : ∀ i ∈ gIx g, i ∈ own.map (·.2) := tgt_ix (fun i => i ∈ own.map (·.2)) (fun y hy i hi _ => by
    obtain ⟨⟨y', j⟩, hm, e⟩ := List.mem_map.mp hy
    have e : y' = y := e
    subst e
    have h1 := (own_mem hown _ _ hm).1
    have hi : ixOf cc.N y' = some i := hi
    rw [h1] at hi
    cases hi
    exact List.mem_map.mpr ⟨_, hm, rfl⟩) n hg
  refine PE.imp (pe_lc (x.room hcold).1 (by rw [x.N]; exact x.nd) hi (by rw [x.N, x.sc]; exact blkOk_by hb) (fun s H C cl fp => g_all (xb s H C cl fp) n hg) (fun s H C cl fp => hts _ (xb s H C cl fp)) (fun s H C cl fp => hel _ (xb s H C cl fp)) hs) fun σ H Q z => lc_read x hix z
/-- y = [..] on one line -/
theorem k_setLc (x : XG W cc k ev X E) (hcold : cc.hot = false) {elt tg iter : Expr} {ifs : List Expr} {scope : Scope} {own : List (Str × Nat)} {g : QG} {ct : QT} {el : QE} {it : QI} {n i : Nat} {y : Str} {py spos : Pos} (hy : cc.N[i]? = some y) (hyl : cc.sc.names.lookup y = some .local) (hsw : swapsWith (.ListComp elt [⟨tg, iter, ifs, 0⟩] scope pos) (some (.Name y py)) spos.line X.env = pure true)
    (hown : ownOf cc.N scope.names = some own) (hb : blkC cc.N cc.sc scope own = true) (hg : cTgt (cBlk cc scope own) n tg = some g)
    (hi : PI X tg iter (RI W cc a E ev it)) (hel : ∀ X', XG W (cBlk cc scope own) k ev X' F0 → PE X' elt (RE W (cBlk cc scope own) a F0 ev el)) (hts : ∀ X', XG W (cBlk cc scope own) k ev X' F0 → PTs X' ifs (RT W (cBlk cc scope own) a F0 ev ct)) (hs : ∀ x, foldedSetIterable iter X.env x = pure x) :
    PS X (.Assign [.Name y py] (.ListComp elt [⟨tg, iter, ifs, 0⟩] scope pos) spos) (tAsg (RE W cc a E ev (.lc el g it (own.map (·.2)) ct)) (gName i)) := by
  have xb := xg_blk x hcold hown hb
  have hix : ∀ i ∈ gIx g, i ∈ own.map (·.2) := tgt_ix (fun i => i ∈ own.map (·.2)) (fun y hy i hi _ => by
    obtain ⟨⟨y', j⟩, hm, e⟩ := List.mem_map.mp hy
    have e : y' = y := e
    subst e
    have h1 := (own_mem hown _ _ hm).1
    have hi : ixOf cc.N y' = some i := hi
    rw [h1] at hi
    cases hi
    exact List.mem_map.mpr ⟨_, hm, rfl⟩) n hg
  have base := ps_setLc (X := X) (i := i) (y := y) (py := py) (spos := spos) (pos := pos) (x.room hcold).1 (by rw [x.N]; exact x.nd) (by rw [x.N]; exact hy) (by rw [x.sc]; exact hyl) hsw hi (by rw [x.N, x.sc]; exact blkOk_by hb) (fun s H C cl fp => g_all (xb s H C cl fp) n hg) (fun s H C cl fp => hts _ (xb s H C cl fp)) (fun s H C cl fp => hel _ (xb s H C cl fp)) hs
  exact ⟨fun pins s σ H Dl I z => base.run pins s σ H Dl I (lc_read x hix z)⟩
end
end PV
/-! PVX: the caught exception: isinstance, its fields. -/
namespace PV
open PySem PySem.Spec PyProof.Rows L2
section
open PySem.W PySem.Calls
variable {prog : Program} {w : World} {A : Around} {E : Value → Shared → Prop} {s : Shared} {K : Frag} {x D : Addr} {ox : Obj} {od : Option Obj}
/-- the class of an instance, its own dict or none -/
theorem find_class (T : ExcC K D) : findObj K D od "__class__" = some (.bind (.builtin "getset_descriptor.__get__") (.builtin "object.__class__")) := by
  obtain ⟨cd, hc, _⟩ := any_some T.hd
  unfold findObj
  rw [hc, Option.bind_some, T.ha, Option.bind_some]
  simp [T.hn, T.ht]
theorem class_is {Q : Option Value → Shared → Prop} (T : ExcC K D) (X : K.In s.heap) (I : InstAt s.heap x ox D od) (h : Q (some (.ref D)) { s with toks := s.toks + 1 }) : wpAny (model prog w) A (getAttr? (.ref x) "__class__") Q E s := by
  have hf := find_class (od := od) T
  obtain ⟨hp, g, d, t, os⟩ := s
  have L0 := I.type (M := model prog w)
  have L1 := looks_findIn (M := model prog w) X T.hg
  have L2 := looks_findIn (M := model prog w) X T.hk
  have L3 := looks_find (M := model prog w) X I hf
  have sub : Looks (model prog w) hp (isInstance (.ref x) (.type "BaseException")) true := L0.andThen (looks_subIn X T.hs)
  have hx0 : (false && onTheHeap (Value.builtin "BaseException.__getattribute__")) = false := rfl
  have hx1 : (onTheHeap (Value.ref D) && Value.builtin "BaseException.__getattribute__" == Value.builtin "object.__getattribute__") = false := by
    have h2 : (Value.builtin "BaseException.__getattribute__" == Value.builtin "object.__getattribute__") = false := by decide +kernel
    rw [h2]
    rfl
  unfold getAttr? getAttrBy? getAttrBy
  refine wpAny_bind (wpAny_mkText (wpAny_bind (wpAny_attempt (wpAny_holding (wpAny_bind (L0.at (wpAny_bind (L1.at ?_))))))))
  show wpAny _ _ (if (onTheHeap (Value.ref D) && Value.builtin "BaseException.__getattribute__" == Value.builtin "object.__getattribute__") = true then _ else _) _ _ _
  rw [hx1, if_neg Bool.false_ne_true]
  unfold getAttrByItsOwn hookBefore
  refine wpAny_bind ?_
  rw [if_pos (show onTheHeap (Value.ref D) = true from rfl)]
  refine L2.at ?_
  refine wpAny_bind (wpAny_attempt (wpAny_holding ?_))
  unfold callGetattribute
  rw [hx0, if_neg Bool.false_ne_true]
  unfold boundAndCalled
  rw [PySem.F.excAttr_ValueError.ga.bind (.ref x)]
  refine wpAny_bind (wpAny_pure ?_)
  show wpAny _ _ (call (.builtin "BaseException.__getattribute__") [.ref x, .str "__class__" t]) _ _ _
  refine wpAny_call (codeAny_call_builtin PySem.F.excAttr_ValueError.ga.plain PySem.F.entry_bexc_ga ?_)
  refine @check_slot (model prog w) _ _ ⟨hp, g, d, t + 1, os⟩ "BaseException.__getattribute__" "BaseException" "__getattribute__" (.ref x) [.str "__class__" t] [] _ (by decide +kernel) (by decide +kernel) sub (PySem.F.args_bexc_ga (.ref x) (.str "__class__" t)) ?_
  unfold Builtin.«object.__getattribute__»
  refine wpAny_bind (wpAny_of_eq (a := ((Value.ref x : Value), [Value.str "__class__" t])) (by first | rfl | (simp only [slotArgs]; rfl)) ?_)
  refine wpAny_bind (wpAny_pure (wpAny_bind (L0.at (wpAny_bind (L3.at ?_)))))
  show wpAny _ _ (holding [Value.builtin "object.__class__"] (call (.builtin "getset_descriptor.__get__") [.builtin "object.__class__", .ref x, .ref D]) >>= PySem.ret) _ _ _
  refine wpAny_bind (wpAny_holding (wpAny_call (class_get (s := ⟨hp, g, d, t + 1, os⟩) (ox := ox) (od := od) X I T.hm ?_)))
  refine wpAny_pure ?_
  show wpAny _ _ (handedOut (.ref D)) _ _ _
  rw [handedOut_of (v := .ref D) rfl]
  first
    | exact wpAny_pure (wpAny_pure h)
    | exact wpAny_pure h
    | exact wpAny_pure (wpAny_bind (wpAny_pure (wpAny_pure h)))
theorem kit_exc (T : ExcC K D) : KitX K (.ref x) (.ref D) (fun h => InstAt h x ox D od) := by
  obtain ⟨cd, hc, _⟩ := any_some T.hd
  have T' := T
  unfold clsIn at hc
  split at hc
  · rename_i c' d' cd' sl' ho
    refine ⟨fun _ _ _ I => I.type, fun _ _ X _ => ?_, fun h tp dd its n sl X htp => ?_, fun X I k => class_is T' X I k⟩
    · intro A' Q' E' s' k q
      unfold isType loadHead
      exact wpAny_bind (wpAny_loadPart (k _ _ (X _ _ ho)) (wpAny_pure q))
    · refine Bool.eq_false_iff.mpr fun q => ?_
      have e : D = tp := Value.ref.inj (beq_iff_eq.mp q)
      subst e
      have z := (X _ _ ho).symm.trans htp
      cases z
  · cases hc
end
/-- what of the exception is known: without a dict, or it is tracked -/
def DxOk (H : Hp) (d : Option Addr) : Prop := d = none ∨ ∃ dd fs, d = some dd ∧ H dd = some (.xd fs)
def rIs (K : PySem.W.Frag) (D a : Addr) (d : Option Addr) : List V → Hp → VK → Prop := fun xs H Q => ∃ (c : V) (cv : Value) (b : Bool), xs = [.ref a, c] ∧ (∀ u, RelV c u → u = cv) ∧ PySem.W.kitOne K (.ref D) cv = some b ∧ DxOk H d ∧ Q (.bl b) H
theorem call_is {X : Cx} {a D : Addr} {d : Option Addr} {oe : Obj} {pn : List (Addr × Obj)} (C : ExcC X.K D) (hz : Zc (.ref D) d oe) (hf : ∃ vs, oe.data = .fields vs) : CallR (X.suite a ((a, oe) :: pn)) (.builtin "isinstance") (rIs X.K D a d) := by
  intro pins s σ H xs us Q I r h
  obtain ⟨c, cv, b, rfl, hcv, e, dx, q⟩ := h
  obtain ⟨u1, u2, rfl, r1, r2⟩ : ∃ u1 u2, us = [u1, u2] ∧ RelV (.ref a) u1 ∧ RelV c u2 := by
    cases r with
    | cons rx rr =>
      cases rr with
      | cons rt rr =>
        cases rr
        exact ⟨_, _, rfl, rx, rt⟩
  obtain rfl : u1 = Value.ref a := r1
  obtain rfl := hcv _ r2
  obtain ⟨hget, _⟩ := I.pin (a, oe) (List.mem_append.mpr (.inl List.mem_cons_self))
  obtain ⟨vs, hv⟩ := hf
  have J : ∃ od, PySem.W.InstAt s.heap a oe D od := by
    rcases dx with rfl | ⟨dd, fs, rfl, hd⟩
    · exact ⟨none, hget, hz.1, by unfold PySem.W.notCls; rw [hv] <;> rfl, by rw [hz.2]; trivial⟩
    · obtain ⟨mA, hns, hr⟩ : ObjOk X.prog X.w H s.heap dd (.xd fs) := I.hok dd _ hd
      obtain ⟨od, ho, _⟩ := lookIn_ns hns
      exact ⟨some od, hget, hz.1, by unfold PySem.W.notCls; rw [hv] <;> rfl, by rw [hz.2]; exact ho⟩
  obtain ⟨od, J⟩ := J
  exact PySem.W.kia_one (kit_exc C) I.kIn J e (fun z => nomatch z) fun tk => ⟨.bl b, H, I.kept (t' := tk) fun _ _ z => z, rfl, q⟩
section
variable {W : WD} {cc : CC} {k : Nat} {ev : Ev} {X : Cx} {E : WX} {a : Addr} {e t : Expr} {pos p1 : Pos}
/-- the suite's exception by its name -/
theorem k_xi (x : XG W cc k ev X E) (h : isXi cc e = true) : cc.hot = true ∧ notStar e = true ∧ (∀ n env w, attributeBase e n env w = w) ∧ PE X e (fun σ H Q => XiOk cc.xi W.xa σ ∧ Q (.ref W.xa) H) := by
  unfold isXi at h
  rw [Bool.and_eq_true] at h
  obtain ⟨h0, h⟩ := h
  cases e with
  | Name y py =>
    have h : (plainName y && visB cc.sc y && decide (ixOf cc.N y = cc.xi) && cc.xi.isSome) = true := h
    simp only [Bool.and_eq_true, decide_eq_true_eq] at h
    obtain ⟨⟨⟨hp, hv⟩, hi⟩, hs⟩ := h
    obtain ⟨i, e1⟩ := Option.isSome_iff_exists.mp hs
    obtain ⟨n1, n2, n3⟩ := pn1 hp
    refine ⟨h0, rfl, fun _ _ _ => rfl, PE.imp (pe_var (i := i) (by rw [x.N]; exact ixOf_get (hi.trans e1)) (by rw [x.sc]; exact vis_of hv) n1 n2) fun σ H Q ⟨xi, q⟩ => ?_⟩
    rw [e1] at xi
    exact ⟨_, xi, q⟩
  | _ => cases h
theorem k_xcls (x : XG W cc k ev X E) {c : Nat} (h : excOf cc e = some c) : notStar e = true ∧ ∃ Ca, W.G.cl c = some Ca ∧ PE X e (tC (.ref Ca)) := by
  unfold excOf at h
  split at h
  · rename_i y py
    split at h
    · rename_i hp
      rw [Bool.and_eq_true] at hp
      obtain ⟨n1, n2, n3⟩ := pn1 hp.1
      split at h
      · rename_i n fs e0
        cases h
        obtain ⟨Ca, h1, h2, _⟩ := x.gl _ _ e0
        exact ⟨rfl, Ca, h2, pe_glob (gl_of x hp.2) (by rw [x.mg]; exact h1) rfl n1⟩
      · cases h
    · cases h
  · cases h
theorem k_excIs (x : XG W cc k ev X E) {y : Str} {c : Nat} (hn : plainName y = true) (hg : glB cc.sc y = true) (hv : X.mg y = none ∧ bootBuiltins y = some (.builtin "isinstance")) (h1 : isXi cc e = true) (h2 : excOf cc t = some c) : PE X (.Call (.Name y p1) [e, t] [] pos) (RE W cc a E ev (.excIs c)) := by
  obtain ⟨n1, n2, n3⟩ := pn1 hn
  obtain ⟨hot, s1, _, pe⟩ := k_xi x h1
  obtain ⟨s2, Ca, hc, pt⟩ := k_xcls x h2
  have hgl := gl_of x hg
  obtain ⟨X0, oe, pn, d, ex, Da, rfl, hz, hf, hex, hcl, hd⟩ := x.hx hot
  have co := x.cls _ _ hcl
  have hK : X0.K = W.G.K := x.K
  refine PE.imp (pe_callB (call_is (X := X0) (by rw [hK]; exact co.ec) hz hf) hgl hv.1 hv.2 (pa_cons pe (pa_cons pt pa_nil (star1 s2)) (star1 s1)) n3 n1 (star1 s1) (by
    rw [star1 s2]
    rfl)) fun σ H Q ⟨m, h, s, r, sr, xi, z⟩ => ?_
  have z : Sat W.G (RD W.G) m H (match ev.exn with
    | some e => .ok (.bl (ev.sub e.cls c)) h
    | none => .no) Q _ := z
  rw [hex] at z
  refine ⟨xi, .ref Ca, .ref Ca, ev.sub ex.cls c, rfl, fun u hu => hu, by rw [hK]; exact co.kit _ _ hc, ?_, z.ok r (.bl _)⟩
  rcases hd with ⟨hd, _⟩ | ⟨dd, fs, hd, hp, _⟩
  · exact .inl hd
  · exact .inr ⟨dd, fs, hd, (r.pin _ hp).1⟩
theorem k_excF (x : XG W cc k ev X E) {f : Str} (h1 : isXi cc e = true) (hf : f ∈ xFlds) : PE X (.Attribute e f pos) (RE W cc a E ev (.excF f)) := by
  obtain ⟨hot, s1, ab, pe⟩ := k_xi x h1
  obtain ⟨X0, oe, pn, d, ex, Da, rfl, hz, hfs, hex, hcl, hd⟩ := x.hx hot
  have co := x.cls _ _ hcl
  have hK : X0.K = W.G.K := x.K
  refine PE.imp (pe_xf (T := ⟨by rw [hK]; exact co.ec.hg, by rw [hK]; exact co.ec.hk, by rw [hK]; exact co.ec.hs, by rw [hK]; exact co.ec.hd⟩) (by rw [hK]; exact co.nof f hf) hz hfs pe (ab _ _ _)) fun σ H Q ⟨m, h, s, r, sr, xi, z⟩ => ?_
  have z : Sat W.G (RD W.G) m H (match ev.exn with
    | some e => match e.fs.lookup f with
      | some d => .ok d h
      | none => .no
    | none => .no) Q _ := z
  rw [hex] at z
  have z : Sat W.G (RD W.G) m H (match ex.fs.lookup f with
      | some d => .ok d h
      | none => .no) Q _ := z
  split at z
  · rename_i dv e0
    refine ⟨xi, rfl, rfl, ?_⟩
    rcases hd with ⟨_, hn⟩ | ⟨dd, fs, hd, hp, hl⟩
    · rw [hn] at e0; cases e0
    · obtain ⟨fl, lk⟩ := hl f dv e0
      exact ⟨dd, fs, _, hd, (r.pin _ hp).1, lk, z.ok r (dr_toV fl)⟩
  · exact False.elim z
end
end PV
/-! PVI: every expression that has code. -/
namespace PV
open PySem PySem.Spec PyProof.Rows L2
section
variable {W : WD} {cc : CC} {k : Nat} {ev : Ev} {X : Cx} {E : WX} {a : Addr} {pos : Pos}
theorem cE_kind : ∀ {n : Nat} {e : Expr} {p : QE}, cE n cc e = some p → notStar e = true ∧ notSlice e = true ∧ notSet e = true
  | 0, _, _, h => by simp [cE] at h
  | n + 1, e, p, h => by
    cases e <;> first | exact ⟨rfl, rfl, rfl⟩ | (exfalso; cases h)
theorem list_ok {f : Expr → Option QE} (hf : ∀ e p, f e = some p → notStar e = true ∧ PE X e (RE W cc a E ev p)) : ∀ {es : List Expr} {ps : QEs}, cList f es = some ps → es.all notStar = true ∧ ps.len = es.length ∧ PA X es (REs W cc a E ev ps)
  | [], ps, h => by
    cases h
    exact ⟨rfl, rfl, as_nil⟩
  | e :: es, ps, h => by
    unfold cList at h
    split at h
    · rename_i p qs h1 h2
      cases h
      obtain ⟨n1, p1⟩ := hf e p h1
      obtain ⟨n2, l2, p2⟩ := list_ok hf h2
      exact ⟨by rw [List.all_cons, n1, n2]; rfl, by show qs.len + 1 = es.length + 1; rw [l2], as_cons n1 p1 p2⟩
    · cases h
theorem kws_ok {f : Expr → Option QE} (hf : ∀ e p, f e = some p → notStar e = true ∧ PE X e (RE W cc a E ev p)) : ∀ {ks : List Keyword} {ps : QEs}, cKws f ks = some ps → kwAll ks = true ∧ ps.len = ks.length ∧ PK X ks (REs W cc a E ev ps)
  | [], ps, h => by
    cases h
    exact ⟨rfl, rfl, ks_nil⟩
  | ⟨some nm, e, kp⟩ :: es, ps, h => by
    unfold cKws at h
    split at h
    · rename_i p qs h1 h2
      cases h
      obtain ⟨n1, p1⟩ := hf e p h1
      obtain ⟨n2, l2, p2⟩ := kws_ok hf h2
      exact ⟨n2, by show qs.len + 1 = es.length + 1; rw [l2], ks_cons p1 p2⟩
    · cases h
  | ⟨none, e, kp⟩ :: es, ps, h => by cases h
theorem opt_ok {f : Expr → Option QE} (hf : ∀ e p, f e = some p → notStar e = true ∧ PE X e (RE W cc a E ev p)) : ∀ {o : Option Expr} {p : QO}, cOpt f o = some p → PO X o (ROp W cc a E ev p)
  | none, p, h => by
    cases h
    exact o_none
  | some e, p, h => by
    have h : (f e).map QO.some = some p := h
    cases e1 : f e with
    | none => rw [e1] at h; cases h
    | some q =>
      rw [e1] at h
      cases h
      exact o_some (hf e q e1).2
theorem foldA_ok (x : XG W cc k ev X E) {f : Expr → Option QE} (hf : ∀ e p, f e = some p → notStar e = true ∧ PE X e (RE W cc a E ev p)) : ∀ {es : List Expr} {p : QE}, foldB f .andv es = some p → PE X (.BoolOp .And es pos) (RE W cc a E ev p)
  | [], p, h => by cases h
  | [e], p, h => pe_one (hf e p h).2
  | e :: e2 :: r, p, h => by
    unfold foldB at h
    split at h
    · rename_i p1 q1 h1 h2
      cases h
      exact k_andv x (hf e p1 h1).2 (foldA_ok x hf h2)
    · cases h
theorem foldO_ok (x : XG W cc k ev X E) {f : Expr → Option QE} (hf : ∀ e p, f e = some p → notStar e = true ∧ PE X e (RE W cc a E ev p)) : ∀ {es : List Expr} {p : QE}, foldB f .orv es = some p → PE X (.BoolOp .Or es pos) (RE W cc a E ev p)
  | [], p, h => by cases h
  | [e], p, h => pe_one (hf e p h).2
  | e :: e2 :: r, p, h => by
    unfold foldB at h
    split at h
    · rename_i p1 q1 h1 h2
      cases h
      exact k_orv x (hf e p1 h1).2 (foldO_ok x hf h2)
    · cases h
theorem foldTA_ok {f : Expr → Option QT} (hf : ∀ e p, f e = some p → PT X e (RT W cc a E ev p)) : ∀ {es : List Expr} {p : QT}, foldT f .and es = some p → PW X (.BoolOp .And es pos) (RT W cc a E ev p)
  | [], p, h => by cases h
  | [e], p, h => pw_and1 (hf e p h)
  | e :: e2 :: r, p, h => by
    unfold foldT at h
    split at h
    · rename_i p1 q1 h1 h2
      cases h
      exact t_and (hf e p1 h1) (foldTA_ok hf h2)
    · cases h
theorem foldTO_ok {f : Expr → Option QT} (hf : ∀ e p, f e = some p → PT X e (RT W cc a E ev p)) : ∀ {es : List Expr} {p : QT}, foldT f .or es = some p → PW X (.BoolOp .Or es pos) (RT W cc a E ev p)
  | [], p, h => by cases h
  | [e], p, h => pw_or1 (hf e p h)
  | e :: e2 :: r, p, h => by
    unfold foldT at h
    split at h
    · rename_i p1 q1 h1 h2
      cases h
      exact t_or (hf e p1 h1) (foldTO_ok hf h2)
    · cases h
theorem glb_of {y : Str} (h : (plainName y && glB cc.sc y) = true) : plainName y = true ∧ glB cc.sc y = true := by
  rw [Bool.and_eq_true] at h
  exact h
theorem bi_arg (x : XG W cc k ev X E) {y : Str} {b : BI} (hl : GvOk W k ev y (.bi b)) : (match (generalizing := false) b with
      | .gcd => X.mg y = some (.builtin "math.gcd")
      | b => X.mg y = none ∧ bootBuiltins y = some b.val) := by
  rw [x.mg]
  cases b <;> exact hl
theorem ty_arg (x : XG W cc k ev X E) {y : Str} {t : Ty} {b : BI} (hb : tyBI t = some b) (hl : GvOk W k ev y (.ty t)) : (match (generalizing := false) b with
      | .gcd => X.mg y = some (.builtin "math.gcd")
      | b => X.mg y = none ∧ bootBuiltins y = some b.val) := by
  rw [x.mg]
  cases t <;> cases hb <;> exact hl
theorem cBi_ok (x : XG W cc k ev X E) {f : Expr → Option QE} (hf : ∀ e p, f e = some p → notStar e = true ∧ PE X e (RE W cc a E ev p)) {y : Str} {b : BI} {args : List Expr} {p : QE} {p1 : Pos} (hn : plainName y = true) (hg : glB cc.sc y = true) (hv : match b with
      | .gcd => X.mg y = some (.builtin "math.gcd")
      | b => X.mg y = none ∧ bootBuiltins y = some b.val) (h : cBi cc f b args = some p) : PE X (.Call (.Name y p1) args [] pos) (RE W cc a E ev p) := by
  unfold cBi at h
  split at h
  · cases h
  · rename_i e r
    split at h
    · cases h
    · rename_i hc
      cases e1 : cList f (e :: r) with
      | none => rw [e1] at h; cases h
      | some es =>
        rw [e1] at h
        cases h
        obtain ⟨n1, l1, p1⟩ := list_ok hf e1
        exact k_bi x (by simpa using hc) hn hg hv n1 p1
theorem call_ok (x : XG W cc k ev X E) {f : Expr → Option QE} (hf : ∀ e p, f e = some p → notStar e = true ∧ PE X e (RE W cc a E ev p)) {y : Str} {args : List Expr} {kws : List Keyword} {p : QE} {p1 : Pos} (h : cCall cc f y args kws = some p) : PE X (.Call (.Name y p1) args kws pos) (RE W cc a E ev p) := by
  unfold cCall at h
  split at h
  · rename_i hpg
    obtain ⟨hp, hg⟩ := glb_of hpg
    split at h
    · rename_i i np shapes hl
      split at h
      · cases h
      · rename_i hc
        have hcold : cc.hot = false := by simpa using hc
        split at h
        · cases h
        · rename_i h0 
          split at h
          · rename_i es ks arr e1 e2 e3
            cases h
            obtain ⟨n1, l1, pa⟩ := list_ok hf e1
            obtain ⟨n2, l2, pk⟩ := kws_ok hf e2
            refine k_call x hcold hp hg hl n1 n2 (fun ea => ?_) l1 l2 e3 pa pk
            cases kws with
            | nil => rfl
            | cons w ws => exact (h0 w ws ea rfl).elim
          · cases h
    · rename_i b hl
      split at h
      · exact cBi_ok x hf hp hg (bi_arg x (x.gl _ _ hl)) h
      · cases h
    · rename_i t hl
      split at h
      · rename_i b e1
        exact cBi_ok x hf hp hg (ty_arg x e1 (x.gl _ _ hl)) h
      · cases h
    · rename_i hl
      split at h
      · rename_i a1 t1
        have hv := x.gl _ _ hl
        split at h
        · rename_i hxi
          cases e1 : excOf cc t1 with
          | none => rw [e1] at h; cases h
          | some c =>
            rw [e1] at h
            cases h
            exact k_excIs x hp hg (by rw [x.mg]; exact hv) hxi e1
        · split at h
          · rename_i q t2 e1 e2
            cases h
            exact k_isi x hp hg (by rw [x.mg]; exact hv) (hf _ _ e1).1 e2 (hf _ _ e1).2
          · cases h
      · cases h
    · cases h
  · cases h
theorem tgt_tup {n : Nat} {tg : Expr} {g : QG} (hg : cTgt cc n tg = some g) : ∀ gs, g = .tp gs → ∃ es j tp, tg = .Tuple es j tp := fun gs e => by
  subst e
  cases n with
  | zero => cases hg
  | succ n =>
    cases tg with
    | Tuple es j tp => exact ⟨es, j, tp, rfl⟩
    | Name y py =>
      have hg : (if cc.as.contains y then match ixOf cc.N y with
        | some i => if cc.xi = some i then none else some (QG.nm i)
        | none => none
        else none) = some (QG.tp gs) := hg
      split at hg
      · split at hg
        · split at hg <;> cases hg
        · cases hg
      · cases hg
    | _ => cases hg
/-- what is walked; that no set display is walked -/
theorem iter_ok (x : XG W cc k ev X E) {f : Expr → Option QE} (hf : ∀ e p, f e = some p → notStar e = true ∧ PE X e (RE W cc a E ev p)) (hset : ∀ e p, f e = some p → notSet e = true) {tg : Expr} {g : QG} (hg : ∀ gs, g = .tp gs → ∃ es j tp, tg = .Tuple es j tp) {e : Expr} {p : QI} (h : cIter cc f g e = some p) : PI X tg e (RI W cc a E ev p) ∧ notSet e = true := by
  have val : ∀ e, (f e).map QI.v = some p → PI X tg e (RI W cc a E ev p) ∧ notSet e = true := fun e h => by
    cases e1 : f e with
    | none => rw [e1] at h; cases h
    | some q =>
      rw [e1] at h
      cases h
      exact ⟨i_v x (hf e q e1).2, hset e q e1⟩
  unfold cIter at h
  split at h
  · rename_i y p1 args kws pos1
    split at h
    · rename_i hpg
      obtain ⟨hp, hgl⟩ := glb_of hpg
      split at h
      · rename_i hl
        obtain ⟨rfl, hm⟩ := x.gl _ _ hl
        split at h
        · rename_i e1
          cases e2 : f e1 with
          | none => rw [e2] at h; cases h
          | some q =>
            rw [e2] at h
            cases h
            exact ⟨i_rng1 x hgl hm (hf _ _ e2).1 (hf _ _ e2).2, rfl⟩
        · rename_i e1 e2
          split at h
          · rename_i q1 q2 h1 h2
            cases h
            exact ⟨i_rng2 x hgl hm (hf _ _ h1).1 (hf _ _ h2).1 (hf _ _ h1).2 (hf _ _ h2).2, rfl⟩
          · cases h
        · cases h
      · rename_i hl
        obtain ⟨rfl, hm⟩ := x.gl _ _ hl
        split at h
        · rename_i e1 e2 gs
          split at h
          · rename_i q1 q2 h1 h2
            cases h
            have ht := hg gs rfl
            obtain ⟨es, j, tp, rfl⟩ := ht
            exact ⟨i_zip x hgl hm (hf _ _ h1).1 (hf _ _ h2).1 (hf _ _ h1).2 (hf _ _ h2).2, rfl⟩
          · cases h
        · cases h
      · exact val _ h
    · cases h
  · cases h
  · exact val _ h
theorem setIt {e : Expr} {env : Env} (h : notSet e = true) (x : Value) : foldedSetIterable e env x = pure x := by
  cases e <;> first | rfl | cases h
def OkE (n : Nat) : Prop := ∀ (cc : CC) (e : Expr) (p : QE), cE n cc e = some p → ∀ (W : WD) (k : Nat) (ev : Ev) (X : Cx) (E : WX) (a : Addr), XG W cc k ev X E → PE X e (RE W cc a E ev p)
def OkT (n : Nat) : Prop := ∀ (cc : CC) (e : Expr) (p : QT), cT n cc e = some p → ∀ (W : WD) (k : Nat) (ev : Ev) (X : Cx) (E : WX) (a : Addr), XG W cc k ev X E → PT X e (RT W cc a E ev p)
theorem lc_parts (n : Nat) (hE : OkE n) (hT : OkT n) (x : XG W cc k ev X E) {elt tg iter : Expr} {ifs : List Expr} {scope : Scope} {own : List (Str × Nat)} {g : QG} {it : QI} {el : QE} {ct : QT} (hg : cTgt (cBlk cc scope own) 4 tg = some g) (hi : cIter cc (cE n cc) g iter = some it) (he : cE n (cBlk cc scope own) elt = some el)
    (hc : (ifs = [] ∧ ct = .yes) ∨ ∃ c, ifs = [c] ∧ cT n (cBlk cc scope own) c = some ct) (hxg : ∀ (s : Shared) (H : Hp) (C : Addr) (cl : List (Str × Addr)) (fp : List Addr), XG W (cBlk cc scope own) k ev (X.blk s H scope (compEnvC scope cl C X.env) fp) F0) :
    (∀ X', XG W (cBlk cc scope own) k ev X' F0 → PE X' elt (RE W (cBlk cc scope own) a F0 ev el)) ∧ (∀ X', XG W (cBlk cc scope own) k ev X' F0 → PTs X' ifs (RT W (cBlk cc scope own) a F0 ev ct)) := by
  refine ⟨fun X' x' => hE _ _ _ he W k ev X' F0 a x', fun X' x' => ?_⟩
  rcases hc with ⟨rfl, rfl⟩ | ⟨c, rfl, h⟩
  · exact ⟨fun pins s σ H Q I ⟨m, h, s', r, sr, xi, z⟩ => pts_nil.run pins s σ H Q I (show Q true H from by
      have z : Sat W.G RB m H (.ok true h) Q _ := z
      exact z.ok r rfl)⟩
  · exact pts_one (hT _ _ _ h W k ev X' F0 a x')
theorem all_ok : ∀ n : Nat, OkE n ∧ OkT n
  | 0 => ⟨fun cc e p h => by simp [cE] at h, fun cc e p h => by simp [cT] at h⟩
  | n + 1 => by
    obtain ⟨hE, hT⟩ := all_ok n
    have main : OkE (n + 1) := fun cc e p h W k ev X E a x => by
      have hf : ∀ e p, cE n cc e = some p → notStar e = true ∧ PE X e (RE W cc a E ev p) := fun e p h => ⟨(cE_kind h).1, hE cc e p h W k ev X E a x⟩
      have hset : ∀ e p, cE n cc e = some p → notSet e = true := fun e p h => (cE_kind h).2.2
      cases e with
      | Constant c j pos =>
        have h : (cConst c).map QE.con = some p := h
        cases e1 : cConst c with
        | none => rw [e1] at h; cases h
        | some d => rw [e1] at h; cases h; exact k_const e1
      | Name y pos => exact k_name x h
      | BinOp a1 op b1 pos =>
        change (match (generalizing := false) cE n cc a1, cE n cc b1 with
          | some p, some q => some (QE.bin op p q)
          | _, _ => none) = some p at h
        split at h
        · rename_i q1 q2 h1 h2
          cases h
          exact k_bin x (hf _ _ h1).2 (hf _ _ h2).2
        · cases h
      | UnaryOp op a1 pos =>
        cases op with
        | USub =>
          have h : (cE n cc a1).map QE.neg = some p := h
          cases e1 : cE n cc a1 with
          | none => rw [e1] at h; cases h
          | some q => rw [e1] at h; cases h; exact k_neg x (hf _ _ e1).2
        | Not =>
          have h : (cE n cc a1).map QE.nott = some p := h
          cases e1 : cE n cc a1 with
          | none => rw [e1] at h; cases h
          | some q => rw [e1] at h; cases h; exact k_nott x (hf _ _ e1).2
        | _ => cases h
      | BoolOp op vs pos =>
        cases op with
        | And => exact foldA_ok x hf h
        | Or => exact foldO_ok x hf h
      | Compare a1 ops bs pos =>
        change (match (generalizing := false) ops, bs with
          | [op], [b] => match cE n cc a1, cE n cc b with
            | some p, some q => some (QE.cmp op p q)
            | _, _ => none
          | [op, op'], [b, c] => match cE n cc a1, cE n cc b, cE n cc c with
            | some p, some q, some r => some (QE.chain op op' p q r)
            | _, _, _ => none
          | _, _ => none) = some p at h
        split at h
        · split at h
          · rename_i h1 h2
            cases h
            exact k_cmp x (cE_kind h2).2.2 (hf _ _ h1).2 (hf _ _ h2).2
          · cases h
        · split at h
          · rename_i h1 h2 h3
            cases h
            exact k_chain x (cE_kind h3).2.2 (hf _ _ h1).2 (hf _ _ h2).2 (hf _ _ h3).2
          · cases h
        · cases h
      | IfExp t1 a1 b1 pos =>
        change (match (generalizing := false) cT n cc t1, cE n cc a1, cE n cc b1 with
          | some t, some p, some q => some (QE.ife t p q)
          | _, _, _ => none) = some p at h
        split at h
        · rename_i h1 h2 h3
          cases h
          exact k_ife x (hT cc _ _ h1 W k ev X E a x) (hf _ _ h2).2 (hf _ _ h3).2
        · cases h
      | Tuple es j pos =>
        have h : (cList (cE n cc) es).map QE.tup = some p := h
        cases e1 : cList (cE n cc) es with
        | none => rw [e1] at h; cases h
        | some q => rw [e1] at h; cases h; exact k_tup (list_ok hf e1).2.2
      | List es pos =>
        have h : (cList (cE n cc) es).map QE.lst = some p := h
        cases e1 : cList (cE n cc) es with
        | none => rw [e1] at h; cases h
        | some q => rw [e1] at h; cases h; exact k_lst (list_ok hf e1).2.2
      | Subscript a1 i1 pos =>
        have idx : (match cE n cc a1, cE n cc i1 with
          | some p, some q => some (QE.idx p q)
          | _, _ => none) = some p → PE X (.Subscript a1 i1 pos) (RE W cc a E ev p) := fun h => by
          split at h
          · rename_i h1 h2
            cases h
            exact k_idx x (cE_kind h2).2.1 (hf _ _ h1).2 (hf _ _ h2).2
          · cases h
        cases i1 with
        | Slice lo hi st pos2 =>
          change (match (generalizing := false) st, cE n cc a1, cOpt (cE n cc) lo, cOpt (cE n cc) hi with
            | none, some p, some l, some u => some (QE.slc p l u)
            | _, _, _, _ => none) = some p at h
          split at h
          · rename_i h1 h2 h3
            cases h
            exact k_slc x (hf _ _ h1).2 (opt_ok hf h2) (opt_ok hf h3)
          · cases h
        | _ => exact idx h
      | Call f args kws cp =>
        cases f with
        | Name y p1 => exact call_ok x hf h
        | Attribute o md ap =>
          change (match (generalizing := false) args, kws, mthOf md with
            | [a], [], some k => match (ap.endLine == cp.line) && notCall o, cE n cc o, cE n cc a with
              | true, some p, some q => some (QE.mth k p (.cons q .nil))
              | _, _, _ => none
            | _, _, _ => none) = some p at h
          split at h
          · rename_i h0
            split at h
            · rename_i h1 h2 h3
              cases h
              rw [Bool.and_eq_true] at h1
              exact k_mth x h0 h1.1 h1.2 (hf _ _ h3).1 (hf _ _ h2).2 (hf _ _ h3).2
            · cases h
          · cases h
        | _ => cases h
      | Attribute o f pos =>
        change (if isXi cc o && xFlds.contains f then some (QE.excF f) else none) = some p at h
        split at h
        · rename_i h0
          cases h
          rw [Bool.and_eq_true] at h0
          exact k_excF x h0.1 (by simpa using h0.2)
        · cases h
      | ListComp elt gs scope pos =>
        change (match (generalizing := false) gs with
          | [⟨tg, it, ifs, as⟩] => match decide (as = 0) && !cc.hot, ownOf cc.N scope.names with
            | true, some own => match blkC cc.N cc.sc scope own with
              | true => match cTgt (cBlk cc scope own) 4 tg with
                | some g => match cIter cc (cE n cc) g it, cE n (cBlk cc scope own) elt with
                  | some i, some el => match ifs with
                    | [] => some (QE.lc el g i (own.map (·.2)) .yes)
                    | [c] => match cT n (cBlk cc scope own) c with
                      | some t => some (QE.lc el g i (own.map (·.2)) t)
                      | none => none
                    | _ => none
                  | _, _ => none
                | none => none
              | false => none
            | _, _ => none
          | _ => none) = some p at h
        split at h
        · rename_i tg it ifs as
          split at h
          · rename_i own h0 hown
            rw [Bool.and_eq_true] at h0
            have has : as = 0 := of_decide_eq_true h0.1
            have hcold : cc.hot = false := by simpa using h0.2
            subst has
            split at h
            · rename_i hb
              split at h
              · rename_i g hg
                split at h
                · rename_i i el hi he
                  obtain ⟨pi, ns⟩ := iter_ok x hf hset (tgt_tup hg) hi
                  have fin : ∀ ct, ((ifs = [] ∧ ct = .yes) ∨ ∃ c, ifs = [c] ∧ cT n (cBlk cc scope own) c = some ct) → p = .lc el g i (own.map (·.2)) ct → PE X (.ListComp elt [⟨tg, it, ifs, 0⟩] scope pos) (RE W cc a E ev p) := fun ct hc ep => by
                    obtain ⟨pe, pt⟩ := lc_parts (a := a) n hE hT x hg hi he hc (xg_blk x hcold hown hb)
                    rw [ep]
                    exact k_lc x hcold hown hb hg pi pe pt (setIt ns)
                  split at h
                  · cases h
                    exact fin _ (.inl ⟨rfl, rfl⟩) rfl
                  · rename_i c
                    split at h
                    · rename_i t ht
                      cases h
                      exact fin _ (.inr ⟨c, rfl, ht⟩) rfl
                    · cases h
                  · cases h
                · cases h
              · cases h
            · cases h
          · cases h
        · cases h
      | _ => cases h
    refine ⟨main, fun cc e p h W k ev X E a x => ?_⟩
    have hf : ∀ e p, cE n cc e = some p → notStar e = true ∧ PE X e (RE W cc a E ev p) := fun e p h => ⟨(cE_kind h).1, hE cc e p h W k ev X E a x⟩
    have ht : ∀ e p, cT n cc e = some p → PT X e (RT W cc a E ev p) := fun e p h => hT cc e p h W k ev X E a x
    have val : ∀ e, (∀ whole, isTrue e X.env whole = (do let v ← whole; standAt e.pos; holding [v] (truthy v))) → (cE n cc e).map QT.v = some p → PT X e (RT W cc a E ev p) := fun e he h => by
      cases e1 : cE n cc e with
      | none => rw [e1] at h; cases h
      | some q =>
        rw [e1] at h
        cases h
        exact t_v x he (hf _ _ e1).2
    cases e with
    | UnaryOp op a1 pos =>
      cases op with
      | Not =>
        have h : (cT n cc a1).map QT.not = some p := h
        cases e1 : cT n cc a1 with
        | none => rw [e1] at h; cases h
        | some q => rw [e1] at h; cases h; exact t_not (ht _ _ e1)
      | _ => exact val _ (fun _ => rfl) h
    | BoolOp op vs pos =>
      cases op with
      | And => exact (foldTA_ok ht h).pt
      | Or => exact (foldTO_ok ht h).pt
    | Compare a1 ops bs pos =>
      have h : (cE n cc (.Compare a1 ops bs pos)).map QT.v = some p := h
      cases e1 : cE n cc (.Compare a1 ops bs pos) with
      | none => rw [e1] at h; cases h
      | some q0 =>
        rw [e1] at h
        cases h
        cases n with
        | zero => cases e1
        | succ n' =>
          have lift : ∀ e p, cE n' cc e = some p → PE X e (RE W cc a E ev p) := fun e p h => (all_ok n').1 cc e p h W k ev X E a x
          have h : (match (generalizing := false) ops, bs with
            | [op], [b] => match cE n' cc a1, cE n' cc b with
              | some p, some q => some (QE.cmp op p q)
              | _, _ => none
            | [op, op'], [b, c] => match cE n' cc a1, cE n' cc b, cE n' cc c with
              | some p, some q, some r => some (QE.chain op op' p q r)
              | _, _, _ => none
            | _, _ => none) = some q0 := e1
          split at h
          · split at h
            · rename_i h1 h2
              cases h
              exact t_cmp x (cE_kind h2).2.2 (lift _ _ h1) (lift _ _ h2)
            · cases h
          · split at h
            · rename_i h1 h2 h3
              cases h
              exact t_chain x (cE_kind h3).2.2 (lift _ _ h1) (lift _ _ h2) (lift _ _ h3)
            · cases h
          · cases h
    | IfExp t1 a1 b1 pos => cases h
    | _ => exact val _ (fun _ => rfl) h
end
end PV
/-! PVJ: statements: what their code says. -/
namespace PV
open PySem PySem.Spec PyProof.Rows L2
/-- a statement's end, asked -/
def SatS (G : GW) (xi : Option Nat) (a : Addr) (m : List Addr) (H : Hp) (o : SOut) (D : Ends) (E : WX) : Prop := match o with
  | .nx s h => ∀ m' H' σ', Step m H m' H' → Rel G m' h H' → SR G m' H' s σ' → XiOk xi a σ' → D.nx σ' H'
  | .bk s h => ∀ m' H' σ', Step m H m' H' → Rel G m' h H' → SR G m' H' s σ' → XiOk xi a σ' → D.bk σ' H'
  | .ct s h => ∀ m' H' σ', Step m H m' H' → Rel G m' h H' → SR G m' H' s σ' → XiOk xi a σ' → D.ct σ' H'
  | .rt d h => ∀ m' H' v, Step m H m' H' → Rel G m' h H' → DR G.K m' H' d v → D.rt v H'
  | .ex e s h => ∀ m' H' σ' cls dx, Step m H m' H' → Rel G m' h H' → SR G m' H' s σ' → XiOk xi a σ' → ExR G m' H' e cls dx → E cls dx σ' H'
  | .no => False
section
variable {G : GW} {xi : Option Nat} {a : Addr} {m m1 : List Addr} {H H1 : Hp} {D : Ends} {E : WX}
theorem SatS.trans {o : SOut} (z : SatS G xi a m H o D E) (t : Step m H m1 H1) : SatS G xi a m1 H1 o D E := by
  cases o with
  | nx s h => exact fun m' H' σ' st => z m' H' σ' (t.trans st)
  | bk s h => exact fun m' H' σ' st => z m' H' σ' (t.trans st)
  | ct s h => exact fun m' H' σ' st => z m' H' σ' (t.trans st)
  | rt d h => exact fun m' H' v st => z m' H' v (t.trans st)
  | ex e s h => exact fun m' H' σ' c d st => z m' H' σ' c d (t.trans st)
  | no => exact z
/-- an expression within a statement -/
theorem SatS.st {α β : Type} {R : List Addr → Hp → α → β → Prop} {o : Out α} {s : Sl} {σ : L2.St} {f : α → Hd → SOut} {Q : β → Hp → Prop} (z : SatS G xi a m H (o.st s f) D E) (sr : SR G m H s σ) (x : XiOk xi a σ)
    (k : ∀ d h1 m1 H1 v, Step m H m1 H1 → Rel G m1 h1 H1 → R m1 H1 d v → SatS G xi a m1 H1 (f d h1) D E → Q v H1) : Sat G R m H o Q (fun c d H' => E c d σ H') := by
  cases o with
  | ok d h => exact fun m1 H1 v t r q => k d h m1 H1 v t r q (SatS.trans (o := f d h) z t)
  | ex e h => exact fun m1 H1 c dx t r q => z m1 H1 σ c dx t r (sr.step t) x q
  | no => exact z
theorem SatS.nx {s : Sl} {h : Hd} {σ : L2.St} (z : SatS G xi a m H (.nx s h) D E) (r : Rel G m h H) (sr : SR G m H s σ) (x : XiOk xi a σ) : D.nx σ H := z m H σ r.step r sr x
end
/-- the reading of a piece of code -/
def rdS (W : WD) (cc : CC) (E : WX) (F : Sl → Hd → SOut) : TS := fun D σ H => ∃ m h s, Rel W.G m h H ∧ SR W.G m H s σ ∧ XiOk cc.xi W.xa σ ∧ SatS W.G cc.xi W.xa m H (F s h) D E
/-- where a statement stands -/
structure XS (W : WD) (cc : CC) (k : Nat) (ev : Ev) (X : Cx) (E : WX) : Prop extends XG W cc k ev X E where
  po : cc.hot = false → PassesOwn (model X.prog X.w) X.A X.env X.xe
  stk : cc.hot = false → X.stack = X.env :: X.outer ∧ X.env.frame = some X.env.locals
  fun_ : cc.sc.kind = .function
theorem PS.imp {X : Cx} {e : Stmt} {t t' : TS} (p : PS X e t) (h : ∀ D σ H, t' D σ H → t D σ H) : PS X e t' := ⟨fun pins s σ H D I q => p.run pins s σ H D I (h D σ H q)⟩
theorem PSs.imp {X : Cx} {e : List Stmt} {t t' : TS} (p : PSs X e t) (h : ∀ D σ H, t' D σ H → t D σ H) : PSs X e t' := ⟨fun pins s σ H D I q => p.run pins s σ H D I (h D σ H q)⟩
section
variable {W : WD} {cc : CC} {k : Nat} {ev : Ev} {X : Cx} {E : WX} {a : Addr}
variable {e e1 e2 e3 : Expr} {p q r : QE} {pos : Pos} {st : Stmt} {sts : List Stmt}
abbrev RSt (W : WD) (cc : CC) (E : WX) (ev : Ev) (c : QS) : TS := rdS W cc E (exS ev c)
abbrev RSs (W : WD) (cc : CC) (E : WX) (ev : Ev) (c : QSs) : TS := rdS W cc E (exSs ev c)
theorem ss_nil : PSs X [] (RSs W cc E ev .nil) := PSs.imp pss_nil fun D σ H ⟨m, h, s, r, sr, xi, z⟩ => by
  have z : SatS W.G cc.xi W.xa m H (.nx s h) D E := z
  exact z.nx r sr xi
theorem ss_cons {c : QS} {cs : QSs} (h1 : PS X st (RSt W cc E ev c)) (h2 : PSs X sts (RSs W cc E ev cs)) : PSs X (st :: sts) (RSs W cc E ev (.cons c cs)) :=
  PSs.imp (pss_cons h1 h2) fun D σ H ⟨m, h, s, r, sr, xi, z⟩ => by
    have z : SatS W.G cc.xi W.xa m H (match exS ev c s h with
      | .nx s1 h1 => exSs ev cs s1 h1
      | o => o) D E := z
    refine ⟨m, h, s, r, sr, xi, ?_⟩
    cases e0 : exS ev c s h with
    | nx s1 h1 =>
      rw [e0] at z
      exact fun m1 H1 σ1 st r1 sr1 x1 => ⟨m1, h1, s1, r1, sr1, x1, SatS.trans (o := exSs ev cs s1 h1) z st⟩
    | bk s1 h1 => rw [e0] at z; exact z
    | ct s1 h1 => rw [e0] at z; exact z
    | rt d h1 => rw [e0] at z; exact z
    | ex ex s1 h1 => rw [e0] at z; exact z
    | no => rw [e0] at z; exact z
theorem s_pass : PS X (.Pass pos) (RSt W cc E ev .pass) := PS.imp ps_pass fun D σ H ⟨m, h, s, r, sr, xi, z⟩ => by
  have z : SatS W.G cc.xi W.xa m H (.nx s h) D E := z
  exact z.nx r sr xi
theorem s_doc {x : Str} {j : Nat} {pos' : Pos} : PS X (.Expr (.Constant (.str x) j pos) pos') (RSt W cc E ev .pass) := PS.imp ps_doc fun D σ H ⟨m, h, s, r, sr, xi, z⟩ => by
  have z : SatS W.G cc.xi W.xa m H (.nx s h) D E := z
  exact z.nx r sr xi
theorem s_brk : PS X (.Break pos) (RSt W cc E ev .brk) := PS.imp ps_break fun D σ H ⟨m, h, s, r, sr, xi, z⟩ => z m H σ r.step r sr xi
theorem s_cnt : PS X (.Continue pos) (RSt W cc E ev .cnt) := PS.imp ps_continue fun D σ H ⟨m, h, s, r, sr, xi, z⟩ => z m H σ r.step r sr xi
theorem s_expr (ha : PE X e (RE W cc a E ev p)) (hs : swapsWith e none pos.line X.env = pure false) : PS X (.Expr e pos) (RSt W cc E ev (.expr p)) :=
  PS.imp (ps_expr ha hs) fun D σ H ⟨m, h, s, r, sr, xi, z⟩ => by
    have z : SatS W.G cc.xi W.xa m H ((evE ev p s h).st s fun _ h1 => .nx s h1) D E := z
    exact ⟨m, h, s, r, sr, xi, z.st sr xi fun d h1 m1 H1 v st r1 dv z1 => z1.nx r1 (sr.step st) xi⟩
theorem s_ret (ha : PE X e (RE W cc a E ev p)) : PS X (.Return (some e) pos) (RSt W cc E ev (.ret p)) :=
  PS.imp (ps_ret ha) fun D σ H ⟨m, h, s, r, sr, xi, z⟩ => by
    have z : SatS W.G cc.xi W.xa m H ((evE ev p s h).st s fun d h1 => .rt d h1) D E := z
    exact ⟨m, h, s, r, sr, xi, z.st sr xi fun d h1 m1 H1 v st r1 dv z1 => z1 m1 H1 v r1.step r1 dv⟩
theorem s_retN : PS X (.Return none pos) (RSt W cc E ev .retN) := PS.imp ps_retN fun D σ H ⟨m, h, s, r, sr, xi, z⟩ => z m H .non r.step r .non
theorem s_if {c : QT} {b1 b2 : List Stmt} {c1 c2 : QSs} (hc : PT X e (RT W cc a E ev c)) (h1 : PSs X b1 (RSs W cc E ev c1)) (h2 : PSs X b2 (RSs W cc E ev c2)) : PS X (.If e b1 b2 pos) (RSt W cc E ev (.ife c c1 c2)) :=
  PS.imp (ps_if hc h1 h2) fun D σ H ⟨m, h, s, r, sr, xi, z⟩ => by
    have z : SatS W.G cc.xi W.xa m H ((evT ev c s h).st s fun k h1 => match k with
      | true => exSs ev c1 s h1
      | false => exSs ev c2 s h1) D E := z
    refine ⟨m, h, s, r, sr, xi, z.st sr xi fun d h1 m1 H1 v st r1 dv z1 => ?_⟩
    have dv : d = v := dv
    subst dv
    cases d with
    | true => exact iteT ⟨m1, h1, s, r1, sr.step st, xi, z1⟩
    | false => exact iteF ⟨m1, h1, s, r1, sr.step st, xi, z1⟩
/-- target = value, when the value is in hand -/
theorem asg_go {g : QG} {m : List Addr} {h : Hd} {H : Hp} {s : Sl} {σ : L2.St} {d : D} {v : V} {D : Ends} (hx : ∀ i ∈ gIx g, cc.xi ≠ some i) (r : Rel W.G m h H) (sr : SR W.G m H s σ) (xi : XiOk cc.xi W.xa σ) (dv : DR W.G.K m H d v) (z : SatS W.G cc.xi W.xa m H (asgO (bindG g d s) h) D E) : rg W.G g v σ H D.nx := by
  cases e0 : bindG g d s with
  | none => rw [e0] at z; exact False.elim z
  | some s2 =>
    rw [e0] at z
    have z : SatS W.G cc.xi W.xa m H (.nx s2 h) D E := z
    exact ⟨m, h, s, d, s2, r, sr, dv, e0, fun σ2 sr2 fr => z.nx r sr2 (xi_fr fr hx xi)⟩
theorem s_asg {tg : Expr} {g : QG} (hx : ∀ i ∈ gIx g, cc.xi ≠ some i) (ha : PE X e (RE W cc a E ev p)) (hg : PG X tg (rg W.G g)) (hs : swapsWithSole [tg] e pos.line X.env = pure false) (hw : swappedStores [tg] e X.env = pure none) (h1 : (assignEach [tg] X.env).map (·.2) = [assign tg X.env]) : PS X (.Assign [tg] e pos) (RSt W cc E ev (.asg g p)) :=
  PS.imp (ps_asg ha hg hs hw h1) fun D σ H ⟨m, h, s, r, sr, xi, z⟩ => by
    have z : SatS W.G cc.xi W.xa m H ((evE ev p s h).st s fun d h1 => asgO (bindG g d s) h1) D E := z
    exact ⟨m, h, s, r, sr, xi, z.st sr xi fun d h1 m1 H1 v st r1 dv z1 => asg_go hx r1 (sr.step st) xi dv z1⟩
/-- .. a comprehension on one line with its name -/
theorem s_asgN {tg : Expr} {i : Nat} (hx : cc.xi ≠ some i) (hp : PS X (.Assign [tg] e pos) (tAsg (RE W cc a E ev p) (gName i))) : PS X (.Assign [tg] e pos) (RSt W cc E ev (.asg (.nm i) p)) :=
  PS.imp hp fun D σ H ⟨m, h, s, r, sr, xi, z⟩ => by
    have z : SatS W.G cc.xi W.xa m H ((evE ev p s h).st s fun d h1 => asgO (bindG (.nm i) d s) h1) D E := z
    refine ⟨m, h, s, r, sr, xi, z.st sr xi fun d h1 m1 H1 v st r1 dv z1 => ?_⟩
    have z1 : SatS W.G cc.xi W.xa m1 H1 (.nx (s.set i (some d)) h1) D E := by simpa [bindG, asgO] using z1
    refine z1.nx r1 ((sr.step st).set dv i) (xi_fr (l := [i]) ⟨by rw [List.length_set], fun j hj => ?_⟩ (fun j hj => ?_) xi)
    · rw [List.getElem?_set_ne fun z => hj (by simp [z])]
    · have : j = i := by simpa using hj
      rw [this]; exact hx
theorem s_par {i j : Nat} {x y : Str} {px py pt : Pos} {kt k2 : Nat} {pt2 : Pos} (xs : XG W cc k ev X E) (hcold : cc.hot = false) (hxi : cc.xi = none) (hi : ixOf cc.N x = some i) (hj : ixOf cc.N y = some j) (hxy : x ≠ y) (lx : cc.sc.names.lookup x = some .local) (ly : cc.sc.names.lookup y = some .local) (s1 : notStar e1 = true) (s2 : notStar e2 = true)
    (ha : PE X e1 (RE W cc a E ev p)) (hb : PE X e2 (RE W cc a E ev q)) (hw : swappedStores [.Tuple [.Name x px, .Name y py] kt pt] (.Tuple [e1, e2] k2 pt2) X.env = pure (some [x, y])) : PS X (.Assign [.Tuple [.Name x px, .Name y py] kt pt] (.Tuple [e1, e2] k2 pt2) pos) (RSt W cc E ev (.par i j p q)) := by
  have gi := ixOf_get hi
  have gj := ixOf_get hj
  have hij : i ≠ j := fun z => by
    rw [z, gj] at gi
    exact hxy (Option.some.inj gi).symm
  refine PS.imp (ps_par (xs.room hcold).1 (by rw [xs.N]; exact xs.nd) (by rw [xs.N]; exact gi) (by rw [xs.N]; exact gj) hij (by rw [xs.sc]; exact lx) (by rw [xs.sc]; exact ly) (as_cons s1 ha (as_cons s2 hb as_nil)) hw) fun D σ H ⟨m, h, s, r, sr, xi, z⟩ => ?_
  have z : SatS W.G cc.xi W.xa m H ((evE ev p s h).st s fun x h1 => (evE ev q s h1).st s fun y h2 => .nx ((s.set i (some x)).set j (some y)) h2) D E := z
  refine ⟨m, h, s, r, sr, xi, ?_⟩
  show Sat W.G (RDs W.G) m H ((evE ev p s h).bind fun x h1 => ((evE ev q s h1).bind fun y h2 => (Out.ok [] h2).bind fun xs h3 => .ok (y :: xs) h3).bind fun xs h2 => .ok (x :: xs) h2) _ _
  cases e0 : evE ev p s h with
  | no => rw [e0] at z; exact False.elim z
  | ex ex h1 => rw [e0] at z; exact fun m1 H1 c dx t r1 q1 => z m1 H1 σ c dx t r1 (sr.step t) xi q1
  | ok d h1 =>
    rw [e0] at z
    have z : SatS W.G cc.xi W.xa m H ((evE ev q s h1).st s fun y h2 => .nx ((s.set i (some d)).set j (some y)) h2) D E := z
    show Sat W.G (RDs W.G) m H (((evE ev q s h1).bind fun y h2 => (Out.ok [] h2).bind fun xs h3 => .ok (y :: xs) h3).bind fun xs h2 => .ok (d :: xs) h2) _ _
    cases e1 : evE ev q s h1 with
    | no => rw [e1] at z; exact False.elim z
    | ex ex h2 => rw [e1] at z; exact fun m1 H1 c dx t r1 q1 => z m1 H1 σ c dx t r1 (sr.step t) xi q1
    | ok d2 h2 =>
      rw [e1] at z
      have z : SatS W.G cc.xi W.xa m H (.nx ((s.set i (some d)).set j (some d2)) h2) D E := z
      intro m1 H1 v st r1 dv
      obtain ⟨v1, v2, rfl, d1, d3⟩ := two_of dv
      exact ⟨v1, v2, rfl, z m1 H1 _ st r1 (((sr.step st).set d1 i).set d3 j) (by rw [hxi]; trivial)⟩
/-- o[i] = d on a list -/
theorem s_sub (x : XG W cc k ev X E) {o i : Expr} {po pi pe : QE} {tp : Pos} (hi : notSlice i = true) (he : PE X e (RE W cc a E ev pe)) (ho : PE X o (RE W cc a E ev po)) (hix : PE X i (RE W cc a E ev pi)) (hs : swapsWithSole [.Subscript o i tp] e pos.line X.env = pure false) : PS X (.Assign [.Subscript o i tp] e pos) (RSt W cc E ev (.sub po pi pe)) := by
  refine PS.imp (ps_asg he (pg_sub ho hix set_list (by intro v; cases i <;> first | rfl | cases hi)) hs (by rfl) (by rfl)) fun D σ H ⟨m, h, s, r, sr, xi, z⟩ => ?_
  have z : SatS W.G cc.xi W.xa m H ((evE ev pe s h).st s fun d h1 => (evE ev po s h1).st s fun x h2 => (evE ev pi s h2).st s fun y h3 => subV x y d s h3) D E := z
  refine ⟨m, h, s, r, sr, xi, z.st (R := RD W.G) sr xi fun d h1 m1 H1 v st r1 dv z1 => ⟨m1, h1, s, r1, sr.step st, xi, z1.st (R := RD W.G) (sr.step st) xi fun d2 h2 m2 H2 v2 st2 r2 dv2 z2 => ⟨m2, h2, s, r2, (sr.step st).step st2, xi, z2.st (R := RD W.G) ((sr.step st).step st2) xi fun d3 h3 m3 H3 v3 st3 r3 dv3 z3 => ?_⟩⟩⟩
  have dv := (dv.step st2).step st3
  have dv2 := dv2.step st3
  have sr3 := ((sr.step st).step st2).step st3
  cases d2 with
  | ref n =>
    cases d3 with
    | int kk =>
      have z3 : SatS W.G cc.xi W.xa m3 H3 (match lstAt h3 n with
        | some xs => match L2.ixN xs.length kk with
          | some j => .nx s (h3.set n (.lst (xs.set j d)))
          | none => .no
        | none => .no) D E := z3
      split at z3
      · rename_i xs e0
        split at z3
        · rename_i j e1
          obtain ⟨b, vs, rfl, eb, hb, dd⟩ := r3.lstV dv2 e0
          cases dv3
          obtain ⟨st4, r4⟩ := lst_set r3 eb hb (dd.set dv j)
          exact ⟨b, vs, kk, j, rfl, rfl, hb, by rw [← dd.length]; exact e1, z3 m3 _ σ st4 r4 (sr3.step st4) xi⟩
        · exact False.elim z3
      · exact False.elim z3
    | _ => exact False.elim z3
  | _ => exact False.elim z3
theorem s_aug (x : XG W cc k ev X E) {op : Operator} {y : Str} {i : Nat} {py : Pos} (hy : y ∈ cc.as) (hi : ixOf cc.N y = some i) (hx : cc.xi ≠ some i) (ha : PE X e (RE W cc a E ev p)) : PS X (.AugAssign (.Name y py) op e pos) (RSt W cc E ev (.aug i op p)) := by
  obtain ⟨h1, h2⟩ := x.asg y hy
  refine PS.imp (ps_aug (by rw [x.N]; exact x.nd) (by rw [x.N]; exact ixOf_get hi) (by rw [x.sc]; exact h1) ha (aug_ok (G := W.G) op) (by rw [x.sc]; exact h2)) fun D σ H ⟨m, h, s, r, sr, xi, z⟩ => ?_
  have z : SatS W.G cc.xi W.xa m H (match s[i]? with
    | some (some x) => (evE ev p s h).st s fun y h1 => (augV op x y h1).st s fun z h2 => .nx (s.set i (some z)) h2
    | _ => .no) D E := z
  split at z
  · rename_i d0 e0
    obtain ⟨v0, e1, d1⟩ := sr.2 i d0 e0
    refine ⟨v0, e1, m, h, s, r, sr, xi, z.st (R := RD W.G) sr xi fun d h1 m1 H1 v st r1 dv z1 => ⟨m1, h1, d0, d, (fun c d H' => E c d σ H'), r1, d1.step st, dv, z1.st (sr.step st) xi fun d2 h2 m2 H2 v2 st2 r2 dv2 z2 => ?_⟩⟩
    have z2 : SatS W.G cc.xi W.xa m2 H2 (.nx (s.set i (some d2)) h2) D E := z2
    refine z2.nx r2 (((sr.step st).step st2).set dv2 i) (xi_fr (l := [i]) ⟨by rw [List.length_set], fun j hj => ?_⟩ (fun j hj => ?_) xi)
    · rw [List.getElem?_set_ne fun z => hj (by simp [z])]
    · have : j = i := by simpa using hj
      rw [this]; exact hx
  · exact False.elim z
theorem s_while (x : XS W cc k ev X E) (hcold : cc.hot = false) {c : QT} {b : List Stmt} {cb : QSs} (hc : PT X e (RT W cc a E ev c)) (hb : PSs X b (RSs W cc E ev cb)) : PS X (.While e b [] pos) (RSt W cc E ev (.whl c cb)) := by
  refine PS.imp (ps_while (x.po hcold) hc hb) fun D σ H ⟨m, h, s, r, sr, xi, z⟩ => ?_
  have z : SatS W.G cc.xi W.xa m H (loopW (evT ev c) (exSs ev cb) ev.fuel s h) D E := z
  refine ⟨fun n σ H => ∃ m h s, Rel W.G m h H ∧ SR W.G m H s σ ∧ XiOk cc.xi W.xa σ ∧ SatS W.G cc.xi W.xa m H (loopW (evT ev c) (exSs ev cb) n s h) D E, ⟨ev.fuel, m, h, s, r, sr, xi, z⟩, ?_⟩
  rintro n σ H ⟨m, h, s, r, sr, xi, z⟩
  cases n with
  | zero => exact False.elim z
  | succ n =>
    have z : SatS W.G cc.xi W.xa m H ((evT ev c s h).st s fun k h1 => match k with
      | true => match exSs ev cb s h1 with
        | .nx s2 h2 => loopW (evT ev c) (exSs ev cb) n s2 h2
        | .ct s2 h2 => loopW (evT ev c) (exSs ev cb) n s2 h2
        | .bk s2 h2 => .nx s2 h2
        | o => o
      | false => .nx s h1) D E := z
    refine ⟨m, h, s, r, sr, xi, z.st sr xi fun d h1 m1 H1 v st r1 dv z1 => ?_⟩
    have dv : d = v := dv
    subst dv
    cases d with
    | false =>
      have z1 : SatS W.G cc.xi W.xa m1 H1 (.nx s h1) D E := z1
      exact iteF (z1.nx r1 (sr.step st) xi)
    | true =>
      refine iteT ⟨fun σ' H' => ∃ m h s, Rel W.G m h H' ∧ SR W.G m H' s σ' ∧ XiOk cc.xi W.xa σ' ∧ SatS W.G cc.xi W.xa m H' (loopW (evT ev c) (exSs ev cb) n s h) D E, fun σ' H' q => ⟨n, Nat.lt_succ_self n, q⟩, m1, h1, s, r1, sr.step st, xi, ?_⟩
      have z1 : SatS W.G cc.xi W.xa m1 H1 (match exSs ev cb s h1 with
        | .nx s2 h2 => loopW (evT ev c) (exSs ev cb) n s2 h2
        | .ct s2 h2 => loopW (evT ev c) (exSs ev cb) n s2 h2
        | .bk s2 h2 => .nx s2 h2
        | o => o) D E := z1
      cases e0 : exSs ev cb s h1 with
      | nx s2 h2 =>
        rw [e0] at z1
        exact fun m2 H2 σ2 st2 r2 sr2 x2 => ⟨m2, h2, s2, r2, sr2, x2, SatS.trans (o := loopW (evT ev c) (exSs ev cb) n s2 h2) z1 st2⟩
      | ct s2 h2 =>
        rw [e0] at z1
        exact fun m2 H2 σ2 st2 r2 sr2 x2 => ⟨m2, h2, s2, r2, sr2, x2, SatS.trans (o := loopW (evT ev c) (exSs ev cb) n s2 h2) z1 st2⟩
      | bk s2 h2 => rw [e0] at z1; exact z1
      | rt d h2 => rw [e0] at z1; exact z1
      | ex ex s2 h2 => rw [e0] at z1; exact z1
      | no => rw [e0] at z1; exact z1
theorem s_for (x : XS W cc k ev X E) (hcold : cc.hot = false) {tg it : Expr} {g : QG} {i : QI} {b : List Stmt} {cb : QSs} (hx : ∀ i ∈ gIx g, cc.xi ≠ some i) (hi : PI X tg it (RI W cc a E ev i)) (hg : PG X tg (rg W.G g)) (hb : PSs X b (RSs W cc E ev cb)) (hs : ∀ x, foldedSetIterable it X.env x = pure x) : PS X (.For tg it b [] pos) (RSt W cc E ev (.for g i cb)) := by
  refine PS.imp (ps_for (x.po hcold) (x.room hcold).1 hi hg hb hs) fun D σ H ⟨m, h, s, r, sr, xi, z⟩ => ?_
  have z : SatS W.G cc.xi W.xa m H ((evI ev i s h).st s fun w h1 => loopF w.fix (bindG g) (exSs ev cb) w.items s h1) D E := z
  refine ⟨m, h, s, r, sr, xi, z.st sr xi fun w h1 m1 H1 J st r1 wj z1 => ?_⟩
  refine ⟨fun i n σ H => n = w.items.length - i ∧ i ≤ w.items.length ∧ ∃ m h s, Step m1 H1 m H ∧ Rel W.G m h H ∧ SR W.G m H s σ ∧ XiOk cc.xi W.xa σ ∧ SatS W.G cc.xi W.xa m H (loopF w.fix (bindG g) (exSs ev cb) (w.items.drop i) s h) D E, ⟨_, rfl, Nat.zero_le _, m1, h1, s, r1.step, r1, sr.step st, xi, z1⟩, ?_⟩
  rintro i n σ H ⟨rfl, hi, m, h, s, st, r, sr, xi, z⟩
  by_cases hlt : i < w.items.length
  · have eg : w.items[i]? = some w.items[i] := List.getElem?_eq_getElem hlt
    rw [List.drop_eq_getElem_cons hlt] at z
    have z : SatS W.G cc.xi W.xa m H (match fixOk h w.fix, bindG g w.items[i] s with
      | true, some s1 => match exSs ev cb s1 h with
        | .nx s2 h2 => loopF w.fix (bindG g) (exSs ev cb) (w.items.drop (i + 1)) s2 h2
        | .ct s2 h2 => loopF w.fix (bindG g) (exSs ev cb) (w.items.drop (i + 1)) s2 h2
        | .bk s2 h2 => .nx s2 h2
        | o => o
      | _, _ => .no) D E := z
    split at z
    · rename_i s1 fx hb
      obtain ⟨go, yl⟩ := (wj m h H st r fx i).1 _ eg
      refine .inr ⟨go, fun σ' H' => ∃ m h s, Step m1 H1 m H' ∧ Rel W.G m h H' ∧ SR W.G m H' s σ' ∧ XiOk cc.xi W.xa σ' ∧ SatS W.G cc.xi W.xa m H' (loopF w.fix (bindG g) (exSs ev cb) (w.items.drop (i + 1)) s h) D E, fun σ' H' q => ⟨_, by omega, rfl, hlt, q⟩, fun x H' y => ?_⟩
      obtain ⟨r', st', dx⟩ := yl x H' y
      have z := z.trans st'
      refine ⟨m, h, s, w.items[i], s1, r', sr.step st', dx, hb, fun σ2 sr2 fr => ⟨m, h, s1, r', sr2, xi_fr fr hx xi, ?_⟩⟩
      cases e0 : exSs ev cb s1 h with
      | nx s2 h2 =>
        rw [e0] at z
        exact fun m2 H2 σ2 st2 r2 sr2 x2 => ⟨m2, h2, s2, (st.trans st').trans st2, r2, sr2, x2, SatS.trans (o := loopF w.fix (bindG g) (exSs ev cb) (w.items.drop (i + 1)) s2 h2) z st2⟩
      | ct s2 h2 =>
        rw [e0] at z
        exact fun m2 H2 σ2 st2 r2 sr2 x2 => ⟨m2, h2, s2, (st.trans st').trans st2, r2, sr2, x2, SatS.trans (o := loopF w.fix (bindG g) (exSs ev cb) (w.items.drop (i + 1)) s2 h2) z st2⟩
      | bk s2 h2 => rw [e0] at z; exact z
      | rt d h2 => rw [e0] at z; exact z
      | ex ex s2 h2 => rw [e0] at z; exact z
      | no => rw [e0] at z; exact z
    · exact False.elim z
  · have ei : i = w.items.length := by omega
    rw [List.drop_eq_nil_of_le (by omega)] at z
    have z : SatS W.G cc.xi W.xa m H (match fixOk h w.fix with
      | true => .nx s h
      | false => .no) D E := z
    split at z
    · rename_i fx
      exact .inl ⟨(wj m _ H st r fx i).2 (List.getElem?_eq_none (by omega)), z.nx r sr xi⟩
    · exact False.elim z
end
end PV
/-! PVK: raise, try. -/
namespace PV
open PySem PySem.Spec PyProof.Rows L2
section
variable {X : Cx} {C : Addr} {bmB : List Value} {B newId initId : String}
/-- X() of an own exception class without an init -/
theorem pmk0 {x : Str} {p pos : Pos} (F : ExcBaseFacts B newId initId bmB) (q : PySem.W.excIn X.K C bmB newId = true) (gC : X.mg x = some (.ref C)) (kC : PySem.W.keepIn X.K (.ref C) = true) (r : Raises X (.ref C)) (hg : Gl X x)
    (hdb : (x == ("__debug__" : Str)) = false) : PMk X (.Call (.Name x p) [] [] pos) (fun _ H Q => Q (.ref C) none H) := by
  intro pins s σ H Q I h
  refine wpAny_Call_Name_kw (ld_glob I hg gC ?_ hdb)
  refine PySem.W.callWith_K0 (first := []) I.kIn kC ?_
  show wpAny _ _ (call (.ref C) []) _ _ _
  obtain ⟨bm, N, nm, qn, bs, hdct, sn, sub, ab, col, dd, k0, k1, k2, k3, k5, mN, hC, hN, hni, T⟩ := exc_obj I.kIn q
  refine wpAny_call_exc_subT F T hC hN hni (fun h' e hm => ?_) (by show 0 ≤ sizeLine; omega)
  exact mk_of I hm r h (I.hok.gone hm.new)
end
section
variable {W : WD} {cc : CC} {k : Nat} {ev : Ev} {X : Cx} {E : WX} {a : Addr}
variable {e e1 e2 e3 : Expr} {p q r : QE} {pos : Pos} {st : Stmt} {sts : List Stmt}
theorem s_raise0 (x : XG W cc k ev X E) (hcold : cc.hot = false) {y : Str} {c : Nat} {py cp : Pos} (hn : plainName y = true) (hg : glB cc.sc y = true) (hl : cc.gl.lookup y = some (.exc c [])) : PS X (.Raise (some (.Call (.Name y py) [] [] cp)) none pos) (RSt W cc E ev (.raise c [] .nil)) := by
  obtain ⟨n1, n2, n3⟩ := pn1 hn
  obtain ⟨Ca, h1, h2, h3⟩ := x.gl _ _ hl
  have co := x.cls _ _ h2
  refine PS.imp (ps_raise (x.room hcold).1 x.tk (pmk0 PySem.F.excBase_ValueError (by rw [x.K]; exact h3 rfl) (by rw [x.mg]; exact h1) (by rw [x.K]; exact co.kp) (raises_own (by rw [x.K]; exact co.ec.hs) (by rw [x.K]; exact co.ty)) (gl_of x hg) n1)) fun D σ H ⟨m, h, s, r, sr, xi, z⟩ => ?_
  have z : SatS W.G cc.xi W.xa m H (.ex ⟨c, []⟩ s h) D E := z
  exact z m H σ (.ref Ca) none r.step r sr xi ⟨Ca, rfl, h2, .inl ⟨rfl, rfl⟩⟩

/-! ### try -/
theorem XG.tr (x : XG W cc k ev X E) (hcold : cc.hot = false) (pn : List (Addr × Obj)) (xe : Value → Shared → Prop) {E' : WX} (tk : Takes (X.tr pn xe) E') : XG W cc k ev (X.tr pn xe) E' :=
  ⟨x.prog, x.wd, x.K, x.mg, x.base, x.N, x.nd, x.sc, x.asg, x.room, x.units, tk, x.gl, x.cls, fun z => by rw [hcold] at z; cases z⟩
theorem XS.tr (x : XS W cc k ev X E) (hcold : cc.hot = false) (pn : List (Addr × Obj)) (xe : Value → Shared → Prop) {E' : WX} (tk : Takes (X.tr pn xe) E') (po : PassesOwn (model X.prog X.w) X.A X.env xe) : XS W cc k ev (X.tr pn xe) E' :=
  ⟨x.toXG.tr hcold pn xe tk, fun _ => po, x.stk, x.fun_⟩
/-- where the suite stands -/
def WD.sui (W : WD) (a : Addr) (l : List (Addr × List (Str × V))) : WD := { W with xa := a, G := { W.G with pins := l ++ W.G.pins } }
def CC.sui (cc : CC) (xi : Option Nat) : CC := { cc with hot := true, xi := xi }
theorem rel_sui {G : GW} {l : List (Addr × List (Str × V))} {m : List Addr} {h : Hd} {H : Hp} (r : Rel { G with pins := l ++ G.pins } m h H) : Rel G m h H := ⟨r.len, r.nd, r.cell, fun p hp => r.pin p (List.mem_append_right _ hp)⟩
theorem sat_sui {G : GW} {l : List (Addr × List (Str × V))} {α β : Type} {R : List Addr → Hp → α → β → Prop} {m : List Addr} {H : Hp} {o : Out α} {Q : β → Hp → Prop} {E : XKE} (hp : ∀ p ∈ l, H p.1 = some (.xd p.2) ∧ p.1 ∉ m) (z : Sat { G with pins := l ++ G.pins } R m H o Q E) : Sat G R m H o Q E := by
  have up : ∀ {m' H' h'}, Step m H m' H' → Rel G m' h' H' → Rel { G with pins := l ++ G.pins } m' h' H' := fun {m' H' h'} st r => ⟨r.len, r.nd, r.cell, fun p hp' => by
    rcases List.mem_append.mp hp' with z | z
    · obtain ⟨h1, h2⟩ := hp p z
      refine ⟨st.keep _ _ h1 h2, fun q => ?_⟩
      obtain ⟨l', e, n⟩ := st.pre
      rw [e] at q
      rcases List.mem_append.mp q with q | q
      · exact h2 q
      · rw [n _ q] at h1; cases h1
    · exact r.pin p z⟩
  cases o with
  | ok d h => exact fun m' H' v st r q => z m' H' v st (up st r) q
  | ex e h => exact fun m' H' c dx st r q => z m' H' c dx st (up st r) q
  | no => exact z
theorem gv_sui {y : Str} {v : Gv} {l : List (Addr × List (Str × V))} {ex : Option Exn} (g : GvOk W k ev y v) : GvOk (W.sui a l) k { ev with exn := ex } y v := by
  cases v with
  | fn i np shapes =>
    obtain ⟨f, fd, ps, h1, h2, h3, h4, h5⟩ := g
    refine ⟨f, fd, ps, h1, h2, h3, h4.imp fun vs H Q E' ⟨m, h, ds, r, d, ln, z⟩ => ⟨m, h, ds, rel_sui r, d, ln, sat_sui (l := l) (fun p hp => r.pin p (List.mem_append_left _ hp)) z⟩, h5⟩
  | bi b => cases b <;> exact g
  | _ => exact g
theorem cls_sui {c : Nat} {Ca : Addr} {l : List (Addr × List (Str × V))} {ex : Option Exn} (g : ClsOk W ev c Ca) : ClsOk (W.sui a l) { ev with exn := ex } c Ca := ⟨g.kp, g.ec, g.ty, g.exm, g.kit, g.nof⟩
theorem xs_sui (x : XS W cc k ev X E) {oe : Obj} {cls : Value} {d : Option Addr} {pn : List (Addr × Obj)} {ex : Exn} {Ca : Addr} {xi : Option Nat} {l : List (Addr × List (Str × V))} (hz : Zc (.ref Ca) d oe) (hf : ∃ vs, oe.data = .fields vs) (hcl : W.G.cl ex.cls = some Ca)
    (hd : (d = none ∧ ex.fs = []) ∨ ∃ dd fs, d = some dd ∧ (dd, fs) ∈ l ∧ ∀ f x, ex.fs.lookup f = some x → flatD x = true ∧ fs.lookup f = some (toV x)) : XS (W.sui a l) (cc.sui xi) k { ev with exn := some ex } (Cx.suite X a ((a, oe) :: pn)) F0 := by
  refine ⟨⟨x.prog, x.wd, x.K, x.mg, x.base, x.N, x.nd, x.sc, x.asg, (fun z => by cases z), x.units, tk0, fun y v e => gv_sui (x.gl y v e), fun c Ca e => cls_sui (x.cls c Ca e), fun _ => ⟨X, oe, pn, d, ex, Ca, rfl, hz, hf, rfl, hcl, ?_⟩⟩, (fun z => by cases z), (fun z => by cases z), x.fun_⟩
  rcases hd with hd | ⟨dd, fs, h1, h2, h3⟩
  · exact .inl hd
  · exact .inr ⟨dd, fs, h1, List.mem_append_left _ h2, h3⟩
/-- the suite's reading: ex is what was raised -/
def tsui (W : WD) (cc : CC) (ev : Ev) (xi : Option Nat) (su : QSs) (a : Addr) (cls : Value) (d : Option Addr) : TS := fun D σ H => ∃ (ex : Exn) (Ca : Addr) (l : List (Addr × List (Str × V))), cls = .ref Ca ∧ W.G.cl ex.cls = some Ca ∧
  ((d = none ∧ ex.fs = []) ∨ ∃ dd fs, d = some dd ∧ (dd, fs) ∈ l ∧ ∀ f x, ex.fs.lookup f = some x → flatD x = true ∧ fs.lookup f = some (toV x)) ∧ RSs (W.sui a l) (cc.sui xi) F0 { ev with exn := some ex } su D σ H
theorem SR.goS {G : GW} {m : List Addr} {H : Hp} {s : Sl} {σ : L2.St} (r : SR G m H s σ) (xi : Option Nat) (o : Option V) : SR G m H (goS xi s) (match xi with
    | some i => σ.set i o
    | none => σ) := by
  cases xi with
  | none => exact r
  | some i => exact r.unset i o
/-- what the raised one is, for the suite -/
theorem sui_go {xi : Option Nat} {su : QSs} {m : List Addr} {h : Hd} {H : Hp} {s : Sl} {σ : L2.St} {D D' : Ends} {ex : Exn} {cls : Value} {d : Option Addr} {ad : Addr} (hxi : cc.xi = none) (r : Rel W.G m h H) (sr : SR W.G m H s σ) (er : ExR W.G m H ex cls d)
    (dn : ∀ m' s2 σ' H', SR W.G m' H' s2 σ' → (∀ σ'', SR W.G m' H' (goS xi s2) σ'' → D.nx σ'' H') → D'.nx σ' H') (db : ∀ m' s2 σ' H', SR W.G m' H' s2 σ' → (∀ σ'', SR W.G m' H' (goS xi s2) σ'' → D.bk σ'' H') → D'.bk σ' H') (dc : ∀ m' s2 σ' H', SR W.G m' H' s2 σ' → (∀ σ'', SR W.G m' H' (goS xi s2) σ'' → D.ct σ'' H') → D'.ct σ' H') (dr : D'.rt = D.rt)
    (hx : XiOk xi ad σ) (z : SatS W.G cc.xi W.xa m H ((exSs { ev with exn := some ex } su s h).gone xi) D E) : tsui W cc ev xi su ad cls d D' σ H := by
  obtain ⟨Ca, e1, e2, e3⟩ := er
  have key : ∀ l : List (Addr × List (Str × V)), (∀ p ∈ l, H p.1 = some (.xd p.2) ∧ p.1 ∉ m) → RSs (W.sui ad l) (cc.sui xi) F0 { ev with exn := some ex } su D' σ H := fun l hl => by
    refine ⟨m, h, s, ⟨r.len, r.nd, r.cell, fun p hp => ?_⟩, sr, hx, ?_⟩
    · rcases List.mem_append.mp hp with z | z
      · exact hl p z
      · exact r.pin p z
    · cases e0 : exSs { ev with exn := some ex } su s h with
      | nx s2 h2 =>
        rw [e0] at z
        exact fun m' H' σ' st r' sr' x' => dn m' s2 σ' H' sr' fun σ'' sr'' => z m' H' σ'' st (rel_sui (l := l) r') sr'' (by rw [hxi]; trivial)
      | bk s2 h2 =>
        rw [e0] at z
        exact fun m' H' σ' st r' sr' x' => db m' s2 σ' H' sr' fun σ'' sr'' => z m' H' σ'' st (rel_sui (l := l) r') sr'' (by rw [hxi]; trivial)
      | ct s2 h2 =>
        rw [e0] at z
        exact fun m' H' σ' st r' sr' x' => dc m' s2 σ' H' sr' fun σ'' sr'' => z m' H' σ'' st (rel_sui (l := l) r') sr'' (by rw [hxi]; trivial)
      | rt dd h2 =>
        rw [e0] at z
        exact fun m' H' v st r' dv => by
          rw [dr]
          exact z m' H' v st (rel_sui (l := l) r') dv
      | ex ex2 s2 h2 => rw [e0] at z; exact False.elim z
      | no => rw [e0] at z; exact False.elim z
  rcases e3 with ⟨h1, h2⟩ | ⟨dd, vs, h1, h2, h3⟩
  · exact ⟨ex, Ca, [], e1, e2, .inl ⟨h1, h2⟩, key [] fun p hp => by cases hp⟩
  · refine ⟨ex, Ca, [(dd, vs)], e1, e2, .inr ⟨dd, vs, h1, List.mem_singleton.mpr rfl, h3⟩, key _ fun p hp => ?_⟩
    have : p = (dd, vs) := by simpa using hp
    subst this
    refine ⟨h2, fun hm => ?_⟩
    obtain ⟨n, hn, e⟩ := List.getElem_of_mem hm
    have hl : n < h.length := by rw [← r.len]; exact hn
    have c := r.cell n h[n] dd (List.getElem?_eq_getElem hl) (by rw [List.getElem?_eq_getElem hn, e])
    cases q : h[n] with
    | lst xs => rw [q] at c; obtain ⟨_, c, _⟩ := c; rw [h2] at c; cases c
    | obj C fs => rw [q] at c; obtain ⟨_, _, _, _, c, _⟩ := c; rw [h2] at c; cases c
    | dct kvs => rw [q] at c; obtain ⟨_, c, _⟩ := c; rw [h2] at c; cases c
theorem tsui_ok (x : XS W cc k ev X E) {xi : Option Nat} {su : QSs} {b0 : Stmt} {bs : List Stmt} (hsu : ∀ (W' : WD) (ev' : Ev) (X' : Cx), XS W' (cc.sui xi) k ev' X' F0 → PSs X' (b0 :: bs) (RSs W' (cc.sui xi) F0 ev' su))
    (ad : Addr) (oe : Obj) (cls : Value) (d : Option Addr) (pn : List (Addr × Obj)) (hz : Zc cls d oe) (hf : ∃ vs, oe.data = .fields vs) : PSs (X.suite ad ((ad, oe) :: pn)) (b0 :: bs) (tsui W cc ev xi su ad cls d) :=
  ⟨fun pins s σ H D I ⟨ex, Ca, l, e1, e2, e3, q⟩ => by
    subst e1
    exact (hsu (W.sui ad l) _ _ (xs_sui (cls := .ref Ca) x hz hf e2 e3)).run pins s σ H D I q⟩
/-- what the try's ends say -/
theorem try_read {c : Nat} {Da : Addr} {xi : Option Nat} {cb su : QSs} {m : List Addr} {h : Hd} {H : Hp} {s : Sl} {σ : L2.St} {D : Ends} {Wn : WX} (x : XS W cc k ev X E) (hc : W.G.cl c = some Da) (r : Rel W.G m h H) (sr : SR W.G m H s σ)
    (z : SatS W.G cc.xi W.xa m H (match exSs ev cb s h with
      | .ex e s1 h1 => match ev.sub e.cls c with
        | true => match inS xi s1 with
          | true => (exSs { ev with exn := some e } su (goS xi s1) h1).gone xi
          | false => .no
        | false => .ex e s1 h1
      | o => o) D E)
    (hw : ∀ ex s1 h1 m' H' σ' cls dx, Rel W.G m' h1 H' → SR W.G m' H' s1 σ' → ExR W.G m' H' ex cls dx → (∃ b, PySem.W.exmOne X.K cls (.ref Da) = some b ∧ (b = true → inS xi s1 = true ∧ SatS W.G cc.xi W.xa m' H' ((exSs { ev with exn := some ex } su (goS xi s1) h1).gone xi) D E) ∧ (b = false → E cls dx σ' H')) → Wn cls dx σ' H') (hxi : cc.xi = none) :
    RSs W cc Wn ev cb D σ H := by
  refine ⟨m, h, s, r, sr, by rw [hxi]; trivial, ?_⟩
  cases e0 : exSs ev cb s h with
  | nx s2 h2 => rw [e0] at z; exact z
  | bk s2 h2 => rw [e0] at z; exact z
  | ct s2 h2 => rw [e0] at z; exact z
  | rt d h2 => rw [e0] at z; exact z
  | no => rw [e0] at z; exact z
  | ex ex s1 h1 =>
    rw [e0] at z
    intro m' H' σ' cls dx st r' sr' x' er
    obtain ⟨Ca, rfl, hca, er3⟩ := id er
    have em := (x.cls _ _ hca).exm _ _ hc
    refine hw ex s1 h1 m' H' σ' _ dx r' sr' er ⟨ev.sub ex.cls c, by rw [x.K]; exact em, fun hb => ?_, fun hb => ?_⟩
    · have z : SatS W.G cc.xi W.xa m H (match ev.sub ex.cls c with
        | true => match inS xi s1 with
          | true => (exSs { ev with exn := some ex } su (goS xi s1) h1).gone xi
          | false => .no
        | false => .ex ex s1 h1) D E := z
      rw [hb] at z
      have z : SatS W.G cc.xi W.xa m H (match inS xi s1 with
          | true => (exSs { ev with exn := some ex } su (goS xi s1) h1).gone xi
          | false => .no) D E := z
      cases e1 : inS xi s1 with
      | false => rw [e1] at z; exact False.elim z
      | true =>
        rw [e1] at z
        exact ⟨rfl, SatS.trans (o := (exSs { ev with exn := some ex } su (goS xi s1) h1).gone xi) z st⟩
    · have z : SatS W.G cc.xi W.xa m H (match ev.sub ex.cls c with
        | true => match inS xi s1 with
          | true => (exSs { ev with exn := some ex } su (goS xi s1) h1).gone xi
          | false => .no
        | false => .ex ex s1 h1) D E := z
      rw [hb] at z
      exact z m' H' σ' _ dx st r' sr' x' er
theorem names_of (x : XG W cc k ev X E) {y : Str} {c : Nat} {fs : List Str} (hn : plainName y = true) (hg : glB cc.sc y = true) (hl : cc.gl.lookup y = some (.exc c fs)) : ∃ Da, W.G.cl c = some Da ∧ Names X y (.ref Da) := by
  obtain ⟨n1, n2, n3⟩ := pn1 hn
  obtain ⟨Ca, h1, h2, _⟩ := x.gl _ _ hl
  exact ⟨Ca, h2, gl_of x hg, n1, .inl (by rw [x.mg]; exact h1)⟩
theorem s_try_only (x : XS W cc k ev X E) (hcold : cc.hot = false) (hxi : cc.xi = none) {y : Str} {c : Nat} {fs : List Str} {body bs : List Stmt} {b0 : Stmt} {np pos' : Pos} {cb su : QSs} (hn : plainName y = true) (hg : glB cc.sc y = true) (hl : cc.gl.lookup y = some (.exc c fs))
    (hb : ∀ (X' : Cx) (E' : WX), XS W cc k ev X' E' → PSs X' body (RSs W cc E' ev cb)) (hsu : ∀ (W' : WD) (ev' : Ev) (X' : Cx), XS W' (cc.sui none) k ev' X' F0 → PSs X' (b0 :: bs) (RSs W' (cc.sui none) F0 ev' su)) :
    PS X (.Try body [.ExceptHandler (some (.Name y np)) none (b0 :: bs) pos'] [] [] pos) (RSt W cc E ev (.try cb c none su)) := by
  obtain ⟨Da, hc, nm⟩ := names_of x.toXG hn hg hl
  refine PS.imp (ps_try_only (tb := fun W' => RSs W cc W' ev cb) (ts := tsui W cc ev none su) (x.stk hcold).1 (x.stk hcold).2 nm x.tk (fun W' pn xe tk po => hb _ _ (x.tr hcold pn xe tk po)) (fun ad oe cls d pn hz hf => tsui_ok x hsu ad oe cls d pn hz hf)) fun D σ H ⟨m, h, s, r, sr, xi, z⟩ => ?_
  refine try_read (xi := none) (cb := cb) (su := su) x hc r sr z (fun ex s1 h1 m' H' σ' cls dx r' sr' er ⟨b, hb, h1', h2⟩ => ⟨b, hb, fun eb ad ha => ?_, h2⟩) hxi
  obtain ⟨_, z1⟩ := h1' eb
  exact sui_go (D := D) hxi r' sr' er (fun m' s2 σ' H' sr q => q σ' sr) (fun m' s2 σ' H' sr q => q σ' sr) (fun m' s2 σ' H' sr q => q σ' sr) rfl trivial z1
theorem s_try_as (x : XS W cc k ev X E) (hcold : cc.hot = false) (hxi : cc.xi = none) {y n : Str} {i c : Nat} {fs : List Str} {body bs : List Stmt} {b0 : Stmt} {np pos' : Pos} {cb su : QSs} (hn : plainName y = true) (hg : glB cc.sc y = true) (hl : cc.gl.lookup y = some (.exc c fs)) (hi : ixOf cc.N n = some i) (hln : cc.sc.names.lookup n = some .local)
    (hb : ∀ (X' : Cx) (E' : WX), XS W cc k ev X' E' → PSs X' body (RSs W cc E' ev cb)) (hsu : ∀ (W' : WD) (ev' : Ev) (X' : Cx), XS W' (cc.sui (some i)) k ev' X' F0 → PSs X' (b0 :: bs) (RSs W' (cc.sui (some i)) F0 ev' su)) :
    PS X (.Try body [.ExceptHandler (some (.Name y np)) (some n) (b0 :: bs) pos'] [] [] pos) (RSt W cc E ev (.try cb c (some i) su)) := by
  obtain ⟨Da, hc, nm⟩ := names_of x.toXG hn hg hl
  refine PS.imp (ps_try_as (tb := fun W' => RSs W cc W' ev cb) (ts := tsui W cc ev (some i) su) (x.stk hcold).1 (x.stk hcold).2 (by rw [x.N]; exact x.nd) (by rw [x.N]; exact ixOf_get hi) (by show X.env.scope.names.lookup n = _; rw [x.sc]; exact hln) nm x.tk (fun W' pn xe tk po => hb _ _ (x.tr hcold pn xe tk po)) (fun ad oe cls d pn hz hf => tsui_ok x hsu ad oe cls d pn hz hf)) fun D σ H ⟨m, h, s, r, sr, xi, z⟩ => ?_
  refine try_read (xi := some i) (cb := cb) (su := su) x hc r sr z (fun ex s1 h1 m' H' σ' cls dx r' sr' er ⟨b, hb, h1', h2⟩ => ⟨b, hb, fun eb ad ha => ?_, h2⟩) hxi
  obtain ⟨h3, z1⟩ := h1' eb
  have h3 : decide (i < s1.length) = true := h3
  have hlt : i < σ'.length := by rw [← sr'.1]; exact of_decide_eq_true h3
  refine sui_go (D := D) hxi r' (sr'.goS (some i) _) er (fun m' s2 σ' H' sr q => q _ (sr.goS (some i) _)) (fun m' s2 σ' H' sr q => q _ (sr.goS (some i) _)) (fun m' s2 σ' H' sr q => q _ (sr.goS (some i) _)) rfl ?_ z1
  show (σ'.set i _)[i]? = _
  exact List.getElem?_set_self hlt
end
end PV
/-! PVL: every statement that has code. -/
namespace PV
open PySem PySem.Spec PyProof.Rows L2
def notLc : Expr → Bool
  | .ListComp .. => false
  | _ => true
def isTupE : Expr → Bool
  | .Tuple .. => true
  | _ => false
def isLoc (sc : Scope) (x : Str) : Bool := match sc.names.lookup x with
  | some .local => true
  | _ => false
theorem loc_of {sc : Scope} {x : Str} (h : isLoc sc x = true) : sc.names.lookup x = some .local := by
  unfold isLoc at h
  split at h
  · assumption
  · cases h
def noSwap (ts vs : List Expr) : Bool := !(ts.length == 2 || ts.length == 3) || vs.length != ts.length || vs.all (foldedForSure 8)
def cPar (cc : CC) (ts vs : List Expr) : Option QS := match ts, vs with
  | [.Name x px, .Name y py], [a, b] =>
    if !cc.hot && decide (cc.xi = none) && decide (x ≠ y) && isLoc cc.sc x && isLoc cc.sc y && decide (py.line = px.line) && !([a, b].all (foldedForSure 8)) && !([a, b].all (constantsAlone 8)) then
      match ixOf cc.N x, ixOf cc.N y, cE 60 cc a, cE 60 cc b with
      | some i, some j, some p, some q => some (.par i j p q)
      | _, _, _, _ => none
    else none
  | _, _ => none
def cAsg (cc : CC) (tg e : Expr) : Option QS := match tg with
  | .Name y _ => match cTgt cc 4 tg, cE 60 cc e with
    | some (.nm i), some p => some (.asg (.nm i) p)
    | _, _ => none
  | .Tuple ts _ _ => match e with
    | .Tuple vs _ _ => if noSwap ts vs then match cTgt cc 4 tg, cE 60 cc e with
        | some g, some p => some (.asg g p)
        | _, _ => none
      else cPar cc ts vs
    | e => match cTgt cc 4 tg, cE 60 cc e with
      | some g, some p => some (.asg g p)
      | _, _ => none
  | .Subscript o i _ => match cE 60 cc o, cE 60 cc i, cE 60 cc e with
    | some p, some q, some r => some (.sub p q r)
    | _, _, _ => none
  | _ => none
def excN (cc : CC) (x : Str) : Option (Nat × List Str) := if plainName x && glB cc.sc x then match cc.gl.lookup x with
  | some (.exc c fs) => some (c, fs)
  | _ => none
  else none
mutual
def cS : Nat → CC → Stmt → Option QS
  | 0, _, _ => none
  | n + 1, cc, st => match st with
    | .Expr e _ => match e with
      | .Constant (.str _) _ _ => some .pass
      | e => if notLc e then (cE 60 cc e).map .expr else none
    | .Assign tgs e _ => match tgs with
      | [tg] => cAsg cc tg e
      | _ => none
    | .AugAssign tg op e _ => match tg with
      | .Name y _ => match cTgt cc 4 tg, cE 60 cc e with
        | some (.nm i), some p => some (.aug i op p)
        | _, _ => none
      | _ => none
    | .Return v _ => match v with
      | some e => (cE 60 cc e).map .ret
      | none => some .retN
    | .If c a b _ => match cT 60 cc c, cSs n cc a, cSs n cc b with
      | some t, some p, some q => some (.ife t p q)
      | _, _, _ => none
    | .While c b el _ => match el, cc.hot, cT 60 cc c, cSs n cc b with
      | [], false, some t, some p => some (.whl t p)
      | _, _, _, _ => none
    | .For tg it b el _ => match el, cc.hot, cTgt cc 4 tg with
      | [], false, some g => match cIter cc (cE 60 cc) g it, cSs n cc b with
        | some i, some p => some (.for g i p)
        | _, _ => none
      | _, _, _ => none
    | .Raise ex ca _ => match ex, ca, cc.hot with
      | some (.Call (.Name x _) [] [] _), none, false => match excN cc x with
        | some (c, []) => some (.raise c [] .nil)
        | _ => none
      | _, _, _ => none
    | .Try b hs el fi _ => match hs, el, fi, cc.hot, cc.xi with
      | [.ExceptHandler (some (.Name x _)) nm (s0 :: ss) _], [], [], false, none => match excN cc x with
        | some (c, fs) => match nm with
          | none => match cSs n cc b, cSs n (cc.sui none) (s0 :: ss) with
            | some p, some q => some (.try p c none q)
            | _, _ => none
          | some y => match ixOf cc.N y with
            | some i => match isLoc cc.sc y, cSs n cc b, cSs n (cc.sui (some i)) (s0 :: ss) with
              | true, some p, some q => some (.try p c (some i) q)
              | _, _, _ => none
            | none => none
        | none => none
      | _, _, _, _, _ => none
    | .Pass _ => some .pass
    | .Break _ => some .brk
    | .Continue _ => some .cnt
    | _ => none
def cSs : Nat → CC → List Stmt → Option QSs
  | 0, _, _ => none
  | n + 1, cc, sts => match sts with
    | [] => some .nil
    | a :: r => match cS n cc a, cSs n cc r with
      | some p, some q => some (.cons p q)
      | _, _ => none
end
section
variable {W : WD} {cc : CC} {k : Nat} {ev : Ev} {X : Cx} {E : WX} {e : Expr} {p : QE} {pos : Pos} {n : Nat}
theorem lc_inv {elt : Expr} {gs : List Comprehension} {scope : Scope} (h : cE (n + 1) cc (.ListComp elt gs scope pos) = some p) : ∃ tg it ifs own g i el ct, gs = [⟨tg, it, ifs, 0⟩] ∧ cc.hot = false ∧ ownOf cc.N scope.names = some own ∧ blkC cc.N cc.sc scope own = true ∧ cTgt (cBlk cc scope own) 4 tg = some g ∧
    cIter cc (cE n cc) g it = some i ∧ cE n (cBlk cc scope own) elt = some el ∧ ((ifs = [] ∧ ct = .yes) ∨ ∃ c, ifs = [c] ∧ cT n (cBlk cc scope own) c = some ct) ∧ p = .lc el g i (own.map (·.2)) ct := by
  change (match (generalizing := false) gs with
    | [⟨tg, it, ifs, as⟩] => match decide (as = 0) && !cc.hot, ownOf cc.N scope.names with
      | true, some own => match blkC cc.N cc.sc scope own with
        | true => match cTgt (cBlk cc scope own) 4 tg with
          | some g => match cIter cc (cE n cc) g it, cE n (cBlk cc scope own) elt with
            | some i, some el => match ifs with
              | [] => some (QE.lc el g i (own.map (·.2)) .yes)
              | [c] => match cT n (cBlk cc scope own) c with
                | some t => some (QE.lc el g i (own.map (·.2)) t)
                | none => none
              | _ => none
            | _, _ => none
          | none => none
        | false => none
      | _, _ => none
    | _ => none) = some p at h
  split at h
  · rename_i tg it ifs as
    split at h
    · rename_i own h0 hown
      rw [Bool.and_eq_true] at h0
      have has : as = 0 := of_decide_eq_true h0.1
      have hcold : cc.hot = false := by simpa using h0.2
      subst has
      split at h
      · rename_i hb
        split at h
        · rename_i g hg
          split at h
          · rename_i i el hi he
            split at h
            · cases h
              exact ⟨tg, it, [], own, g, i, el, .yes, rfl, hcold, hown, hb, hg, hi, he, .inl ⟨rfl, rfl⟩, rfl⟩
            · rename_i c
              split at h
              · rename_i t ht
                cases h
                exact ⟨tg, it, [c], own, g, i, el, t, rfl, hcold, hown, hb, hg, hi, he, .inr ⟨c, rfl, ht⟩, rfl⟩
              · cases h
            · cases h
          · cases h
        · cases h
      · cases h
    · cases h
  · cases h
/-- no other comprehension has code -/
theorem sw_none {tg : Option Expr} {l : Nat} {env : Env} (h : cE n cc e = some p) (hl : notLc e = true) : swapsWith e tg l env = pure false := by
  cases n with
  | zero => cases h
  | succ n => cases e <;> first | rfl | cases h | cases hl
theorem sw_some {tg : Expr} {l : Nat} {env : Env} (h : cE n cc e = some p) (ht : ∀ y py, tg ≠ .Name y py) : swapsWith e (some tg) l env = pure false := by
  cases n with
  | zero => cases h
  | succ n =>
    cases e with
    | ListComp elt gs scope pos => cases tg <;> first | rfl | exact absurd rfl (ht _ _)
    | _ => first | rfl | cases h
theorem blockK {env : Env} (hk : env.scope.kind = .function) : env.blockKind = .function := by
  unfold Env.blockKind
  rw [hk]
  rfl
theorem sw_name {y : Str} {py : Pos} {l : Nat} {env : Env} (hk : env.scope.kind = .function) (h : cE n cc e = some p) : swapsWith e (some (.Name y py)) l env = pure false ∨ (∃ elt gs scope pos, e = .ListComp elt gs scope pos ∧ env.scope.names.lookup y = some .local ∧ swapsWith e (some (.Name y py)) l env = pure true) := by
  cases n with
  | zero => cases h
  | succ n =>
    cases e with
    | ListComp elt gs scope pos =>
      have hb := blockK hk
      by_cases h1 : env.scope.names.lookup y = some .local
      · by_cases h2 : (py.line == pos.line && !(scope.names.any fun (n, k) => n == y && (k == .local || k == .cell))) = true
        · refine .inr ⟨elt, gs, scope, pos, rfl, h1, ?_⟩
          rw [Bool.and_eq_true] at h2
          exact sw_true hk h1 h2.1 (by simpa using h2.2)
        · refine .inl ?_
          have h2 : (py.line == pos.line && !(scope.names.any fun (n, k) => n == y && (k == .local || k == .cell))) = false := (Bool.not_eq_true _).mp h2
          have ky : env.kindOf y = some .local := h1
          show (pure (env.blockKind == .function && env.kindOf y == some .local && py.line == pos.line && !(scope.names.any fun (n, k) => n == y && (k == .local || k == .cell))) : Sem Bool) = pure false
          rw [Bool.and_assoc, h2, Bool.and_false]
      · refine .inl ?_
        have ky : (env.kindOf y == some NameKind.local) = false := by
          show (env.scope.names.lookup y == some NameKind.local) = false
          cases q : env.scope.names.lookup y == some NameKind.local with
          | false => rfl
          | true => exact absurd (beq_iff_eq.mp q) h1
        show (pure (env.blockKind == .function && env.kindOf y == some .local && py.line == pos.line && !(scope.names.any fun (n, k) => n == y && (k == .local || k == .cell))) : Sem Bool) = pure false
        rw [ky, Bool.and_false, Bool.false_and, Bool.false_and]
    | _ => first | exact .inl rfl | cases h
theorem ss_notup {tg e : Expr} {env : Env} (h : isTupE e = false) : swappedStores [tg] e env = pure none := by
  cases e <;> cases tg <;> first | rfl | cases h
theorem ss_noname {tg e : Expr} {env : Env} (h : isTupE tg = false) (hl : ∀ ts p, tg ≠ .List ts p) : swappedStores [tg] e env = pure none := by
  cases tg with
  | Tuple _ _ _ => cases h
  | List ts p => exact absurd rfl (hl ts p)
  | _ => cases e <;> rfl
theorem ss_folded {ts vs : List Expr} {k1 k2 : Nat} {p1 p2 : Pos} {env : Env} (h : noSwap ts vs = true) : swappedStores [.Tuple ts k1 p1] (.Tuple vs k2 p2) env = pure none := by
  unfold noSwap at h
  show (if (!(ts.length == 2 || ts.length == 3) || vs.length != ts.length || env.blockKind != .function) = true then pure none else _) = _
  by_cases h1 : (!(ts.length == 2 || ts.length == 3) || vs.length != ts.length || env.blockKind != .function) = true
  · rw [if_pos h1]
  · rw [if_neg h1]
    have h2 : vs.all (foldedForSure 8) = true := by
      simp only [Bool.or_eq_true, not_or] at h1 h
      rcases h with (h | h) | h
      · exact absurd h h1.1.1
      · exact absurd h h1.1.2
      · exact h
    rw [h2]
    split
    · rfl
    · dsimp only
      split <;> rfl
theorem anyStar {a b : Expr} (s1 : notStar a = true) (s2 : notStar b = true) : ([a, b].any fun | .Starred .. => true | _ => false) = false := by
  have one : ∀ e : Expr, notStar e = true → (match e with | .Starred .. => true | _ => false) = false := fun e h => by
    cases e <;> first | rfl | cases h
  rw [List.any_cons, List.any_cons, one a s1, one b s2]
  rfl
theorem ss_par {x y : Str} {px py : Pos} {a b : Expr} {k1 k2 : Nat} {p1 p2 : Pos} {env : Env} (hk : env.scope.kind = .function) (hx : env.scope.names.lookup x = some .local) (hy : env.scope.names.lookup y = some .local) (hxy : x ≠ y) (hl : py.line = px.line) (s1 : notStar a = true) (s2 : notStar b = true)
    (h1 : [a, b].all (foldedForSure 8) = false) (h2 : [a, b].all (constantsAlone 8) = false) : swappedStores [.Tuple [.Name x px, .Name y py] k1 p1] (.Tuple [a, b] k2 p2) env = pure (some [x, y]) := by
  have hb := blockK hk
  have kx : env.kindOf x = some .local := hx
  have ky : env.kindOf y = some .local := hy
  have hst := anyStar s1 s2
  have nm : ([Expr.Name x px, Expr.Name y py].filterMap fun
    | .Name id pos => if env.kindOf id == some .local && pos.line == px.line then some id else none
    | _ => none) = [x, y] := by
    simp [kx, ky, hl]
  have hd : ([x, y] : List Str).eraseDups.length = 2 := by
    simp [List.eraseDups_cons, hxy, Ne.symm hxy]
  show (if (!(2 == 2 || 2 == 3) || (2 : Nat) != 2 || env.blockKind != .function) = true then pure none else _) = _
  rw [hb]
  rw [if_neg (by decide)]
  show (if ([a, b].any fun | .Starred .. => true | _ => false) = true then pure none else _) = _
  rw [hst, if_neg (by decide)]
  show (if ((([Expr.Name x px, Expr.Name y py].filterMap fun
    | .Name id pos => if env.kindOf id == some .local && pos.line == px.line then some id else none
    | _ => none).length != 2) || ((([Expr.Name x px, Expr.Name y py].filterMap fun
    | .Name id pos => if env.kindOf id == some .local && pos.line == px.line then some id else none
    | _ => none).eraseDups.length != ([Expr.Name x px, Expr.Name y py].filterMap fun
    | .Name id pos => if env.kindOf id == some .local && pos.line == px.line then some id else none
    | _ => none).length))) = true then pure none else if [a, b].all (foldedForSure 8) = true then pure none else _) = _
  rw [nm, hd, if_neg (by simp), h1, if_neg (by decide)]
  show (if [a, b].all (constantsAlone 8) = true then _ else _) = _
  rw [h2, if_neg (by decide)]
  exact congrArg (fun l => (pure (some l) : Sem (Option (List Str)))) nm
theorem tgt1 (h : cTgt cc n e = some (.nm i)) : ∃ y py, e = .Name y py ∧ y ∈ cc.as ∧ ixOf cc.N y = some i ∧ cc.xi ≠ some i := by
  cases n with
  | zero => cases h
  | succ n =>
    cases e with
    | Name y py =>
      have h : (if cc.as.contains y then match ixOf cc.N y with
        | some i => if cc.xi = some i then none else some (QG.nm i)
        | none => none
        else none) = some (QG.nm i) := h
      split at h
      · rename_i hy
        split at h
        · rename_i j hj
          split at h
          · cases h
          · rename_i hx
            cases h
            exact ⟨y, py, rfl, by simpa using hy, hj, hx⟩
        · cases h
      · cases h
    | Tuple es kk py =>
      have h : (if cc.hot then none else (cTgts (cTgt cc n) es).map QG.tp) = some (QG.nm i) := h
      split at h
      · cases h
      · cases e1 : cTgts (cTgt cc n) es with
        | none => rw [e1] at h; cases h
        | some gs => rw [e1] at h; cases h
    | _ => cases h
theorem tgt_hx {g : QG} (h : cTgt cc n e = some g) : ∀ i ∈ gIx g, cc.xi ≠ some i := tgt_ix (fun i => cc.xi ≠ some i) (fun _ _ _ _ h => h) n h
theorem assign1 {tg : Expr} (h : notStar tg = true) (env : Env) : (assignEach [tg] env).map (·.2) = [assign tg env] := by
  rw [assignEach1 h]
  rfl
theorem ok_e (x : XG W cc k ev X E) (h : cE n cc e = some p) : PE X e (RE W cc 0 E ev p) := (all_ok n).1 cc e p h W k ev X E 0 x
theorem ok_t (x : XG W cc k ev X E) {t : QT} (h : cT n cc e = some t) : PT X e (RT W cc 0 E ev t) := (all_ok n).2 cc e t h W k ev X E 0 x
theorem asg_name (x : XS W cc k ev X E) {y : Str} {py : Pos} {i : Nat} (hy : y ∈ cc.as) (hi : ixOf cc.N y = some i) (hx : cc.xi ≠ some i) (h : cE (n + 1) cc e = some p) : PS X (.Assign [.Name y py] e pos) (RSt W cc E ev (.asg (.nm i) p)) := by
  have hxi : ∀ j ∈ gIx (.nm i), cc.xi ≠ some j := fun j hj => by
    have : j = i := by simpa [gIx] using hj
    rw [this]
    exact hx
  have hk : X.env.scope.kind = .function := by rw [x.sc]; exact x.fun_
  rcases sw_name (y := y) (py := py) (l := pos.line) hk h with sw | ⟨elt, gs, scope, pos', rfl, hl, sw⟩
  · exact s_asg hxi (ok_e x.toXG h) (g_name x.toXG hy hi) sw (ss_noname rfl fun _ _ z => by cases z) rfl
  · obtain ⟨tg, it, ifs, own, g, ii, el, ct, rfl, hcold, hown, hb, hg, hit, he, hc, rfl⟩ := lc_inv h
    have hf : ∀ e p, cE n cc e = some p → notStar e = true ∧ PE X e (RE W cc 0 E ev p) := fun e p h => ⟨(cE_kind h).1, ok_e x.toXG h⟩
    obtain ⟨pi, ns⟩ := iter_ok x.toXG hf (fun e p h => (cE_kind h).2.2) (tgt_tup hg) hit
    obtain ⟨pe, pt⟩ := lc_parts (a := 0) n (all_ok n).1 (all_ok n).2 x.toXG hg hit he hc (xg_blk x.toXG hcold hown hb)
    exact s_asgN hx (k_setLc x.toXG hcold (ixOf_get hi) (by rw [← x.sc]; exact hl) sw hown hb hg pi pe pt (setIt ns))
end
end PV
/-! PVM: every block that has code. -/
namespace PV
open PySem PySem.Spec PyProof.Rows L2
def OkS (n : Nat) : Prop := ∀ (cc : CC) (st : Stmt) (c : QS), cS n cc st = some c → ∀ (W : WD) (k : Nat) (ev : Ev) (X : Cx) (E : WX), XS W cc k ev X E → PS X st (RSt W cc E ev c)
def OkB (n : Nat) : Prop := ∀ (cc : CC) (sts : List Stmt) (c : QSs), cSs n cc sts = some c → ∀ (W : WD) (k : Nat) (ev : Ev) (X : Cx) (E : WX), XS W cc k ev X E → PSs X sts (RSs W cc E ev c)
section
variable {W : WD} {cc : CC} {k : Nat} {ev : Ev} {X : Cx} {E : WX} {e : Expr} {p : QE} {pos : Pos} {n : Nat}
theorem exc_of {x : Str} {c : Nat} {fs : List Str} (h : excN cc x = some (c, fs)) : plainName x = true ∧ glB cc.sc x = true ∧ cc.gl.lookup x = some (.exc c fs) := by
  unfold excN at h
  split at h
  · rename_i hp
    rw [Bool.and_eq_true] at hp
    split at h
    · rename_i e0
      cases h
      exact ⟨hp.1, hp.2, e0⟩
    · cases h
  · cases h
theorem asg_ok (x : XS W cc k ev X E) {tg : Expr} {c : QS} (h : cAsg cc tg e = some c) : PS X (.Assign [tg] e pos) (RSt W cc E ev c) := by
  have hk : X.env.scope.kind = .function := by rw [x.sc]; exact x.fun_
  have plain : ∀ {g : QG} {p : QE}, (∀ y py, tg ≠ .Name y py) → swappedStores [tg] e X.env = pure none → cTgt cc 4 tg = some g → cE 60 cc e = some p → PS X (.Assign [tg] e pos) (RSt W cc E ev (.asg g p)) := fun {g p} hn hw h1 h2 =>
    s_asg (tgt_hx h1) (ok_e x.toXG h2) (g_all x.toXG 4 h1) (sw_some h2 hn) hw (assign1 (tgt_notStar h1) _)
  unfold cAsg at h
  split at h
  · rename_i y py
    split at h
    · rename_i i p h1 h2
      cases h
      obtain ⟨y', py', e1, hy, hi, hx⟩ := tgt1 h1
      cases e1
      exact asg_name x hy hi hx h2
    · cases h
  · rename_i ts kt pt
    split at h
    · rename_i vs k2 p2
      split at h
      · rename_i hno
        split at h
        · rename_i g p h1 h2
          cases h
          exact plain (fun _ _ z => by cases z) (ss_folded hno) h1 h2
        · cases h
      · unfold cPar at h
        split at h
        · rename_i xx px yy py a b
          split at h
          · rename_i hc
            simp only [Bool.and_eq_true, Bool.not_eq_true', decide_eq_true_eq] at hc
            obtain ⟨⟨⟨⟨⟨⟨⟨c1, c2⟩, c3⟩, c4⟩, c5⟩, c6⟩, c7⟩, c8⟩ := hc
            split at h
            · rename_i i j p q h1 h2 h3 h4
              cases h
              have lx := loc_of c4
              have ly := loc_of c5
              have s1 := (cE_kind h3).1
              have s2 := (cE_kind h4).1
              exact s_par x.toXG c1 c2 h1 h2 c3 lx ly s1 s2 (ok_e x.toXG h3) (ok_e x.toXG h4) (ss_par hk (by rw [x.sc]; exact lx) (by rw [x.sc]; exact ly) c3 c6 s1 s2 c7 c8)
            · cases h
          · cases h
        · cases h
    · rename_i hne
      split at h
      · rename_i g p h1 h2
        cases h
        refine plain (fun _ _ z => by cases z) (ss_notup ?_) h1 h2
        cases e <;> first | rfl | exact absurd rfl (hne _ _ _)
      · cases h
  · rename_i o i tp
    split at h
    · rename_i p q r h1 h2 h3
      cases h
      exact s_sub x.toXG (cE_kind h2).2.1 (ok_e x.toXG h3) (ok_e x.toXG h1) (ok_e x.toXG h2) (sw_some (tg := .Subscript o i tp) (l := pos.line) (env := X.env) h3 fun _ _ z => by cases z)
    · cases h
  · cases h
theorem blocks : ∀ n : Nat, OkS n ∧ OkB n
  | 0 => ⟨fun cc st c h => by simp [cS] at h, fun cc st c h => by simp [cSs] at h⟩
  | n + 1 => by
    obtain ⟨hS, hB⟩ := blocks n
    refine ⟨fun cc st c h W k ev X E x => ?_, fun cc sts c h W k ev X E x => ?_⟩
    · have bl : ∀ {sts : List Stmt} {c : QSs}, cSs n cc sts = some c → PSs X sts (RSs W cc E ev c) := fun {sts c} h => hB cc sts c h W k ev X E x
      cases st with
      | Expr e pos =>
        have gen : ∀ e, notLc e = true → (cE 60 cc e).map QS.expr = some c → PS X (.Expr e pos) (RSt W cc E ev c) := fun e hl h => by
          cases e1 : cE 60 cc e with
          | none => rw [e1] at h; cases h
          | some p =>
            rw [e1] at h
            cases h
            exact s_expr (ok_e x.toXG e1) (sw_none e1 hl)
        change (match (generalizing := false) e with
          | .Constant (.str _) _ _ => some QS.pass
          | e => if notLc e then (cE 60 cc e).map .expr else none) = some c at h
        split at h
        · cases h
          exact s_doc
        · split at h
          · rename_i hl
            exact gen _ hl h
          · cases h
      | Assign tgs e pos =>
        change (match (generalizing := false) tgs with
          | [tg] => cAsg cc tg e
          | _ => none) = some c at h
        split at h
        · exact asg_ok x h
        · cases h
      | AugAssign tg op e pos =>
        change (match (generalizing := false) tg with
          | .Name y _ => match cTgt cc 4 tg, cE 60 cc e with
            | some (.nm i), some p => some (QS.aug i op p)
            | _, _ => none
          | _ => none) = some c at h
        split at h
        · split at h
          · rename_i i p h1 h2
            cases h
            obtain ⟨y', py', e1, hy, hi, hx⟩ := tgt1 h1
            cases e1
            exact s_aug x.toXG hy hi hx (ok_e x.toXG h2)
          · cases h
        · cases h
      | Return v pos =>
        cases v with
        | none =>
          have h : some QS.retN = some c := h
          cases h
          exact s_retN
        | some e =>
          have h : (cE 60 cc e).map QS.ret = some c := h
          cases e1 : cE 60 cc e with
          | none => rw [e1] at h; cases h
          | some p =>
            rw [e1] at h
            cases h
            exact s_ret (ok_e x.toXG e1)
      | If cond b1 b2 pos =>
        change (match (generalizing := false) cT 60 cc cond, cSs n cc b1, cSs n cc b2 with
          | some t, some p, some q => some (QS.ife t p q)
          | _, _, _ => none) = some c at h
        split at h
        · rename_i h1 h2 h3
          cases h
          exact s_if (ok_t x.toXG h1) (bl h2) (bl h3)
        · cases h
      | While cond b el pos =>
        change (match (generalizing := false) el, cc.hot, cT 60 cc cond, cSs n cc b with
          | [], false, some t, some p => some (QS.whl t p)
          | _, _, _, _ => none) = some c at h
        split at h
        · rename_i h0 h1 h2
          cases h
          exact s_while x h0 (ok_t x.toXG h1) (bl h2)
        · cases h
      | For tg it b el pos =>
        change (match (generalizing := false) el, cc.hot, cTgt cc 4 tg with
          | [], false, some g => match cIter cc (cE 60 cc) g it, cSs n cc b with
            | some i, some p => some (QS.for g i p)
            | _, _ => none
          | _, _, _ => none) = some c at h
        split at h
        · rename_i g h0 h1
          split at h
          · rename_i i p h2 h3
            cases h
            obtain ⟨pi, ns⟩ := iter_ok (a := 0) x.toXG (fun e p h => ⟨(cE_kind h).1, ok_e x.toXG h⟩) (fun e p h => (cE_kind h).2.2) (tgt_tup h1) h2
            exact s_for x h0 (tgt_hx h1) pi (g_all x.toXG 4 h1) (bl h3) (setIt ns)
          · cases h
        · cases h
      | Raise ex ca pos =>
        change (match (generalizing := false) ex, ca, cc.hot with
          | some (.Call (.Name x _) [] [] _), none, false => match excN cc x with
            | some (c, []) => some (QS.raise c [] .nil)
            | _ => none
          | _, _, _ => none) = some c at h
        split at h
        · rename_i h0
          split at h
          · rename_i h1
            cases h
            obtain ⟨n1, n2, n3⟩ := exc_of h1
            exact s_raise0 x.toXG h0 n1 n2 n3
          · cases h
        · cases h
      | Try b hs el fi pos =>
        change (match (generalizing := false) hs, el, fi, cc.hot, cc.xi with
          | [.ExceptHandler (some (.Name x _)) nm (s0 :: ss) _], [], [], false, none => match excN cc x with
            | some (c, fs) => match nm with
              | none => match cSs n cc b, cSs n (cc.sui none) (s0 :: ss) with
                | some p, some q => some (QS.try p c none q)
                | _, _ => none
              | some y => match ixOf cc.N y with
                | some i => match isLoc cc.sc y, cSs n cc b, cSs n (cc.sui (some i)) (s0 :: ss) with
                  | true, some p, some q => some (QS.try p c (some i) q)
                  | _, _, _ => none
                | none => none
            | none => none
          | _, _, _, _, _ => none) = some c at h
        split at h
        · rename_i h0 hxi
          split at h
          · rename_i cx fs h1
            obtain ⟨n1, n2, n3⟩ := exc_of h1
            split at h
            · split at h
              · rename_i p q h2 h3
                cases h
                exact s_try_only x h0 hxi n1 n2 n3 (fun X' E' x' => hB cc _ _ h2 W k ev X' E' x') (fun W' ev' X' x' => hB _ _ _ h3 W' k ev' X' F0 x')
              · cases h
            · split at h
              · rename_i i hi
                split at h
                · rename_i p q hl h2 h3
                  cases h
                  exact s_try_as x h0 hxi n1 n2 n3 hi (loc_of hl) (fun X' E' x' => hB cc _ _ h2 W k ev X' E' x') (fun W' ev' X' x' => hB _ _ _ h3 W' k ev' X' F0 x')
                · cases h
              · cases h
          · cases h
        · cases h
      | Pass pos =>
        have h : some QS.pass = some c := h
        cases h
        exact s_pass
      | Break pos =>
        have h : some QS.brk = some c := h
        cases h
        exact s_brk
      | Continue pos =>
        have h : some QS.cnt = some c := h
        cases h
        exact s_cnt
      | _ => cases h
    · cases sts with
      | nil =>
        have h : some QSs.nil = some c := h
        cases h
        exact ss_nil
      | cons st sts =>
        change (match (generalizing := false) cS n cc st, cSs n cc sts with
          | some p, some q => some (QSs.cons p q)
          | _, _ => none) = some c at h
        split at h
        · rename_i p q h1 h2
          cases h
          exact ss_cons (hS cc st p h1 W k ev X E x) (hB cc sts q h2 W k ev X E x)
        · cases h
end
end PV
/-! PVN: a def keeps its promise; all defs, level by level. -/
namespace PV
open PySem PySem.Spec PyProof.Rows L2
/-! ### what a def leaves -/
section
variable {G : GW} {m l : List Addr} {H : Hp} {a : Addr}
theorem fs_lt {K : PySem.W.Frag} : ∀ {fs : List (Str × D)} {vs : List (Str × V)}, FsR K m H fs vs → fsLt m.length fs = true
  | _, _, .nil => rfl
  | _, _, .cons a r => by
    unfold fsLt
    rw [a.2.lt, fs_lt r]
    rfl
theorem kv_lt {K : PySem.W.Frag} : ∀ {fs : List (L2.Key × D)} {vs : List (L2.Key × V)}, KvR K m H fs vs → kvLt m.length fs = true
  | _, _, .nil => rfl
  | _, _, .cons a r => by
    unfold kvLt
    rw [a.2.lt, kv_lt r]
    rfl
theorem cell_lt {c : Cell} (r : CellR G m H a c) : Cell.lt m.length c = true := by
  cases c with
  | lst ds => obtain ⟨vs, _, d⟩ := r; exact d.lts
  | obj C fs => obtain ⟨_, _, _, _, _, d⟩ := r; exact fs_lt d
  | dct kvs => obtain ⟨_, _, d⟩ := r; exact kv_lt d
theorem fs_cut {K : PySem.W.Frag} : ∀ {fs : List (Str × D)} {vs : List (Str × V)}, FsR K (m ++ l) H fs vs → fsLt m.length fs = true → FsR K m H fs vs
  | _, _, .nil, _ => .nil
  | _, _, .cons a r, h => by
    unfold fsLt at h
    rw [Bool.and_eq_true] at h
    exact .cons ⟨a.1, a.2.cut h.1⟩ (fs_cut r h.2)
theorem kv_cut {K : PySem.W.Frag} : ∀ {fs : List (L2.Key × D)} {vs : List (L2.Key × V)}, KvR K (m ++ l) H fs vs → kvLt m.length fs = true → KvR K m H fs vs
  | _, _, .nil, _ => .nil
  | _, _, .cons a r, h => by
    unfold kvLt at h
    rw [Bool.and_eq_true] at h
    exact .cons ⟨a.1, a.2.cut h.1⟩ (kv_cut r h.2)
theorem cell_cut {c : Cell} (r : CellR G (m ++ l) H a c) (h : Cell.lt m.length c = true) : CellR G m H a c := by
  cases c with
  | lst ds => obtain ⟨vs, e, d⟩ := r; exact ⟨vs, e, d.cut h⟩
  | obj C fs => obtain ⟨Ca, dx, vs, e1, e2, d⟩ := r; exact ⟨Ca, dx, vs, e1, e2, fs_cut d h⟩
  | dct kvs => obtain ⟨vs, e, d⟩ := r; exact ⟨vs, e, kv_cut d h⟩
end
theorem keeps_get {n : Nat} : ∀ {h h' : Hd} {i : Nat} {c : Cell}, keepsCells n h h' = true → i < h.length → h'[i]? = some c → h[i]? = some c ∨ Cell.lt n c = true
  | [], _, _, _, _, hi, _ => by cases hi
  | a :: r, [], _, _, k, _, _ => by cases k
  | a :: r, b :: s, 0, c, k, _, e => by
    unfold keepsCells at k
    rw [Bool.and_eq_true, Bool.or_eq_true] at k
    have e : b = c := by simpa using e
    subst e
    rcases k.1 with k | k
    · exact .inl (by rw [Cell.eq_of_beq a b k]; rfl)
    · exact .inr k
  | a :: r, b :: s, i + 1, c, k, hi, e => by
    unfold keepsCells at k
    rw [Bool.and_eq_true] at k
    exact keeps_get (i := i) k.2 (by simpa using hi) (by simpa using e)
theorem gc_step {G : GW} {m m' : List Addr} {h h' : Hd} {H H' : Hp} (r : Rel G m h H) (st : Step m H m' H') (r' : Rel G m' h' H') (g : gcOk h h' = true) : Step m H m H' ∧ Rel G m (h'.take h.length) H' := by
  obtain ⟨l, e, n⟩ := st.pre
  have hl : h.length ≤ h'.length := by rw [← r.len, ← r'.len, e, List.length_append]; omega
  refine ⟨⟨⟨[], by simp, fun _ z => by cases z⟩, fun a ha => st.live a (by rw [e]; exact List.mem_append_left _ ha), st.keep, st.tups, st.frzs⟩, ⟨by rw [List.length_take, Nat.min_eq_left hl]; exact r.len, r.nd, fun i c a e1 e2 => ?_, fun p hp => ⟨(r'.pin p hp).1, fun z => (r'.pin p hp).2 (by rw [e]; exact List.mem_append_left _ z)⟩⟩⟩
  have hi : i < h.length := by
    rw [← r.len]
    exact (List.getElem?_eq_some_iff.mp e2).1
  have e1 : h'[i]? = some c := by rwa [List.getElem?_take_of_lt hi] at e1
  have c1 := r'.cell i c a e1 (st.get i a e2)
  rw [e] at c1
  refine cell_cut c1 ?_
  rcases keeps_get g hi e1 with k | k
  · exact cell_lt (r.cell i c a k e2)
  · rw [r.len]
    exact k
theorem gc_ok {G : GW} {m m' : List Addr} {h h' : Hd} {H H' : Hp} {d : D} {v : V} {Q : VK} {E : XKE} (r : Rel G m h H) (z : Sat G (RD G) m H (gc h d h') Q E) (st : Step m H m' H') (r' : Rel G m' h' H') (dv : DR G.K m' H' d v) : Q v H' := by
  unfold gc at z
  split at z
  · rename_i g
    rw [Bool.and_eq_true] at g
    obtain ⟨st2, r2⟩ := gc_step r st r' g.1
    obtain ⟨l, e, _⟩ := st.pre
    rw [e] at dv
    exact z m H' v st2 r2 (dv.cut (by rw [r.len]; exact g.2))
  · exact z m' H' v st r' dv
theorem gcE_ok {G : GW} {m m' : List Addr} {h h' : Hd} {H H' : Hp} {e : Exn} {cls : Value} {dx : Option Addr} {Q : VK} {E : XKE} (r : Rel G m h H) (z : Sat G (RD G) m H (gcE h e h') Q E) (st : Step m H m' H') (r' : Rel G m' h' H') (er : ExR G m' H' e cls dx) : E cls dx H' := by
  unfold gcE at z
  split at z
  · rename_i g
    rw [Bool.and_eq_true] at g
    obtain ⟨st2, r2⟩ := gc_step r st r' g.1
    exact z m H' cls dx st2 r2 er
  · exact z m' H' cls dx st r' er
/-- the slots at the entry -/
theorem start_rel {G : GW} {m : List Addr} {H : Hp} {N : List Str} {ds : List D} {vs : List V} (d : DRs G.K m H ds vs) : SR G m H (startD N.length ds) (L2.start N vs) := by
  refine ⟨by simp [startD, L2.start, d.length], fun i x e => ?_⟩
  unfold startD at e
  by_cases hi : i < ds.length
  · rw [List.getElem?_append_left (by simpa using hi), List.getElem?_map] at e
    cases q : ds[i]? with
    | none => rw [q] at e; cases e
    | some y =>
      rw [q] at e
      cases e
      obtain ⟨v, e1, dv⟩ := d.get q
      refine ⟨v, ?_, dv⟩
      unfold L2.start
      rw [List.getElem?_append_left (by rw [List.length_map, ← d.length]; exact hi), List.getElem?_map, e1]
      rfl
  · rw [List.getElem?_append_right (by simpa using hi)] at e
    rw [List.getElem?_replicate] at e
    split at e <;> cases e
def asOf (l : List (Str × NameKind)) : List Str := l.filterMap fun p => match p.2 with
  | .local => some p.1
  | .cell => some p.1
  | _ => none
/-- the names that a def may store -/
def asOk (sc : Scope) : Bool := (asOf sc.names).all fun x => match sc.names.lookup x with
  | some .local => true
  | some .cell => true
  | _ => false
theorem asOk_loc {sc : Scope} (h : asOk sc = true) {x : Str} (hx : x ∈ asOf sc.names) : Loc sc x := by
  have := List.all_eq_true.mp h x hx
  split at this
  · exact .inl (by assumption)
  · exact .inr (by assumption)
  · cases this
/-- what is known of a def without regard to its level -/
structure FnSt (W : WD) (gl : List (Str × Gv)) (fns : List FnC) (x : Str) (i np : Nat) (shapes : List (Nat × List Str × Arr)) : Prop where
  ex : ∃ (f : Addr) (fd : FuncData) (ps N : List Str) (y qual : Str) (params : Arguments) (body : List Stmt) (scope : Scope) (dvs : List V) (kws : List (Str × V)) (code : QSs), W.mg x = some (.ref f) ∧ ps.length = np ∧ FunD W.G.K y qual params body scope dvs kws f fd ∧ FnScope N ps scope ∧ asOk scope = true ∧
    fns[i]? = some ⟨np, N.length, code⟩ ∧ cSs 40 ⟨N, scope, asOf scope.names, gl, false, none⟩ body = some code ∧ ∀ n ks arr, (n, ks, arr) ∈ shapes → arr.length = np ∧ arrFlat arr = true ∧ ∃ g, KBn W.G.K fd ps n ks g (arrV arr)
/-- what is known of a global name without regard to the level -/
def GvSt (W : WD) (gl : List (Str × Gv)) (fns : List FnC) (x : Str) : Gv → Prop
  | .fn i np shapes => FnSt W gl fns x i np shapes
  | v => GvOk W 0 ⟨fun _ _ _ => .no, 0, none, fun _ _ => false⟩ x v
def evk (fns : List FnC) (sub : Nat → Nat → Bool) (fuel k : Nat) : Ev := ⟨callI fns sub fuel k, fuel, none, sub⟩
theorem fn_body {W : WD} {gl : List (Str × Gv)} {fns : List FnC} {sub : Nat → Nat → Bool} {fuel k : Nat} (hg : ∀ x v, gl.lookup x = some v → GvOk W k (evk fns sub fuel k) x v) (hc : ∀ c Ca, W.G.cl c = some Ca → ClsOk W (evk fns sub fuel k) c Ca) {i np : Nat} {f : Addr} {fd : FuncData} {ps N : List Str} {y qual : Str} {params : Arguments} {body : List Stmt} {scope : Scope} {dvs : List V} {kws : List (Str × V)} {code : QSs}
    (h2 : ps.length = np) (FD : FunD W.G.K y qual params body scope dvs kws f fd) (S : FnScope N ps scope) (ha : asOk scope = true) (hf : fns[i]? = some ⟨np, N.length, code⟩) (hcd : cSs 40 ⟨N, scope, asOf scope.names, gl, false, none⟩ body = some code) :
    FnOk W.P W.w W.G.K W.mg W.base (L2.CX W.P W.w) (2 * (k + 1)) f fd ps (spF W.G np (callI fns sub fuel (k + 1) i)) := by
  refine FD.ok (k := 2 * k + 1) S (fun vs H Q E ⟨m, h, ds, r, d, l, z⟩ => by rw [← d.length, l, h2]) fun cdv A outer s H vs Q E hr hsp => ?_
  have r2 : Room (2 * k) (A.deeper (envOfC qual scope s.heap.objs.size f cdv)) := hr.mono (by omega)
  have xs : XS W ⟨N, scope, asOf scope.names, gl, false, none⟩ k (evk fns sub fuel k) (cxOf (L2.CX W.P W.w) W.P W.w W.G.K W.mg W.base N qual scope f cdv A outer s H E) (fun c d _ H => E c d H) := by
    refine ⟨⟨rfl, rfl, rfl, rfl, rfl, rfl, S.nd, rfl, fun y hy => ⟨asOk_loc ha hy, .inl rfl⟩, fun _ => ⟨rfl, r2⟩, ?_, takes_of rfl rfl rfl rfl, hg, hc, fun z => by cases z⟩, fun _ => passes_of rfl, fun _ => ⟨rfl, rfl⟩, S.kind⟩
    have := r2.un
    show (A.deeper (envOfC qual scope s.heap.objs.size f cdv)).units + 64 < cLine
    omega
  refine ⟨_, (blocks 40).2 _ _ _ hcd W k _ _ _ xs, ?_⟩
  obtain ⟨m, h, ds, r, d, l, z⟩ := hsp
  have z : Sat W.G (RD W.G) m H (match fns[i]? with
    | none => .no
    | some fn => match decide (ds.length = fn.np) with
      | false => .no
      | true => match exSs (evk fns sub fuel k) fn.code (startD fn.nn ds) h with
        | .rt d h' => gc h d h'
        | .nx _ h' => gc h .non h'
        | .ex e _ h' => gcE h e h'
        | _ => .no) Q E := z
  rw [hf] at z
  have z : Sat W.G (RD W.G) m H (match decide (ds.length = np) with
      | false => .no
      | true => match exSs (evk fns sub fuel k) code (startD N.length ds) h with
        | .rt d h' => gc h d h'
        | .nx _ h' => gc h .non h'
        | .ex e _ h' => gcE h e h'
        | _ => .no) Q E := z
  rw [decide_eq_true l] at z
  have z : Sat W.G (RD W.G) m H (match exSs (evk fns sub fuel k) code (startD N.length ds) h with
        | .rt d h' => gc h d h'
        | .nx _ h' => gc h .non h'
        | .ex e _ h' => gcE h e h'
        | _ => .no) Q E := z
  refine ⟨m, h, startD N.length ds, r, start_rel d, trivial, ?_⟩
  cases e0 : exSs (evk fns sub fuel k) code (startD N.length ds) h with
  | nx s2 h2 =>
    rw [e0] at z
    exact fun m' H' σ' st r' _ _ => gc_ok r z st r' .non
  | rt d2 h2 =>
    rw [e0] at z
    exact fun m' H' v st r' dv => gc_ok r z st r' dv
  | ex e s2 h2 =>
    rw [e0] at z
    exact fun m' H' σ' cls dx st r' _ _ er => gcE_ok r z st r' er
  | bk s2 h2 => rw [e0] at z; exact False.elim z
  | ct s2 h2 => rw [e0] at z; exact False.elim z
  | no => rw [e0] at z; exact False.elim z
theorem fn_level {W : WD} {gl : List (Str × Gv)} {fns : List FnC} {sub : Nat → Nat → Bool} {fuel k : Nat} (hg : ∀ x v, gl.lookup x = some v → GvOk W k (evk fns sub fuel k) x v) (hc : ∀ c Ca, W.G.cl c = some Ca → ClsOk W (evk fns sub fuel k) c Ca) {x : Str} {i np : Nat} {shapes : List (Nat × List Str × Arr)} (F : FnSt W gl fns x i np shapes) : GvOk W (k + 1) (evk fns sub fuel (k + 1)) x (.fn i np shapes) := by
  obtain ⟨f, fd, ps, N, y, qual, params, body, scope, dvs, kws, code, h1, h2, FD, S, ha, hf, hcd, hsh⟩ := F.ex
  exact ⟨f, fd, ps, h1, FD.kp, h2, fn_body hg hc h2 FD S ha hf hcd, hsh⟩
theorem fn_zero {W : WD} {gl : List (Str × Gv)} {fns : List FnC} {sub : Nat → Nat → Bool} {fuel : Nat} {x : Str} {i np : Nat} {shapes : List (Nat × List Str × Arr)} (F : FnSt W gl fns x i np shapes) : GvOk W 0 (evk fns sub fuel 0) x (.fn i np shapes) := by
  obtain ⟨f, fd, ps, N, y, qual, params, body, scope, dvs, kws, code, h1, h2, FD, S, ha, hf, hcd, hsh⟩ := F.ex
  exact ⟨f, fd, ps, h1, FD.kp, h2, ⟨fun vs H Q E ⟨m, h, ds, r, d, l, z⟩ => by rw [← d.length, l, h2], fun A outer s H args us vs Q E hr e0 hb hv ⟨m, h, ds, r, d, l, z⟩ => False.elim z⟩, hsh⟩
theorem levels {W : WD} {gl : List (Str × Gv)} {fns : List FnC} {sub : Nat → Nat → Bool} {fuel : Nat} (hs : ∀ x v, gl.lookup x = some v → GvSt W gl fns x v) (hc : ∀ k c Ca, W.G.cl c = some Ca → ClsOk W (evk fns sub fuel k) c Ca) : ∀ k x v, gl.lookup x = some v → GvOk W k (evk fns sub fuel k) x v
  | 0, x, v, e => by
    have h := hs x v e
    cases v with
    | fn i np shapes => exact fn_zero h
    | _ => exact h
  | k + 1, x, v, e => by
    have h := hs x v e
    cases v with
    | fn i np shapes => exact fn_level (levels hs hc k) (hc k) h
    | _ => exact h
end PV
/-! PVO: the head's facts, the end. -/
namespace PV
open PySem PySem.Spec PyProof.Rows L2
theorem fnScope_by {N P : List Str} {sc : Scope} (h : C8.scC N P sc = true) : FnScope N P sc := C8.fnScope_by h
/-! ### how a call is bound -/
abbrev ArrN := List (Sum (Sum Nat Nat) Nat)
def arrU (its : List Value) (arr : ArrN) (us ws : List Value) : List Value := arr.map fun a => match a with
  | .inl (.inl i) => us.getD i .none
  | .inl (.inr i) => ws.getD i .none
  | .inr j => its.getD j .none
def arrOf (dd : List D) (arr : ArrN) : Arr := arr.map fun a => match a with
  | .inl i => .inl i
  | .inr j => .inr (dd.getD j .non)
theorem vals_getD {vs : List V} {us : List Value} (r : Vals vs us) : ∀ i, RelV (vs.getD i .non) (us.getD i .none) := by
  induction r with
  | nil => intro i; cases i <;> rfl
  | cons a _ ih =>
    intro i
    cases i with
    | zero => exact a
    | succ i => simpa using ih i
theorem arr_vals {dd : List D} {dvs : List V} {its : List Value} (hd : dvs = dd.map toV) (r0 : Vals dvs its) {vs : List V} {us : List Value} {zs : List V} {ws : List Value} (r1 : Vals vs us) (r2 : Vals zs ws) : ∀ arr : ArrN, Vals (arrV (arrOf dd arr) vs zs) (arrU its arr us ws)
  | [] => .nil
  | a :: r => by
    refine .cons ?_ (arr_vals hd r0 r1 r2 r)
    match a with
    | .inl (.inl i) => exact vals_getD r1 i
    | .inl (.inr i) => exact vals_getD r2 i
    | .inr j =>
      have h := vals_getD r0 j
      rw [hd] at h
      have e : (dd.map toV).getD j .non = toV (dd.getD j .non) := by
        rw [List.getD_eq_getElem?_getD, List.getD_eq_getElem?_getD, List.getElem?_map]
        cases dd[j]? <;> rfl
      rw [e] at h
      exact h
section
variable {K : PySem.W.Frag} {x qual : Str} {params : Arguments} {body : List Stmt} {scope : Scope} {dvs : List V} {kws : List (Str × V)} {f : Addr} {fd : FuncData} {ps : List Str}
theorem kb_A (F : FunD K x qual params body scope [] kws f fd) {n : Nat} {ks : List Str} (arr : ArrN) (h : ∀ (kV doc pm : Value) (an : Option Addr) (cdv ct : Value) (us ws : List Value), us.length = n → ws.length = ks.length → bindArgs (PySem.W.fnOf x qual params body scope .none kV doc pm an cdv ct) ⟨us, ks.zip ws⟩ = pure (ps.zip (arrU [] arr us ws))) : ∃ g, KBn K fd ps n ks g (arrV (arrOf [] arr)) := by
  obtain ⟨oc, od, dV, kV, doc, pm, an, cdv, ct, osl, rfl, lk, hcd, hD, hK⟩ := F.ex
  rcases hD with ⟨_, rfl⟩ | ⟨e, _⟩
  · exact ⟨_, fun s us ws X l1 l2 => .of_eq (h kV doc pm an cdv ct us ws l1 l2), fun r1 r2 => arr_vals rfl .nil r1 r2 arr⟩
  · exact absurd rfl e
theorem kb_B (F : FunD K x qual params body scope dvs kws f fd) {n : Nat} {ks : List Str} (dd : List D) (arr : ArrN) (hne : dd ≠ []) (hd : dvs = dd.map toV) (h : ∀ (T : Addr) (kV doc pm : Value) (an : Option Addr) (cdv ct : Value) (us ws its : List Value), us.length = n → ws.length = ks.length → its.length = dd.length →
      ∃ k, bindArgs (PySem.W.fnOf x qual params body scope (.ref T) kV doc pm an cdv ct) ⟨us, ks.zip ws⟩ = seqItems? (.ref T) >>= k ∧ k (some its.toArray) = pure (ps.zip (arrU its arr us ws))) : ∃ g, KBn K fd ps n ks g (arrV (arrOf dd arr)) := by
  obtain ⟨oc, od, dV, kV, doc, pm, an, cdv, ct, osl, rfl, lk, hcd, hD, hK⟩ := F.ex
  rcases hD with ⟨e, _⟩ | ⟨_, T, o, its, m, rfl, lT, oT, rT⟩
  · rw [hd] at e
    exact absurd (List.map_eq_nil_iff.mp e) hne
  · refine ⟨_, fun s us ws X l1 l2 => ?_, fun r1 r2 => arr_vals hd rT r1 r2 arr⟩
    obtain ⟨k, e1, e2⟩ := h T kV doc pm an cdv ct us ws its l1 l2 (by rw [← rT.length, hd, List.length_map])
    refine BindsTo.of_looks fun M => ?_
    rw [e1]
    exact looks_items X lT oT (.of_pure e2)
/-- keyword-only parameters; ms: those that lack (no positional defaults) -/
theorem kb_K (F : FunD K x qual params body scope [] kws f fd) {n : Nat} {ks : List Str} (ms : List (Str × D)) (arr : ArrN) (hk : kws ≠ []) (hms : ∀ q ∈ ms.map (fun q => (q.1, toV q.2)), q ∈ kws) (h : ∀ (T : Addr) (doc pm : Value) (an : Option Addr) (cdv ct : Value) (us ws mv : List Value), us.length = n → ws.length = ks.length → mv.length = ms.length →
      KwChain T ((ms.map (·.1)).zip mv) (bindArgs (PySem.W.fnOf x qual params body scope .none (.ref T) doc pm an cdv ct) ⟨us, ks.zip ws⟩) (ps.zip (arrU mv arr us ws))) : ∃ g, KBn K fd ps n ks g (arrV (arrOf (ms.map (·.2)) arr)) := by
  obtain ⟨oc, od, dV, kV, doc, pm, an, cdv, ct, osl, rfl, lk, hcd, hD, hK⟩ := F.ex
  rcases hD with ⟨_, rfl⟩ | ⟨e, _⟩
  · rcases hK with e | ⟨T, rfl, hq⟩
    · exact absurd e hk
    · obtain ⟨mv, hl, rk, hks⟩ := kwd_vals (ms := ms.map (fun q => (q.1, toV q.2))) fun q hm => hq q (hms q hm)
      rw [List.length_map] at hl
      have e1 : (ms.map (fun q => (q.1, toV q.2))).map (·.1) = ms.map (·.1) := by rw [List.map_map]; rfl
      have e2 : (ms.map (fun q => (q.1, toV q.2))).map (·.2) = (ms.map (·.2)).map toV := by rw [List.map_map, List.map_map]; rfl
      rw [e1] at hks
      exact ⟨_, fun s us ws X l1 l2 => BindsTo.of_looks fun M => KwChain.looks X hks (h T doc pm an cdv ct us ws mv l1 l2 hl), fun r1 r2 => arr_vals e2 rk r1 r2 arr⟩
  · exact absurd rfl e
end
/-! ### the law's data -/
structure LawD where
  gl : List (Str × Gv)
  fns : List FnC
  sub : Nat → Nat → Bool
  cls : List Str
  dd : List He.DefD
def gwOf (cls : List Str) (K : PySem.W.Frag) : GW := ⟨K, fun c => (cls[c]?).map fun x => He.ga K x, []⟩
def wdOf (L : LawD) (P : Program) (w : World) (K : PySem.W.Frag) (mg : Str → Option Value) (base : Heap) : WD := ⟨P, w, mg, base, gwOf L.cls K, 0⟩
/-- what is said of a def -/
structure DefOk (L : LawD) (d : He.DefD) (i np : Nat) (shapes : List (Nat × List Str × Arr)) : Prop where
  ex : ∃ (ps N : List Str) (code : QSs), ps.length = np ∧ FnScope N ps d.scope ∧ asOk d.scope = true ∧ L.fns[i]? = some ⟨np, N.length, code⟩ ∧ cSs 40 ⟨N, d.scope, asOf d.scope.names, L.gl, false, none⟩ d.body = some code ∧
    ∀ (K : PySem.W.Frag) (f : Addr) (fd : FuncData), FunD K d.name d.qual d.params d.body d.scope (d.dvs K) (d.kws K) f fd → ∀ n ks arr, (n, ks, arr) ∈ shapes → arr.length = np ∧ arrFlat arr = true ∧ ∃ g, KBn K fd ps n ks g (arrV arr)
def GvT (L : LawD) (x : Str) : Gv → Prop
  | .fn i np shapes => ∃ d, L.dd[i]? = some d ∧ d.at_ = (x, none) ∧ DefOk L d i np shapes
  | _ => True
def AllT (L : LawD) : List (Str × Gv) → Prop
  | [] => True
  | p :: r => GvT L p.1 p.2 ∧ AllT L r
theorem allT_mem {L : LawD} : ∀ {l : List (Str × Gv)} {x : Str} {v : Gv}, AllT L l → l.lookup x = some v → GvT L x v
  | [], _, _, _, e => by cases e
  | (y, u) :: r, x, v, h, e => by
    rw [List.lookup_cons] at e
    split at e
    · rename_i q
      cases e
      rw [beq_iff_eq.mp q]
      exact h.1
    · exact allT_mem h.2 e
mutual
def dB (K : PySem.W.Frag) : D → Value → Bool
  | .non, .none => true
  | .bl a, .bool b => a == b
  | .int i, .int j _ => decide (i = j)
  | .str x, .str y _ => decide (x = y)
  | .tup ds, .ref T => match K.lookup T with
    | some ⟨.type c, _, .seq its _, _⟩ => decide (c = "tuple") && (decide (its.size ≤ sizeLine) && dBs K ds its.toList)
    | _ => false
  | _, _ => false
def dBs (K : PySem.W.Frag) : List D → List Value → Bool
  | [], [] => true
  | d :: ds, u :: us => dB K d u && dBs K ds us
  | _, _ => false
end
mutual
theorem dB_ok {K : PySem.W.Frag} : ∀ {d : D} {u : Value}, dB K d u = true → ∃ v, RelV v u ∧ ∀ m H, DR K m H d v
  | .non, u, h => by cases u <;> first | exact ⟨.non, rfl, fun _ _ => .non⟩ | simp [dB] at h
  | .bl a, u, h => by
    cases u with
    | bool b =>
      have e : a = b := by simpa [dB] using h
      exact ⟨.bl a, by rw [e]; rfl, fun _ _ => .bl a⟩
    | _ => simp [dB] at h
  | .int i, u, h => by
    cases u with
    | int j t =>
      have e : i = j := by simpa [dB] using h
      exact ⟨.int i, ⟨t, by rw [e]⟩, fun _ _ => .int i⟩
    | _ => simp [dB] at h
  | .str i, u, h => by
    cases u with
    | str j t =>
      have e : i = j := by simpa [dB] using h
      exact ⟨.str i, ⟨t, by rw [e]⟩, fun _ _ => .str i⟩
    | _ => simp [dB] at h
  | .tup ds, u, h => by
    cases u with
    | ref T =>
      unfold dB at h
      split at h
      · rename_i c dx its n sl q
        simp only [Bool.and_eq_true, decide_eq_true_eq] at h
        obtain ⟨vs, rv, rd⟩ := dBs_ok h.2.2
        exact ⟨.ref T, rfl, fun m H => .tup (.inr ⟨_, its, n, q, congrArg Value.type h.1, rfl, h.2.1, rv⟩) (rd m H)⟩
      · cases h
    | _ => simp [dB] at h
  | .fl _, u, h => by cases u <;> simp [dB] at h
  | .ref _, u, h => by cases u <;> simp [dB] at h
theorem dBs_ok {K : PySem.W.Frag} : ∀ {ds : List D} {us : List Value}, dBs K ds us = true → ∃ vs, Vals vs us ∧ ∀ m H, DRs K m H ds vs
  | [], [], _ => ⟨[], .nil, fun _ _ => .nil⟩
  | [], _ :: _, h => by simp [dBs] at h
  | _ :: _, [], h => by simp [dBs] at h
  | d :: ds, u :: us, h => by
    unfold dBs at h
    rw [Bool.and_eq_true] at h
    obtain ⟨v, r1, d1⟩ := dB_ok h.1
    obtain ⟨vs, r2, d2⟩ := dBs_ok h.2
    exact ⟨v :: vs, .cons r1 r2, fun m H => .cons (d1 m H) (d2 m H)⟩
end
def freeB (K : PySem.W.Frag) (x : Str) : Bool := He.eqO (PySem.W.nsIn K mainGlobals x) (some none)
def globB (K : PySem.W.Frag) (x : Str) : Bool := He.eqO (PySem.W.nsIn K mainGlobals x) (some (some (.ref (He.ga K x))))
def gvB (cls : List Str) (K : PySem.W.Frag) (x : Str) : Gv → Bool
  | .con d => match PySem.W.nsIn K mainGlobals x with
    | some (some u) => dB K d u
    | _ => false
  | .fn _ _ _ => globB K x
  | .bi .gcd => He.eqO (PySem.W.nsIn K mainGlobals x) (some (some (.builtin "math.gcd")))
  | .exc c fs => decide (cls[c]? = some x) && globB K x && (!fs.isEmpty || PySem.W.excIn K (He.ga K x) He.veBase "ValueError.__new__")
  | _ => freeB K x
def bootB (x : Str) : Gv → Bool
  | .bi .gcd => true
  | .bi b => He.eqO (some (bootBuiltins x)) (some (some b.val))
  | .ty t => He.eqO (some (bootBuiltins x)) (some (some (.type t.nm)))
  | .isi => He.eqO (some (bootBuiltins x)) (some (some (.builtin "isinstance")))
  | .rng => decide (x = "range")
  | .zip => decide (x = "zip")
  | _ => true
def clsB1 (K : PySem.W.Frag) (C : Addr) : Bool := PySem.W.keepIn K (.ref C) && (He.eqO (PySem.W.findIn K (.ref C) "__getattribute__") (some (some (.builtin "BaseException.__getattribute__"))) && (He.eqO (PySem.W.findIn K (.ref C) "__getattr__") (some none) && (decide (PySem.W.subIn K (.ref C) (.type "BaseException") = some true) &&
  (PySem.W.hasDictIn K C && (He.eqO (PySem.W.findIn K (.ref C) "__class__") (some (some (.builtin "object.__class__"))) && (He.eqO (PySem.W.specialIn K (.builtin "object.__class__") "__get__") (some (some (.builtin "getset_descriptor.__get__"))) && (decide (PySem.W.takesIn K (.builtin "object.__class__") = some true) &&
  (decide (PySem.W.mroIn K C (.type "object") = some true) && (decide (PySem.W.typeIn K (.ref C) = some (.type "type")) && xFlds.all fun f => He.eqO (PySem.W.findIn K (.ref C) f) (some none))))))))))
/-- pairs of classes, numbered -/
def clsB2 (K : PySem.W.Frag) (sub : Nat → Nat → Bool) (cls : List Str) (c : Nat) (C : Addr) : Bool := (List.range cls.length).all fun d => match cls[d]? with
  | some y => decide (PySem.W.exmOne K (.ref C) (.ref (He.ga K y)) = some (sub c d)) && decide (PySem.W.kitOne K (.ref C) (.ref (He.ga K y)) = some (sub c d))
  | none => false
def clsB (K : PySem.W.Frag) (sub : Nat → Nat → Bool) (cls : List Str) : Bool := (List.range cls.length).all fun c => match cls[c]? with
  | some x => clsB1 K (He.ga K x) && clsB2 K sub cls c (He.ga K x)
  | none => false
/-- what the head's run is to tell -/
def exB (L : LawD) (K : PySem.W.Frag) : Bool := (L.gl.all fun p => gvB L.cls K p.1 p.2) && clsB K L.sub L.cls
section
variable {L : LawD} {P : Program} {w : World} {K : PySem.W.Frag} {mg : Str → Option Value} {base : Heap}
theorem cls_ok (h : clsB K L.sub L.cls = true) (ev : Ev) (hs : ev.sub = L.sub) (c : Nat) (Ca : Addr) (e : (gwOf L.cls K).cl c = some Ca) : ClsOk (wdOf L P w K mg base) ev c Ca := by
  have e : ((L.cls[c]?).map fun x => He.ga K x) = some Ca := e
  cases e1 : L.cls[c]? with
  | none => rw [e1] at e; cases e
  | some x =>
    rw [e1] at e
    cases e
    have hc : c ∈ List.range L.cls.length := List.mem_range.mpr (List.getElem?_eq_some_iff.mp e1).1
    have h1 := List.all_eq_true.mp h c hc
    rw [e1] at h1
    have h1 : (clsB1 K (He.ga K x) && clsB2 K L.sub L.cls c (He.ga K x)) = true := h1
    rw [Bool.and_eq_true] at h1
    obtain ⟨h2, h3⟩ := h1
    unfold clsB1 at h2
    simp only [Bool.and_eq_true, decide_eq_true_eq] at h2
    obtain ⟨a1, a2, a3, a4, a5, a6, a7, a8, a9, a10, a11⟩ := h2
    have pair : ∀ d Da, (gwOf L.cls K).cl d = some Da → PySem.W.exmOne K (.ref (He.ga K x)) (.ref Da) = some (L.sub c d) ∧ PySem.W.kitOne K (.ref (He.ga K x)) (.ref Da) = some (L.sub c d) := fun d Da ed => by
      have ed : ((L.cls[d]?).map fun x => He.ga K x) = some Da := ed
      cases e2 : L.cls[d]? with
      | none => rw [e2] at ed; cases ed
      | some y =>
        rw [e2] at ed
        cases ed
        have hd : d ∈ List.range L.cls.length := List.mem_range.mpr (List.getElem?_eq_some_iff.mp e2).1
        have h4 := List.all_eq_true.mp h3 d hd
        rw [e2] at h4
        simpa using h4
    exact ⟨a1, ⟨He.eqO_ok a2, He.eqO_ok a3, a4, a5, He.eqO_ok a6, He.eqO_ok a7, a8, a9⟩, a10, fun d Da ed => by rw [hs]; exact (pair d Da ed).1, fun d Da ed => by rw [hs]; exact (pair d Da ed).2, fun f hf => He.eqO_ok (List.all_eq_true.mp a11 f hf)⟩
theorem free_of {h : Heap} (X : K.In h) (G : h.Ns mainGlobals mg) {x : Str} (c : freeB K x = true) : mg x = none := PySem.W.mg_none_of X G (He.eqO_ok c)
theorem glob_of {h : Heap} (X : K.In h) (G : h.Ns mainGlobals mg) {x : Str} (c : globB K x = true) : mg x = some (.ref (He.ga K x)) := PySem.W.mg_of X G (He.eqO_ok c)
theorem boot_of {x : Str} {u : Value} (h : He.eqO (some (bootBuiltins x)) (some (some u)) = true) : bootBuiltins x = some u := Option.some.inj (He.eqO_ok h)
theorem gv_ok {h : Heap} (X : K.In h) (G : h.Ns mainGlobals mg) {x : Str} {v : Gv} (b : gvB L.cls K x v = true) (bb : bootB x v = true) (t : GvT L x v) (defs : ∀ d ∈ L.dd, ∃ fd, FunD K d.name d.qual d.params d.body d.scope (d.dvs K) (d.kws K) (He.fAd K d.at_) fd) : GvSt (wdOf L P w K mg base) L.gl L.fns x v := by
  cases v with
  | con d =>
    change (match (generalizing := false) PySem.W.nsIn K mainGlobals x with
      | some (some u) => dB K d u
      | _ => false) = true at b
    split at b
    · rename_i u e
      obtain ⟨v, r1, r2⟩ := dB_ok b
      exact ⟨u, v, PySem.W.mg_of X G e, r1, r2⟩
    · cases b
  | fn i np shapes =>
    obtain ⟨d, e1, e2, ok⟩ := t
    obtain ⟨ps, N, code, o1, o2, o3, o4, o5, o6⟩ := ok.ex
    obtain ⟨fd, FD⟩ := defs d (List.mem_of_getElem? e1)
    have e3 : He.fAd K d.at_ = He.ga K x := by rw [e2]; rfl
    rw [e3] at FD
    exact ⟨He.ga K x, fd, ps, N, d.name, d.qual, d.params, d.body, d.scope, d.dvs K, d.kws K, code, glob_of X G b, o1, FD, o2, o3, o4, o5, o6 K _ fd FD⟩
  | bi bi =>
    cases bi with
    | gcd => exact PySem.W.mg_of X G (He.eqO_ok b)
    | _ => exact ⟨free_of X G b, boot_of bb⟩
  | ty t => exact ⟨free_of X G b, boot_of bb⟩
  | isi => exact ⟨free_of X G b, boot_of bb⟩
  | rng => exact ⟨of_decide_eq_true bb, free_of X G b⟩
  | zip => exact ⟨of_decide_eq_true bb, free_of X G b⟩
  | enum => trivial
  | exc c fs =>
    have b : (decide (L.cls[c]? = some x) && globB K x && (!fs.isEmpty || PySem.W.excIn K (He.ga K x) He.veBase "ValueError.__new__")) = true := b
    simp only [Bool.and_eq_true, decide_eq_true_eq] at b
    refine ⟨He.ga K x, glob_of X G b.1.2, ?_, fun e => ?_⟩
    · show ((L.cls[c]?).map fun x => He.ga K x) = _
      rw [b.1.1]
      rfl
    · have := b.2
      rw [e] at this
      have this : (!true || PySem.W.excIn K (He.ga K x) He.veBase "ValueError.__new__") = true := this
      have this : PySem.W.excIn K (He.ga K x) He.veBase "ValueError.__new__" = true := by simpa using this
      exact this
/-- the law's def, at every level -/
theorem law_fn {h : Heap} (X : K.In h) (G : h.Ns mainGlobals mg) (b : exB L K = true) (bb : (L.gl.all fun p => bootB p.1 p.2) = true) (t : AllT L L.gl) (defs : ∀ d ∈ L.dd, ∃ fd, FunD K d.name d.qual d.params d.body d.scope (d.dvs K) (d.kws K) (He.fAd K d.at_) fd) (fuel k : Nat) (x : Str) (v : Gv) (e : L.gl.lookup x = some v) :
    GvOk (wdOf L P w K mg base) k (evk L.fns L.sub fuel k) x v := by
  have hb : (L.gl.all fun p => gvB L.cls K p.1 p.2) = true ∧ clsB K L.sub L.cls = true := by
    unfold exB at b
    rwa [Bool.and_eq_true] at b
  refine levels (fun x v e => ?_) (fun k c Ca ec => cls_ok hb.2 _ rfl c Ca ec) k x v e
  have hm := PySem.mem_of_lookup e
  exact gv_ok X G (List.all_eq_true.mp hb.1 _ hm) (List.all_eq_true.mp bb _ hm) (allT_mem t e) defs
/-- the script, read-only -/
theorem frl_of {H : Hp} {a : Addr} {vs : List V} (o : Only H) (h : SqL K H a vs) : FrL K H a vs := by
  rcases h with (h | h) | h
  · rcases o a with z | ⟨ob, xs, z⟩
    · rw [z] at h; cases h
    · rw [z] at h; cases h
  · exact .inl h
  · exact .inr fun H' => .inr h
theorem ints_rel {m : List Addr} {H : Hp} : ∀ ns : List Int, DRs K m H (ns.map D.int) (ns.map V.int)
  | [] => .nil
  | n :: ns => .cons (.int n) (ints_rel ns)
/-- THE END: what the plain law says is what the law's row asks -/
theorem pv_walk {l : PySem.W.OpenLaw} {q : Program} {loose : List Str} {XP : (Str → Option Value) → Heap → Prop} {d : DefRec} {n nn fuel k i : Nat} {fa : List He.Fa} {x : Str} {N : List Str} {code : QSs} {dL : He.DefD}
    (hn : l.most = some n) (hn2 : n ≤ sizeLine) (hdf : d.params.defaults = []) (hnm : d.name = "law") (hr : Room (2 * (k + 1)) callerA) (bb : (L.gl.all fun p => bootB p.1 p.2) = true) (t : AllT L L.gl)
    (d1 : L.dd[i]? = some dL) (d2 : dL.at_ = (("law" : Str), none)) (d3 : dL.dfl = []) (S : FnScope N [x] dL.scope) (ha : asOk dL.scope = true) (hf : L.fns[i]? = some ⟨1, N.length, code⟩) (hcd : cSs 40 ⟨N, dL.scope, asOf dL.scope.names, L.gl, false, none⟩ dL.body = some code) (hgl : ∃ s, L.gl.lookup ("law" : Str) = some (.fn i 1 s))
    (hb : ∀ (kV doc pm : Value) (an : Option Addr) (cdv ct : Value) (us : List Value), us.length = 1 → bindArgs (PySem.W.fnOf dL.name dL.qual dL.params dL.body dL.scope .none kV doc pm an cdv ct) ⟨us, []⟩ = pure (([x] : List Str).zip us))
    (plain : ∀ ns : List Int, ns.length ≤ n → (∀ z ∈ ns, Builtin.Int.intBits z ≤ 1048576) → ∃ h', callI L.fns L.sub fuel (k + 1) i [.fl (ns.map D.int)] [] = .ok (.bl true) h') :
    PySem.W.WalkO q loose XP (He.hookX nn fa L.dd [] [] (exB L)).says l.row.toRowW d [] (fun f vs => PySem.call f vs) := by
  refine Att.attach_callB hn hdf fun w s₀ s₁ mg mb fa' o pm cd doc a vs ns G Y ho hd hcd' hmg hobj hints hlen hbits hg => ?_
  obtain ⟨K, KX, c⟩ := Y
  have defs : ∀ d ∈ L.dd, ∃ fd, FunD K d.name d.qual d.params d.body d.scope (d.dvs K) (d.kws K) (He.fAd K d.at_) fd := fun d hd => c.t.d.defs hd
  obtain ⟨fd, FD⟩ := defs dL (List.mem_of_getElem? d1)
  obtain ⟨sh, hgl⟩ := hgl
  have eB := c.more
  have eB2 : (L.gl.all fun p => gvB L.cls K p.1 p.2) = true ∧ clsB K L.sub L.cls = true := by
    have eB := eB
    unfold exB at eB
    rwa [Bool.and_eq_true] at eB
  have glo : globB K "law" = true := List.all_eq_true.mp eB2.1 _ (PySem.mem_of_lookup hgl)
  have e3 : He.fAd K dL.at_ = fa' := by
    rw [d2]
    have h1 := glob_of KX G.T.g glo
    rw [hnm] at hmg
    have h2 := h1.symm.trans hmg
    exact Value.ref.inj (Option.some.inj h2)
  have e4 : dL.dvs K = [] := by
    unfold He.DefD.dvs
    rw [d3]
    rfl
  rw [e3, e4] at FD
  refine law_call (x := x) (CX := L2.CX l.prog w) (sp := spF (gwOf L.cls K) 1 (callI L.fns L.sub fuel (k + 1) i)) KX G.T.g G.T.b G.T.builtins G.T.nolimit hg hobj hints (Nat.le_trans hlen hn2) hr (fun base Kb Gb => ?_) (fun s u => FD.bindsA (ps := [x]) hb s [u] rfl) (fun H hO hS => ?_) fun H e s' z => ?_
  · exact fn_body (W := wdOf L l.prog w K mg base) (law_fn KX G.T.g eB bb t defs fuel k) (fun c Ca ec => cls_ok eB2.2 _ rfl c Ca ec) rfl FD S ha hf hcd
  · obtain ⟨h', e⟩ := plain ns hlen hbits
    refine ⟨[], [], [.fl (ns.map D.int)], ⟨rfl, List.nodup_nil, fun n c a e => by simp at e, fun p hp => by cases hp⟩, .cons (.fl (frl_of hO hS) (ints_rel ns)) .nil, rfl, ?_⟩
    rw [e]
    intro m' H' v st r dv
    cases dv
    rfl
  · exact cx_none z
where
  cx_none {P : Program} {w : World} {H : Hp} {s : Shared} {e : Value} {s' : Shared} : ¬ L2.CX P w [] H s (fun _ _ _ => False) e s' := fun z => by
    obtain ⟨_, _, _, _, _, _, _, _, _, _, _, _, z⟩ := z
    exact z
end
end PV
/-! PVS: the plain side: steps of the pure evaluator. -/
namespace PV
open PySem
/-! ### a def's end -/
theorem keeps_pre : ∀ (n : Nat) (h l : Hd), keepsCells n h (h ++ l) = true
  | _, [], _ => rfl
  | n, c :: h, l => by
    show ((Cell.beq c c || Cell.lt n c) && keepsCells n h (h ++ l)) = true
    rw [Cell.beq_refl, keeps_pre n h l]
    rfl
/-- what was made on the way is dropped -/
theorem gc_app {h l : Hd} {d : D} (hd : D.lt h.length d = true) : gc h d (h ++ l) = .ok d h := by
  unfold gc gcOk
  rw [keeps_pre, hd]
  simp
theorem gc_same {h : Hd} {d : D} : gc h d h = .ok d h := by
  unfold gc
  split
  · simp
  · rfl
theorem gcE_app {h l : Hd} {e : Exn} (hd : fsLt h.length e.fs = true) : gcE h e (h ++ l) = .ex e h := by
  unfold gcE gcOk
  rw [keeps_pre, hd]
  simp
theorem gcE_same {h : Hd} {e : Exn} : gcE h e h = .ex e h := by
  unfold gcE
  split
  · simp
  · rfl
/-- how a def ends -/
def fin (h : Hd) : SOut → Out D
  | .rt d h' => gc h d h'
  | .nx _ h' => gc h .non h'
  | .ex e _ h' => gcE h e h'
  | _ => .no
@[simp] theorem fin_rt {h : Hd} {d : D} : fin h (.rt d h) = .ok d h := gc_same
@[simp] theorem fin_nx {h : Hd} {s : Sl} : fin h (.nx s h) = .ok .non h := gc_same
@[simp] theorem fin_ex {h : Hd} {s : Sl} {e : Exn} : fin h (.ex e s h) = .ex e h := gcE_same
abbrev evL (fns : List FnC) (sub : Nat → Nat → Bool) (fuel k : Nat) : Ev := ⟨callI fns sub fuel k, fuel, none, sub⟩
theorem call_eq {fns : List FnC} {sub : Nat → Nat → Bool} {fuel k f np nn : Nat} {code : QSs} {ds : List D} {h : Hd} (hf : fns[f]? = some ⟨np, nn, code⟩) (hl : ds.length = np) : callI fns sub fuel (k + 1) f ds h = fin h (exSs (evL fns sub fuel k) code (startD nn ds) h) := by
  unfold callI
  rw [hf]
  show (match decide (ds.length = np) with
    | false => Out.no
    | true => match exSs ⟨callI fns sub fuel k, fuel, none, sub⟩ code (startD nn ds) h with
      | .rt d h' => gc h d h'
      | .nx _ h' => gc h .non h'
      | .ex e _ h' => gcE h e h'
      | _ => .no) = _
  rw [decide_eq_true hl]
  cases exSs (evL fns sub fuel k) code (startD nn ds) h <;> rfl
/-! ### values -/
@[simp] theorem eqV_int (h : Hd) (a b : Int) : eqV h (.int a) (.int b) = some (decide (a = b)) := by
  simp [eqV, toPyT, toPy, SeqAt.shaped, PyData.eqv, PyData.canLay0, PyData.depth]
  rfl
@[simp] theorem eqV_bl (h : Hd) (a b : Bool) : eqV h (.bl a) (.bl b) = some (a == b) := by
  simp [eqV, toPyT, toPy, SeqAt.shaped, PyData.eqv, PyData.canLay0, PyData.depth]
@[simp] theorem bind_ok {α β : Type} (a : α) (h : Hd) (f : α → Hd → Out β) : (Out.ok a h).bind f = f a h := rfl
@[simp] theorem bind_ex {α β : Type} (e : Exn) (h : Hd) (f : α → Hd → Out β) : (Out.ex e h : Out α).bind f = .ex e h := rfl
@[simp] theorem st_ok {α : Type} (a : α) (h : Hd) (s : Sl) (f : α → Hd → SOut) : (Out.ok a h).st s f = f a h := rfl
@[simp] theorem st_ex {α : Type} (e : Exn) (h : Hd) (s : Sl) (f : α → Hd → SOut) : (Out.ex e h : Out α).st s f = .ex e s h := rfl
@[simp] theorem evL_call (fns : List FnC) (sub : Nat → Nat → Bool) (fuel k f : Nat) (ds : List D) (h : Hd) : (evL fns sub fuel k).call f ds h = callI fns sub fuel k f ds h := rfl
@[simp] theorem ret_true {α : Type} (a : α) (h : Hd) : ret true a h = .ok a h := rfl
/-! ### the code's rows, each wholly applied; what comes behind is named, so simp leaves it alone until it is its turn -/
section
variable (ev : Ev) (s : Sl) (h : Hd)
@[simp] theorem x_var (i : Nat) : evE ev (.var i) s h = (match s[i]? with
    | some (some d) => .ok d h
    | _ => .no) := rfl
@[simp] theorem x_con (d : D) : evE ev (.con d) s h = .ok d h := rfl
def y_bin2 (op : Operator) (x : D) : D → Hd → Out D := fun y h => binV op x y h
def y_bin (ev : Ev) (op : Operator) (b : QE) (s : Sl) : D → Hd → Out D := fun x h => (evE ev b s h).bind (y_bin2 op x)
@[simp] theorem y_bin_ (op : Operator) (b : QE) (x : D) : y_bin ev op b s x h = (evE ev b s h).bind (y_bin2 op x) := rfl
@[simp] theorem y_bin2_ (op : Operator) (x y : D) : y_bin2 op x y h = binV op x y h := rfl
@[simp] theorem x_bin (op : Operator) (a b : QE) : evE ev (.bin op a b) s h = (evE ev a s h).bind (y_bin ev op b s) := rfl
@[simp] theorem x_neg (a : QE) : evE ev (.neg a) s h = (evE ev a s h).bind negV := rfl
def notO (h : Hd) : Option Bool → Out D
  | some k => .ok (.bl (!k)) h
  | none => .no
@[simp] theorem notO_some (b : Bool) : notO h (some b) = .ok (.bl (!b)) h := rfl
def y_not (x : D) (h : Hd) : Out D := notO h (truthD h x)
@[simp] theorem y_not_ (x : D) : y_not x h = notO h (truthD h x) := rfl
@[simp] theorem x_nott (a : QE) : evE ev (.nott a) s h = (evE ev a s h).bind y_not := by
  show (evE ev a s h).bind _ = _
  congr 1
  all_goals
    funext x h1
    show _ = notO h1 (truthD h1 x)
    cases truthD h1 x <;> rfl
def a_and (ev : Ev) (b : QE) (s : Sl) (x : D) (h : Hd) : Option Bool → Out D
  | some true => evE ev b s h
  | some false => .ok x h
  | none => .no
@[simp] theorem a_and_t (b : QE) (x : D) : a_and ev b s x h (some true) = evE ev b s h := rfl
@[simp] theorem a_and_f (b : QE) (x : D) : a_and ev b s x h (some false) = .ok x h := rfl
def y_and (ev : Ev) (b : QE) (s : Sl) (x : D) (h : Hd) : Out D := a_and ev b s x h (truthD h x)
@[simp] theorem y_and_ (b : QE) (x : D) : y_and ev b s x h = a_and ev b s x h (truthD h x) := rfl
@[simp] theorem x_andv (a b : QE) : evE ev (.andv a b) s h = (evE ev a s h).bind (y_and ev b s) := by
  show (evE ev a s h).bind _ = _
  congr 1
  all_goals
    funext x h1
    show _ = a_and ev b s x h1 (truthD h1 x)
    cases truthD h1 x with
    | none => rfl
    | some b => cases b <;> rfl
def a_or (ev : Ev) (b : QE) (s : Sl) (x : D) (h : Hd) : Option Bool → Out D
  | some true => .ok x h
  | some false => evE ev b s h
  | none => .no
@[simp] theorem a_or_t (b : QE) (x : D) : a_or ev b s x h (some true) = .ok x h := rfl
@[simp] theorem a_or_f (b : QE) (x : D) : a_or ev b s x h (some false) = evE ev b s h := rfl
def y_or (ev : Ev) (b : QE) (s : Sl) (x : D) (h : Hd) : Out D := a_or ev b s x h (truthD h x)
@[simp] theorem y_or_ (b : QE) (x : D) : y_or ev b s x h = a_or ev b s x h (truthD h x) := rfl
@[simp] theorem x_orv (a b : QE) : evE ev (.orv a b) s h = (evE ev a s h).bind (y_or ev b s) := by
  show (evE ev a s h).bind _ = _
  congr 1
  all_goals
    funext x h1
    show _ = a_or ev b s x h1 (truthD h1 x)
    cases truthD h1 x with
    | none => rfl
    | some b => cases b <;> rfl
def y_cmp2 (op : CmpOp) (x : D) : D → Hd → Out D := fun y h => boolO h (cmpV op h x y)
def y_cmp (ev : Ev) (op : CmpOp) (b : QE) (s : Sl) : D → Hd → Out D := fun x h => (evE ev b s h).bind (y_cmp2 op x)
@[simp] theorem y_cmp_ (op : CmpOp) (b : QE) (x : D) : y_cmp ev op b s x h = (evE ev b s h).bind (y_cmp2 op x) := rfl
@[simp] theorem y_cmp2_ (op : CmpOp) (x y : D) : y_cmp2 op x y h = boolO h (cmpV op h x y) := rfl
@[simp] theorem x_cmp (op : CmpOp) (a b : QE) : evE ev (.cmp op a b) s h = (evE ev a s h).bind (y_cmp ev op b s) := rfl
def a_chain (ev : Ev) (op' : CmpOp) (c : QE) (s : Sl) (y : D) (h : Hd) : Option Bool → Out D
  | some true => (evE ev c s h).bind (y_cmp2 op' y)
  | some false => .ok (.bl false) h
  | none => .no
@[simp] theorem a_chain_t (op' : CmpOp) (c : QE) (y : D) : a_chain ev op' c s y h (some true) = (evE ev c s h).bind (y_cmp2 op' y) := rfl
@[simp] theorem a_chain_f (op' : CmpOp) (c : QE) (y : D) : a_chain ev op' c s y h (some false) = .ok (.bl false) h := rfl
def y_chain2 (ev : Ev) (op op' : CmpOp) (c : QE) (s : Sl) (x : D) : D → Hd → Out D := fun y h => a_chain ev op' c s y h (cmpV op h x y)
@[simp] theorem y_chain2_ (op op' : CmpOp) (c : QE) (x y : D) : y_chain2 ev op op' c s x y h = a_chain ev op' c s y h (cmpV op h x y) := rfl
def y_chain (ev : Ev) (op op' : CmpOp) (b c : QE) (s : Sl) : D → Hd → Out D := fun x h => (evE ev b s h).bind (y_chain2 ev op op' c s x)
@[simp] theorem y_chain_ (op op' : CmpOp) (b c : QE) (x : D) : y_chain ev op op' b c s x h = (evE ev b s h).bind (y_chain2 ev op op' c s x) := rfl
@[simp] theorem x_chain (op op' : CmpOp) (a b c : QE) : evE ev (.chain op op' a b c) s h = (evE ev a s h).bind (y_chain ev op op' b c s) := by
  show (evE ev a s h).bind _ = _
  congr 1
  all_goals
    funext x h1
    show (evE ev b s h1).bind _ = (evE ev b s h1).bind _
    congr 1
    funext y h2
    show _ = a_chain ev op' c s y h2 (cmpV op h2 x y)
    cases cmpV op h2 x y with
    | none => rfl
    | some b => cases b <;> rfl
def y_ife (ev : Ev) (a b : QE) (s : Sl) : Bool → Hd → Out D
  | true, h => evE ev a s h
  | false, h => evE ev b s h
@[simp] theorem y_ife_t (a b : QE) : y_ife ev a b s true h = evE ev a s h := rfl
@[simp] theorem y_ife_f (a b : QE) : y_ife ev a b s false h = evE ev b s h := rfl
@[simp] theorem x_ife (t : QT) (a b : QE) : evE ev (.ife t a b) s h = (evT ev t s h).bind (y_ife ev a b s) := by
  show (evT ev t s h).bind _ = _
  congr 1
  all_goals
    funext x h1
    cases x <;> rfl
def y_tup : List D → Hd → Out D := fun xs h => ret (decide (xs.length ≤ line)) (.tup xs) h
@[simp] theorem y_tup_ (xs : List D) : y_tup xs h = ret (decide (xs.length ≤ line)) (.tup xs) h := rfl
@[simp] theorem x_tup (es : QEs) : evE ev (.tup es) s h = (evEs ev es s h).bind y_tup := rfl
def y_lst : List D → Hd → Out D := fun xs h => newLc (decide (xs.length ≤ line)) xs h
@[simp] theorem y_lst_ (xs : List D) : y_lst xs h = newLc (decide (xs.length ≤ line)) xs h := rfl
@[simp] theorem x_lst (es : QEs) : evE ev (.lst es) s h = (evEs ev es s h).bind y_lst := rfl
def y_idx (ev : Ev) (i : QE) (s : Sl) : D → Hd → Out D := fun x h => (evE ev i s h).bind (idxV x)
@[simp] theorem y_idx_ (i : QE) (x : D) : y_idx ev i s x h = (evE ev i s h).bind (idxV x) := rfl
@[simp] theorem x_idx (a i : QE) : evE ev (.idx a i) s h = (evE ev a s h).bind (y_idx ev i s) := rfl
def y_slc2 (ev : Ev) (hi : QO) (s : Sl) (x : D) : Option Int → Hd → Out D := fun l h => (evO ev hi s h).bind (slV x l)
@[simp] theorem y_slc2_ (hi : QO) (x : D) (l : Option Int) : y_slc2 ev hi s x l h = (evO ev hi s h).bind (slV x l) := rfl
def y_slc (ev : Ev) (lo hi : QO) (s : Sl) : D → Hd → Out D := fun x h => (evO ev lo s h).bind (y_slc2 ev hi s x)
@[simp] theorem y_slc_ (lo hi : QO) (x : D) : y_slc ev lo hi s x h = (evO ev lo s h).bind (y_slc2 ev hi s x) := rfl
@[simp] theorem x_slc (a : QE) (lo hi : QO) : evE ev (.slc a lo hi) s h = (evE ev a s h).bind (y_slc ev lo hi s) := rfl
def y_call2 (ev : Ev) (f : Nat) (arr : List (Sum (Sum Nat Nat) D)) (xs : List D) : List D → Hd → Out D := fun ys h => ev.call f (arrD arr xs ys) h
@[simp] theorem y_call2_ (f : Nat) (arr : List (Sum (Sum Nat Nat) D)) (xs ys : List D) : y_call2 ev f arr xs ys h = ev.call f (arrD arr xs ys) h := rfl
def y_call (ev : Ev) (f : Nat) (kes : QEs) (arr : List (Sum (Sum Nat Nat) D)) (s : Sl) : List D → Hd → Out D := fun xs h => (evEs ev kes s h).bind (y_call2 ev f arr xs)
@[simp] theorem y_call_ (f : Nat) (kes : QEs) (arr : List (Sum (Sum Nat Nat) D)) (xs : List D) : y_call ev f kes arr s xs h = (evEs ev kes s h).bind (y_call2 ev f arr xs) := rfl
@[simp] theorem x_call (f : Nat) (es kes : QEs) (arr : List (Sum (Sum Nat Nat) D)) : evE ev (.call f es kes arr) s h = (evEs ev es s h).bind (y_call ev f kes arr s) := rfl
@[simp] theorem x_bi (b : BI) (es : QEs) : evE ev (.bi b es) s h = (evEs ev es s h).bind (biV b) := rfl
def y_isi (t : Ty) : D → Hd → Out D := fun x h => boolO h (isiV x t h)
@[simp] theorem y_isi_ (t : Ty) (x : D) : y_isi t x h = boolO h (isiV x t h) := rfl
@[simp] theorem x_isi (a : QE) (t : Ty) : evE ev (.isi a t) s h = (evE ev a s h).bind (y_isi t) := rfl
def y_lc (ev : Ev) (elt : QE) (g : QG) (own : List Nat) (cond : QT) (s : Sl) : Walk → Hd → Out D := fun w h => (noEx (loopC w.fix (fun d => bindG g d (wipeD s own)) (evT ev cond) (evE ev elt) w.items [] h)).bind newL
@[simp] theorem y_lc_ (elt : QE) (g : QG) (own : List Nat) (cond : QT) (w : Walk) : y_lc ev elt g own cond s w h = (noEx (loopC w.fix (fun d => bindG g d (wipeD s own)) (evT ev cond) (evE ev elt) w.items [] h)).bind newL := rfl
@[simp] theorem x_lc (elt : QE) (g : QG) (it : QI) (own : List Nat) (cond : QT) : evE ev (.lc elt g it own cond) s h = (evI ev it s h).bind (y_lc ev elt g own cond s) := rfl
def a_mth (ev : Ev) (m : Nat) (es : QEs) (s : Sl) (x : D) (h : Hd) : Bool → Out D
  | true => (evEs ev es s h).bind (mthV m x)
  | false => .no
@[simp] theorem a_mth_t (m : Nat) (es : QEs) (x : D) : a_mth ev m es s x h true = (evEs ev es s h).bind (mthV m x) := rfl
def y_mth (ev : Ev) (m : Nat) (es : QEs) (s : Sl) : D → Hd → Out D := fun x h => a_mth ev m es s x h (isLst h x)
@[simp] theorem y_mth_ (m : Nat) (es : QEs) (x : D) : y_mth ev m es s x h = a_mth ev m es s x h (isLst h x) := rfl
@[simp] theorem x_mth (m : Nat) (o : QE) (es : QEs) : evE ev (.mth m o es) s h = (evE ev o s h).bind (y_mth ev m es s) := by
  show (evE ev o s h).bind _ = _
  congr 1
  all_goals
    funext x h1
    show _ = a_mth ev m es s x h1 (isLst h1 x)
    cases isLst h1 x <;> rfl
@[simp] theorem x_excIs (c : Nat) : evE ev (.excIs c) s h = (match ev.exn with
    | some e => .ok (.bl (ev.sub e.cls c)) h
    | none => .no) := rfl
@[simp] theorem x_excF (f : Str) : evE ev (.excF f) s h = (match ev.exn with
    | some e => match e.fs.lookup f with
      | some d => .ok d h
      | none => .no
    | none => .no) := rfl
@[simp] theorem xs_nil : evEs ev .nil s h = .ok [] h := rfl
def y_es2 (x : D) : List D → Hd → Out (List D) := fun xs h => .ok (x :: xs) h
@[simp] theorem y_es2_ (x : D) (xs : List D) : y_es2 x xs h = .ok (x :: xs) h := rfl
def y_es (ev : Ev) (es : QEs) (s : Sl) : D → Hd → Out (List D) := fun x h => (evEs ev es s h).bind (y_es2 x)
@[simp] theorem y_es_ (es : QEs) (x : D) : y_es ev es s x h = (evEs ev es s h).bind (y_es2 x) := rfl
@[simp] theorem xs_cons (e : QE) (es : QEs) : evEs ev (.cons e es) s h = (evE ev e s h).bind (y_es ev es s) := rfl
@[simp] theorem xo_none : evO ev .none s h = .ok none h := rfl
@[simp] theorem xo_some (e : QE) : evO ev (.some e) s h = (evE ev e s h).bind toI := rfl
def y_v : D → Hd → Out Bool := fun x h => testO h (truthD h x)
@[simp] theorem y_v_ (x : D) : y_v x h = testO h (truthD h x) := rfl
@[simp] theorem xt_v (e : QE) : evT ev (.v e) s h = (evE ev e s h).bind y_v := rfl
def y_tnot : Bool → Hd → Out Bool := fun k h => .ok (!k) h
@[simp] theorem y_tnot_ (k : Bool) : y_tnot k h = .ok (!k) h := rfl
@[simp] theorem xt_not (t : QT) : evT ev (.not t) s h = (evT ev t s h).bind y_tnot := rfl
def y_tand (ev : Ev) (b : QT) (s : Sl) : Bool → Hd → Out Bool
  | true, h => evT ev b s h
  | false, h => .ok false h
@[simp] theorem y_tand_t (b : QT) : y_tand ev b s true h = evT ev b s h := rfl
@[simp] theorem y_tand_f (b : QT) : y_tand ev b s false h = .ok false h := rfl
@[simp] theorem xt_and (a b : QT) : evT ev (.and a b) s h = (evT ev a s h).bind (y_tand ev b s) := by
  show (evT ev a s h).bind _ = _
  congr 1
  all_goals
    funext x h1
    cases x <;> rfl
def y_tor (ev : Ev) (b : QT) (s : Sl) : Bool → Hd → Out Bool
  | true, h => .ok true h
  | false, h => evT ev b s h
@[simp] theorem y_tor_t (b : QT) : y_tor ev b s true h = .ok true h := rfl
@[simp] theorem y_tor_f (b : QT) : y_tor ev b s false h = evT ev b s h := rfl
@[simp] theorem xt_or (a b : QT) : evT ev (.or a b) s h = (evT ev a s h).bind (y_tor ev b s) := by
  show (evT ev a s h).bind _ = _
  congr 1
  all_goals
    funext x h1
    cases x <;> rfl
@[simp] theorem xt_yes : evT ev .yes s h = .ok true h := rfl
@[simp] theorem xi_v (e : QE) : evI ev (.v e) s h = (evE ev e s h).bind walkV := rfl
def y_r1 : D → Hd → Out Walk := fun x h => rngV [x] h
@[simp] theorem y_r1_ (x : D) : y_r1 x h = rngV [x] h := rfl
@[simp] theorem xi_r1 (a : QE) : evI ev (.rng1 a) s h = (evE ev a s h).bind y_r1 := rfl
def y_r2b (x : D) : D → Hd → Out Walk := fun y h => rngV [x, y] h
@[simp] theorem y_r2b_ (x y : D) : y_r2b x y h = rngV [x, y] h := rfl
def y_r2 (ev : Ev) (b : QE) (s : Sl) : D → Hd → Out Walk := fun x h => (evE ev b s h).bind (y_r2b x)
@[simp] theorem y_r2_ (b : QE) (x : D) : y_r2 ev b s x h = (evE ev b s h).bind (y_r2b x) := rfl
@[simp] theorem xi_r2 (a b : QE) : evI ev (.rng2 a b) s h = (evE ev a s h).bind (y_r2 ev b s) := rfl
def y_r3c (x y : D) : D → Hd → Out Walk := fun z h => rngV [x, y, z] h
@[simp] theorem y_r3c_ (x y z : D) : y_r3c x y z h = rngV [x, y, z] h := rfl
def y_r3b (ev : Ev) (c : QE) (s : Sl) (x : D) : D → Hd → Out Walk := fun y h => (evE ev c s h).bind (y_r3c x y)
@[simp] theorem y_r3b_ (c : QE) (x y : D) : y_r3b ev c s x y h = (evE ev c s h).bind (y_r3c x y) := rfl
def y_r3 (ev : Ev) (b c : QE) (s : Sl) : D → Hd → Out Walk := fun x h => (evE ev b s h).bind (y_r3b ev c s x)
@[simp] theorem y_r3_ (b c : QE) (x : D) : y_r3 ev b c s x h = (evE ev b s h).bind (y_r3b ev c s x) := rfl
@[simp] theorem xi_r3 (a b c : QE) : evI ev (.rng3 a b c) s h = (evE ev a s h).bind (y_r3 ev b c s) := rfl
def y_zip (ev : Ev) (b : QE) (s : Sl) : D → Hd → Out Walk := fun x h => (evE ev b s h).bind (zipV x)
@[simp] theorem y_zip_ (b : QE) (x : D) : y_zip ev b s x h = (evE ev b s h).bind (zipV x) := rfl
@[simp] theorem xi_zip (a b : QE) : evI ev (.zip a b) s h = (evE ev a s h).bind (y_zip ev b s) := rfl
@[simp] theorem xi_enum (a : QE) : evI ev (.enum a) s h = (evE ev a s h).bind enumV := rfl
/-- one statement behind another -/
def andS (f : Sl → Hd → SOut) : SOut → SOut
  | .nx s h => f s h
  | .rt d h => .rt d h
  | .bk s h => .bk s h
  | .ct s h => .ct s h
  | .ex e s h => .ex e s h
  | .no => .no
@[simp] theorem andS_nx (f : Sl → Hd → SOut) : andS f (.nx s h) = f s h := rfl
@[simp] theorem andS_rt (f : Sl → Hd → SOut) (d : D) : andS f (.rt d h) = .rt d h := rfl
@[simp] theorem andS_ex (f : Sl → Hd → SOut) (e : Exn) : andS f (.ex e s h) = .ex e s h := rfl
@[simp] theorem andS_bk (f : Sl → Hd → SOut) : andS f (.bk s h) = .bk s h := rfl
@[simp] theorem andS_ct (f : Sl → Hd → SOut) : andS f (.ct s h) = .ct s h := rfl
@[simp] theorem ss_nil' : exSs ev .nil s h = .nx s h := rfl
@[simp] theorem ss_cons' (a : QS) (r : QSs) : exSs ev (.cons a r) s h = andS (exSs ev r) (exS ev a s h) := by
  show (match exS ev a s h with
    | .nx s1 h1 => exSs ev r s1 h1
    | o => o) = _
  cases exS ev a s h <;> rfl
def y_expr (s : Sl) : D → Hd → SOut := fun _ h => .nx s h
@[simp] theorem y_expr_ (d : D) : y_expr s d h = .nx s h := rfl
@[simp] theorem s_expr' (e : QE) : exS ev (.expr e) s h = (evE ev e s h).st s (y_expr s) := rfl
def y_asg (g : QG) (s : Sl) : D → Hd → SOut := fun d h => asgO (bindG g d s) h
@[simp] theorem y_asg_ (g : QG) (d : D) : y_asg g s d h = asgO (bindG g d s) h := rfl
@[simp] theorem s_asg' (g : QG) (e : QE) : exS ev (.asg g e) s h = (evE ev e s h).st s (y_asg g s) := rfl
def y_sub3 (s : Sl) (d x : D) : D → Hd → SOut := fun y h => subV x y d s h
@[simp] theorem y_sub3_ (d x y : D) : y_sub3 s d x y h = subV x y d s h := rfl
def y_sub2 (ev : Ev) (i : QE) (s : Sl) (d : D) : D → Hd → SOut := fun x h => (evE ev i s h).st s (y_sub3 s d x)
@[simp] theorem y_sub2_ (i : QE) (d x : D) : y_sub2 ev i s d x h = (evE ev i s h).st s (y_sub3 s d x) := rfl
def y_sub (ev : Ev) (o i : QE) (s : Sl) : D → Hd → SOut := fun d h => (evE ev o s h).st s (y_sub2 ev i s d)
@[simp] theorem y_sub_ (o i : QE) (d : D) : y_sub ev o i s d h = (evE ev o s h).st s (y_sub2 ev i s d) := rfl
@[simp] theorem s_sub' (o i e : QE) : exS ev (.sub o i e) s h = (evE ev e s h).st s (y_sub ev o i s) := rfl
def y_par2 (i j : Nat) (s : Sl) (x : D) : D → Hd → SOut := fun y h => .nx ((s.set i (some x)).set j (some y)) h
@[simp] theorem y_par2_ (i j : Nat) (x y : D) : y_par2 i j s x y h = .nx ((s.set i (some x)).set j (some y)) h := rfl
def y_par (ev : Ev) (i j : Nat) (b : QE) (s : Sl) : D → Hd → SOut := fun x h => (evE ev b s h).st s (y_par2 i j s x)
@[simp] theorem y_par_ (i j : Nat) (b : QE) (x : D) : y_par ev i j b s x h = (evE ev b s h).st s (y_par2 i j s x) := rfl
@[simp] theorem s_par' (i j : Nat) (a b : QE) : exS ev (.par i j a b) s h = (evE ev a s h).st s (y_par ev i j b s) := rfl
def y_aug2 (i : Nat) (s : Sl) : D → Hd → SOut := fun z h => .nx (s.set i (some z)) h
@[simp] theorem y_aug2_ (i : Nat) (z : D) : y_aug2 i s z h = .nx (s.set i (some z)) h := rfl
def y_aug (i : Nat) (op : Operator) (s : Sl) (x : D) : D → Hd → SOut := fun y h => (augV op x y h).st s (y_aug2 i s)
@[simp] theorem y_aug_ (i : Nat) (op : Operator) (x y : D) : y_aug i op s x y h = (augV op x y h).st s (y_aug2 i s) := rfl
@[simp] theorem s_aug' (i : Nat) (op : Operator) (e : QE) : exS ev (.aug i op e) s h = (match s[i]? with
    | some (some x) => (evE ev e s h).st s (y_aug i op s x)
    | _ => .no) := rfl
@[simp] theorem s_ret' (e : QE) : exS ev (.ret e) s h = (evE ev e s h).st s .rt := rfl
@[simp] theorem s_retN' : exS ev .retN s h = .rt .non h := rfl
def y_if (ev : Ev) (a b : QSs) (s : Sl) : Bool → Hd → SOut
  | true, h => exSs ev a s h
  | false, h => exSs ev b s h
@[simp] theorem y_if_t (a b : QSs) : y_if ev a b s true h = exSs ev a s h := rfl
@[simp] theorem y_if_f (a b : QSs) : y_if ev a b s false h = exSs ev b s h := rfl
@[simp] theorem s_ife' (t : QT) (a b : QSs) : exS ev (.ife t a b) s h = (evT ev t s h).st s (y_if ev a b s) := by
  show (evT ev t s h).st s _ = _
  congr 1
  all_goals
    funext x h1
    cases x <;> rfl
@[simp] theorem s_whl' (t : QT) (b : QSs) : exS ev (.whl t b) s h = loopW (evT ev t) (exSs ev b) ev.fuel s h := rfl
def y_for (ev : Ev) (g : QG) (b : QSs) (s : Sl) : Walk → Hd → SOut := fun w h => loopF w.fix (bindG g) (exSs ev b) w.items s h
@[simp] theorem y_for_ (g : QG) (b : QSs) (w : Walk) : y_for ev g b s w h = loopF w.fix (bindG g) (exSs ev b) w.items s h := rfl
@[simp] theorem s_for' (g : QG) (it : QI) (b : QSs) : exS ev (.for g it b) s h = (evI ev it s h).st s (y_for ev g b s) := rfl
@[simp] theorem s_raise0' (c : Nat) : exS ev (.raise c [] .nil) s h = .ex ⟨c, []⟩ s h := rfl
def tryS (ev : Ev) (c : Nat) (xi : Option Nat) (su : QSs) : SOut → SOut
  | .ex e s1 h1 => match ev.sub e.cls c with
    | true => match inS xi s1 with
      | true => (exSs { ev with exn := some e } su (goS xi s1) h1).gone xi
      | false => .no
    | false => .ex e s1 h1
  | o => o
@[simp] theorem tryS_nx (c : Nat) (xi : Option Nat) (su : QSs) : tryS ev c xi su (.nx s h) = .nx s h := rfl
@[simp] theorem tryS_rt (c : Nat) (xi : Option Nat) (su : QSs) (d : D) : tryS ev c xi su (.rt d h) = .rt d h := rfl
theorem tryS_ex (c : Nat) (xi : Option Nat) (su : QSs) (e : Exn) (hs : ev.sub e.cls c = true) (hi : inS xi s = true) : tryS ev c xi su (.ex e s h) = (exSs { ev with exn := some e } su (goS xi s) h).gone xi := by
  unfold tryS
  simp only [hs, hi]
@[simp] theorem s_try' (b : QSs) (c : Nat) (xi : Option Nat) (su : QSs) : exS ev (.try b c xi su) s h = tryS ev c xi su (exSs ev b s h) := by
  show (match exSs ev b s h with
    | .ex e s1 h1 => match ev.sub e.cls c with
      | true => match inS xi s1 with
        | true => (exSs { ev with exn := some e } su (goS xi s1) h1).gone xi
        | false => .no
      | false => .ex e s1 h1
    | o => o) = _
  cases exSs ev b s h <;> rfl
@[simp] theorem s_pass' : exS ev .pass s h = .nx s h := rfl
@[simp] theorem s_brk' : exS ev .brk s h = .bk s h := rfl
@[simp] theorem s_cnt' : exS ev .cnt s h = .ct s h := rfl
@[simp] theorem gone_rt (xi : Option Nat) (d : D) : SOut.gone xi (.rt d h) = .rt d h := rfl
@[simp] theorem gone_nx (xi : Option Nat) : SOut.gone xi (.nx s h) = .nx (goS xi s) h := rfl
@[simp] theorem asgO_some : asgO (some s) h = .nx s h := rfl
@[simp] theorem bindG_nm (i : Nat) (d : D) : bindG (.nm i) d s = some (s.set i (some d)) := by simp [bindG]
@[simp] theorem bindG_tp (gs : List QG) (ds : List D) : bindG (.tp gs) (.tup ds) s = bindG.bindGs gs ds s := by simp [bindG]
@[simp] theorem bindGs_nil : bindG.bindGs [] [] s = some s := by simp [bindG.bindGs]
@[simp] theorem bindGs_cons (g : QG) (gs : List QG) (d : D) (ds : List D) : bindG.bindGs (g :: gs) (d :: ds) s = (bindG g d s).bind fun s' => bindG.bindGs gs ds s' := by simp [bindG.bindGs]
@[simp] theorem boolO_some (b : Bool) : boolO h (some b) = .ok (.bl b) h := rfl
@[simp] theorem testO_some (b : Bool) : testO h (some b) = .ok b h := rfl
@[simp] theorem truth_bl (b : Bool) : truthD h (.bl b) = some b := rfl
@[simp] theorem truth_int (i : Int) : truthD h (.int i) = some (decide (i ≠ 0)) := by
  show some (i != 0) = _
  congr 1
  by_cases z : i = 0 <;> simp [z]
@[simp] theorem truth_non : truthD h .non = some false := rfl
@[simp] theorem truth_tup (xs : List D) : truthD h (.tup xs) = some (!xs.isEmpty) := rfl
@[simp] theorem toI_int (i : Int) : toI (.int i) h = .ok (some i) h := rfl
@[simp] theorem negV_int (i : Int) : negV (.int i) h = .ok (.int (-i)) h := rfl
@[simp] theorem binV_add (x y : D) : binV .Add x y h = addV x y h := rfl
@[simp] theorem binV_mul (x y : D) : binV .Mult x y h = mulV x y h := rfl
@[simp] theorem binV_sub (i j : Int) : binV .Sub (.int i) (.int j) h = .ok (.int (i - j)) h := rfl
@[simp] theorem binV_div (i j : Int) : binV .FloorDiv (.int i) (.int j) h = ret (divOk i j) (.int (i.fdiv j)) h := rfl
@[simp] theorem binV_mod (i j : Int) : binV .Mod (.int i) (.int j) h = ret (decide (j ≠ 0)) (.int (i.fmod j)) h := rfl
@[simp] theorem binV_pow (i j : Int) : binV .Pow (.int i) (.int j) h = ret (powOk i j) (.int (i ^ j.toNat)) h := rfl
@[simp] theorem binV_shl (i j : Int) : binV .LShift (.int i) (.int j) h = ret (shlOk i j) (.int (i * 2 ^ j.toNat)) h := rfl
@[simp] theorem addV_int (i j : Int) : addV (.int i) (.int j) h = .ok (.int (i + j)) h := rfl
@[simp] theorem mulV_int (i j : Int) : mulV (.int i) (.int j) h = ret (mulOk i j) (.int (i * j)) h := rfl
@[simp] theorem cmp_eq (x y : D) : cmpV .Eq h x y = eqV h x y := rfl
@[simp] theorem cmp_ne (x y : D) : cmpV .NotEq h x y = (eqV h x y).map not := rfl
@[simp] theorem cmp_lt (i j : Int) : cmpV .Lt h (.int i) (.int j) = some (decide (i < j)) := rfl
@[simp] theorem cmp_le (i j : Int) : cmpV .LtE h (.int i) (.int j) = some (decide (i ≤ j)) := rfl
@[simp] theorem cmp_gt (i j : Int) : cmpV .Gt h (.int i) (.int j) = some (decide (j < i)) := rfl
@[simp] theorem cmp_ge (i j : Int) : cmpV .GtE h (.int i) (.int j) = some (decide (j ≤ i)) := rfl
@[simp] theorem cmp_is (x y : D) : cmpV .Is h x y = isV x y := rfl
@[simp] theorem cmp_isnot (x y : D) : cmpV .IsNot h x y = (isV x y).map not := rfl
@[simp] theorem cmp_in (x y : D) : cmpV .In h x y = inV h x y := rfl
@[simp] theorem cmp_notin (x y : D) : cmpV .NotIn h x y = (inV h x y).map not := rfl
@[simp] theorem len_le2 : decide ((2 : Nat) ≤ line) = true := by decide
@[simp] theorem len_le3 : decide ((3 : Nat) ≤ line) = true := by decide
@[simp] theorem len_le4 : decide ((4 : Nat) ≤ line) = true := by decide
@[simp] theorem bi_int (i : Int) : biV .int [.int i] h = .ok (.int i) h := rfl
@[simp] theorem bi_abs (i : Int) : biV .abs [.int i] h = .ok (.int (if i < 0 then -i else i)) h := rfl
@[simp] theorem bi_len_tup (xs : List D) : biV .len [.tup xs] h = .ok (.int xs.length) h := rfl
@[simp] theorem bi_len_fl (xs : List D) : biV .len [.fl xs] h = .ok (.int xs.length) h := rfl
@[simp] theorem bi_gcd (a b : Int) : biV .gcd [.int a, .int b] h = .ok (.int ((Nat.gcd a.natAbs b.natAbs : Nat) : Int)) h := rfl
@[simp] theorem bi_max (i j : Int) : biV .max [.int i, .int j] h = .ok (.int (if j > i then j else i)) h := rfl
@[simp] theorem bi_min (i j : Int) : biV .min [.int i, .int j] h = .ok (.int (if j < i then j else i)) h := rfl
@[simp] theorem isi_non_int : isiV .non .int h = some false := rfl
@[simp] theorem isi_bl_int (b : Bool) : isiV (.bl b) .int h = some true := rfl
@[simp] theorem isi_int_int (i : Int) : isiV (.int i) .int h = some true := rfl
@[simp] theorem isi_str_int (z : Str) : isiV (.str z) .int h = some false := rfl
@[simp] theorem isi_tup_int (xs : List D) : isiV (.tup xs) .int h = some false := rfl
@[simp] theorem isi_fl_int (xs : List D) : isiV (.fl xs) .int h = some false := rfl
@[simp] theorem isi_non_bool : isiV .non .bool h = some false := rfl
@[simp] theorem isi_bl_bool (b : Bool) : isiV (.bl b) .bool h = some true := rfl
@[simp] theorem isi_int_bool (i : Int) : isiV (.int i) .bool h = some false := rfl
@[simp] theorem isi_str_bool (z : Str) : isiV (.str z) .bool h = some false := rfl
@[simp] theorem isi_tup_bool (xs : List D) : isiV (.tup xs) .bool h = some false := rfl
@[simp] theorem isi_fl_bool (xs : List D) : isiV (.fl xs) .bool h = some false := rfl
@[simp] theorem isi_non_str : isiV .non .str h = some false := rfl
@[simp] theorem isi_bl_str (b : Bool) : isiV (.bl b) .str h = some false := rfl
@[simp] theorem isi_int_str (i : Int) : isiV (.int i) .str h = some false := rfl
@[simp] theorem isi_str_str (z : Str) : isiV (.str z) .str h = some true := rfl
@[simp] theorem isi_tup_str (xs : List D) : isiV (.tup xs) .str h = some false := rfl
@[simp] theorem isi_fl_str (xs : List D) : isiV (.fl xs) .str h = some false := rfl
@[simp] theorem isi_non_tuple : isiV .non .tuple h = some false := rfl
@[simp] theorem isi_bl_tuple (b : Bool) : isiV (.bl b) .tuple h = some false := rfl
@[simp] theorem isi_int_tuple (i : Int) : isiV (.int i) .tuple h = some false := rfl
@[simp] theorem isi_str_tuple (z : Str) : isiV (.str z) .tuple h = some false := rfl
@[simp] theorem isi_tup_tuple (xs : List D) : isiV (.tup xs) .tuple h = some true := rfl
@[simp] theorem isi_fl_tuple (xs : List D) : isiV (.fl xs) .tuple h = some false := rfl
@[simp] theorem isi_non_list : isiV .non .list h = some false := rfl
@[simp] theorem isi_bl_list (b : Bool) : isiV (.bl b) .list h = some false := rfl
@[simp] theorem isi_int_list (i : Int) : isiV (.int i) .list h = some false := rfl
@[simp] theorem isi_str_list (z : Str) : isiV (.str z) .list h = some false := rfl
@[simp] theorem isi_tup_list (xs : List D) : isiV (.tup xs) .list h = some false := rfl
@[simp] theorem isi_fl_list (xs : List D) : isiV (.fl xs) .list h = some true := rfl
@[simp] theorem is_bl_non (b : Bool) : isV (.bl b) .non = some false := rfl
@[simp] theorem is_int_non (i : Int) : isV (.int i) .non = some false := rfl
@[simp] theorem is_str_non (z : Str) : isV (.str z) .non = some false := rfl
@[simp] theorem is_tup_non (xs : List D) : isV (.tup xs) .non = some false := rfl
@[simp] theorem is_fl_non (xs : List D) : isV (.fl xs) .non = some false := rfl
@[simp] theorem is_ref_non (n : Nat) : isV (.ref n) .non = some false := rfl
@[simp] theorem is_non_non : isV .non .non = some true := rfl
@[simp] theorem is_bl_bl (a b : Bool) : isV (.bl a) (.bl b) = some (a == b) := rfl
@[simp] theorem walk_tup' (xs : List D) : walkV (.tup xs) h = .ok ⟨xs, []⟩ h := rfl
@[simp] theorem walk_fl' (xs : List D) : walkV (.fl xs) h = .ok ⟨xs, []⟩ h := rfl
end
/-! ### loops -/
theorem loopW_go {t : Sl → Hd → Out Bool} {b : Sl → Hd → SOut} {n : Nat} {s s2 : Sl} {h h1 h2 : Hd} (e : t s h = .ok true h1) (eb : b s h1 = .nx s2 h2) : loopW t b (n + 1) s h = loopW t b n s2 h2 := by
  conv => lhs; unfold loopW
  simp only [e, st_ok, eb]
theorem loopW_stop {t : Sl → Hd → Out Bool} {b : Sl → Hd → SOut} {n : Nat} {s : Sl} {h h1 : Hd} (e : t s h = .ok false h1) : loopW t b (n + 1) s h = .nx s h1 := by
  unfold loopW
  rw [e, st_ok]
theorem loopF_go {fix : List (Nat × List D)} {g : D → Sl → Option Sl} {b : Sl → Hd → SOut} {x : D} {xs : List D} {s s1 s2 : Sl} {h h2 : Hd} (f : fixOk h fix = true) (e : g x s = some s1) (eb : b s1 h = .nx s2 h2) : loopF fix g b (x :: xs) s h = loopF fix g b xs s2 h2 := by
  conv => lhs; unfold loopF
  simp only [f, e, eb]
theorem loopF_rt {fix : List (Nat × List D)} {g : D → Sl → Option Sl} {b : Sl → Hd → SOut} {x : D} {xs : List D} {s s1 : Sl} {h h2 : Hd} {d : D} (f : fixOk h fix = true) (e : g x s = some s1) (eb : b s1 h = .rt d h2) : loopF fix g b (x :: xs) s h = .rt d h2 := by
  conv => lhs; unfold loopF
  simp only [f, e, eb]
theorem loopF_nil {fix : List (Nat × List D)} {g : D → Sl → Option Sl} {b : Sl → Hd → SOut} {s : Sl} {h : Hd} (f : fixOk h fix = true) : loopF fix g b [] s h = .nx s h := by
  unfold loopF
  rw [f]
@[simp] theorem fixOk_nil (h : Hd) : fixOk h [] = true := rfl
/-! ### sizes -/
def Sz (n : Nat) (i : Int) : Prop := i.natAbs < 2 ^ n
theorem Sz.of_lt {n : Nat} {i : Int} {m : Nat} (h : (i.natAbs : Int) < (m : Int)) (l : m ≤ 2 ^ n) : Sz n i := by
  unfold Sz
  omega
theorem Sz.nat {n m : Nat} (l : m < 2 ^ n) : Sz n (m : Int) := by
  unfold Sz
  simpa using l
theorem Sz.mono {n m : Nat} {i : Int} (h : Sz n i) (l : n ≤ m) : Sz m i := Nat.lt_of_lt_of_le h (Nat.pow_le_pow_right (by omega) l)
theorem Sz.neg {n : Nat} {i : Int} (h : Sz n i) : Sz n (-i) := by
  unfold Sz at *
  rwa [Int.natAbs_neg]
theorem Sz.add {n m : Nat} {i j : Int} (h : Sz n i) (g : Sz m j) : Sz (max n m + 1) (i + j) := by
  have h1 := h.mono (Nat.le_max_left n m)
  have g1 := g.mono (Nat.le_max_right n m)
  unfold Sz at *
  have := Int.natAbs_add_le i j
  rw [Nat.pow_succ]
  omega
theorem Sz.sub {n m : Nat} {i j : Int} (h : Sz n i) (g : Sz m j) : Sz (max n m + 1) (i - j) := by
  rw [Int.sub_eq_add_neg]
  exact h.add g.neg
theorem Sz.mul {n m : Nat} {i j : Int} (h : Sz n i) (g : Sz m j) : Sz (n + m) (i * j) := by
  unfold Sz at *
  rw [Int.natAbs_mul, Nat.pow_add]
  exact Nat.mul_lt_mul'' h g
theorem Sz.log {n : Nat} {i : Int} (h : Sz n i) : i.natAbs.log2 ≤ n := by
  unfold Sz at h
  by_cases z : i.natAbs = 0
  · rw [z, show Nat.log2 0 = 0 from by decide]; exact Nat.zero_le _
  · exact Nat.le_of_lt ((Nat.log2_lt z).mpr h)
theorem mulOk_sz {n m : Nat} {i j : Int} (h : Sz n i) (g : Sz m j) (l : n + m < 100000000) : mulOk i j = true := by
  unfold mulOk
  have := h.log
  have := g.log
  exact decide_eq_true (by omega)
theorem divOk_sz {n : Nat} {i j : Int} (g : Sz n j) (l : n ≤ 8990) (z : j ≠ 0) : divOk i j = true := by
  have := g.log
  unfold divOk Builtin.divisionGoesByPylong
  rw [decide_eq_true z]
  have e : (j == 0) = false := by simpa using z
  simp only [e]
  have : ¬ (j.natAbs.log2 / 30 + 1 > 300) := by omega
  simp [this]
theorem fdiv_abs (i j : Int) : (i.fdiv j).natAbs ≤ i.natAbs := by
  by_cases z : j = 0
  · rw [z, Int.fdiv_zero]; simp
  · rcases Int.lt_or_gt_of_ne z with hj | hj
    · -- j < 0
      have e : i.fdiv j = (-i).fdiv (-j) := (Int.neg_fdiv_neg i j).symm
      rw [e, ← Int.natAbs_neg i]
      exact pos (-i) (-j) (by omega)
    · exact pos i j hj
where
  pos (i j : Int) (hj : 0 < j) : (i.fdiv j).natAbs ≤ i.natAbs := by
    rw [Int.fdiv_eq_ediv_of_nonneg _ (by omega)]
    have := Int.natAbs_ediv_le_natAbs i j
    exact this
theorem Sz.fdiv {n : Nat} {i j : Int} (h : Sz n i) : Sz n (i.fdiv j) := Nat.lt_of_le_of_lt (fdiv_abs i j) h
theorem fmod_abs {i j : Int} (z : j ≠ 0) : (i.fmod j).natAbs < j.natAbs := by
  rcases Int.lt_or_gt_of_ne z with hj | hj
  · have h1 := Int.fmod_def i j
    have e : i.fmod j = -((-i).fmod (-j)) := by
      rw [Int.neg_fmod_neg]
      simp
    rw [e, Int.natAbs_neg, Int.fmod_eq_emod_of_nonneg _ (by omega)]
    have a1 := Int.emod_nonneg (-i) (show (-j) ≠ 0 by omega)
    have a2 := Int.emod_lt_of_pos (-i) (show 0 < -j by omega)
    omega
  · rw [Int.fmod_eq_emod_of_nonneg _ (by omega)]
    have a1 := Int.emod_nonneg i z
    have a2 := Int.emod_lt_of_pos i hj
    omega
theorem Sz.fmod {n : Nat} {i j : Int} (h : Sz n j) (z : j ≠ 0) : Sz n (i.fmod j) := Nat.lt_trans (fmod_abs z) h
theorem small_nat {n : Nat} (h : n ≤ 1000000) : smallI (n : Int) = true := by
  unfold smallI
  refine decide_eq_true ?_
  by_cases z : n = 0
  · subst z; decide
  · have : (n : Int).natAbs = n := rfl
    rw [this, Nat.log2_lt z]
    exact Nat.lt_of_le_of_lt h (by decide)
end PV
/-! PVR: ratios as rational numbers; comprehensions and loops over lists; the ratio defs by their code. -/
namespace PV
open PySem
/-! ### ratios -/
def rv (q : Rat) : D := .tup [.int q.num, .int (q.den : Int)]
def Qn (n : Nat) (q : Rat) : Prop := Sz n q.num ∧ Sz n (q.den : Int)
def gd (a b : Int) : Int := ((Nat.gcd a.natAbs b.natAbs : Nat) : Int)
theorem gd_pos {a b : Int} (hb : b ≠ 0) : 0 < gd a b := by
  unfold gd
  have : 0 < Nat.gcd a.natAbs b.natAbs := Nat.gcd_pos_of_pos_right _ (by omega)
  omega
theorem gd_sz {a b : Int} {n : Nat} (hb : b ≠ 0) (sb : Sz n b) : Sz n (gd a b) := by
  unfold Sz gd at *
  have := Nat.gcd_le_right a.natAbs (show 0 < b.natAbs by omega)
  simp only [Int.natAbs_natCast]
  omega
theorem gd_neg (a b : Int) : gd (-a) (-b) = gd a b := by
  unfold gd
  rw [Int.natAbs_neg, Int.natAbs_neg]
def mkR (a b : Int) : Int × Int := if b < 0 then (a.fdiv (-gd a b), b.fdiv (-gd a b)) else (a.fdiv (gd a b), b.fdiv (gd a b))
theorem mkR_split {a b : Int} (hb : b ≠ 0) : ∃ g x y : Int, 0 < g ∧ a = g * x ∧ b = g * y ∧ gd x y = 1 ∧ g = gd a b := by
  obtain ⟨x, hx⟩ : gd a b ∣ a := Int.ofNat_dvd_left.mpr (Nat.gcd_dvd_left _ _)
  obtain ⟨y, hy⟩ : gd a b ∣ b := Int.ofNat_dvd_left.mpr (Nat.gcd_dvd_right _ _)
  have gp := gd_pos (a := a) hb
  refine ⟨gd a b, x, y, gp, hx, hy, ?_, rfl⟩
  have hg : Nat.gcd a.natAbs b.natAbs = (gd a b).natAbs := by unfold gd; simp
  have hx2 : a.natAbs = (gd a b).natAbs * x.natAbs := by rw [← Int.natAbs_mul, ← hx]
  have hy2 : b.natAbs = (gd a b).natAbs * y.natAbs := by rw [← Int.natAbs_mul, ← hy]
  have e : Nat.gcd a.natAbs b.natAbs = (gd a b).natAbs * Nat.gcd x.natAbs y.natAbs := by
    conv => lhs; rw [hx2, hy2]
    exact Nat.gcd_mul_left _ _ _
  have : (gd a b).natAbs * Nat.gcd x.natAbs y.natAbs = (gd a b).natAbs * 1 := by rw [← e, hg]; simp
  have := Nat.eq_of_mul_eq_mul_left (show 0 < (gd a b).natAbs by omega) this
  unfold gd
  rw [this]
  rfl
theorem mkR_spec {a b : Int} (hb : b ≠ 0) : 0 < (mkR a b).2 ∧ gd (mkR a b).1 (mkR a b).2 = 1 ∧ (mkR a b).1 * b = a * (mkR a b).2 := by
  obtain ⟨g, x, y, gp, ha, hb', hg, e⟩ := mkR_split (a := a) hb
  unfold mkR
  rw [← e]
  have g0 : g ≠ 0 := by omega
  by_cases hlt : b < 0
  · rw [if_pos hlt]
    have e1 : a.fdiv (-g) = -x := by
      rw [ha, show g * x = (-g) * (-x) by rw [Int.neg_mul_neg], Int.mul_fdiv_cancel_left _ (by omega)]
    have e2 : b.fdiv (-g) = -y := by
      rw [hb', show g * y = (-g) * (-y) by rw [Int.neg_mul_neg], Int.mul_fdiv_cancel_left _ (by omega)]
    simp only [e1, e2]
    refine ⟨?_, by rw [gd_neg]; exact hg, ?_⟩
    · have : y < 0 := by
        rcases Int.lt_or_le y 0 with z | z
        · exact z
        · have := Int.mul_nonneg (Int.le_of_lt gp) z
          omega
      omega
    · rw [ha, hb']
      simp only [Int.neg_mul, Int.mul_neg]
      rw [Int.mul_left_comm, Int.mul_assoc]
  · rw [if_neg hlt]
    have e1 : a.fdiv g = x := by rw [ha, Int.mul_fdiv_cancel_left _ g0]
    have e2 : b.fdiv g = y := by rw [hb', Int.mul_fdiv_cancel_left _ g0]
    simp only [e1, e2]
    refine ⟨?_, hg, ?_⟩
    · have : 0 < y := by
        rcases Int.lt_or_le 0 y with z | z
        · exact z
        · have := Int.mul_nonneg (Int.le_of_lt gp) (show 0 ≤ -y by omega)
          rw [Int.mul_neg] at this
          omega
      exact this
    · rw [ha, hb', Int.mul_left_comm, Int.mul_assoc]
theorem mkR_sz {a b : Int} {n m : Nat} (sa : Sz n a) (sb : Sz m b) : Sz n (mkR a b).1 ∧ Sz m (mkR a b).2 := by
  unfold mkR
  split
  · exact ⟨sa.fdiv, sb.fdiv⟩
  · exact ⟨sa.fdiv, sb.fdiv⟩
/-- the lowest terms are the rational number's -/
theorem mkR_rat {a b : Int} (hb : b ≠ 0) : (mkR a b).1 = (Rat.divInt a b).num ∧ (mkR a b).2 = ((Rat.divInt a b).den : Int) := by
  obtain ⟨h1, h2, h3⟩ := mkR_spec (a := a) hb
  have nz : (mkR a b).2.natAbs ≠ 0 := by omega
  have cp : (mkR a b).1.natAbs.Coprime (mkR a b).2.natAbs := by
    unfold gd at h2
    unfold Nat.Coprime
    omega
  have e : (⟨(mkR a b).1, (mkR a b).2.natAbs, nz, cp⟩ : Rat) = Rat.divInt a b := by
    rw [Rat.mk_eq_divInt, Rat.divInt_eq_divInt_iff (by omega) hb]
    rw [Int.natAbs_of_nonneg (by omega)]
    exact h3
  have e1 := congrArg Rat.num e
  have e2 := congrArg Rat.den e
  refine ⟨e1, ?_⟩
  rw [← e2]
  simp only
  omega
theorem mkR_rv {a b : Int} (hb : b ≠ 0) : D.tup [.int (mkR a b).1, .int (mkR a b).2] = rv (Rat.divInt a b) := by
  obtain ⟨e1, e2⟩ := mkR_rat (a := a) hb
  unfold rv
  rw [e1, e2]
theorem Qn.divInt {a b : Int} {n : Nat} (hb : b ≠ 0) (sa : Sz n a) (sb : Sz n b) : Qn n (Rat.divInt a b) := by
  obtain ⟨e1, e2⟩ := mkR_rat (a := a) hb
  obtain ⟨s1, s2⟩ := mkR_sz sa sb
  exact ⟨e1 ▸ s1, e2 ▸ s2⟩
theorem Qn.mono {n m : Nat} {q : Rat} (h : Qn n q) (l : n ≤ m) : Qn m q := ⟨h.1.mono l, h.2.mono l⟩
theorem den0 (q : Rat) : (q.den : Int) ≠ 0 := by
  have := q.den_pos
  omega
theorem rat_eq (q : Rat) : Rat.divInt q.num q.den = q := Rat.num_divInt_den q
theorem rat_add (p q : Rat) : Rat.divInt (p.num * q.den + q.num * p.den) (p.den * q.den) = p + q := by
  conv => rhs; rw [← rat_eq p, ← rat_eq q]
  rw [Rat.divInt_add_divInt _ _ (den0 p) (den0 q)]
theorem rat_mul (p q : Rat) : Rat.divInt (p.num * q.num) (p.den * q.den) = p * q := by
  conv => rhs; rw [← rat_eq p, ← rat_eq q]
  rw [Rat.divInt_mul_divInt]
theorem Qn.add {n m : Nat} {p q : Rat} (hp : Qn n p) (hq : Qn m q) : Qn (n + m + 1) (p + q) := by
  rw [← rat_add]
  exact Qn.divInt (Int.mul_ne_zero (den0 p) (den0 q)) (((hp.1.mul hq.2).add (hq.1.mul hp.2)).mono (by omega)) ((hp.2.mul hq.2).mono (by omega))
theorem Qn.mul {n m : Nat} {p q : Rat} (hp : Qn n p) (hq : Qn m q) : Qn (n + m) (p * q) := by
  rw [← rat_mul]
  exact Qn.divInt (Int.mul_ne_zero (den0 p) (den0 q)) (hp.1.mul hq.1) (hp.2.mul hq.2)
theorem Qn.zero {n : Nat} (hn : 1 ≤ n) : Qn n 0 := ⟨by show (0 : Int).natAbs < _; exact Nat.pow_pos (by decide), by show (1 : Int).natAbs < _; exact Nat.lt_of_lt_of_le (by decide) (Nat.pow_le_pow_right (by decide) hn)⟩
theorem Qn.one {n : Nat} (hn : 1 ≤ n) : Qn n 1 := ⟨by show (1 : Int).natAbs < _; exact Nat.lt_of_lt_of_le (by decide) (Nat.pow_le_pow_right (by decide) hn), by show (1 : Int).natAbs < _; exact Nat.lt_of_lt_of_le (by decide) (Nat.pow_le_pow_right (by decide) hn)⟩
@[simp] theorem rv_at0 (q : Rat) (h : Hd) : idxV (rv q) (.int 0) h = .ok (.int q.num) h := by simp [idxV, rv, L2.atI, L2.ixN]
@[simp] theorem rv_at1 (q : Rat) (h : Hd) : idxV (rv q) (.int 1) h = .ok (.int q.den) h := by simp [idxV, rv, L2.atI, L2.ixN]
theorem rv_zero : rv 0 = .tup [.int 0, .int 1] := rfl
theorem rv_one : rv 1 = .tup [.int 1, .int 1] := rfl
theorem line_ok {n : Nat} (h : n ≤ 1000000) : n ≤ line := by
  unfold line
  omega
/-! ### comprehensions -/
theorem loopC_map {α : Type} {fix : List (Nat × List D)} {b : D → Option Sl} {c : Sl → Hd → Out Bool} {e : Sl → Hd → Out D} {φ r : α → D} {h : Hd} (hf : fixOk h fix = true) : ∀ (as : List α) (acc : List D), acc.length + as.length ≤ line → (∀ a ∈ as, ∃ s1, b (φ a) = some s1 ∧ c s1 h = .ok true h ∧ e s1 h = .ok (r a) h) →
    loopC fix b c e (as.map φ) acc h = .ok (acc ++ as.map r) h
  | [], acc, hl, hs => by
    show ret (fixOk h fix) acc h = _
    rw [hf]
    simp
  | a :: as, acc, hl, hs => by
    obtain ⟨s1, e1, e2, e3⟩ := hs a List.mem_cons_self
    have ih := loopC_map hf as (acc ++ [r a]) (by simp at hl ⊢; omega) fun x hx => hs x (List.mem_cons_of_mem _ hx)
    have lt : decide (acc.length < line) = true := decide_eq_true (by simp at hl; omega)
    rw [List.map_cons]
    unfold loopC
    simp only [hf, e1, e2, e3, bind_ok, lt]
    rw [ih]
    simp
/-- tuple([..]), all([..]): the list is made behind the heap -/
theorem lc_new {α : Type} {ev : Ev} {elt : QE} {g : QG} {it : QI} {own : List Nat} {cond : QT} {s : Sl} {h : Hd} {fix : List (Nat × List D)} {φ r : α → D} {as : List α} (hi : evI ev it s h = .ok ⟨as.map φ, fix⟩ h) (hf : fixOk h fix = true) (hl : as.length ≤ line)
    (hs : ∀ a ∈ as, ∃ s1, bindG g (φ a) (wipeD s own) = some s1 ∧ evT ev cond s1 h = .ok true h ∧ evE ev elt s1 h = .ok (r a) h) : evE ev (.lc elt g it own cond) s h = .ok (.ref h.length) (h ++ [.lst (as.map r)]) := by
  rw [x_lc, hi, bind_ok, y_lc_, loopC_map hf as [] (by simpa using hl) hs]
  rfl
theorem lst_new (h : Hd) (xs : List D) : lstAt (h ++ [.lst xs]) h.length = some xs := by
  unfold lstAt
  rw [List.getElem?_append_right (Nat.le_refl _)]
  simp
@[simp] theorem tuple_new (h : Hd) (xs : List D) : biV .tuple [.ref h.length] (h ++ [.lst xs]) = .ok (.tup xs) (h ++ [.lst xs]) := by
  unfold biV
  simp [lst_new]
theorem all_new (h : Hd) {α : Type} (as : List α) (p : α → Bool) : biV .all [.ref h.length] (h ++ [.lst (as.map fun a => .bl (p a))]) = .ok (.bl (as.all p)) (h ++ [.lst (as.map fun a => .bl (p a))]) := by
  have e : bls (as.map fun a => D.bl (p a)) = some (as.map p) := by
    induction as with
    | nil => rfl
    | cons a as ih => simp [bls, ih]
  unfold biV
  simp [lst_new, e]
theorem any_new (h : Hd) {α : Type} (as : List α) (p : α → Bool) : biV .any [.ref h.length] (h ++ [.lst (as.map fun a => .bl (p a))]) = .ok (.bl (as.any p)) (h ++ [.lst (as.map fun a => .bl (p a))]) := by
  have e : bls (as.map fun a => D.bl (p a)) = some (as.map p) := by
    induction as with
    | nil => rfl
    | cons a as ih => simp [bls, ih]
  unfold biV
  simp [lst_new, e]
theorem fin_app {h l : Hd} {d : D} (hd : D.lt h.length d = true) : fin h (.rt d (h ++ l)) = .ok d h := gc_app hd
theorem rv_lt (n : Nat) (q : Rat) : D.lt n (rv q) = true := by simp [rv, D.lt, D.lts]
theorem lts_map {α : Type} (n : Nat) (r : α → D) (hr : ∀ a, D.lt n (r a) = true) : ∀ as : List α, D.lts n (as.map r) = true
  | [] => by simp [D.lts]
  | a :: as => by simp [D.lts, hr a, lts_map n r hr as]
/-! ### vectors, matrices -/
def vv (v : List Rat) : D := .tup (v.map rv)
def mv (m : List (List Rat)) : D := .tup (m.map vv)
theorem vv_lt (n : Nat) (v : List Rat) : D.lt n (vv v) = true := by
  simp only [vv, D.lt]
  exact lts_map n rv (rv_lt n) v
theorem mv_lt (n : Nat) (m : List (List Rat)) : D.lt n (mv m) = true := by
  simp only [mv, D.lt]
  exact lts_map n vv (vv_lt n) m
theorem zip_map {α β : Type} (f : α → D) (g : β → D) : ∀ (as : List α) (bs : List β), zipD (as.map f) (bs.map g) = (as.zip bs).map fun p => .tup [f p.1, g p.2]
  | [], _ => by simp [zipD]
  | _ :: _, [] => by simp [zipD]
  | a :: as, b :: bs => by simp [zipD, zip_map f g as bs]
theorem zipV_tup (xs ys : List D) (h : Hd) : zipV (.tup xs) (.tup ys) h = .ok ⟨zipD xs ys, []⟩ h := rfl
theorem loopF_fold {α : Type} {fix : List (Nat × List D)} {g : D → Sl → Option Sl} {b : Sl → Hd → SOut} {φ : α → D} {h : Hd} (hf : fixOk h fix = true) {β : Type} (st : β → Sl → Prop) (step : β → α → β) : ∀ (as : List α) (x : β) (s : Sl), st x s → (∀ a ∈ as, ∀ x s, st x s → ∃ s1 s2, g (φ a) s = some s1 ∧ b s1 h = .nx s2 h ∧ st (step x a) s2) →
    ∃ s', loopF fix g b (as.map φ) s h = .nx s' h ∧ st (as.foldl step x) s'
  | [], x, s, hs, _ => ⟨s, loopF_nil hf, hs⟩
  | a :: as, x, s, hs, ht => by
    obtain ⟨s1, s2, e1, e2, e3⟩ := ht a List.mem_cons_self x s hs
    obtain ⟨s', e4, e5⟩ := loopF_fold hf st step as (step x a) s2 e3 fun y hy => ht y (List.mem_cons_of_mem _ hy)
    refine ⟨s', ?_, e5⟩
    rw [List.map_cons, loopF_go hf e1 e2]
    exact e4
/-- a loop by what holds behind the items that are done -/
theorem loopF_inv {α : Type} {fix : List (Nat × List D)} {g : D → Sl → Option Sl} {b : Sl → Hd → SOut} {φ : α → D} {all : List α} (I : List α → Sl → Hd → Prop) (hf : ∀ l s h, I l s h → fixOk h fix = true)
    (hs : ∀ (l : List α) (a : α) (r : List α) (s : Sl) (h : Hd), l ++ a :: r = all → I l s h → ∃ s1 s2 h2, g (φ a) s = some s1 ∧ b s1 h = .nx s2 h2 ∧ I (l ++ [a]) s2 h2) : ∀ (r l : List α) (s : Sl) (h : Hd), l ++ r = all → I l s h → ∃ s' h', loopF fix g b (r.map φ) s h = .nx s' h' ∧ I all s' h'
  | [], l, s, h, e, i => by
    rw [List.append_nil] at e
    subst e
    exact ⟨s, h, loopF_nil (hf _ _ _ i), i⟩
  | a :: r, l, s, h, e, i => by
    obtain ⟨s1, s2, h2, e1, e2, i2⟩ := hs l a r s h e i
    obtain ⟨s', h', e3, i3⟩ := loopF_inv I hf hs r (l ++ [a]) s2 h2 (by rw [List.append_assoc]; exact e) i2
    refine ⟨s', h', ?_, i3⟩
    rw [List.map_cons]
    conv => lhs; unfold loopF
    simp only [hf _ _ _ i, e1, e2]
    exact e3
theorem fin_keep {h h' : Hd} {d : D} (hd : D.lt h.length d = false) : fin h (.rt d h') = .ok d h' := by
  show gc h d h' = _
  unfold gc
  rw [hd, Bool.and_false]
  rfl
theorem lst_old {h : Hd} {n : Nat} {xs : List D} (e : lstAt h n = some xs) (l : Hd) : lstAt (h ++ l) n = some xs := by
  unfold lstAt at *
  cases q : h[n]? with
  | none => rw [q] at e; cases e
  | some c =>
    rw [q] at e
    rw [List.getElem?_append_left (List.getElem?_eq_some_iff.mp q).1, q]
    exact e
/-- the list at the end of h, with what lies behind it -/
theorem lst_mid (h : Hd) (xs : List D) (l : Hd) : lstAt (h ++ .lst xs :: l) h.length = some xs := by
  unfold lstAt
  rw [List.getElem?_append_right (Nat.le_refl _)]
  simp
theorem set_mid (h : Hd) (c c' : Cell) (l : Hd) : (h ++ c :: l).set h.length c' = h ++ c' :: l := by
  rw [List.set_append_right _ _ (Nat.le_refl _)]
  simp
theorem app_mid (h : Hd) (xs : List D) (l : Hd) (y : D) (hl : xs.length < line) : mthV 0 (.ref h.length) [y] (h ++ .lst xs :: l) = .ok .non (h ++ .lst (xs ++ [y]) :: l) := by
  show appV (.ref h.length) [y] _ = _
  unfold appV
  simp only [lst_mid, decide_eq_true hl, ret_true, set_mid]
theorem isL_mid (h : Hd) (xs : List D) (l : Hd) : isLst (h ++ .lst xs :: l) (.ref h.length) = true := by
  show (lstAt _ _).isSome = true
  rw [lst_mid]
  rfl
theorem idx_ref {h : Hd} {n : Nat} {xs : List D} (e : lstAt h n = some xs) (j : Nat) (hj : j < xs.length) : idxV (.ref n) (.int (j : Int)) h = .ok xs[j] h := by
  simp [idxV, e, L2.atI, L2.ixN, hj]
theorem tuple_ref {h : Hd} {n : Nat} {xs : List D} (e : lstAt h n = some xs) : biV .tuple [.ref n] h = .ok (.tup xs) h := by
  unfold biV
  simp [e]
/-- a comprehension whose turns make things behind the heap -/
theorem loopC_grow {α : Type} {fix : List (Nat × List D)} {b : D → Option Sl} {c : Sl → Hd → Out Bool} {e : Sl → Hd → Out D} {φ r : α → D} {h0 : Hd} (hf : ∀ l, fixOk (h0 ++ l) fix = true) : ∀ (as : List α) (acc : List D) (l : Hd), acc.length + as.length ≤ line → (∀ a ∈ as, ∃ s1, b (φ a) = some s1 ∧ ∀ l, c s1 (h0 ++ l) = .ok true (h0 ++ l) ∧ ∃ l', e s1 (h0 ++ l) = .ok (r a) (h0 ++ l')) →
    ∃ l', loopC fix b c e (as.map φ) acc (h0 ++ l) = .ok (acc ++ as.map r) (h0 ++ l')
  | [], acc, l, hl, hs => by
    refine ⟨l, ?_⟩
    show ret (fixOk (h0 ++ l) fix) acc (h0 ++ l) = _
    rw [hf]
    simp
  | a :: as, acc, l, hl, hs => by
    obtain ⟨s1, e1, e2⟩ := hs a List.mem_cons_self
    obtain ⟨e2, l1, e3⟩ := e2 l
    obtain ⟨l', ih⟩ := loopC_grow hf as (acc ++ [r a]) l1 (by simp at hl ⊢; omega) fun x hx => hs x (List.mem_cons_of_mem _ hx)
    have lt : decide (acc.length < line) = true := decide_eq_true (by simp at hl; omega)
    refine ⟨l', ?_⟩
    rw [List.map_cons]
    unfold loopC
    simp only [hf, e1, e2, e3, bind_ok, lt]
    rw [ih]
    simp
end PV
/-! PVT: the ratio and vector defs by their code; callees by number, with what they give. -/
namespace PV
open PySem
/-- ev's def f gives d for xs, whatever the heap; it leaves the heap as it was -/
def Giv (ev : Ev) (f : Nat) (xs : List D) (d : D) : Prop := ∀ h, ev.call f xs h = .ok d h
section
variable {ev : Ev} {h : Hd}
def C_make (e : Nat) : QSs := .cons (.ife (.v (.cmp .Eq (.var 1) (.con (.int 0)))) (.cons (.raise e [] .nil) .nil) .nil)
  (.cons (.asg (.nm 2) (.bi .gcd (.cons (.var 0) (.cons (.var 1) .nil))))
  (.cons (.ife (.v (.cmp .Lt (.var 1) (.con (.int 0)))) (.cons (.asg (.nm 2) (.neg (.var 2))) .nil) .nil)
  (.cons (.ret (.tup (.cons (.bin .FloorDiv (.var 0) (.var 2)) (.cons (.bin .FloorDiv (.var 1) (.var 2)) .nil)))) .nil)))
theorem t_make {e : Nat} {a b : Int} (hb : b ≠ 0) {n : Nat} (sb : Sz n b) (hn : n ≤ 8900) : fin h (exSs ev (C_make e) (startD 3 [.int a, .int b]) h) = .ok (rv (Rat.divInt a b)) h := by
  have gp := gd_pos (a := a) hb
  have sg := gd_sz (a := a) hb sb
  have e2 : ((a.natAbs.gcd b.natAbs : Nat) : Int) = gd a b := rfl
  rw [← mkR_rv hb]
  by_cases hlt : b < 0
  · have d : ∀ x, divOk x (-gd a b) = true := fun x => divOk_sz sg.neg (by omega) (by omega)
    have e3 : mkR a b = (a.fdiv (-gd a b), b.fdiv (-gd a b)) := if_pos hlt
    simp [C_make, startD, hb, e2, e3, hlt, d]
  · have d : ∀ x, divOk x (gd a b) = true := fun x => divOk_sz sg (by omega) (by omega)
    have e3 : mkR a b = (a.fdiv (gd a b), b.fdiv (gd a b)) := if_neg hlt
    simp [C_make, startD, hb, e2, e3, hlt, d]
/-- what a maker of lowest terms (def f) promises -/
def MakesR (ev : Ev) (f : Nat) : Prop := ∀ a b : Int, b ≠ 0 → Sz 8900 b → Giv ev f [.int a, .int b] (rv (Rat.divInt a b))
def C_add (mk : Nat) : QSs := .cons (.ret (.call mk (.cons (.bin .Add (.bin .Mult (.idx (.var 0) (.con (.int 0))) (.idx (.var 1) (.con (.int 1)))) (.bin .Mult (.idx (.var 1) (.con (.int 0))) (.idx (.var 0) (.con (.int 1))))) (.cons (.bin .Mult (.idx (.var 0) (.con (.int 1))) (.idx (.var 1) (.con (.int 1)))) .nil)) .nil [.inl (.inl 0), .inl (.inl 1)])) .nil
theorem t_add {mk : Nat} (hm : MakesR ev mk) {p q : Rat} {n : Nat} (sp : Qn n p) (sq : Qn n q) (hn : n ≤ 4400) : fin h (exSs ev (C_add mk) (startD 2 [rv p, rv q]) h) = .ok (rv (p + q)) h := by
  have m1 := mulOk_sz sp.1 sq.2 (by omega)
  have m2 := mulOk_sz sq.1 sp.2 (by omega)
  have m3 := mulOk_sz sp.2 sq.2 (by omega)
  have c := hm (p.num * q.den + q.num * p.den) (p.den * q.den) (Int.mul_ne_zero (den0 p) (den0 q)) ((sp.2.mul sq.2).mono (by omega)) h
  rw [rat_add] at c
  simp [C_add, startD, m1, m2, m3, arrD, c]
def C_mul (mk : Nat) : QSs := .cons (.ret (.call mk (.cons (.bin .Mult (.idx (.var 0) (.con (.int 0))) (.idx (.var 1) (.con (.int 0)))) (.cons (.bin .Mult (.idx (.var 0) (.con (.int 1))) (.idx (.var 1) (.con (.int 1)))) .nil)) .nil [.inl (.inl 0), .inl (.inl 1)])) .nil
theorem t_mul {mk : Nat} (hm : MakesR ev mk) {p q : Rat} {n : Nat} (sp : Qn n p) (sq : Qn n q) (hn : n ≤ 4400) : fin h (exSs ev (C_mul mk) (startD 2 [rv p, rv q]) h) = .ok (rv (p * q)) h := by
  have m1 := mulOk_sz sp.1 sq.1 (by omega)
  have m3 := mulOk_sz sp.2 sq.2 (by omega)
  have c := hm (p.num * q.num) (p.den * q.den) (Int.mul_ne_zero (den0 p) (den0 q)) ((sp.2.mul sq.2).mono (by omega)) h
  rw [rat_mul] at c
  simp [C_mul, startD, m1, m3, arrD, c]
def C_sub (mk : Nat) : QSs := .cons (.ret (.call mk (.cons (.bin .Sub (.bin .Mult (.idx (.var 0) (.con (.int 0))) (.idx (.var 1) (.con (.int 1)))) (.bin .Mult (.idx (.var 1) (.con (.int 0))) (.idx (.var 0) (.con (.int 1))))) (.cons (.bin .Mult (.idx (.var 0) (.con (.int 1))) (.idx (.var 1) (.con (.int 1)))) .nil)) .nil [.inl (.inl 0), .inl (.inl 1)])) .nil
theorem rat_sub (p q : Rat) : Rat.divInt (p.num * q.den - q.num * p.den) (p.den * q.den) = p - q := by
  have h := rat_add p (-q)
  rw [Rat.sub_eq_add_neg, ← h]
  have e1 : (-q).num = -q.num := rfl
  have e2 : (-q).den = q.den := rfl
  rw [e1, e2, Int.neg_mul, Int.sub_eq_add_neg]
theorem t_sub {mk : Nat} (hm : MakesR ev mk) {p q : Rat} {n : Nat} (sp : Qn n p) (sq : Qn n q) (hn : n ≤ 4400) : fin h (exSs ev (C_sub mk) (startD 2 [rv p, rv q]) h) = .ok (rv (p - q)) h := by
  have m1 := mulOk_sz sp.1 sq.2 (by omega)
  have m2 := mulOk_sz sq.1 sp.2 (by omega)
  have m3 := mulOk_sz sp.2 sq.2 (by omega)
  have c := hm (p.num * q.den - q.num * p.den) (p.den * q.den) (Int.mul_ne_zero (den0 p) (den0 q)) ((sp.2.mul sq.2).mono (by omega)) h
  rw [rat_sub] at c
  simp [C_sub, startD, m1, m2, m3, arrD, c]
/-! ### Euclid's way, as the laws write it -/
theorem gd_step {a b : Int} (ha : 0 ≤ a) (hb : 0 < b) : gd b (a.fmod b) = gd a b := by
  unfold gd
  rw [Int.fmod_eq_emod_of_nonneg _ (by omega)]
  have : (a % b).natAbs = a.natAbs % b.natAbs := by
    have := Int.emod_nonneg a (show b ≠ 0 by omega)
    have e : ((a.natAbs % b.natAbs : Nat) : Int) = a % b := by
      rw [Int.natCast_emod, Int.natAbs_of_nonneg ha, Int.natAbs_of_nonneg (by omega)]
    omega
  rw [this, Nat.gcd_comm b.natAbs, ← Nat.gcd_rec, Nat.gcd_comm]
def C_common : QSs := .cons (.asg (.nm 0) (.bi .abs (.cons (.var 0) .nil)))
  (.cons (.asg (.nm 1) (.bi .abs (.cons (.var 1) .nil)))
  (.cons (.whl (.v (.cmp .Gt (.var 1) (.con (.int 0)))) (.cons (.asg (.nm 2) (.bin .Mod (.bi .int (.cons (.var 0) .nil)) (.var 1)))
  (.cons (.asg (.nm 0) (.var 1))
  (.cons (.asg (.nm 1) (.var 2)) .nil))))
  (.cons (.ret (.var 0)) .nil)))
theorem common_loop (ev : Ev) : ∀ (n : Nat) (a b : Int) (c : Option D) (h : Hd), 0 ≤ a → 0 ≤ b → b.toNat < n →
    ∃ c', loopW (evT ev (.v (.cmp .Gt (.var 1) (.con (.int 0))))) (exSs ev (.cons (.asg (.nm 2) (.bin .Mod (.bi .int (.cons (.var 0) .nil)) (.var 1)))
  (.cons (.asg (.nm 0) (.var 1))
  (.cons (.asg (.nm 1) (.var 2)) .nil)))) n [some (.int a), some (.int b), c] h = .nx [some (.int (gd a b)), some (.int 0), c'] h
  | 0, a, b, c, h, ha, hb, hn => by omega
  | n + 1, a, b, c, h, ha, hb, hn => by
    by_cases hb0 : b = 0
    · subst hb0
      refine ⟨c, ?_⟩
      have e : gd a 0 = a := by unfold gd; simp; omega
      simp [loopW, e]
    · have hp : 0 < b := by omega
      have h0 : 0 ≤ a.fmod b := by rw [Int.fmod_eq_emod_of_nonneg _ (by omega)]; exact Int.emod_nonneg _ hb0
      have h1 : a.fmod b < b := by rw [Int.fmod_eq_emod_of_nonneg _ (by omega)]; exact Int.emod_lt_of_pos _ hp
      obtain ⟨c', ih⟩ := common_loop ev n b (a.fmod b) (some (.int (a.fmod b))) h (by omega) h0 (by omega)
      rw [gd_step ha hp] at ih
      refine ⟨c', ?_⟩
      rw [loopW_go (h1 := h) (s2 := [some (.int b), some (.int (a.fmod b)), some (.int (a.fmod b))]) (h2 := h) (by simp [hp]) (by simp [hb0])]
      exact ih
theorem absI (i : Int) : (if i < 0 then -i else i) = i.natAbs := by split <;> omega
theorem t_common {a b : Int} {n : Nat} (sb : Sz n b) (hF : 2 ^ n ≤ ev.fuel) : fin h (exSs ev C_common (startD 3 [.int a, .int b]) h) = .ok (.int (gd a b)) h := by
  obtain ⟨c', e⟩ := common_loop ev ev.fuel (a.natAbs : Nat) (b.natAbs : Nat) none h (by omega) (by omega) (by unfold Sz at sb; omega)
  have g : gd (a.natAbs : Nat) (b.natAbs : Nat) = gd a b := by unfold gd; simp
  rw [g] at e
  simp [C_common, startD, absI]
  rw [e]
  simp
def C_lowest (cm : Nat) : QSs := .cons (.ife (.v (.cmp .Lt (.var 1) (.con (.int 0)))) (.cons (.asg (.nm 0) (.neg (.var 0)))
  (.cons (.asg (.nm 1) (.neg (.var 1))) .nil)) .nil)
  (.cons (.asg (.nm 2) (.call cm (.cons (.var 0) (.cons (.var 1) .nil)) .nil [.inl (.inl 0), .inl (.inl 1)]))
  (.cons (.ret (.tup (.cons (.bin .FloorDiv (.var 0) (.var 2)) (.cons (.bin .FloorDiv (.var 1) (.var 2)) .nil)))) .nil))
theorem neg_fdiv' (x y : Int) : (-x).fdiv y = x.fdiv (-y) := by
  have := Int.neg_fdiv_neg x (-y)
  rw [Int.neg_neg] at this
  exact this
theorem t_lowest {cm : Nat} (hc : ∀ a b, Sz 8900 b → Giv ev cm [.int a, .int b] (.int (gd a b))) {a b : Int} (hb : b ≠ 0) (sb : Sz 8900 b) : fin h (exSs ev (C_lowest cm) (startD 3 [.int a, .int b]) h) = .ok (rv (Rat.divInt a b)) h := by
  have gp := gd_pos (a := a) hb
  have sg := gd_sz (a := a) hb sb
  have d : ∀ x, divOk x (gd a b) = true := fun x => divOk_sz sg (by omega) (by omega)
  rw [← mkR_rv hb]
  by_cases hlt : b < 0
  · have c := hc (-a) (-b) sb.neg h
    rw [gd_neg] at c
    have e3 : mkR a b = (a.fdiv (-gd a b), b.fdiv (-gd a b)) := if_pos hlt
    simp [C_lowest, startD, e3, hlt, d, c, arrD, neg_fdiv']
  · have c := hc a b sb h
    have e3 : mkR a b = (a.fdiv (gd a b), b.fdiv (gd a b)) := if_neg hlt
    simp [C_lowest, startD, e3, hlt, d, c, arrD]
/-! ### vectors -/
theorem replicate_flat {α : Type} (x : α) : ∀ n : Nat, (List.replicate n [x]).flatten = List.replicate n x
  | 0 => rfl
  | n + 1 => by simp [List.replicate_succ, replicate_flat x n]
def C_zero : QSs := .cons (.ret (.bin .Mult (.tup (.cons (.con (.tup [.int 0, .int 1])) .nil)) (.var 0))) .nil
theorem mul_rep {x : D} {n : Nat} (hn : n ≤ 1000) (h : Hd) : mulV (.tup [x]) (.int n) h = .ok (.tup (List.replicate n x)) h := by
  have : (decide ((n : Int) ≤ 1000) && decide (-1000 ≤ (n : Int)) && decide ([x].length ≤ 1000)) = true := by simp; omega
  show ret _ _ _ = _
  rw [this]
  simp [replicate_flat]
theorem t_zero {n : Nat} (hn : n ≤ 1000) : fin h (exSs ev C_zero (startD 1 [.int n]) h) = .ok (vv (List.replicate n 0)) h := by
  have e : vv (List.replicate n 0) = .tup (List.replicate n (.tup [.int 0, .int 1])) := by
    simp [vv, List.map_replicate, rv_zero]
  have one : decide ((1 : Nat) ≤ line) = true := by decide
  have m := mul_rep (x := .tup [.int 0, .int 1]) hn h
  simp [C_zero, startD, one, e, m]
theorem vlen {α : Type} (r : α → D) (as : List α) (h : Hd) : biV .len [.tup (as.map r)] h = .ok (.int as.length) h := by simp
/-- zipped vectors -/
theorem zip_vv (v w : List Rat) (h : Hd) : zipV (vv v) (vv w) h = .ok ⟨(v.zip w).map fun p => .tup [rv p.1, rv p.2], []⟩ h := by
  unfold vv
  rw [zipV_tup, zip_map]
def C_added (ad : Nat) : QSs := .cons (.ret (.bi .tuple (.cons (.lc (.call ad (.cons (.var 2) (.cons (.var 3) .nil)) .nil [.inl (.inl 0), .inl (.inl 1)]) (.tp [.nm 2, .nm 3]) (.zip (.var 0) (.var 1)) [2, 3] .yes) .nil))) .nil
def addV2 (v w : List Rat) : List Rat := (v.zip w).map fun p => p.1 + p.2
theorem t_added {ad : Nat} {v w : List Rat} (hv : v.length ≤ line) (ha : ∀ p ∈ v.zip w, Giv ev ad [rv p.1, rv p.2] (rv (p.1 + p.2))) : fin h (exSs ev (C_added ad) (startD 4 [vv v, vv w]) h) = .ok (vv (addV2 v w)) h := by
  have l := lc_new (ev := ev) (elt := .call ad (.cons (.var 2) (.cons (.var 3) .nil)) .nil [.inl (.inl 0), .inl (.inl 1)]) (g := .tp [.nm 2, .nm 3]) (it := .zip (.var 0) (.var 1)) (own := [2, 3]) (cond := .yes) (s := [some (vv v), some (vv w), none, none]) (h := h) (fix := []) (φ := fun p : Rat × Rat => .tup [rv p.1, rv p.2]) (r := fun p => rv (p.1 + p.2)) (as := v.zip w) (by simp [zip_vv]) rfl (by simp; omega) (fun p hp => by
      refine ⟨_, by simp [wipeD]; rfl, rfl, ?_⟩
      have c := ha p hp h
      simp [arrD, c])
  have e : vv (addV2 v w) = .tup ((v.zip w).map fun p => rv (p.1 + p.2)) := by simp [vv, addV2]
  simp [C_added, startD, - x_lc, l]
  rw [← e]
  exact fin_app (vv_lt _ _)
def C_scaled (mu : Nat) : QSs := .cons (.ret (.bi .tuple (.cons (.lc (.call mu (.cons (.var 0) (.cons (.var 2) .nil)) .nil [.inl (.inl 0), .inl (.inl 1)]) (.nm 2) (.v (.var 1)) [2] .yes) .nil))) .nil
theorem walk_vv (v : List Rat) (h : Hd) : walkV (vv v) h = .ok ⟨v.map rv, []⟩ h := rfl
theorem walk_mv (m : List (List Rat)) (h : Hd) : walkV (mv m) h = .ok ⟨m.map vv, []⟩ h := rfl
theorem t_scaled {mu : Nat} {f : Rat} {w : List Rat} (hv : w.length ≤ line) (ha : ∀ p ∈ w, Giv ev mu [rv f, rv p] (rv (f * p))) : fin h (exSs ev (C_scaled mu) (startD 3 [rv f, vv w]) h) = .ok (vv (w.map fun p => f * p)) h := by
  have l := lc_new (ev := ev) (elt := .call mu (.cons (.var 0) (.cons (.var 2) .nil)) .nil [.inl (.inl 0), .inl (.inl 1)]) (g := .nm 2) (it := .v (.var 1)) (own := [2]) (cond := .yes) (s := [some (rv f), some (vv w), none]) (h := h) (fix := []) (φ := rv) (r := fun p => rv (f * p)) (as := w) (by simp [walk_vv]) rfl hv (fun p hp => by
      refine ⟨_, by simp [wipeD]; rfl, rfl, ?_⟩
      have c := ha p hp h
      simp [arrD, c])
  have e : vv (w.map fun p => f * p) = .tup (w.map fun p => rv (f * p)) := by simp [vv]
  simp [C_scaled, startD, - x_lc, l]
  rw [← e]
  exact fin_app (vv_lt _ _)
def C_applied (dt : Nat) : QSs := .cons (.ret (.bi .tuple (.cons (.lc (.call dt (.cons (.var 2) (.cons (.var 1) .nil)) .nil [.inl (.inl 0), .inl (.inl 1)]) (.nm 2) (.v (.var 0)) [2] .yes) .nil))) .nil
theorem t_applied {dt : Nat} {M : List (List Rat)} {v : List Rat} {f : List Rat → Rat} (hv : M.length ≤ line) (ha : ∀ r ∈ M, Giv ev dt [vv r, vv v] (rv (f r))) : fin h (exSs ev (C_applied dt) (startD 3 [mv M, vv v]) h) = .ok (vv (M.map f)) h := by
  have l := lc_new (ev := ev) (elt := .call dt (.cons (.var 2) (.cons (.var 1) .nil)) .nil [.inl (.inl 0), .inl (.inl 1)]) (g := .nm 2) (it := .v (.var 0)) (own := [2]) (cond := .yes) (s := [some (mv M), some (vv v), none]) (h := h) (fix := []) (φ := vv) (r := fun p => rv (f p)) (as := M) (by simp [walk_mv]) rfl hv (fun p hp => by
      refine ⟨_, by simp [wipeD]; rfl, rfl, ?_⟩
      have c := ha p hp h
      simp [arrD, c])
  have e : vv (M.map f) = .tup (M.map fun p => rv (f p)) := by simp [vv]
  simp [C_applied, startD, - x_lc, l]
  rw [← e]
  exact fin_app (vv_lt _ _)
end
end PV
/-! PVT2: dot products, columns, combined rows, equality by the law. -/
namespace PV
open PySem
section
variable {ev : Ev} {h : Hd}
theorem eqV_rv (h : Hd) (p q : Rat) : eqV h (rv p) (rv q) = some (decide (p = q)) := by
  have e : (p = q) ↔ (p.num = q.num ∧ (p.den : Int) = q.den) := ⟨fun e => by rw [e]; exact ⟨rfl, rfl⟩, fun ⟨a, b⟩ => Rat.ext a (by omega)⟩
  unfold eqV rv
  simp only [toPyT, toPy, toPys, SeqAt.shaped, PyData.eqv, PyData.eqvAll, PyData.canLay0, PyData.canLayAll0, PyData.depth, PyData.depthAll]
  simp only [decide_eq_decide.mpr e]
  by_cases h1 : p.num = q.num
  · by_cases h2 : (p.den : Int) = q.den
    · simp [h1, h2]
    · simp [h1, h2]
  · simp [h1]
@[simp] theorem eqV_rv0 (h : Hd) (p : Rat) : eqV h (rv p) (.tup [.int 0, .int 1]) = some (decide (p = 0)) := eqV_rv h p 0
def dotR (l : List (Rat × Rat)) : Rat := l.foldl (fun s p => s + p.1 * p.2) 0
def C_dot (mk : Nat) : QSs := .cons (.asg (.nm 2) (.con (.int 0)))
  (.cons (.asg (.nm 3) (.con (.int 1)))
  (.cons (.for (.tp [.nm 4, .nm 5]) (.zip (.var 0) (.var 1)) (.cons (.ife (.and (.v (.cmp .NotEq (.idx (.var 4) (.con (.int 0))) (.con (.int 0)))) (.v (.cmp .NotEq (.idx (.var 5) (.con (.int 0))) (.con (.int 0))))) (.cons (.asg (.nm 6) (.bin .Mult (.idx (.var 4) (.con (.int 1))) (.idx (.var 5) (.con (.int 1)))))
  (.cons (.asg (.nm 2) (.bin .Add (.bin .Mult (.var 2) (.var 6)) (.bin .Mult (.bin .Mult (.idx (.var 4) (.con (.int 0))) (.idx (.var 5) (.con (.int 0)))) (.var 3))))
  (.cons (.asg (.nm 3) (.bin .Mult (.var 3) (.var 6))) .nil))) .nil) .nil))
  (.cons (.ret (.call mk (.cons (.var 2) (.cons (.var 3) .nil)) .nil [.inl (.inl 0), .inl (.inl 1)])) .nil)))
def dotB : QSs := .cons (.ife (.and (.v (.cmp .NotEq (.idx (.var 4) (.con (.int 0))) (.con (.int 0)))) (.v (.cmp .NotEq (.idx (.var 5) (.con (.int 0))) (.con (.int 0))))) (.cons (.asg (.nm 6) (.bin .Mult (.idx (.var 4) (.con (.int 1))) (.idx (.var 5) (.con (.int 1)))))
  (.cons (.asg (.nm 2) (.bin .Add (.bin .Mult (.var 2) (.var 6)) (.bin .Mult (.bin .Mult (.idx (.var 4) (.con (.int 0))) (.idx (.var 5) (.con (.int 0)))) (.var 3))))
  (.cons (.asg (.nm 3) (.bin .Mult (.var 3) (.var 6))) .nil))) .nil) .nil
theorem num0 {q : Rat} (h : q.num = 0) : q = 0 := by
  have := rat_eq q
  rw [h, Rat.zero_divInt] at this
  exact this.symm
theorem dot_loop {n L : Nat} (hL : L * (2 * n + 2) ≤ 8800) (v0 v1 : Option D) : ∀ (l : List (Rat × Rat)) (i : Nat) (A B : Int) (s4 s5 s6 : Option D) (x : Rat), (∀ p ∈ l, Qn n p.1 ∧ Qn n p.2) → i + l.length ≤ L → B ≠ 0 → Rat.divInt A B = x → Sz (i * (2 * n + 1) + 1) A → Sz (i * (2 * n + 1) + 1) B →
    ∃ (A' B' : Int) (t4 t5 t6 : Option D), loopF [] (bindG (.tp [.nm 4, .nm 5])) (exSs ev dotB) (l.map fun p => .tup [rv p.1, rv p.2]) [v0, v1, some (.int A), some (.int B), s4, s5, s6] h = .nx [v0, v1, some (.int A'), some (.int B'), t4, t5, t6] h ∧ B' ≠ 0 ∧ Rat.divInt A' B' = l.foldl (fun s p => s + p.1 * p.2) x ∧ Sz 8850 B'
  | [], i, A, B, s4, s5, s6, x, hq, hi, hB, hx, sA, sB => ⟨A, B, s4, s5, s6, loopF_nil rfl, hB, hx, sB.mono (by
      have : i * (2 * n + 1) ≤ L * (2 * n + 1) := Nat.mul_le_mul_right _ (by simpa using hi)
      have : L * (2 * n + 1) ≤ L * (2 * n + 2) := Nat.mul_le_mul_left _ (by omega)
      omega)⟩
  | p :: l, i, A, B, s4, s5, s6, x, hq, hi, hB, hx, sA, sB => by
    obtain ⟨q1, q2⟩ := hq p List.mem_cons_self
    have hi' : i + 1 + l.length ≤ L := by simp at hi; omega
    have hl := fun y hy => hq y (List.mem_cons_of_mem p hy)
    have b1 : (i + 1) * (2 * n + 1) ≤ L * (2 * n + 1) := Nat.mul_le_mul_right _ (by omega)
    have b2 : L * (2 * n + 1) ≤ L * (2 * n + 2) := Nat.mul_le_mul_left _ (by omega)
    have e1 : (i + 1) * (2 * n + 1) + 1 = i * (2 * n + 1) + 1 + (2 * n + 1) := by rw [Nat.add_mul]; omega
    have e0 : bindG (.tp [.nm 4, .nm 5]) (.tup [rv p.1, rv p.2]) [v0, v1, some (.int A), some (.int B), s4, s5, s6] = some [v0, v1, some (.int A), some (.int B), some (rv p.1), some (rv p.2), s6] := by simp
    have skip : p.1 * p.2 = 0 → exSs ev dotB [v0, v1, some (.int A), some (.int B), some (rv p.1), some (rv p.2), s6] h = .nx [v0, v1, some (.int A), some (.int B), some (rv p.1), some (rv p.2), s6] h → ∃ (A' B' : Int) (t4 t5 t6 : Option D), loopF [] (bindG (.tp [.nm 4, .nm 5])) (exSs ev dotB) ((p :: l).map fun p => .tup [rv p.1, rv p.2]) [v0, v1, some (.int A), some (.int B), s4, s5, s6] h = .nx [v0, v1, some (.int A'), some (.int B'), t4, t5, t6] h ∧ B' ≠ 0 ∧ Rat.divInt A' B' = (p :: l).foldl (fun s p => s + p.1 * p.2) x ∧ Sz 8850 B' := fun z eb => by
      obtain ⟨A', B', t4, t5, t6, r1, r2, r3, r4⟩ := dot_loop hL v0 v1 l (i + 1) A B (some (rv p.1)) (some (rv p.2)) s6 x hl hi' hB hx (sA.mono (by omega)) (sB.mono (by omega))
      refine ⟨A', B', t4, t5, t6, ?_, r2, ?_, r4⟩
      · rw [List.map_cons, loopF_go rfl e0 eb]
        exact r1
      · rw [r3, List.foldl_cons, z, Rat.add_zero]
    by_cases z1 : p.1.num = 0
    · exact skip (by rw [num0 z1, Rat.zero_mul]) (by simp [dotB, z1])
    · by_cases z2 : p.2.num = 0
      · exact skip (by rw [num0 z2, Rat.mul_zero]) (by simp [dotB, z1, z2])
      · have s1 := q1.2.mul q2.2
        have s2 := sA.mul s1
        have s3 := q1.1.mul q2.1
        have s4' := s3.mul sB
        have m1 : mulOk (p.1.den : Int) p.2.den = true := mulOk_sz q1.2 q2.2 (by omega)
        have m2 : mulOk A ((p.1.den : Int) * p.2.den) = true := mulOk_sz sA s1 (by omega)
        have m3 : mulOk p.1.num p.2.num = true := mulOk_sz q1.1 q2.1 (by omega)
        have m4 : mulOk (p.1.num * p.2.num) B = true := mulOk_sz s3 sB (by omega)
        have m5 : mulOk B ((p.1.den : Int) * p.2.den) = true := mulOk_sz sB s1 (by omega)
        have sc : ((p.1.den : Int) * p.2.den) ≠ 0 := Int.mul_ne_zero (den0 _) (den0 _)
        obtain ⟨A', B', t4, t5, t6, r1, r2, r3, r4⟩ := dot_loop hL v0 v1 l (i + 1) (A * ((p.1.den : Int) * p.2.den) + p.1.num * p.2.num * B) (B * ((p.1.den : Int) * p.2.den)) (some (rv p.1)) (some (rv p.2)) (some (.int ((p.1.den : Int) * p.2.den))) (x + p.1 * p.2) hl hi' (Int.mul_ne_zero hB sc) (by
          rw [← hx, ← rat_mul, Rat.divInt_add_divInt _ _ hB sc]) ((s2.add s4').mono (by rw [e1]; omega)) ((sB.mul s1).mono (by rw [e1]; omega))
        refine ⟨A', B', t4, t5, t6, ?_, r2, r3, r4⟩
        rw [List.map_cons, loopF_go rfl e0 (s2 := [v0, v1, some (.int (A * ((p.1.den : Int) * p.2.den) + p.1.num * p.2.num * B)), some (.int (B * ((p.1.den : Int) * p.2.den))), some (rv p.1), some (rv p.2), some (.int ((p.1.den : Int) * p.2.den))]) (h2 := h) (by simp [dotB, z1, z2, m1, m2, m3, m4, m5])]
        exact r1
theorem t_dot {mk : Nat} (hm : MakesR ev mk) {v w : List Rat} {n L : Nat} (hq : ∀ p ∈ v.zip w, Qn n p.1 ∧ Qn n p.2) (hl : (v.zip w).length ≤ L) (hL : L * (2 * n + 2) ≤ 8800) : fin h (exSs ev (C_dot mk) (startD 7 [vv v, vv w]) h) = .ok (rv (dotR (v.zip w))) h := by
  have z0 : Sz (0 * (2 * n + 1) + 1) 0 := by unfold Sz; simp
  have z1 : Sz (0 * (2 * n + 1) + 1) 1 := by unfold Sz; simp
  obtain ⟨A, B, t4, t5, t6, r1, r2, r3, r4⟩ := dot_loop (ev := ev) (h := h) hL (some (vv v)) (some (vv w)) (v.zip w) 0 0 1 none none none 0 hq (by simpa using hl) (by decide) (by simp) z0 z1
  have c := hm A B r2 (r4.mono (by decide)) h
  rw [r3] at c
  simp [C_dot, startD, zip_vv]
  unfold dotB at r1
  rw [r1]
  simp [arrD, c]
  rfl
/-! ### items by place -/
theorem idx_map {α : Type} (r : α → D) (as : List α) (j : Nat) (hj : j < as.length) (h : Hd) : idxV (.tup (as.map r)) (.int j) h = .ok (r as[j]) h := by
  simp [idxV, L2.atI, L2.ixN, hj]
theorem rng_range : ∀ (n lo : Nat), rng (lo : Int) 1 n = (List.range' lo n).map fun j => .int (j : Int)
  | 0, lo => rfl
  | n + 1, lo => by
    rw [List.range'_succ, List.map_cons, ← rng_range n (lo + 1)]
    show D.int lo :: rng ((lo : Int) + 1) 1 n = _
    rw [Int.natCast_add]
    rfl
theorem rngV_n {n : Nat} (hn : n ≤ 1000000) (h : Hd) : rngV [.int (n : Int)] h = .ok ⟨(List.range n).map fun j : Nat => .int (j : Int), []⟩ h := by
  have sm := small_nat hn
  have e : (List.range n).map (fun j : Nat => D.int (j : Int)) = rng 0 1 n := by
    rw [List.range_eq_range', ← rng_range n 0]
    rfl
  rw [e]
  simp only [rngV, sm, ret_true, Int.toNat_natCast]
def C_column : QSs := .cons (.ret (.bi .tuple (.cons (.lc (.idx (.var 2) (.var 1)) (.nm 2) (.v (.var 0)) [2] .yes) .nil))) .nil
theorem t_column {M : List (List Rat)} {j : Nat} (hM : M.length ≤ line) (hj : ∀ r ∈ M, j < r.length) : fin h (exSs ev C_column (startD 3 [mv M, .int j]) h) = .ok (vv (M.map fun r => r.getD j 0)) h := by
  simp only [List.getD_eq_getElem?_getD]
  have l := lc_new (ev := ev) (elt := .idx (.var 2) (.var 1)) (g := .nm 2) (it := .v (.var 0)) (own := [2]) (cond := .yes) (s := [some (mv M), some (.int j), none]) (h := h) (fix := []) (φ := vv) (r := fun r => rv (r[j]?.getD 0)) (as := M) (by simp [walk_mv]) rfl hM (fun r hr => by
      refine ⟨_, by simp [wipeD]; rfl, rfl, ?_⟩
      have := idx_map rv r j (hj r hr) h
      simp [vv, this, hj r hr])
  have e : vv (M.map fun r => r[j]?.getD 0) = .tup (M.map fun r => rv (r[j]?.getD 0)) := by simp [vv]
  simp [C_column, startD, - x_lc, l]
  rw [← e]
  exact fin_app (vv_lt _ _)
def C_transposed (cl : Nat) : QSs := .cons (.ret (.bi .tuple (.cons (.lc (.call cl (.cons (.var 0) (.cons (.var 1) .nil)) .nil [.inl (.inl 0), .inl (.inl 1)]) (.nm 1) (.rng1 (.bi .len (.cons (.idx (.var 0) (.con (.int 0))) .nil))) [1] .yes) .nil))) .nil
theorem t_transposed {cl c : Nat} {M : List (List Rat)} {f : Nat → List Rat} (h0 : ∃ r, M[0]? = some r ∧ r.length = c) (hc : c ≤ 1000) (hf : ∀ j, j < c → Giv ev cl [mv M, .int j] (vv (f j))) : fin h (exSs ev (C_transposed cl) (startD 2 [mv M]) h) = .ok (mv ((List.range c).map f)) h := by
  obtain ⟨r0, e0, e1⟩ := h0
  have i0 : idxV (mv M) (.int 0) h = .ok (vv r0) h := by
    have hl := (List.getElem?_eq_some_iff.mp e0)
    obtain ⟨hl, e⟩ := hl
    have := idx_map vv M 0 hl h
    rw [e] at this
    exact this
  have ln : biV .len [vv r0] h = .ok (.int (c : Int)) h := by
    unfold vv
    rw [vlen, e1]
  have l := lc_new (ev := ev) (elt := .call cl (.cons (.var 0) (.cons (.var 1) .nil)) .nil [.inl (.inl 0), .inl (.inl 1)]) (g := .nm 1) (it := .rng1 (.bi .len (.cons (.idx (.var 0) (.con (.int 0))) .nil))) (own := [1]) (cond := .yes) (s := [some (mv M), none]) (h := h) (fix := []) (φ := fun j : Nat => .int (j : Int)) (r := fun j => vv (f j)) (as := List.range c) (by
      simp [i0, ln, rngV_n (show c ≤ 1000000 by omega) h]) rfl (line_ok (by simp only [List.length_range]; omega)) (fun j hj => by
      refine ⟨_, by simp [wipeD]; rfl, rfl, ?_⟩
      have c := hf j (List.mem_range.mp hj) h
      simp [arrD, c])
  have e : mv ((List.range c).map f) = .tup ((List.range c).map fun j => vv (f j)) := by simp [mv]
  simp [C_transposed, startD, - x_lc, l]
  rw [← e]
  exact fin_app (mv_lt _ _)
/-- rows combined -/
def combR (acc : List Rat) (l : List (Rat × List Rat)) : List Rat := l.foldl (fun acc p => addV2 acc (p.2.map fun q => p.1 * q)) acc
def combB (ad sc : Nat) : QSs := .cons (.ife (.v (.cmp .NotEq (.var 3) (.con (.tup [.int 0, .int 1])))) (.cons (.asg (.nm 2) (.call ad (.cons (.var 2) (.cons (.call sc (.cons (.var 3) (.cons (.var 4) .nil)) .nil [.inl (.inl 0), .inl (.inl 1)]) .nil)) .nil [.inl (.inl 0), .inl (.inl 1)])) .nil) .nil) .nil
def C_combined (ze ad sc : Nat) : QSs := .cons (.asg (.nm 2) (.call ze (.cons (.bi .len (.cons (.idx (.var 1) (.con (.int 0))) .nil)) .nil) .nil [.inl (.inl 0)]))
  (.cons (.for (.tp [.nm 3, .nm 4]) (.zip (.var 0) (.var 1)) (combB ad sc))
  (.cons (.ret (.var 2)) .nil))
theorem addV2_zero : ∀ {acc w : List Rat}, acc.length = w.length → addV2 acc (w.map fun q => 0 * q) = acc
  | [], [], _ => rfl
  | a :: acc, b :: w, e => by
    have ih := addV2_zero (acc := acc) (w := w) (by simpa using e)
    show (a + 0 * b) :: addV2 acc (w.map fun q => 0 * q) = _
    rw [ih, Rat.zero_mul, Rat.add_zero]
  | [], _ :: _, e => by simp at e
  | _ :: _, [], e => by simp at e
theorem addV2_len (v w : List Rat) : (addV2 v w).length = min v.length w.length := by simp [addV2]
theorem comb_loop {ad sc c L : Nat} (v0 v1 : Option D) (P : Nat → List Rat → Prop) : ∀ (l : List (Rat × List Rat)) (i : Nat) (acc : List Rat) (s3 s4 : Option D), i + l.length ≤ L → P i acc → acc.length = c → (∀ p ∈ l, p.2.length = c) →
    (∀ j acc, ∀ p ∈ l, j < L → P j acc → acc.length = c → Giv ev sc [rv p.1, vv p.2] (vv (p.2.map fun q => p.1 * q)) ∧ Giv ev ad [vv acc, vv (p.2.map fun q => p.1 * q)] (vv (addV2 acc (p.2.map fun q => p.1 * q))) ∧ P (j + 1) (addV2 acc (p.2.map fun q => p.1 * q))) →
    ∃ t3 t4 : Option D, loopF [] (bindG (.tp [.nm 3, .nm 4])) (exSs ev (combB ad sc)) (l.map fun p => .tup [rv p.1, vv p.2]) [v0, v1, some (vv acc), s3, s4] h = .nx [v0, v1, some (vv (combR acc l)), t3, t4] h
  | [], i, acc, s3, s4, _, _, _, _, _ => ⟨s3, s4, loopF_nil rfl⟩
  | p :: l, i, acc, s3, s4, hi, hp, hl, hr, hc => by
    have hi' : i + 1 + l.length ≤ L := by simp at hi; omega
    obtain ⟨c1, c2, c3⟩ := hc i acc p List.mem_cons_self (by omega) hp hl
    have e0 : bindG (.tp [.nm 3, .nm 4]) (.tup [rv p.1, vv p.2]) [v0, v1, some (vv acc), s3, s4] = some [v0, v1, some (vv acc), some (rv p.1), some (vv p.2)] := by simp
    have hc' := fun j acc q hq => hc j acc q (List.mem_cons_of_mem p hq)
    have hr' := fun q hq => hr q (List.mem_cons_of_mem p hq)
    have key : exSs ev (combB ad sc) [v0, v1, some (vv acc), some (rv p.1), some (vv p.2)] h = .nx [v0, v1, some (vv (addV2 acc (p.2.map fun q => p.1 * q))), some (rv p.1), some (vv p.2)] h := by
      by_cases z : p.1 = 0
      · have e := addV2_zero (acc := acc) (w := p.2) (by rw [hl, hr p List.mem_cons_self])
        rw [z, e]
        have z' : eqV h (rv 0) (.tup [.int 0, .int 1]) = some true := by rw [eqV_rv0]; simp
        simp [combB, z']
      · simp [combB, z, arrD, c1 h, c2 h]
    obtain ⟨t3, t4, r⟩ := comb_loop v0 v1 P l (i + 1) (addV2 acc (p.2.map fun q => p.1 * q)) (some (rv p.1)) (some (vv p.2)) hi' c3 (by rw [addV2_len, hl, List.length_map, hr p List.mem_cons_self, Nat.min_self]) hr' hc'
    refine ⟨t3, t4, ?_⟩
    rw [List.map_cons, loopF_go rfl e0 key]
    exact r
theorem t_combined {ze ad sc c L : Nat} {v : List Rat} {M : List (List Rat)} (h0 : ∃ r, M[0]? = some r ∧ r.length = c) (hr : ∀ r ∈ M, r.length = c) (hz : Giv ev ze [.int (c : Int)] (vv (List.replicate c 0))) (P : Nat → List Rat → Prop) (p0 : P 0 (List.replicate c 0)) (hL : (v.zip M).length ≤ L)
    (hc : ∀ j acc, ∀ p ∈ v.zip M, j < L → P j acc → acc.length = c → Giv ev sc [rv p.1, vv p.2] (vv (p.2.map fun q => p.1 * q)) ∧ Giv ev ad [vv acc, vv (p.2.map fun q => p.1 * q)] (vv (addV2 acc (p.2.map fun q => p.1 * q))) ∧ P (j + 1) (addV2 acc (p.2.map fun q => p.1 * q))) :
    fin h (exSs ev (C_combined ze ad sc) (startD 5 [vv v, mv M]) h) = .ok (vv (combR (List.replicate c 0) (v.zip M))) h := by
  obtain ⟨r0, e0, e1⟩ := h0
  have i0 : idxV (mv M) (.int 0) h = .ok (vv r0) h := by
    obtain ⟨hl, e⟩ := List.getElem?_eq_some_iff.mp e0
    have := idx_map vv M 0 hl h
    rw [e] at this
    exact this
  have ln : biV .len [vv r0] h = .ok (.int (c : Int)) h := by
    unfold vv
    rw [vlen, e1]
  have zp : zipV (vv v) (mv M) h = .ok ⟨(v.zip M).map fun p => .tup [rv p.1, vv p.2], []⟩ h := by
    unfold vv mv
    rw [zipV_tup, zip_map]
    rfl
  obtain ⟨t3, t4, r⟩ := comb_loop (ev := ev) (h := h) (ad := ad) (sc := sc) (c := c) (some (vv v)) (some (mv M)) P (v.zip M) 0 (List.replicate c 0) none none (by simpa using hL) p0 (by simp) (fun p hp => hr p.2 (List.of_mem_zip hp).2) hc
  simp [C_combined, startD, i0, ln, arrD, hz h, zp, r]
def C_multiplied (cb : Nat) : QSs := .cons (.ret (.bi .tuple (.cons (.lc (.call cb (.cons (.var 2) (.cons (.var 1) .nil)) .nil [.inl (.inl 0), .inl (.inl 1)]) (.nm 2) (.v (.var 0)) [2] .yes) .nil))) .nil
theorem t_multiplied {cb : Nat} {M N : List (List Rat)} {f : List Rat → List Rat} (hv : M.length ≤ line) (ha : ∀ r ∈ M, Giv ev cb [vv r, mv N] (vv (f r))) : fin h (exSs ev (C_multiplied cb) (startD 3 [mv M, mv N]) h) = .ok (mv (M.map f)) h := by
  have l := lc_new (ev := ev) (elt := .call cb (.cons (.var 2) (.cons (.var 1) .nil)) .nil [.inl (.inl 0), .inl (.inl 1)]) (g := .nm 2) (it := .v (.var 0)) (own := [2]) (cond := .yes) (s := [some (mv M), some (mv N), none]) (h := h) (fix := []) (φ := vv) (r := fun p => vv (f p)) (as := M) (by simp [walk_mv]) rfl hv (fun p hp => by
      refine ⟨_, by simp [wipeD]; rfl, rfl, ?_⟩
      have c := ha p hp h
      simp [arrD, c])
  have e : mv (M.map f) = .tup (M.map fun p => vv (f p)) := by simp [mv]
  simp [C_multiplied, startD, - x_lc, l]
  rw [← e]
  exact fin_app (mv_lt _ _)
/-! ### unit vectors -/
def unitR (n i : Nat) : List Rat := List.replicate i 0 ++ [1] ++ List.replicate (n - i - 1) 0
def C_unit (ze : Nat) : QSs := .cons (.ret (.bin .Add (.bin .Add (.call ze (.cons (.var 1) .nil) .nil [.inl (.inl 0)]) (.tup (.cons (.con (.tup [.int 1, .int 1])) .nil))) (.call ze (.cons (.bin .Sub (.bin .Sub (.var 0) (.var 1)) (.con (.int 1))) .nil) .nil [.inl (.inl 0)]))) .nil
theorem addV_vv (v w : List Rat) (hl : v.length + w.length ≤ 1000000) (h : Hd) : addV (vv v) (vv w) h = .ok (vv (v ++ w)) h := by
  have : decide ((v.map rv).length + (w.map rv).length ≤ line) = true := decide_eq_true (by
    simp only [List.length_map]
    show v.length + w.length ≤ 16777216
    omega)
  show ret _ (D.tup (v.map rv ++ w.map rv)) h = _
  rw [this]
  simp [vv]
theorem t_unit {ze n i : Nat} (hi : i < n) (hn : n ≤ 1000) (hz : ∀ m : Nat, m ≤ 1000 → Giv ev ze [.int (m : Int)] (vv (List.replicate m 0))) : fin h (exSs ev (C_unit ze) (startD 2 [.int (n : Int), .int (i : Int)]) h) = .ok (vv (unitR n i)) h := by
  have z1 := hz i (by omega) h
  have z2 := hz (n - i - 1) (by omega) h
  have e : (n : Int) - i - 1 = ((n - i - 1 : Nat) : Int) := by omega
  have one : decide ((1 : Nat) ≤ line) = true := by decide
  have o : D.tup [D.tup [.int 1, .int 1]] = vv [1] := rfl
  have a1 := addV_vv (List.replicate i 0) [1] (by simp; omega) h
  have a2 := addV_vv (List.replicate i 0 ++ [1]) (List.replicate (n - i - 1) 0) (by simp; omega) h
  simp [C_unit, startD, arrD, z1, one, e, o, a1, - List.append_assoc]
  rw [z2]
  simp only [bind_ok, y_bin2_, binV_add, a2, st_ok, andS_rt, fin_rt]
  rfl
def C_identity (un : Nat) : QSs := .cons (.ret (.bi .tuple (.cons (.lc (.call un (.cons (.var 0) (.cons (.var 1) .nil)) .nil [.inl (.inl 0), .inl (.inl 1)]) (.nm 1) (.rng1 (.var 0)) [1] .yes) .nil))) .nil
theorem t_identity {un n : Nat} (hn : n ≤ 1000) (hu : ∀ i, i < n → Giv ev un [.int (n : Int), .int (i : Int)] (vv (unitR n i))) : fin h (exSs ev (C_identity un) (startD 2 [.int (n : Int)]) h) = .ok (mv ((List.range n).map (unitR n))) h := by
  have l := lc_new (ev := ev) (elt := .call un (.cons (.var 0) (.cons (.var 1) .nil)) .nil [.inl (.inl 0), .inl (.inl 1)]) (g := .nm 1) (it := .rng1 (.var 0)) (own := [1]) (cond := .yes) (s := [some (.int (n : Int)), none]) (h := h) (fix := []) (φ := fun j : Nat => .int (j : Int)) (r := fun j => vv (unitR n j)) (as := List.range n) (by
      simp [rngV_n (show n ≤ 1000000 by omega) h]) rfl (line_ok (by simp only [List.length_range]; omega)) (fun j hj => by
      refine ⟨_, by simp [wipeD]; rfl, rfl, ?_⟩
      have c := hu j (List.mem_range.mp hj) h
      simp [arrD, c])
  have e : mv ((List.range n).map (unitR n)) = .tup ((List.range n).map fun j => vv (unitR n j)) := by simp [mv]
  simp [C_identity, startD, - x_lc, l]
  rw [← e]
  exact fin_app (mv_lt _ _)
/-! ### equal by the law's own way -/
def C_same (sm : Nat) : QSs := .cons (.ife (.v (.isi (.var 1) .tuple)) (.cons (.ife (.or (.not (.v (.isi (.var 0) .tuple))) (.v (.cmp .NotEq (.bi .len (.cons (.var 0) .nil)) (.bi .len (.cons (.var 1) .nil))))) (.cons (.ret (.con (.bl false))) .nil) .nil)
  (.cons (.ret (.bi .all (.cons (.lc (.call sm (.cons (.idx (.var 0) (.var 2)) (.cons (.idx (.var 1) (.var 2)) .nil)) .nil [.inl (.inl 0), .inl (.inl 1)]) (.nm 2) (.rng1 (.bi .len (.cons (.var 1) .nil))) [2] .yes) .nil))) .nil)) .nil)
  (.cons (.ife (.v (.cmp .Is (.var 1) (.con .non))) (.cons (.ret (.cmp .Is (.var 0) (.con .non))) .nil) .nil)
  (.cons (.ife (.v (.isi (.var 1) .str)) (.cons (.ret (.andv (.isi (.var 0) .str) (.cmp .Eq (.var 0) (.var 1)))) .nil) .nil)
  (.cons (.ife (.v (.isi (.var 1) .bool)) (.cons (.ret (.andv (.isi (.var 0) .bool) (.cmp .Eq (.var 0) (.var 1)))) .nil) .nil)
  (.cons (.ret (.andv (.isi (.var 0) .int) (.andv (.nott (.isi (.var 0) .bool)) (.cmp .Eq (.var 0) (.var 1))))) .nil))))
theorem t_same_int {sm : Nat} {i : Int} : fin h (exSs ev (C_same sm) (startD 3 [.int i, .int i]) h) = .ok (.bl true) h := by
  simp [C_same, startD]
theorem t_same_tup {sm : Nat} {α : Type} {r : α → D} {as : List α} (hl : as.length ≤ 1000000) (hs : ∀ a ∈ as, Giv ev sm [r a, r a] (.bl true)) : fin h (exSs ev (C_same sm) (startD 3 [.tup (as.map r), .tup (as.map r)]) h) = .ok (.bl true) h := by
  have l := lc_new (ev := ev) (elt := .call sm (.cons (.idx (.var 0) (.var 2)) (.cons (.idx (.var 1) (.var 2)) .nil)) .nil [.inl (.inl 0), .inl (.inl 1)]) (g := .nm 2) (it := .rng1 (.bi .len (.cons (.var 1) .nil))) (own := [2]) (cond := .yes) (s := [some (.tup (as.map r)), some (.tup (as.map r)), none]) (h := h) (fix := []) (φ := fun j : Nat => .int (j : Int)) (r := fun j => .bl ((fun _ => true) j)) (as := List.range as.length) (by
      simp [rngV_n hl h]) rfl (line_ok (by simpa using hl)) (fun j hj => by
      refine ⟨_, by simp [wipeD]; rfl, rfl, ?_⟩
      have hj := List.mem_range.mp hj
      have c := hs as[j] (List.getElem_mem hj) h
      have ix := idx_map r as j hj h
      simp [arrD, ix, c])
  have a := all_new h (List.range as.length) (fun _ => true)
  simp [C_same, startD, - x_lc, l]
  rw [a]
  simp
  rw [show ((List.range as.length).all fun _ => true) = true from List.all_eq_true.mpr fun _ _ => rfl]
  exact fin_app rfl
end
end PV
/-! PVQ: vectors and matrices by places; sums. -/
namespace PV
open PySem
def sumN (f : Nat → Rat) : Nat → Rat
  | 0 => 0
  | n + 1 => sumN f n + f n
theorem sumN_congr {f g : Nat → Rat} : ∀ {n : Nat}, (∀ i, i < n → f i = g i) → sumN f n = sumN g n
  | 0, _ => rfl
  | n + 1, h => by
    show sumN f n + f n = sumN g n + g n
    rw [sumN_congr fun i hi => h i (by omega), h n (by omega)]
theorem sumN_add (f g : Nat → Rat) : ∀ n : Nat, sumN (fun i => f i + g i) n = sumN f n + sumN g n
  | 0 => by simp [sumN, Rat.add_zero]
  | n + 1 => by
    show sumN _ n + (f n + g n) = sumN f n + f n + (sumN g n + g n)
    rw [sumN_add f g n]
    grind
theorem sumN_mul (c : Rat) (f : Nat → Rat) : ∀ n : Nat, sumN (fun i => c * f i) n = c * sumN f n
  | 0 => by simp [sumN, Rat.mul_zero]
  | n + 1 => by
    show sumN _ n + c * f n = c * (sumN f n + f n)
    rw [sumN_mul c f n]
    grind
theorem sumN_mul' (c : Rat) (f : Nat → Rat) (n : Nat) : sumN (fun i => f i * c) n = sumN f n * c := by
  rw [Rat.mul_comm (sumN f n) c, ← sumN_mul]
  exact sumN_congr fun i _ => Rat.mul_comm _ _
theorem sumN_zero : ∀ n : Nat, sumN (fun _ => 0) n = 0
  | 0 => rfl
  | n + 1 => by
    show sumN _ n + 0 = 0
    rw [sumN_zero n, Rat.add_zero]
theorem sumN_comm (f : Nat → Nat → Rat) (m : Nat) : ∀ n : Nat, sumN (fun i => sumN (fun j => f i j) m) n = sumN (fun j => sumN (fun i => f i j) n) m
  | 0 => (sumN_zero m).symm
  | n + 1 => by
    show sumN _ n + sumN (fun j => f n j) m = _
    rw [sumN_comm f m n, ← sumN_add]
    rfl
theorem sumN_one (f : Nat → Rat) (j : Nat) : ∀ n : Nat, sumN (fun i => (if i = j then 1 else 0) * f i) n = if j < n then f j else 0
  | 0 => by simp [sumN]
  | n + 1 => by
    show sumN _ n + (if n = j then 1 else 0) * f n = _
    rw [sumN_one f j n]
    by_cases h : n = j
    · subst h
      rw [if_neg (Nat.lt_irrefl n), if_pos rfl, if_pos (Nat.lt_succ_self n)]
      grind
    · rw [if_neg h]
      by_cases h2 : j < n
      · rw [if_pos h2, if_pos (by omega)]
        grind
      · rw [if_neg h2, if_neg (by omega)]
        grind
def vec (n : Nat) (f : Nat → Rat) : List Rat := (List.range n).map f
def mat (r c : Nat) (f : Nat → Nat → Rat) : List (List Rat) := (List.range r).map fun i => vec c (f i)
@[simp] theorem vec_len (n : Nat) (f : Nat → Rat) : (vec n f).length = n := by simp [vec]
@[simp] theorem mat_len (r c : Nat) (f : Nat → Nat → Rat) : (mat r c f).length = r := by simp [mat]
theorem vec_of {n : Nat} {v : List Rat} (h : v.length = n) : v = vec n (fun i => v.getD i 0) := by
  apply List.ext_getElem
  · simp [h]
  · intro i h1 h2
    simp [vec, h1]
theorem mat_of {r c : Nat} {M : List (List Rat)} (h : M.length = r) (hr : ∀ row ∈ M, row.length = c) : M = mat r c (fun i j => (M.getD i []).getD j 0) := by
  apply List.ext_getElem
  · simp [h]
  · intro i h1 h2
    have := vec_of (hr M[i] (List.getElem_mem h1))
    simp only [mat, List.getElem_map, List.getElem_range]
    simp only [List.getD_eq_getElem?_getD] at this ⊢
    rw [List.getElem?_eq_getElem h1]
    exact this
theorem vec_congr {n : Nat} {f g : Nat → Rat} (h : ∀ i, i < n → f i = g i) : vec n f = vec n g := by
  unfold vec
  exact List.map_congr_left fun i hi => h i (List.mem_range.mp hi)
theorem mat_congr {r c : Nat} {f g : Nat → Nat → Rat} (h : ∀ i j, i < r → j < c → f i j = g i j) : mat r c f = mat r c g := by
  unfold mat
  exact List.map_congr_left fun i hi => vec_congr fun j hj => h i j (List.mem_range.mp hi) hj
theorem mat_row {r c : Nat} {f : Nat → Nat → Rat} {row : List Rat} (h : row ∈ mat r c f) : ∃ i, i < r ∧ row = vec c (f i) := by
  obtain ⟨i, hi, e⟩ := List.mem_map.mp h
  exact ⟨i, List.mem_range.mp hi, e.symm⟩
theorem mat_map {r c c' : Nat} {f g : Nat → Nat → Rat} {F : List Rat → List Rat} (h : ∀ i, i < r → F (vec c (f i)) = vec c' (g i)) : (mat r c f).map F = mat r c' g := by
  unfold mat
  rw [List.map_map]
  exact List.map_congr_left fun i hi => h i (List.mem_range.mp hi)
theorem mat_mapv {r c : Nat} {f : Nat → Nat → Rat} {g : Nat → Rat} {F : List Rat → Rat} (h : ∀ i, i < r → F (vec c (f i)) = g i) : (mat r c f).map F = vec r g := by
  unfold mat vec
  rw [List.map_map]
  exact List.map_congr_left fun i hi => h i (List.mem_range.mp hi)
theorem range_zip {α β : Type} (f : Nat → α) (g : Nat → β) (n : Nat) : ((List.range n).map f).zip ((List.range n).map g) = (List.range n).map fun i => (f i, g i) := by
  rw [List.zip_map]
  apply List.ext_getElem
  · simp
  · intro i h1 h2
    simp
theorem foldl_sum (f : Nat → Rat) : ∀ n : Nat, (List.range n).foldl (fun s i => s + f i) 0 = sumN f n
  | 0 => rfl
  | n + 1 => by
    rw [List.range_succ, List.foldl_append, foldl_sum f n]
    rfl
theorem dot_vec (n : Nat) (f g : Nat → Rat) : dotR ((vec n f).zip (vec n g)) = sumN (fun i => f i * g i) n := by
  unfold dotR vec
  rw [range_zip, List.foldl_map]
  exact foldl_sum (fun i => f i * g i) n
theorem addV2_vec (n : Nat) (f g : Nat → Rat) : addV2 (vec n f) (vec n g) = vec n fun i => f i + g i := by
  unfold addV2 vec
  rw [range_zip, List.map_map]
  rfl
theorem scale_vec (n : Nat) (c : Rat) (f : Nat → Rat) : (vec n f).map (fun q => c * q) = vec n fun i => c * f i := by
  unfold vec
  rw [List.map_map]
  rfl
theorem zero_vec (n : Nat) : List.replicate n (0 : Rat) = vec n fun _ => 0 := by
  unfold vec
  simp [List.map_const']
theorem comb_vec (c : Nat) (f : Nat → Rat) (g : Nat → Nat → Rat) : ∀ r : Nat, combR (List.replicate c 0) ((vec r f).zip (mat r c g)) = vec c fun j => sumN (fun i => f i * g i j) r
  | 0 => by
    show List.replicate c 0 = _
    rw [zero_vec]
    rfl
  | r + 1 => by
    have ih := comb_vec c f g r
    unfold combR at *
    unfold vec mat at *
    rw [range_zip, List.foldl_map] at *
    rw [List.range_succ, List.foldl_append, ih]
    show addV2 (vec c fun j => sumN (fun i => f i * g i j) r) ((vec c (g r)).map fun q => f r * q) = _
    rw [scale_vec, addV2_vec]
    rfl
theorem col_vec {r c : Nat} {g : Nat → Nat → Rat} {j : Nat} (hj : j < c) : (mat r c g).map (fun row => row.getD j 0) = vec r fun i => g i j :=
  mat_mapv fun i hi => by simp [vec, hj]
theorem trans_mat {r c : Nat} {g : Nat → Nat → Rat} : (List.range c).map (fun j => (mat r c g).map fun row => row.getD j 0) = mat c r fun j i => g i j := by
  unfold mat
  exact List.map_congr_left fun j hj => col_vec (List.mem_range.mp hj)
theorem unit_vec {n i : Nat} (hi : i < n) : unitR n i = vec n fun j => if j = i then 1 else 0 := by
  unfold unitR
  apply List.ext_getElem
  · simp; omega
  · intro j h1 h2
    simp only [vec, List.getElem_map, List.getElem_range]
    by_cases h : j < i
    · rw [List.getElem_append_left (by simp; omega), List.getElem_append_left (by simpa using h)]
      simp
      omega
    · by_cases e : j = i
      · subst e
        rw [List.getElem_append_left (by simp), List.getElem_append_right (by simp)]
        simp
      · rw [List.getElem_append_right (by simp; omega)]
        simp [e]
end PV
/-! PVW: the plain side by what shall hold behind a step (WpE, WpS); simp walks the code and stops at loops. -/
namespace PV
open PySem
def WpE {α : Type} (o : Out α) (Q : α → Hd → Prop) (X : Exn → Hd → Prop) : Prop := match o with
  | .ok a h => Q a h
  | .ex e h => X e h
  | .no => False
structure Po where
  nx : Sl → Hd → Prop
  rt : D → Hd → Prop
  bk : Sl → Hd → Prop
  ct : Sl → Hd → Prop
  ex : Exn → Sl → Hd → Prop
def WpS (o : SOut) (P : Po) : Prop := match o with
  | .nx s h => P.nx s h
  | .rt d h => P.rt d h
  | .bk s h => P.bk s h
  | .ct s h => P.ct s h
  | .ex e s h => P.ex e s h
  | .no => False
section
variable {α β : Type} {Q : β → Hd → Prop} {X : Exn → Hd → Prop} {P : Po}
@[simp] theorem WpE_ok {Q : α → Hd → Prop} (a : α) (h : Hd) : WpE (.ok a h) Q X = Q a h := rfl
@[simp] theorem WpE_ex {Q : α → Hd → Prop} (e : Exn) (h : Hd) : WpE (.ex e h) Q X = X e h := rfl
def KE (f : α → Hd → Out β) (Q : β → Hd → Prop) (X : Exn → Hd → Prop) (a : α) (h : Hd) : Prop := WpE (f a h) Q X
@[simp] theorem KE_ (f : α → Hd → Out β) (a : α) (h : Hd) : KE f Q X a h = WpE (f a h) Q X := rfl
@[simp] theorem WpE_bind (o : Out α) (f : α → Hd → Out β) : WpE (o.bind f) Q X = WpE o (KE f Q X) X := by cases o <;> rfl
@[simp] theorem WpS_nx (s : Sl) (h : Hd) : WpS (.nx s h) P = P.nx s h := rfl
@[simp] theorem WpS_rt (d : D) (h : Hd) : WpS (.rt d h) P = P.rt d h := rfl
@[simp] theorem WpS_bk (s : Sl) (h : Hd) : WpS (.bk s h) P = P.bk s h := rfl
@[simp] theorem WpS_ct (s : Sl) (h : Hd) : WpS (.ct s h) P = P.ct s h := rfl
@[simp] theorem WpS_ex (e : Exn) (s : Sl) (h : Hd) : WpS (.ex e s h) P = P.ex e s h := rfl
def KS (f : α → Hd → SOut) (P : Po) (a : α) (h : Hd) : Prop := WpS (f a h) P
@[simp] theorem KS_ (f : α → Hd → SOut) (a : α) (h : Hd) : KS f P a h = WpS (f a h) P := rfl
def KX (P : Po) (s : Sl) (e : Exn) (h : Hd) : Prop := P.ex e s h
@[simp] theorem KX_ (s : Sl) (e : Exn) (h : Hd) : KX P s e h = P.ex e s h := rfl
@[simp] theorem WpS_st (o : Out α) (s : Sl) (f : α → Hd → SOut) : WpS (o.st s f) P = WpE o (KS f P) (KX P s) := by cases o <;> rfl
def Po.beh (P : Po) (f : Sl → Hd → SOut) : Po := ⟨fun s h => WpS (f s h) P, P.rt, P.bk, P.ct, P.ex⟩
@[simp] theorem beh_nx (f : Sl → Hd → SOut) (s : Sl) (h : Hd) : (P.beh f).nx s h = WpS (f s h) P := rfl
@[simp] theorem beh_rt (f : Sl → Hd → SOut) : (P.beh f).rt = P.rt := rfl
@[simp] theorem beh_bk (f : Sl → Hd → SOut) : (P.beh f).bk = P.bk := rfl
@[simp] theorem beh_ct (f : Sl → Hd → SOut) : (P.beh f).ct = P.ct := rfl
@[simp] theorem beh_ex (f : Sl → Hd → SOut) : (P.beh f).ex = P.ex := rfl
@[simp] theorem WpS_andS (o : SOut) (f : Sl → Hd → SOut) : WpS (andS f o) P = WpS o (P.beh f) := by cases o <;> rfl
theorem WpE_mono {Q Q' : α → Hd → Prop} {X X' : Exn → Hd → Prop} {o : Out α} (k : WpE o Q X) (hq : ∀ a h, Q a h → Q' a h) (hx : ∀ e h, X e h → X' e h) : WpE o Q' X' := by
  cases o with
  | ok a h => exact hq a h k
  | ex e h => exact hx e h k
  | no => exact k
theorem WpE_ife {Q : D → Hd → Prop} {ev : Ev} {a b : QE} {s : Sl} {h : Hd} {k : Bool} (ht : k = true → WpE (evE ev a s h) Q X) (he : k = false → WpE (evE ev b s h) Q X) : WpE (y_ife ev a b s k h) Q X := by
  cases k
  · exact he rfl
  · exact ht rfl
theorem WpS_if {ev : Ev} {a b : QSs} {s : Sl} {h : Hd} {k : Bool} (ht : k = true → WpS (exSs ev a s h) P) (he : k = false → WpS (exSs ev b s h) P) : WpS (y_if ev a b s k h) P := by
  cases k
  · exact he rfl
  · exact ht rfl
theorem WpS_mono {P' : Po} {o : SOut} (k : WpS o P) (h1 : ∀ s h, P.nx s h → P'.nx s h) (h2 : ∀ d h, P.rt d h → P'.rt d h) (h3 : ∀ s h, P.bk s h → P'.bk s h) (h4 : ∀ s h, P.ct s h → P'.ct s h) (h5 : ∀ e s h, P.ex e s h → P'.ex e s h) : WpS o P' := by
  cases o with
  | nx s h => exact h1 s h k
  | rt s h => exact h2 s h k
  | bk s h => exact h3 s h k
  | ct s h => exact h4 s h k
  | ex e s h => exact h5 e s h k
  | no => exact k
end
/-! ### the heap grows -/
theorem pre_app {h H l : Hd} (p : h <+: H) : h <+: H ++ l := p.trans (List.prefix_append _ _)
theorem pre_set {h H : Hd} {n : Nat} {c : Cell} (p : h <+: H) (q : h.length ≤ n) : h <+: H.set n c := by
  obtain ⟨l, rfl⟩ := p
  rw [List.set_append_right _ _ q]
  exact List.prefix_append _ _
theorem lst_pre {h H : Hd} {n : Nat} {xs : List D} (e : lstAt h n = some xs) (p : h <+: H) : lstAt H n = some xs := by
  obtain ⟨l, rfl⟩ := p
  exact lst_old e l
theorem lst_lt {h : Hd} {n : Nat} {xs : List D} (e : lstAt h n = some xs) : n < h.length := by
  unfold lstAt at e
  cases q : h[n]? with
  | none => rw [q] at e; cases e
  | some x => exact (List.getElem?_eq_some_iff.mp q).1
theorem r_set {h : Hd} {n : Nat} {xs ys : List D} (e : lstAt h n = some xs) : lstAt (h.set n (.lst ys)) n = some ys := by
  unfold lstAt
  rw [List.getElem?_set_self (lst_lt e)]
theorem r_set_ne {h : Hd} {n m : Nat} {xs ys : List D} (e : lstAt h m = some xs) (q : n ≠ m) : lstAt (h.set n (.lst ys)) m = some xs := by
  unfold lstAt at *
  rw [List.getElem?_set_ne q]
  exact e
theorem lst_off (h l : Hd) (n : Nat) (q : h.length ≤ n) : lstAt (h ++ l) n = lstAt l (n - h.length) := by
  unfold lstAt
  rw [List.getElem?_append_right q]
@[simp] theorem lst_off0 (h l : Hd) : lstAt (h ++ l) h.length = lstAt l 0 := by rw [lst_off _ _ _ (Nat.le_refl _), Nat.sub_self]
@[simp] theorem lst_offk (h l : Hd) (k : Nat) : lstAt (h ++ l) (h.length + k) = lstAt l k := by rw [lst_off _ _ _ (Nat.le_add_right _ _), Nat.add_sub_cancel_left]
@[simp] theorem lst_c0 (xs : List D) (l : Hd) : lstAt (.lst xs :: l) 0 = some xs := rfl
@[simp] theorem lst_cs (c : Cell) (l : Hd) (k : Nat) : lstAt (c :: l) (k + 1) = lstAt l k := rfl
@[simp] theorem lst_c1 (c : Cell) (l : Hd) : lstAt (c :: l) 1 = lstAt l 0 := rfl
/-- with the list at a place -/
def onL {α : Type} (f : List D → Out α) : Option (List D) → Out α
  | some xs => f xs
  | none => .no
@[simp] theorem onL_some {α : Type} (f : List D → Out α) (xs : List D) : onL f (some xs) = f xs := rfl
section
variable (h : Hd) (n : Nat)
@[simp] theorem r_tuple : biV .tuple [.ref n] h = onL (fun xs => .ok (.tup xs) h) (lstAt h n) := by
  show (match lstAt h n with
    | some xs => Out.ok (D.tup xs) h
    | none => .no) = _
  cases lstAt h n <;> rfl
@[simp] theorem r_list : biV .list [.ref n] h = onL (fun xs => newL xs h) (lstAt h n) := by
  show (match lstAt h n with
    | some xs => newL xs h
    | none => .no) = _
  cases lstAt h n <;> rfl
@[simp] theorem r_list_tup (xs : List D) : biV .list [.tup xs] h = newL xs h := rfl
@[simp] theorem r_tuple_tup (xs : List D) : biV .tuple [.tup xs] h = .ok (.tup xs) h := rfl
@[simp] theorem r_len : biV .len [.ref n] h = onL (fun xs => .ok (.int xs.length) h) (lstAt h n) := by
  show (match lstAt h n with
    | some xs => Out.ok (D.int xs.length) h
    | none => .no) = _
  cases lstAt h n <;> rfl
def idO (h : Hd) : Option D → Out D
  | some d => .ok d h
  | none => .no
@[simp] theorem idO_some (d : D) : idO h (some d) = .ok d h := rfl
@[simp] theorem r_idx (k : Int) : idxV (.ref n) (.int k) h = onL (fun xs => idO h (L2.atI xs k)) (lstAt h n) := by
  show (match lstAt h n with
    | some xs => (match L2.atI xs k with
      | some d => Out.ok d h
      | none => Out.no)
    | none => Out.no) = _
  cases lstAt h n with
  | none => rfl
  | some xs =>
    show (match L2.atI xs k with
      | some d => Out.ok d h
      | none => Out.no) = idO h (L2.atI xs k)
    cases L2.atI xs k <;> rfl
@[simp] theorem t_idx (xs : List D) (k : Int) : idxV (.tup xs) (.int k) h = idO h (L2.atI xs k) := by
  show (match L2.atI xs k with
    | some d => Out.ok d h
    | none => .no) = idO h (L2.atI xs k)
  cases L2.atI xs k <;> rfl
@[simp] theorem fl_idx (xs : List D) (k : Int) : idxV (.fl xs) (.int k) h = idO h (L2.atI xs k) := by
  show (match L2.atI xs k with
    | some d => Out.ok d h
    | none => .no) = idO h (L2.atI xs k)
  cases L2.atI xs k <;> rfl
@[simp] theorem r_sl (lo hi : Option Int) : slV (.ref n) lo hi h = onL (fun xs => newL (cut xs lo hi) h) (lstAt h n) := by
  show (match lstAt h n with
    | some xs => newL (cut xs lo hi) h
    | none => Out.no) = _
  cases lstAt h n <;> rfl
@[simp] theorem t_sl (xs : List D) (lo hi : Option Int) : slV (.tup xs) lo hi h = .ok (.tup (cut xs lo hi)) h := rfl
@[simp] theorem fl_sl (xs : List D) (lo hi : Option Int) : slV (.fl xs) lo hi h = newL (cut xs lo hi) h := rfl
@[simp] theorem r_walk : walkV (.ref n) h = onL (fun xs => .ok ⟨xs, [(n, xs)]⟩ h) (lstAt h n) := by
  show (match lstAt h n with
    | some xs => Out.ok (Walk.mk xs [(n, xs)]) h
    | none => Out.no) = _
  cases lstAt h n <;> rfl
@[simp] theorem r_truth : truthD h (.ref n) = (lstAt h n).map fun xs => !xs.isEmpty := by
  show (match lstAt h n with
    | some xs => some (!xs.isEmpty)
    | none => Option.none) = _
  cases lstAt h n <;> rfl
@[simp] theorem r_app (y : D) : mthV 0 (.ref n) [y] h = onL (fun ys => ret (decide (ys.length < line)) .non (h.set n (.lst (ys ++ [y])))) (lstAt h n) := by
  show (match lstAt h n with
    | some ys => ret (decide (ys.length < line)) D.non (h.set n (.lst (ys ++ [y])))
    | none => Out.no) = _
  cases lstAt h n <;> rfl
@[simp] theorem r_isl : isLst h (.ref n) = (lstAt h n).isSome := rfl
@[simp] theorem r_newL (xs : List D) : newL xs h = .ok (.ref h.length) (h ++ [.lst xs]) := rfl
@[simp] theorem r_newLc (xs : List D) : newLc true xs h = .ok (.ref h.length) (h ++ [.lst xs]) := rfl
@[simp] theorem r_all : biV .all [.ref n] h = onL (fun xs => boolO h ((bls xs).map fun bs => bs.all id)) (lstAt h n) := by
  show (match (lstAt h n).bind bls with
    | some bs => Out.ok (D.bl (bs.all id)) h
    | none => Out.no) = _
  cases lstAt h n with
  | none => rfl
  | some xs =>
    show (match bls xs with
      | some bs => Out.ok (D.bl (bs.all id)) h
      | none => Out.no) = boolO h ((bls xs).map fun bs => bs.all id)
    cases bls xs <;> rfl
@[simp] theorem r_any : biV .any [.ref n] h = onL (fun xs => boolO h ((bls xs).map fun bs => bs.any id)) (lstAt h n) := by
  show (match (lstAt h n).bind bls with
    | some bs => Out.ok (D.bl (bs.any id)) h
    | none => Out.no) = _
  cases lstAt h n with
  | none => rfl
  | some xs =>
    show (match bls xs with
      | some bs => Out.ok (D.bl (bs.any id)) h
      | none => Out.no) = boolO h ((bls xs).map fun bs => bs.any id)
    cases bls xs <;> rfl
@[simp] theorem r_mul (k : Int) : mulV (.ref n) (.int k) h = onL (fun xs => newLc (decide (k ≤ 1000) && decide (-1000 ≤ k) && decide (xs.length ≤ 1000)) (List.replicate k.toNat xs).flatten h) (lstAt h n) := by
  show (match lstAt h n with
    | some xs => newLc (decide (k ≤ 1000) && decide (-1000 ≤ k) && decide (xs.length ≤ 1000)) (List.replicate k.toNat xs).flatten h
    | _ => Out.no) = _
  cases lstAt h n <;> rfl
@[simp] theorem t_addv (xs ys : List D) : addV (.tup xs) (.tup ys) h = ret (decide (xs.length + ys.length ≤ line)) (.tup (xs ++ ys)) h := rfl
def subO (h : Hd) (n : Nat) (xs : List D) (d : D) (s : Sl) : Option Nat → SOut
  | some j => .nx s (h.set n (.lst (xs.set j d)))
  | none => .no
@[simp] theorem subO_some (xs : List D) (d : D) (s : Sl) (j : Nat) : subO h n xs d s (some j) = .nx s (h.set n (.lst (xs.set j d))) := rfl
theorem r_sub {xs : List D} (e : lstAt h n = some xs) (k : Int) (d : D) (s : Sl) : subV (.ref n) (.int k) d s h = subO h n xs d s (L2.ixN xs.length k) := by
  show (match lstAt h n with
    | some xs => match L2.ixN xs.length k with
      | some j => SOut.nx s (h.set n (.lst (xs.set j d)))
      | none => .no
    | none => .no) = _
  rw [e]
  show (match L2.ixN xs.length k with
      | some j => SOut.nx s (h.set n (.lst (xs.set j d)))
      | none => .no) = _
  cases L2.ixN xs.length k <;> rfl
end
@[simp] theorem bls_map {α : Type} (as : List α) (p : α → Bool) : bls (as.map fun a => D.bl (p a)) = some (as.map p) := by
  induction as with
  | nil => rfl
  | cons a as ih => simp [bls, ih]
@[simp] theorem all_id_map {α : Type} (as : List α) (p : α → Bool) : (as.map p).all id = as.all p := by simp [List.all_map]
@[simp] theorem any_id_map {α : Type} (as : List α) (p : α → Bool) : (as.map p).any id = as.any p := by simp [List.any_map]
@[simp] theorem at_0 {α : Type} (a : α) (l : List α) : L2.atI (a :: l) 0 = some a := by simp [L2.atI, L2.ixN]
theorem at_n {α : Type} {xs : List α} {i : Nat} (hi : i < xs.length) : L2.atI xs (i : Int) = some xs[i] := by simp [L2.atI, L2.ixN, hi]
@[simp] theorem at_1 {α : Type} (a b : α) (l : List α) : L2.atI (a :: b :: l) 1 = some b := at_n (xs := a :: b :: l) (i := 1) (by simp)
@[simp] theorem at_2 {α : Type} (a b c : α) (l : List α) : L2.atI (a :: b :: c :: l) 2 = some c := at_n (xs := a :: b :: c :: l) (i := 2) (by simp)
theorem ix_n {n i : Nat} (hi : i < n) : L2.ixN n (i : Int) = some i := by simp [L2.ixN, hi]
/-! ### loops -/
/-- a for loop: I i is what holds ahead of item i -/
theorem WpS_for {α : Type} {fix : List (Nat × List D)} {g : D → Sl → Option Sl} {b : Sl → Hd → SOut} {P : Po} (as : List α) (φ : α → D) (I : Nat → Sl → Hd → Prop) {items : List D} {s : Sl} {h : Hd} (hi : items = as.map φ) (h0 : I 0 s h)
    (hs : ∀ (i : Nat) (hi : i < as.length) (s : Sl) (h : Hd), I i s h → fixOk h fix = true ∧ ∃ s1, g (φ as[i]) s = some s1 ∧ WpS (b s1 h) ⟨I (i + 1), P.rt, P.nx, I (i + 1), P.ex⟩)
    (he : ∀ s h, I as.length s h → fixOk h fix = true ∧ P.nx s h) : WpS (loopF fix g b items s h) P := by
  subst hi
  suffices H : ∀ (m i : Nat) (s : Sl) (h : Hd), i + m = as.length → I i s h → WpS (loopF fix g b ((as.drop i).map φ) s h) P by
    have := H as.length 0 s h (by omega) h0
    rwa [List.drop_zero] at this
  intro m
  induction m with
  | zero =>
    intro i s h e k
    have e : i = as.length := by omega
    subst e
    obtain ⟨f, q⟩ := he s h k
    rw [List.drop_length, List.map_nil, loopF_nil f]
    exact q
  | succ m ih =>
    intro i s h e k
    have lt : i < as.length := by omega
    obtain ⟨f, s1, e1, o⟩ := hs i lt s h k
    rw [List.drop_eq_getElem_cons lt, List.map_cons]
    unfold loopF
    simp only [f, e1]
    cases q : b s1 h with
    | nx s2 h2 => rw [q] at o; exact ih (i + 1) s2 h2 (by omega) o
    | ct s2 h2 => rw [q] at o; exact ih (i + 1) s2 h2 (by omega) o
    | bk s2 h2 => rw [q] at o; exact o
    | rt d h2 => rw [q] at o; exact o
    | ex e s2 h2 => rw [q] at o; exact o
    | no => rw [q] at o; exact o
theorem rng_map (n : Nat) : rng 0 1 n = (List.range n).map fun j : Nat => D.int (j : Int) := by
  have H : ∀ (n : Nat) (a : Nat), rng (a : Int) 1 n = (List.range n).map fun j : Nat => D.int ((a + j : Nat) : Int) := by
    intro n
    induction n with
    | zero => intro a; rfl
    | succ n ih =>
      intro a
      have e : ((a : Int) + 1) = ((a + 1 : Nat) : Int) := by omega
      show D.int (a : Int) :: rng ((a : Int) + 1) 1 n = _
      rw [e, ih, List.range_succ_eq_map, List.map_cons, List.map_map]
      congr 1
      apply List.map_congr_left
      intro j _
      show D.int ((a + 1 + j : Nat) : Int) = D.int ((a + (j + 1) : Nat) : Int)
      congr 2
      omega
  have := H n 0
  simpa using this
theorem rngV_k {k : Int} {n : Nat} (e : k = n) (hn : n ≤ 1000000) (h : Hd) : rngV [.int k] h = .ok ⟨(List.range n).map fun j : Nat => D.int (j : Int), []⟩ h := by
  subst e
  show ret (smallI n) (Walk.mk (rng 0 1 (n : Int).toNat) []) h = _
  rw [small_nat hn, Int.toNat_natCast, rng_map]
  rfl
/-- for i in range(n) -/
theorem WpS_rng {g : D → Sl → Option Sl} {b : Sl → Hd → SOut} {P : Po} (n : Nat) (I : Nat → Sl → Hd → Prop) {s : Sl} {h : Hd} (h0 : I 0 s h)
    (hs : ∀ (i : Nat), i < n → ∀ (s : Sl) (h : Hd), I i s h → ∃ s1, g (.int (i : Int)) s = some s1 ∧ WpS (b s1 h) ⟨I (i + 1), P.rt, P.nx, I (i + 1), P.ex⟩)
    (he : ∀ s h, I n s h → P.nx s h) : WpS (loopF [] g b ((List.range n).map fun j : Nat => D.int (j : Int)) s h) P := by
  refine WpS_for (List.range n) (fun j : Nat => D.int (j : Int)) I rfl h0 (fun i hi s h k => And.intro rfl ?_) (fun s h k => And.intro rfl (he s h (by simpa using k)))
  have := hs i (by simpa using hi) s h k
  simpa using this
/-- a comprehension (no condition) -/
theorem WpE_lc {α : Type} {fix : List (Nat × List D)} {b : D → Option Sl} {c : Sl → Hd → Out Bool} {e : Sl → Hd → Out D} {Q : List D → Hd → Prop} {X : Exn → Hd → Prop} (as : List α) (φ r : α → D) {items : List D} {h : Hd} (hi : items = as.map φ) (hl : as.length ≤ 1000000) (hf : ∀ H, h <+: H → fixOk H fix = true)
    (hs : ∀ a ∈ as, ∃ s1, b (φ a) = some s1 ∧ ∀ H, h <+: H → c s1 H = .ok true H ∧ WpE (e s1 H) (fun d H1 => d = r a ∧ H <+: H1) (fun _ _ => False))
    (hq : ∀ H, h <+: H → Q (as.map r) H) : WpE (noEx (loopC fix b c e items [] h)) Q X := by
  subst hi
  suffices H : ∀ (as : List α) (acc : List D) (H : Hd), h <+: H → acc.length + as.length ≤ line → (∀ a ∈ as, ∃ s1, b (φ a) = some s1 ∧ ∀ H, h <+: H → c s1 H = .ok true H ∧ WpE (e s1 H) (fun d H1 => d = r a ∧ H <+: H1) (fun _ _ => False)) → ∃ H', h <+: H' ∧ loopC fix b c e (as.map φ) acc H = .ok (acc ++ as.map r) H' by
    obtain ⟨H', p, e1⟩ := H as [] h (List.prefix_refl _) (by have := line_ok hl; simpa using this) hs
    rw [e1]
    exact hq H' p
  intro as
  induction as with
  | nil =>
    intro acc H p _ _
    refine ⟨H, p, ?_⟩
    show ret (fixOk H fix) acc H = _
    rw [hf H p]
    simp
  | cons a as ih =>
    intro acc H p hl hs
    obtain ⟨s1, e1, k⟩ := hs a List.mem_cons_self
    obtain ⟨e2, e3⟩ := k H p
    cases q : e s1 H with
    | no => rw [q] at e3; exact e3.elim
    | ex x h => rw [q] at e3; exact e3.elim
    | ok d H1 =>
      rw [q] at e3
      obtain ⟨rfl, p1⟩ := e3
      obtain ⟨H', p', e4⟩ := ih (acc ++ [r a]) H1 (p.trans p1) (by simp at hl ⊢; omega) fun x hx => hs x (List.mem_cons_of_mem _ hx)
      refine ⟨H', p', ?_⟩
      have lt : decide (acc.length < line) = true := decide_eq_true (by simp at hl; omega)
      rw [List.map_cons]
      unfold loopC
      simp only [hf H p, e1, e2, q, bind_ok, lt]
      rw [e4]
      simp
/-! ### a def -/
abbrev noS : Sl → Hd → Prop := fun _ _ => False
abbrev noX : Exn → Hd → Prop := fun _ _ => False
theorem fin_grow {h h' : Hd} {d : D} (p : h <+: h') (hd : D.lt h.length d = true) : fin h (.rt d h') = .ok d h := by
  obtain ⟨l, rfl⟩ := p
  exact gc_app hd
/-- a def that gives d, whatever it makes on the way -/
theorem fin_gives {h : Hd} {o : SOut} {d : D} (hd : D.lt h.length d = true) (H : WpS o ⟨fun _ h' => d = .non ∧ h <+: h', fun d' h' => d' = d ∧ h <+: h', noS, noS, fun _ _ _ => False⟩) : fin h o = .ok d h := by
  cases o with
  | nx s h' =>
    obtain ⟨rfl, l, rfl⟩ := H
    exact gc_app hd
  | rt d' h' =>
    obtain ⟨rfl, l, rfl⟩ := H
    exact gc_app hd
  | bk s h => exact H.elim
  | ct s h => exact H.elim
  | ex e s h => exact H.elim
  | no => exact H.elim
/-- a def that raises e -/
theorem fin_raises {h : Hd} {o : SOut} {e : Exn} (hd : fsLt h.length e.fs = true) (H : WpS o ⟨noS, fun _ _ => False, noS, noS, fun e' _ h' => e' = e ∧ h <+: h'⟩) : fin h o = .ex e h := by
  cases o with
  | ex e' s h' =>
    obtain ⟨rfl, l, rfl⟩ := H
    exact gcE_app hd
  | rt s h => exact H.elim
  | nx s h => exact H.elim
  | bk s h => exact H.elim
  | ct s h => exact H.elim
  | no => exact H.elim
/-- a def whose value may be a list of the heap -/
theorem fin_list {h : Hd} {o : SOut} {Q : D → Hd → Prop} {X : Exn → Hd → Prop} (H : WpS o ⟨fun _ h' => h <+: h' ∧ Q .non h, fun d h' => h <+: h' ∧ (D.lt h.length d = true → Q d h) ∧ (D.lt h.length d = false → Q d h'), noS, noS, fun e _ h' => h <+: h' ∧ fsLt h.length e.fs = true ∧ X e h⟩) : WpE (fin h o) Q X := by
  cases o with
  | nx s h' =>
    obtain ⟨⟨l, rfl⟩, q⟩ := H
    show WpE (gc h .non (h ++ l)) Q X
    rw [gc_app rfl]
    exact q
  | rt d h' =>
    obtain ⟨⟨l, rfl⟩, q1, q2⟩ := H
    cases hd : D.lt h.length d with
    | true =>
      show WpE (gc h d (h ++ l)) Q X
      rw [gc_app hd]
      exact q1 hd
    | false =>
      rw [fin_keep hd]
      exact q2 hd
  | ex e s h' =>
    obtain ⟨⟨l, rfl⟩, q1, q2⟩ := H
    show WpE (gcE h e (h ++ l)) Q X
    rw [gcE_app q1]
    exact q2
  | bk s h => exact H.elim
  | ct s h => exact H.elim
  | no => exact H.elim
/-! ### by code, whatever the program -/
section
variable {fns : List FnC} {sub : Nat → Nat → Bool} {fuel k : Nat}
theorem givC {i np nn : Nat} {code : QSs} {ds : List D} {d : D} (hf : fns[i]? = some ⟨np, nn, code⟩) (hl : ds.length = np) (H : ∀ h, fin h (exSs (evL fns sub fuel k) code (startD nn ds) h) = .ok d h) : Giv (evL fns sub fuel (k + 1)) i ds d := fun h => by
  show callI fns sub fuel (k + 1) i ds h = _
  rw [call_eq hf hl]
  exact H h
/-- by what holds behind the code -/
theorem givW {i np nn : Nat} {code : QSs} {ds : List D} {d : D} (hf : fns[i]? = some ⟨np, nn, code⟩) (hl : ds.length = np) (hd : ∀ n, D.lt n d = true) (H : ∀ h, WpS (exSs (evL fns sub fuel k) code (startD nn ds) h) ⟨fun _ h' => d = .non ∧ h <+: h', fun d' h' => d' = d ∧ h <+: h', noS, noS, fun _ _ _ => False⟩) : Giv (evL fns sub fuel (k + 1)) i ds d :=
  givC hf hl fun h => fin_gives (hd _) (H h)
theorem gc' {i : Nat} {ds : List D} {d : D} (g : Giv (evL fns sub fuel k) i ds d) (h : Hd) : callI fns sub fuel k i ds h = .ok d h := g h
/-- a def raises e -/
def Rai (ev : Ev) (f : Nat) (xs : List D) (e : Exn) : Prop := ∀ h, ev.call f xs h = .ex e h
theorem raiW {i np nn : Nat} {code : QSs} {ds : List D} {e : Exn} (hf : fns[i]? = some ⟨np, nn, code⟩) (hl : ds.length = np) (hd : ∀ n, fsLt n e.fs = true) (H : ∀ h, WpS (exSs (evL fns sub fuel k) code (startD nn ds) h) ⟨noS, fun _ _ => False, noS, noS, fun e' _ h' => e' = e ∧ h <+: h'⟩) : Rai (evL fns sub fuel (k + 1)) i ds e := fun h => by
  show callI fns sub fuel (k + 1) i ds h = _
  rw [call_eq hf hl]
  exact fin_raises (hd _) (H h)
theorem rc' {i : Nat} {ds : List D} {e : Exn} (g : Rai (evL fns sub fuel k) i ds e) (h : Hd) : callI fns sub fuel k i ds h = .ex e h := g h
/-- a def whose value may be a list -/
theorem lisW {i np nn : Nat} {code : QSs} {ds : List D} {h : Hd} {Q : D → Hd → Prop} {X : Exn → Hd → Prop} (hf : fns[i]? = some ⟨np, nn, code⟩) (hl : ds.length = np) (H : WpS (exSs (evL fns sub fuel k) code (startD nn ds) h) ⟨fun _ h' => h <+: h' ∧ Q .non h, fun d h' => h <+: h' ∧ (D.lt h.length d = true → Q d h) ∧ (D.lt h.length d = false → Q d h'), noS, noS, fun e _ h' => h <+: h' ∧ fsLt h.length e.fs = true ∧ X e h⟩) : WpE (callI fns sub fuel (k + 1) i ds h) Q X := by
  rw [call_eq hf hl]
  exact fin_list H
end
end PV
/-! PVT3: is_integer, is_ratio, less, at_most; makers with a bounded upper part. -/
namespace PV
open PySem
section
variable {ev : Ev} {h : Hd}
/-- a maker of lowest terms whose upper part is bounded, too -/
def MakesA (ev : Ev) (f : Nat) : Prop := ∀ a b : Int, b ≠ 0 → Sz 9000000 a → Sz 8900 b → Giv ev f [.int a, .int b] (rv (Rat.divInt a b))
theorem MakesR.a {f : Nat} (m : MakesR ev f) : MakesA ev f := fun a b hb _ sb => m a b hb sb
theorem t_addA {mk : Nat} (hm : MakesA ev mk) {p q : Rat} {n : Nat} (sp : Qn n p) (sq : Qn n q) (hn : n ≤ 4400) : fin h (exSs ev (C_add mk) (startD 2 [rv p, rv q]) h) = .ok (rv (p + q)) h := by
  have m1 := mulOk_sz sp.1 sq.2 (by omega)
  have m2 := mulOk_sz sq.1 sp.2 (by omega)
  have m3 := mulOk_sz sp.2 sq.2 (by omega)
  have c := hm (p.num * q.den + q.num * p.den) (p.den * q.den) (Int.mul_ne_zero (den0 p) (den0 q)) (((sp.1.mul sq.2).add (sq.1.mul sp.2)).mono (by omega)) ((sp.2.mul sq.2).mono (by omega)) h
  rw [rat_add] at c
  simp [C_add, startD, m1, m2, m3, arrD, c]
theorem t_mulA {mk : Nat} (hm : MakesA ev mk) {p q : Rat} {n : Nat} (sp : Qn n p) (sq : Qn n q) (hn : n ≤ 4400) : fin h (exSs ev (C_mul mk) (startD 2 [rv p, rv q]) h) = .ok (rv (p * q)) h := by
  have m1 := mulOk_sz sp.1 sq.1 (by omega)
  have m3 := mulOk_sz sp.2 sq.2 (by omega)
  have c := hm (p.num * q.num) (p.den * q.den) (Int.mul_ne_zero (den0 p) (den0 q)) ((sp.1.mul sq.1).mono (by omega)) ((sp.2.mul sq.2).mono (by omega)) h
  rw [rat_mul] at c
  simp [C_mul, startD, m1, m3, arrD, c]
/-! ### order -/
theorem rat_lt (p q : Rat) : decide (p.num * (q.den : Int) < q.num * (p.den : Int)) = decide (p < q) := by
  rw [decide_eq_decide]
  exact (Rat.lt_iff ..).symm
theorem rat_le (p q : Rat) : decide (p.num * (q.den : Int) ≤ q.num * (p.den : Int)) = decide (p ≤ q) := by
  rw [decide_eq_decide]
  exact (Rat.le_iff ..).symm
def C_less : QSs := .cons (.ret (.cmp .Lt (.bin .Mult (.idx (.var 0) (.con (.int (0)))) (.idx (.var 1) (.con (.int (1))))) (.bin .Mult (.idx (.var 1) (.con (.int (0)))) (.idx (.var 0) (.con (.int (1))))))) .nil
theorem t_less {p q : Rat} {n : Nat} (sp : Qn n p) (sq : Qn n q) (hn : n ≤ 40000000) : fin h (exSs ev C_less (startD 2 [rv p, rv q]) h) = .ok (.bl (decide (p < q))) h := by
  have m1 := mulOk_sz sp.1 sq.2 (by omega)
  have m2 := mulOk_sz sq.1 sp.2 (by omega)
  simp [C_less, startD, m1, m2, rat_lt]
def C_at_most : QSs := .cons (.ret (.cmp .LtE (.bin .Mult (.idx (.var 0) (.con (.int (0)))) (.idx (.var 1) (.con (.int (1))))) (.bin .Mult (.idx (.var 1) (.con (.int (0)))) (.idx (.var 0) (.con (.int (1))))))) .nil
theorem t_at_most {p q : Rat} {n : Nat} (sp : Qn n p) (sq : Qn n q) (hn : n ≤ 40000000) : fin h (exSs ev C_at_most (startD 2 [rv p, rv q]) h) = .ok (.bl (decide (p ≤ q))) h := by
  have m1 := mulOk_sz sp.1 sq.2 (by omega)
  have m2 := mulOk_sz sq.1 sp.2 (by omega)
  simp [C_at_most, startD, m1, m2, rat_le]
/-! ### kinds -/
def isRef : D → Bool
  | .ref _ => true
  | _ => false
def intB : D → Bool
  | .int _ => true
  | _ => false
/-- a tuple of two integers in lowest terms with a below of at least 1 -/
def ratB : D → Bool
  | .tup [.int a, .int b] => decide (0 < b) && decide (Nat.gcd a.natAbs b.natAbs = 1)
  | _ => false
theorem ratB_rv (q : Rat) : ratB (rv q) = true := by
  have h1 := q.den_pos
  have h2 := q.reduced
  unfold Nat.Coprime at h2
  simp [ratB, rv, h1, h2]
def C_is_integer : QSs := .cons (.ret (.andv (.isi (.var 0) .int) (.nott (.isi (.var 0) .bool)))) .nil
theorem t_is_integer {x : D} (hx : isRef x = false) : fin h (exSs ev C_is_integer (startD 1 [x]) h) = .ok (.bl (intB x)) h := by
  cases x with
  | ref n => cases hx
  | _ => simp [C_is_integer, startD, intB]
/-- what is_ratio is asked of here: no list within; a list of the heap itself may be -/
def Askd (h : Hd) (x : D) : Prop := (∀ n, x = .ref n → (lstAt h n).isSome = true) ∧ ∀ xs, x = .tup xs → ∀ y ∈ xs, isRef y = false
def C_is_ratio (it : Nat) : QSs := .cons (.ife (.or (.not (.v (.isi (.var 0) .tuple))) (.v (.cmp .NotEq (.bi .len (.cons (.var 0) .nil)) (.con (.int (2)))))) (.cons (.ret (.con (.bl false))) .nil) .nil)
  (.cons (.ife (.or (.not (.v (.call it (.cons (.idx (.var 0) (.con (.int (0)))) .nil) .nil [.inl (.inl 0)]))) (.not (.v (.call it (.cons (.idx (.var 0) (.con (.int (1)))) .nil) .nil [.inl (.inl 0)])))) (.cons (.ret (.con (.bl false))) .nil) .nil)
  (.cons (.ret (.andv (.cmp .Gt (.idx (.var 0) (.con (.int (1)))) (.con (.int (0)))) (.cmp .Eq (.bi .gcd (.cons (.idx (.var 0) (.con (.int (0)))) (.cons (.idx (.var 0) (.con (.int (1)))) .nil))) (.con (.int (1)))))) .nil))
theorem isi_ref_tuple {n : Nat} (e : (lstAt h n).isSome = true) : isiV (.ref n) .tuple h = some false := by
  show (lstAt h n).map _ = _
  cases q : lstAt h n with
  | none => rw [q] at e; cases e
  | some xs => rfl
theorem t_is_ratio {it : Nat} (hi : ∀ y, isRef y = false → Giv ev it [y] (.bl (intB y))) {x : D} (hx : Askd h x) : fin h (exSs ev (C_is_ratio it) (startD 1 [x]) h) = .ok (.bl (ratB x)) h := by
  cases x with
  | ref n =>
    have e := isi_ref_tuple (hx.1 n rfl)
    simp [C_is_ratio, startD, e, ratB]
  | tup xs =>
    match xs, hx with
    | [], _ => simp [C_is_ratio, startD, ratB]
    | [a], _ => simp [C_is_ratio, startD, ratB]
    | [a, b], hx =>
      have ha := hi a (hx.2 _ rfl a (by simp)) h
      have hb := hi b (hx.2 _ rfl b (by simp)) h
      cases a with
      | int i =>
        cases b with
        | int j =>
          by_cases q : 0 < j
          · simp [C_is_ratio, startD, ratB, intB, ha, hb, arrD, q]
            omega
          · simp [C_is_ratio, startD, ratB, intB, ha, hb, arrD, q]
        | _ => simp [C_is_ratio, startD, ratB, intB, ha, hb, arrD]
      | _ => simp [C_is_ratio, startD, ratB, intB, ha, arrD]
    | a :: b :: c :: r, _ =>
      have : ¬ ((r.length : Int) + 1 + 1 + 1 = 2) := by omega
      simp [C_is_ratio, startD, ratB, this]
  | _ => simp [C_is_ratio, startD, ratB]
end
end PV
/-! PVT4: defs that many laws share: the cell of a script, the rich number of a cell, the law's maker of lowest terms, the drawn ratio. -/
namespace PV
open PySem
section
variable {ev : Ev} {h : Hd}
def Ints (ns : List Int) : Prop := ∀ z ∈ ns, Sz 1048577 z
theorem sz_bits {z : Int} (h1 : Builtin.Int.intBits z ≤ 1048576) : Sz 1048577 z := by
  unfold Builtin.Int.intBits at h1
  unfold Sz
  by_cases q : z = 0
  · subst q
    exact Nat.pow_pos (by decide)
  · have q2 : (z == 0) = false := by simpa using q
    rw [q2] at h1
    have h2 : z.natAbs.log2 < 1048576 := by
      have h4 : z.natAbs.log2 ≤ 1048575 := by simpa using h1
      omega
    have h3 := (Nat.log2_lt (show z.natAbs ≠ 0 by omega)).mp h2
    exact Nat.lt_trans h3 (Nat.pow_lt_pow_right (by decide) (by decide))
theorem fmod_b (c : Int) {m : Int} (hm : 0 < m) : 0 ≤ c.fmod m ∧ c.fmod m < m := by
  rw [Int.fmod_eq_emod_of_nonneg _ (by omega)]
  exact ⟨Int.emod_nonneg _ (by omega), Int.emod_lt_of_pos _ hm⟩
theorem fmod_n (c : Int) {m : Nat} (hm : 0 < m) : ∃ n : Nat, n < m ∧ c.fmod (m : Int) = n := by
  obtain ⟨a, b⟩ := fmod_b c (m := (m : Int)) (by omega)
  exact ⟨(c.fmod m).toNat, by omega, by omega⟩
theorem div_ok {j : Int} (i : Int) (h0 : j ≠ 0) (h1 : j.natAbs < 2 ^ 64) : divOk i j = true := divOk_sz (n := 64) h1 (by decide) h0
/-- the cell k of a script -/
def C_cell : QSs := .cons (.ife (.v (.cmp .Lt (.var 1) (.bi .len (.cons (.var 0) .nil)))) (.cons (.ret (.bi .int (.cons (.idx (.var 0) (.var 1)) .nil))) .nil) .nil)
  (.cons (.ret (.con (.int (0)))) .nil)
def cellI (ns : List Int) (j : Nat) : Int := ns.getD j 0
theorem cell_sz {ns : List Int} (hn : Ints ns) (j : Nat) : Sz 1048577 (cellI ns j) := by
  unfold cellI
  rw [List.getD_eq_getElem?_getD]
  by_cases hj : j < ns.length
  · simp [hj]
    exact hn _ (List.getElem_mem hj)
  · simp [hj]
    exact Nat.pow_pos (by decide)
theorem t_cell (ns : List Int) (j : Nat) : fin h (exSs ev C_cell (startD 2 [.fl (ns.map .int), .int (j : Int)]) h) = .ok (.int (cellI ns j)) h := by
  by_cases hj : j < ns.length
  · have hj' : (j : Int) < ns.length := by omega
    have a : L2.atI (ns.map D.int) (j : Int) = some (.int (cellI ns j)) := by
      rw [at_n (by simpa using hj)]
      simp [cellI, hj]
    simp [C_cell, startD, a, hj']
  · have hj' : ¬ (j : Int) < ns.length := by omega
    have e : cellI ns j = 0 := by
      unfold cellI
      simp [List.getD_eq_getElem?_getD, hj]
    simp [C_cell, startD, hj', e]
/-- the rich number of a cell -/
def C_rich : QSs := .cons (.ife (.v (.cmp .GtE (.var 0) (.bin .Pow (.con (.int (10))) (.con (.int (18)))))) (.cons (.ret (.bi .int (.cons (.var 0) .nil))) .nil) .nil)
  (.cons (.asg (.nm 2) (.bin .Mod (.bi .int (.cons (.bin .Add (.bin .Add (.bin .Mult (.var 0) (.con (.int (48271)))) (.bin .Mult (.var 1) (.con (.int (69621))))) (.con (.int (11)))) .nil)) (.con (.int (2147483647)))))
  (.cons (.ret (.bin .Add (.bin .Mult (.var 2) (.con (.int (2147483629)))) (.bin .Mod (.bi .int (.cons (.bin .Add (.bin .Mult (.var 2) (.con (.int (16807)))) (.var 0)) .nil)) (.con (.int (2147483629)))))) .nil))
def richI (z : Int) (j : Nat) : Int := if 10 ^ 18 ≤ z then z else
  (z * 48271 + j * 69621 + 11).fmod 2147483647 * 2147483629 + ((z * 48271 + j * 69621 + 11).fmod 2147483647 * 16807 + z).fmod 2147483629
theorem rich_nn {z : Int} {j : Nat} : 0 ≤ richI z j := by
  unfold richI
  split
  · rename_i k
    exact Int.le_trans (by decide) k
  · have a := (fmod_b (z * 48271 + j * 69621 + 11) (m := 2147483647) (by decide)).1
    have b := (fmod_b ((z * 48271 + j * 69621 + 11).fmod 2147483647 * 16807 + z) (m := 2147483629) (by decide)).1
    omega
theorem t_rich {z : Int} {j : Nat} (sz : Sz 1048577 z) (hj : j ≤ 1000) : fin h (exSs ev C_rich (startD 3 [.int z, .int (j : Int)]) h) = .ok (.int (richI z j)) h := by
  by_cases hz : (10 : Int) ^ 18 ≤ z
  · have p : powOk 10 18 = true := by decide
    have e : richI z j = z := if_pos hz
    simp [C_rich, startD, p, hz, e, -Int.reducePow]
  · have s1 : Sz 16 48271 := by unfold Sz; decide
    have s2 : Sz 17 69621 := by unfold Sz; decide
    have s3 : Sz 31 2147483647 := by unfold Sz; decide
    have s4 : Sz 15 16807 := by unfold Sz; decide
    have s5 : Sz 31 2147483629 := by unfold Sz; decide
    have sj : Sz 10 (j : Int) := Sz.nat (by show j < 1024; omega)
    have m1 := mulOk_sz sz s1 (by decide)
    have m2 := mulOk_sz sj s2 (by decide)
    have sm : Sz 31 ((z * 48271 + j * 69621 + 11).fmod 2147483647) := s3.fmod (by decide)
    have m3 := mulOk_sz sm s5 (by decide)
    have m4 := mulOk_sz sm s4 (by decide)
    have p : powOk 10 18 = true := by decide
    have e : richI z j = _ := if_neg hz
    simp [C_rich, startD, p, hz, m1, m2, m3, m4, e, -Int.reducePow]
theorem rich_sz {z : Int} {j : Nat} (sz : Sz 1048577 z) : Sz 1048577 (richI z j) := by
  unfold richI
  split
  · exact sz
  · have s3 : Sz 31 2147483647 := by unfold Sz; decide
    have s5 : Sz 31 2147483629 := by unfold Sz; decide
    exact (((s3.fmod (i := z * 48271 + j * 69621 + 11) (by decide)).mul s5).add (s5.fmod (by decide))).mono (by decide)
/-! ### the law's maker of lowest terms (one, other = other, one - one // other * other) -/
def B_lmake : QSs := .cons (.par 2 3 (.var 3) (.bin .Sub (.var 2) (.bin .Mult (.bin .FloorDiv (.var 2) (.var 3)) (.var 3)))) .nil
def T_lmake : QT := .v (.cmp .Gt (.var 3) (.con (.int (0))))
def C_lmake : QSs := .cons (.par 2 3 (.bi .abs (.cons (.var 0) .nil)) (.bi .abs (.cons (.var 1) .nil)))
  (.cons (.whl T_lmake B_lmake)
  (.cons (.ife (.v (.cmp .Lt (.var 1) (.con (.int (0))))) (.cons (.asg (.nm 2) (.neg (.var 2))) .nil) .nil)
  (.cons (.ret (.tup (.cons (.bin .FloorDiv (.var 0) (.var 2)) (.cons (.bin .FloorDiv (.var 1) (.var 2)) .nil)))) .nil)))
theorem lmake_loop (ev : Ev) (v0 v1 : Option D) : ∀ (n : Nat) (a b : Int) (h : Hd), 0 ≤ a → 0 ≤ b → b.toNat < n → Sz 9000000 a → Sz 8900 b →
    loopW (evT ev T_lmake) (exSs ev B_lmake) n [v0, v1, some (.int a), some (.int b)] h = .nx [v0, v1, some (.int (gd a b)), some (.int 0)] h
  | 0, a, b, h, ha, hb, hn, sa, sb => by omega
  | n + 1, a, b, h, ha, hb, hn, sa, sb => by
    by_cases hb0 : b = 0
    · subst hb0
      have e : gd a 0 = a := by unfold gd; simp; omega
      rw [loopW_stop (h1 := h) (by simp [T_lmake]), e]
    · have hp : 0 < b := by omega
      have h0 := (fmod_b a hp).1
      have h1 := (fmod_b a hp).2
      have ih := lmake_loop ev v0 v1 n b (a.fmod b) h (by omega) h0 (by omega) (sb.mono (by decide)) (sb.fmod hb0)
      rw [gd_step ha hp] at ih
      have d := divOk_sz (i := a) sb (by decide) hb0
      have m := mulOk_sz (sa.fdiv (j := b)) sb (by decide)
      have e : a - a.fdiv b * b = a.fmod b := by rw [Int.fmod_def, Int.mul_comm]
      rw [loopW_go (h1 := h) (s2 := [v0, v1, some (.int b), some (.int (a.fmod b))]) (h2 := h) (by simp [T_lmake, hp]) (by simp [B_lmake, d, m, e])]
      exact ih
theorem t_lmake {a b : Int} (hF : 2 ^ 8900 ≤ ev.fuel) (hb : b ≠ 0) (sa : Sz 9000000 a) (sb : Sz 8900 b) : fin h (exSs ev C_lmake (startD 4 [.int a, .int b]) h) = .ok (rv (Rat.divInt a b)) h := by
  have lp := lmake_loop ev (some (.int a)) (some (.int b)) ev.fuel (a.natAbs : Nat) (b.natAbs : Nat) h (by omega) (by omega) (by unfold Sz at sb; omega) (by unfold Sz at *; simpa using sa) (by unfold Sz at *; simpa using sb)
  have g : gd (a.natAbs : Nat) (b.natAbs : Nat) = gd a b := by unfold gd; simp
  rw [g] at lp
  have gp := gd_pos (a := a) hb
  have sg := gd_sz (a := a) hb sb
  rw [← mkR_rv hb]
  by_cases hlt : b < 0
  · have d : ∀ x, divOk x (-gd a b) = true := fun x => divOk_sz sg.neg (by omega) (by omega)
    have e3 : mkR a b = (a.fdiv (-gd a b), b.fdiv (-gd a b)) := if_pos hlt
    simp [C_lmake, startD, absI]
    rw [lp]
    simp [hlt, d, e3]
  · have d : ∀ x, divOk x (gd a b) = true := fun x => divOk_sz sg (by omega) (by omega)
    have e3 : mkR a b = (a.fdiv (gd a b), b.fdiv (gd a b)) := if_neg hlt
    simp [C_lmake, startD, absI]
    rw [lp]
    simp [hlt, d, e3]
/-! ### the drawn ratio of a rich number -/
def C_lratio (mk : Nat) : QSs := .cons (.asg (.nm 1) (.bin .Sub (.bin .Mod (.var 0) (.con (.int (13)))) (.con (.int (6)))))
  (.cons (.ife (.v (.cmp .Eq (.bin .Mod (.bin .FloorDiv (.var 0) (.con (.int (13)))) (.con (.int (5)))) (.con (.int (0))))) (.cons (.asg (.nm 1) (.bin .Sub (.bin .Mod (.bin .FloorDiv (.var 0) (.con (.int (65)))) (.con (.int (201)))) (.con (.int (100))))) .nil) .nil)
  (.cons (.ret (.call mk (.cons (.var 1) (.cons (.idx (.lst (.cons (.con (.int (1))) (.cons (.con (.int (1))) (.cons (.con (.int (1))) (.cons (.con (.int (2))) (.cons (.con (.int (3))) (.cons (.con (.int (4))) (.cons (.con (.int (7))) .nil)))))))) (.bin .Mod (.bin .FloorDiv (.var 0) (.con (.int (13065)))) (.con (.int (7))))) .nil)) .nil [.inl (.inl 0), .inl (.inl 1)])) .nil))
def lrA (c : Int) : Int := if (c.fdiv 13).fmod 5 = 0 then (c.fdiv 65).fmod 201 - 100 else c.fmod 13 - 6
def lrB (c : Int) : Int := ([1, 1, 1, 2, 3, 4, 7] : List Int).getD ((c.fdiv 13065).fmod 7).toNat 1
def lrat (c : Int) : Rat := Rat.divInt (lrA c) (lrB c)
theorem lrB_ok (c : Int) : 1 ≤ lrB c ∧ lrB c ≤ 7 := by
  unfold lrB
  obtain ⟨n, hn, e⟩ := fmod_n (c.fdiv 13065) (m := 7) (by decide)
  have e : (c.fdiv 13065).fmod 7 = n := e
  rw [e, Int.toNat_natCast]
  match n, hn with
  | 0, _ | 1, _ | 2, _ | 3, _ | 4, _ | 5, _ | 6, _ => decide
theorem lrA_sz (c : Int) : Sz 7 (lrA c) := by
  have f := fmod_b (c.fdiv 65) (m := 201) (by decide)
  have g := fmod_b c (m := 13) (by decide)
  unfold lrA Sz
  split <;> omega
theorem lrat_sz (c : Int) : Qn 7 (lrat c) := by
  obtain ⟨b1, b2⟩ := lrB_ok c
  exact Qn.divInt (by omega) (lrA_sz c) (by unfold Sz; omega)
theorem t_lratio {mk : Nat} (hm : MakesA ev mk) (c : Int) : fin h (exSs ev (C_lratio mk) (startD 2 [.int c]) h) = .ok (rv (lrat c)) h := by
  obtain ⟨b1, b2⟩ := lrB_ok c
  have d1 := div_ok (j := 13) c (by decide) (by decide)
  have d2 := div_ok (j := 65) c (by decide) (by decide)
  have d3 := div_ok (j := 13065) c (by decide) (by decide)
  have n7 : decide ((7 : Nat) ≤ line) = true := by decide
  have ix : L2.atI ([.int 1, .int 1, .int 1, .int 2, .int 3, .int 4, .int 7] : List D) ((c.fdiv 13065).fmod 7) = some (.int (lrB c)) := by
    obtain ⟨n, hn, e⟩ := fmod_n (c.fdiv 13065) (m := 7) (by decide)
    have e : (c.fdiv 13065).fmod 7 = n := e
    rw [e, at_n (by simpa using hn)]
    unfold lrB
    rw [e, Int.toNat_natCast]
    match n, hn with
    | 0, _ | 1, _ | 2, _ | 3, _ | 4, _ | 5, _ | 6, _ => rfl
  have mk' := hm (lrA c) (lrB c) (by omega) ((lrA_sz c).mono (by decide)) (by
    have : Sz 3 (lrB c) := by unfold Sz; omega
    exact this.mono (by decide)) (h ++ [.lst [.int 1, .int 1, .int 1, .int 2, .int 3, .int 4, .int 7]])
  by_cases q : (c.fdiv 13).fmod 5 = 0
  · have e : lrA c = _ := if_pos q
    rw [e] at mk'
    have er : lrat c = Rat.divInt ((c.fdiv 65).fmod 201 - 100) (lrB c) := by unfold lrat; rw [e]
    simp [C_lratio, startD, d1, d2, d3, q, n7, ix, arrD, mk', er]
    exact fin_app (rv_lt _ _)
  · have e : lrA c = _ := if_neg q
    rw [e] at mk'
    have er : lrat c = Rat.divInt (c.fmod 13 - 6) (lrB c) := by unfold lrat; rw [e]
    simp [C_lratio, startD, d1, d2, d3, q, n7, ix, arrD, mk', er]
    exact fin_app (rv_lt _ _)
end
end PV
/-! PVEq: when two values are equal: plain values (no list within) by their shape. -/
namespace PV
open PySem
/-- plain data of a depth of at most n -/
def Sh (n : Nat) (x : D) : Prop := ∀ h, (toPy h x).canLay0 = true ∧ (toPy h x).depth ≤ n
/-- equal, as Python has it -/
def eqD (x y : D) : Bool := PyData.eqv (toPy [] x) (toPy [] y)
def eqDs (xs ys : List D) : Bool := PyData.eqvAll (toPys [] xs) (toPys [] ys)
mutual
theorem toPy_h (h : Hd) : ∀ x : D, toPy h x = toPy [] x
  | .non | .bl _ | .int _ | .str _ | .ref _ => by simp [toPy]
  | .tup xs => by simp only [toPy]; rw [toPys_h h xs]
  | .fl xs => by simp only [toPy]; rw [toPys_h h xs]
theorem toPys_h (h : Hd) : ∀ xs : List D, toPys h xs = toPys [] xs
  | [] => by simp [toPys]
  | x :: xs => by simp only [toPys]; rw [toPy_h h x, toPys_h h xs]
end
theorem Sh.mono {n m : Nat} {x : D} (s : Sh n x) (l : n ≤ m) : Sh m x := fun h => ⟨(s h).1, Nat.le_trans (s h).2 l⟩
theorem Sh.noref {n k : Nat} (s : Sh n (.ref k)) : False := by
  have := (s []).1
  simp [toPy, PyData.canLay0] at this
theorem toPyT_sh {n : Nat} {x : D} (s : Sh n x) (h : Hd) : toPyT h x = toPy [] x := by
  cases x with
  | ref k => exact (s.noref).elim
  | _ =>
    show toPy h _ = _
    exact toPy_h h _
theorem eqV_sh {n m : Nat} {x y : D} (s : Sh n x) (t : Sh m y) (hn : n ≤ 64) (hm : m ≤ 64) (h : Hd) : eqV h x y = some (eqD x y) := by
  unfold eqV
  rw [toPyT_sh s h, toPyT_sh t h]
  have a := s []
  have b := t []
  have e1 : SeqAt.shaped (toPy [] x) = true := by unfold SeqAt.shaped; rw [a.1, decide_eq_true (Nat.le_trans a.2 hn)]; rfl
  have e2 : SeqAt.shaped (toPy [] y) = true := by unfold SeqAt.shaped; rw [b.1, decide_eq_true (Nat.le_trans b.2 hm)]; rfl
  rw [e1, e2]
  rfl
@[simp] theorem sh_non : Sh 0 .non := fun h => by simp [toPy, PyData.canLay0, PyData.depth]
@[simp] theorem sh_bl (b : Bool) : Sh 0 (.bl b) := fun h => by simp [toPy, PyData.canLay0, PyData.depth]
@[simp] theorem sh_int (i : Int) : Sh 0 (.int i) := fun h => by simp [toPy, PyData.canLay0, PyData.depth]
theorem shs (n : Nat) (h : Hd) : ∀ {xs : List D}, (∀ x ∈ xs, Sh n x) → PyData.canLayAll0 (toPys h xs) = true ∧ PyData.depthAll (toPys h xs) ≤ n
  | [], _ => by simp [toPys, PyData.canLayAll0, PyData.depthAll]
  | x :: xs, k => by
    have a := k x List.mem_cons_self h
    have b := shs n h fun y hy => k y (List.mem_cons_of_mem _ hy)
    simp only [toPys, PyData.canLayAll0, PyData.depthAll, a.1, b.1, Bool.and_self, true_and]
    have := a.2
    have := b.2
    omega
theorem sh_tup {n : Nat} {xs : List D} (k : ∀ x ∈ xs, Sh n x) : Sh (n + 1) (.tup xs) := fun h => by
  have a := shs n h k
  simp only [toPy, PyData.canLay0, PyData.depth, a.1, true_and]
  have := a.2
  omega
theorem sh_rv (q : Rat) : Sh 1 (rv q) := sh_tup fun x hx => by
  simp at hx
  rcases hx with rfl | rfl <;> exact sh_int _
theorem sh_map {α : Type} {n : Nat} {r : α → D} {as : List α} (k : ∀ a ∈ as, Sh n (r a)) : Sh (n + 1) (.tup (as.map r)) := sh_tup fun x hx => by
  obtain ⟨a, ha, rfl⟩ := List.mem_map.mp hx
  exact k a ha
theorem sh_vv (v : List Rat) : Sh 2 (vv v) := sh_map fun a _ => sh_rv a
theorem sh_mv (v : List (List Rat)) : Sh 3 (mv v) := sh_map fun a _ => sh_vv a
theorem sh_pair {n m k : Nat} {x y : D} (a : Sh n x) (b : Sh m y) (h1 : n < k) (h2 : m < k) : Sh k (.tup [x, y]) := by
  obtain ⟨k, rfl⟩ : ∃ j, k = j + 1 := ⟨k - 1, by omega⟩
  refine sh_tup fun z hz => ?_
  simp at hz
  rcases hz with rfl | rfl
  · exact a.mono (by omega)
  · exact b.mono (by omega)
@[simp] theorem eqD_int (a b : Int) : eqD (.int a) (.int b) = decide (a = b) := by
  simp [eqD, toPy, PyData.eqv]
  rfl
@[simp] theorem eqD_bl (a b : Bool) : eqD (.bl a) (.bl b) = (a == b) := by simp [eqD, toPy, PyData.eqv]
@[simp] theorem eqD_str (a b : Str) : eqD (.str a) (.str b) = (a == b) := by simp [eqD, toPy, PyData.eqv]
@[simp] theorem eqD_tup (xs ys : List D) : eqD (.tup xs) (.tup ys) = eqDs xs ys := by simp [eqD, eqDs, toPy, PyData.eqv]
@[simp] theorem eqDs_nil : eqDs [] [] = true := by simp [eqDs, toPys, PyData.eqvAll]
@[simp] theorem eqDs_cons (x y : D) (xs ys : List D) : eqDs (x :: xs) (y :: ys) = (eqD x y && eqDs xs ys) := by simp [eqDs, eqD, toPys, PyData.eqvAll]
@[simp] theorem eqDs_nc (y : D) (ys : List D) : eqDs [] (y :: ys) = false := by simp [eqDs, toPys, PyData.eqvAll]
@[simp] theorem eqDs_cn (x : D) (xs : List D) : eqDs (x :: xs) [] = false := by simp [eqDs, toPys, PyData.eqvAll]
@[simp] theorem eqD_rv (p q : Rat) : eqD (rv p) (rv q) = decide (p = q) := by
  have e : (p = q) ↔ (p.num = q.num ∧ (p.den : Int) = q.den) := ⟨fun e => by rw [e]; exact ⟨rfl, rfl⟩, fun ⟨a, b⟩ => Rat.ext a (by omega)⟩
  unfold rv
  simp only [eqD_tup, eqDs_cons, eqDs_nil, eqD_int, decide_eq_decide.mpr e, Bool.and_true]
  by_cases h1 : p.num = q.num
  · by_cases h2 : (p.den : Int) = q.den
    · simp [h1, h2]
    · simp [h1, h2]
  · simp [h1]
theorem eqDs_map {α : Type} [DecidableEq α] {r : α → D} (k : ∀ a b, eqD (r a) (r b) = decide (a = b)) : ∀ as bs : List α, eqDs (as.map r) (bs.map r) = decide (as = bs)
  | [], [] => by simp
  | [], _ :: _ => by simp
  | _ :: _, [] => by simp
  | a :: as, b :: bs => by simp [k a b, eqDs_map k as bs]
@[simp] theorem eqD_vv (v w : List Rat) : eqD (vv v) (vv w) = decide (v = w) := by
  unfold vv
  rw [eqD_tup, eqDs_map eqD_rv]
@[simp] theorem eqD_mv (v w : List (List Rat)) : eqD (mv v) (mv w) = decide (v = w) := by
  unfold mv
  rw [eqD_tup, eqDs_map eqD_vv]
theorem eqV_vv (v w : List Rat) (h : Hd) : eqV h (vv v) (vv w) = some (decide (v = w)) := by rw [eqV_sh (sh_vv v) (sh_vv w) (by decide) (by decide), eqD_vv]
/-- lists of the heap -/
theorem eqV_ref {h : Hd} {a b : Nat} {xs ys : List D} {n : Nat} (ea : lstAt h a = some xs) (eb : lstAt h b = some ys) (sx : ∀ x ∈ xs, Sh n x) (sy : ∀ y ∈ ys, Sh n y) (hn : n ≤ 63) : eqV h (.ref a) (.ref b) = some (eqDs xs ys) := by
  have e1 : toPyT h (.ref a) = .list (toPys [] xs) := by
    show (match lstAt h a with
      | some xs => PyData.list (toPys h xs)
      | none => .dict []) = _
    rw [ea]
    show PyData.list (toPys h xs) = _
    rw [toPys_h h xs]
  have e2 : toPyT h (.ref b) = .list (toPys [] ys) := by
    show (match lstAt h b with
      | some xs => PyData.list (toPys h xs)
      | none => .dict []) = _
    rw [eb]
    show PyData.list (toPys h ys) = _
    rw [toPys_h h ys]
  have a1 := shs n [] sx
  have a2 := shs n [] sy
  unfold eqV
  rw [e1, e2]
  have q1 : SeqAt.shaped (.list (toPys [] xs)) = true := by
    unfold SeqAt.shaped
    simp only [PyData.canLay0, PyData.depth, a1.1, Bool.true_and]
    exact decide_eq_true (by have := a1.2; omega)
  have q2 : SeqAt.shaped (.list (toPys [] ys)) = true := by
    unfold SeqAt.shaped
    simp only [PyData.canLay0, PyData.depth, a2.1, Bool.true_and]
    exact decide_eq_true (by have := a2.2; omega)
  rw [q1, q2]
  simp [eqDs, PyData.eqv]
end PV
/-! PVV: vectors by places with bounded ratios; items by place. -/
namespace PV
open PySem
def Qf (n : Nat) (f : Nat → Rat) : Prop := ∀ i, Qn n (f i)
theorem Qf.mono {n m : Nat} {f : Nat → Rat} (h : Qf n f) (l : n ≤ m) : Qf m f := fun i => (h i).mono l
theorem vec_mem {n : Nat} {f : Nat → Rat} {x : Rat} (h : x ∈ vec n f) : ∃ i, i < n ∧ x = f i := by
  obtain ⟨i, hi, e⟩ := List.mem_map.mp h
  exact ⟨i, List.mem_range.mp hi, e.symm⟩
theorem zip_mem {n b : Nat} {f g : Nat → Rat} (hf : Qf b f) (hg : Qf b g) : ∀ p ∈ (vec n f).zip (vec n g), Qn b p.1 ∧ Qn b p.2 := fun p hp => by
  obtain ⟨i, _, e1⟩ := vec_mem (List.of_mem_zip hp).1
  obtain ⟨j, _, e2⟩ := vec_mem (List.of_mem_zip hp).2
  rw [e1, e2]
  exact ⟨hf i, hg j⟩
@[simp] theorem at_rng {r : Nat → D} {n i : Nat} (hi : i < n) : L2.atI ((List.range n).map r) (i : Int) = some (r i) := by
  rw [at_n (by simpa using hi)]
  simp
theorem at_vec {n i : Nat} {f : Nat → Rat} (hi : i < n) (h : Hd) : idxV (vv (vec n f)) (.int (i : Int)) h = .ok (rv (f i)) h := by
  unfold vv vec
  rw [t_idx, List.map_map, at_rng hi]
  rfl
theorem vv_vec (n : Nat) (f : Nat → Rat) : D.tup ((List.range n).map fun i => rv (f i)) = vv (vec n f) := by
  unfold vv vec
  rw [List.map_map]
  rfl
theorem walk_vec (n : Nat) (f : Nat → Rat) (h : Hd) : walkV (vv (vec n f)) h = .ok ⟨(List.range n).map fun i => rv (f i), []⟩ h := by
  rw [← vv_vec]
  rfl
theorem len_vec (n : Nat) (f : Nat → Rat) (h : Hd) : biV .len [vv (vec n f)] h = .ok (.int (n : Int)) h := by
  rw [← vv_vec, bi_len_tup]
  simp
theorem sum_sz {b c : Nat} {f : Nat → Rat} (hf : Qf b f) : ∀ n : Nat, n * (b + 1) < c → Qn c (sumN f n)
  | 0, h => Qn.zero (by omega)
  | n + 1, h => by
    have e : (n + 1) * (b + 1) = n * (b + 1) + (b + 1) := by rw [Nat.add_mul]; omega
    have i := sum_sz (c := n * (b + 1) + 1) hf n (by omega)
    exact (i.add (hf n)).mono (by omega)
/-- one item of a list of the heap set -/
theorem set_rng {r r' : Nat → D} {n j : Nat} (hj : ∀ i, i ≠ j → r' i = r i) : ((List.range n).map r).set j (r' j) = (List.range n).map r' := by
  apply List.ext_getElem
  · simp
  · intro i h1 h2
    rw [List.getElem_set]
    by_cases e : j = i
    · subst e; simp
    · rw [if_neg e]
      simp [hj i fun q => e q.symm]
theorem app_rng {r : Nat → D} {n : Nat} : (List.range n).map r ++ [r n] = (List.range (n + 1)).map r := by
  rw [List.range_succ, List.map_append]
  rfl
theorem zip_rng {r q : Nat → D} : ∀ n : Nat, zipD ((List.range n).map r) ((List.range n).map q) = (List.range n).map fun i => .tup [r i, q i] := fun n => by
  have := zip_map r q (List.range n) (List.range n)
  rw [this]
  apply List.ext_getElem
  · simp
  · intro i h1 h2
    simp
/-- a list of the heap as a tuple keeps it -/
theorem seq_tup (xs : List D) (h : Hd) : seqOf (.tup xs) h = some ⟨xs, []⟩ := rfl
end PV
/-! the data of this law: globals, codes, the head (printed by gen.py) -/
namespace K18
open PySem PySem.Spec PyProof.Rows L2 PV
def top (i : Nat) : Stmt := PySem.Challenge.pw_kinkatlas_k18_multipliers_are_judged.main.body.getD i (.Pass ⟨0, 0, 0, 0⟩)
def gl : List (Str × Gv) :=
  ("int", .ty .int) ::
  ("abs", .bi .abs) ::
  ("len", .bi .len) ::
  ("tuple", .ty .tuple) ::
  ("list", .ty .list) ::
  ("all", .bi .all) ::
  ("any", .bi .any) ::
  ("isinstance", .isi) ::
  ("range", .rng) ::
  ("zip", .zip) ::
  ("bool", .ty .bool) ::
  ("gcd", .bi .gcd) ::
  ("ZERO", .con (.tup [(.int (0)), (.int (1))])) ::
  ("KinkError", .exc 0 []) ::
  ("ByZero", .exc 1 []) ::
  ("BadSystem", .exc 2 []) ::
  ("BadPaper", .exc 3 []) ::
  ("is_integer", .fn 0 1 [(1, [], arrOf [] [.inl (.inl 0)])]) ::
  ("is_ratio", .fn 1 1 [(1, [], arrOf [] [.inl (.inl 0)])]) ::
  ("make", .fn 2 2 [(2, [], arrOf [(.int (1))] [.inl (.inl 0), .inl (.inl 1)])]) ::
  ("add", .fn 3 2 [(2, [], arrOf [] [.inl (.inl 0), .inl (.inl 1)])]) ::
  ("multiply", .fn 4 2 [(2, [], arrOf [] [.inl (.inl 0), .inl (.inl 1)])]) ::
  ("less", .fn 5 2 [(2, [], arrOf [] [.inl (.inl 0), .inl (.inl 1)])]) ::
  ("at_most", .fn 6 2 [(2, [], arrOf [] [.inl (.inl 0), .inl (.inl 1)])]) ::
  ("is_vector", .fn 7 2 [(1, ["size"], arrOf [] [.inl (.inl 0), .inl (.inr 0)])]) ::
  ("zero", .fn 8 1 [(1, [], arrOf [] [.inl (.inl 0)])]) ::
  ("added", .fn 9 2 [(2, [], arrOf [] [.inl (.inl 0), .inl (.inl 1)])]) ::
  ("scaled", .fn 10 2 [(2, [], arrOf [] [.inl (.inl 0), .inl (.inl 1)])]) ::
  ("is_bound", .fn 11 2 [(1, ["size"], arrOf [] [.inl (.inl 0), .inl (.inr 0)])]) ::
  ("check_system", .fn 12 2 [(2, [], arrOf [] [.inl (.inl 0), .inl (.inl 1)])]) ::
  ("are_multipliers", .fn 13 2 [(1, ["count"], arrOf [] [.inl (.inl 0), .inl (.inr 0)])]) ::
  ("summed", .fn 14 3 [(3, [], arrOf [] [.inl (.inl 0), .inl (.inl 1), .inl (.inl 2)])]) ::
  ("check_none", .fn 15 3 [(3, [], arrOf [] [.inl (.inl 0), .inl (.inl 1), .inl (.inl 2)])]) ::
  ("check_limit", .fn 16 4 [(4, [], arrOf [] [.inl (.inl 0), .inl (.inl 1), .inl (.inl 2), .inl (.inl 3)])]) ::
  ("_law_cell", .fn 17 2 [(2, [], arrOf [] [.inl (.inl 0), .inl (.inl 1)])]) ::
  ("_law_rich", .fn 18 2 [(2, [], arrOf [] [.inl (.inl 0), .inl (.inl 1)])]) ::
  ("_law_make", .fn 19 2 [(2, [], arrOf [] [.inl (.inl 0), .inl (.inl 1)])]) ::
  ("_law_add", .fn 20 2 [(2, [], arrOf [] [.inl (.inl 0), .inl (.inl 1)])]) ::
  ("_law_mul", .fn 21 2 [(2, [], arrOf [] [.inl (.inl 0), .inl (.inl 1)])]) ::
  ("_law_less", .fn 22 2 [(2, [], arrOf [] [.inl (.inl 0), .inl (.inl 1)])]) ::
  ("_law_ratio", .fn 23 1 [(1, [], arrOf [] [.inl (.inl 0)])]) ::
  ("_law_dot", .fn 24 2 [(2, [], arrOf [] [.inl (.inl 0), .inl (.inl 1)])]) ::
  ("_law_bound", .fn 25 2 [(2, [], arrOf [] [.inl (.inl 0), .inl (.inl 1)])]) ::
  ("_law_system", .fn 26 3 [(3, [], arrOf [] [.inl (.inl 0), .inl (.inl 1), .inl (.inl 2)])]) ::
  ("_law_summed", .fn 27 3 [(3, [], arrOf [] [.inl (.inl 0), .inl (.inl 1), .inl (.inl 2)])]) ::
  ("_law_keeps", .fn 28 2 []) ::
  ("_law_is_ratio", .fn 29 1 [(1, [], arrOf [] [.inl (.inl 0)])]) ::
  ("_law_are", .fn 30 2 [(2, [], arrOf [] [.inl (.inl 0), .inl (.inl 1)])]) ::
  ("_law_odd", .fn 31 2 [(2, [], arrOf [] [.inl (.inl 0), .inl (.inl 1)])]) ::
  ("_law_told", .fn 32 5 [(5, [], arrOf [] [.inl (.inl 0), .inl (.inl 1), .inl (.inl 2), .inl (.inl 3), .inl (.inl 4)])]) ::
  ("_law_is_bound", .fn 33 2 [(2, [], arrOf [] [.inl (.inl 0), .inl (.inl 1)])]) ::
  ("_law_none", .fn 34 3 [(3, [], arrOf [] [.inl (.inl 0), .inl (.inl 1), .inl (.inl 2)])]) ::
  ("_law_limit", .fn 35 4 [(4, [], arrOf [] [.inl (.inl 0), .inl (.inl 1), .inl (.inl 2), .inl (.inl 3)])]) ::
  ("law", .fn 36 1 [(1, [], arrOf [] [.inl (.inl 0)])]) :: []
def n_is_integer : List Str := ["value"]
def c_is_integer : QSs := (.cons (.ret (.andv (.isi (.var 0) .int) (.nott (.isi (.var 0) .bool))))
  .nil)
def n_is_ratio : List Str := ["value"]
def c_is_ratio : QSs := (.cons (.ife (.or (.not (.v (.isi (.var 0) .tuple))) (.v (.cmp .NotEq (.bi .len (.cons (.var 0) .nil)) (.con (.int (2)))))) (.cons (.ret (.con (.bl false)))
  .nil) .nil)
  (.cons (.ife (.or (.not (.v (.call 0 (.cons (.idx (.var 0) (.con (.int (0)))) .nil) .nil [.inl (.inl 0)]))) (.not (.v (.call 0 (.cons (.idx (.var 0) (.con (.int (1)))) .nil) .nil [.inl (.inl 0)])))) (.cons (.ret (.con (.bl false)))
  .nil) .nil)
  (.cons (.ret (.andv (.cmp .Gt (.idx (.var 0) (.con (.int (1)))) (.con (.int (0)))) (.cmp .Eq (.bi .gcd (.cons (.idx (.var 0) (.con (.int (0)))) (.cons (.idx (.var 0) (.con (.int (1)))) .nil))) (.con (.int (1))))))
  .nil)))
def n_make : List Str := ["above", "below", "common"]
def c_make : QSs := (.cons (.ife (.v (.cmp .Eq (.var 1) (.con (.int (0))))) (.cons (.raise 1 [] .nil)
  .nil) .nil)
  (.cons (.asg (.nm 2) (.bi .gcd (.cons (.var 0) (.cons (.var 1) .nil))))
  (.cons (.ife (.v (.cmp .Lt (.var 1) (.con (.int (0))))) (.cons (.asg (.nm 2) (.neg (.var 2)))
  .nil) .nil)
  (.cons (.ret (.tup (.cons (.bin .FloorDiv (.var 0) (.var 2)) (.cons (.bin .FloorDiv (.var 1) (.var 2)) .nil))))
  .nil))))
def n_add : List Str := ["one", "other"]
def c_add : QSs := (.cons (.ret (.call 2 (.cons (.bin .Add (.bin .Mult (.idx (.var 0) (.con (.int (0)))) (.idx (.var 1) (.con (.int (1))))) (.bin .Mult (.idx (.var 1) (.con (.int (0)))) (.idx (.var 0) (.con (.int (1)))))) (.cons (.bin .Mult (.idx (.var 0) (.con (.int (1)))) (.idx (.var 1) (.con (.int (1))))) .nil)) .nil [.inl (.inl 0), .inl (.inl 1)]))
  .nil)
def n_multiply : List Str := ["one", "other"]
def c_multiply : QSs := (.cons (.ret (.call 2 (.cons (.bin .Mult (.idx (.var 0) (.con (.int (0)))) (.idx (.var 1) (.con (.int (0))))) (.cons (.bin .Mult (.idx (.var 0) (.con (.int (1)))) (.idx (.var 1) (.con (.int (1))))) .nil)) .nil [.inl (.inl 0), .inl (.inl 1)]))
  .nil)
def n_less : List Str := ["one", "other"]
def c_less : QSs := (.cons (.ret (.cmp .Lt (.bin .Mult (.idx (.var 0) (.con (.int (0)))) (.idx (.var 1) (.con (.int (1))))) (.bin .Mult (.idx (.var 1) (.con (.int (0)))) (.idx (.var 0) (.con (.int (1)))))))
  .nil)
def n_at_most : List Str := ["one", "other"]
def c_at_most : QSs := (.cons (.ret (.cmp .LtE (.bin .Mult (.idx (.var 0) (.con (.int (0)))) (.idx (.var 1) (.con (.int (1))))) (.bin .Mult (.idx (.var 1) (.con (.int (0)))) (.idx (.var 0) (.con (.int (1)))))))
  .nil)
def n_is_vector : List Str := ["value", "size", "item"]
def c_is_vector : QSs := (.cons (.ife (.or (.not (.v (.isi (.var 0) .tuple))) (.and (.v (.cmp .IsNot (.var 1) (.con .non))) (.v (.cmp .NotEq (.bi .len (.cons (.var 0) .nil)) (.var 1))))) (.cons (.ret (.con (.bl false)))
  .nil) .nil)
  (.cons (.ret (.bi .all (.cons (.lc (.call 1 (.cons (.var 2) .nil) .nil [.inl (.inl 0)]) (.nm 2) (.v (.var 0)) [2] .yes) .nil)))
  .nil))
def n_zero : List Str := ["size"]
def c_zero : QSs := (.cons (.ret (.bin .Mult (.tup (.cons (.con (.tup [(.int (0)), (.int (1))])) .nil)) (.var 0)))
  .nil)
def n_added : List Str := ["one", "other", "left", "right"]
def c_added : QSs := (.cons (.ret (.bi .tuple (.cons (.lc (.call 3 (.cons (.var 2) (.cons (.var 3) .nil)) .nil [.inl (.inl 0), .inl (.inl 1)]) (.tp [(.nm 2), (.nm 3)]) (.zip (.var 0) (.var 1)) [2, 3] .yes) .nil)))
  .nil)
def n_scaled : List Str := ["factor", "vector", "item"]
def c_scaled : QSs := (.cons (.ret (.bi .tuple (.cons (.lc (.call 4 (.cons (.var 0) (.cons (.var 2) .nil)) .nil [.inl (.inl 0), .inl (.inl 1)]) (.nm 2) (.v (.var 1)) [2] .yes) .nil)))
  .nil)
def n_is_bound : List Str := ["value", "size"]
def c_is_bound : QSs := (.cons (.ife (.or (.not (.v (.isi (.var 0) .tuple))) (.v (.cmp .NotEq (.bi .len (.cons (.var 0) .nil)) (.con (.int (2)))))) (.cons (.ret (.con (.bl false)))
  .nil) .nil)
  (.cons (.ret (.andv (.call 7 (.cons (.idx (.var 0) (.con (.int (0)))) .nil) (.cons (.var 1) .nil) [.inl (.inl 0), .inl (.inr 0)]) (.call 1 (.cons (.idx (.var 0) (.con (.int (1)))) .nil) .nil [.inl (.inl 0)])))
  .nil))
def n_check_system : List Str := ["size", "rows", "row"]
def c_check_system : QSs := (.cons (.ife (.or (.not (.v (.isi (.var 1) .tuple))) (.not (.v (.bi .all (.cons (.lc (.call 11 (.cons (.var 2) .nil) (.cons (.var 0) .nil) [.inl (.inl 0), .inl (.inr 0)]) (.nm 2) (.v (.var 1)) [2] .yes) .nil))))) (.cons (.raise 2 [] .nil)
  .nil) .nil)
  .nil)
def n_are_multipliers : List Str := ["value", "count", "item"]
def c_are_multipliers : QSs := (.cons (.ife (.or (.not (.v (.isi (.var 0) .tuple))) (.v (.cmp .NotEq (.bi .len (.cons (.var 0) .nil)) (.var 1)))) (.cons (.ret (.con (.bl false)))
  .nil) .nil)
  (.cons (.ret (.bi .all (.cons (.lc (.andv (.call 1 (.cons (.var 2) .nil) .nil [.inl (.inl 0)]) (.cmp .GtE (.idx (.var 2) (.con (.int (0)))) (.con (.int (0))))) (.nm 2) (.v (.var 0)) [2] .yes) .nil)))
  .nil))
def n_summed : List Str := ["size", "rows", "multipliers", "vector", "limit", "row", "ratio", "multiplier"]
def c_summed : QSs := (.cons (.asg (.nm 3) (.call 8 (.cons (.var 0) .nil) .nil [.inl (.inl 0)]))
  (.cons (.asg (.nm 4) (.con (.tup [(.int (0)), (.int (1))])))
  (.cons (.for (.tp [(.tp [(.nm 5), (.nm 6)]), (.nm 7)]) (.zip (.var 1) (.var 2)) (.cons (.ife (.v (.cmp .NotEq (.var 7) (.con (.tup [(.int (0)), (.int (1))])))) (.cons (.asg (.nm 3) (.call 9 (.cons (.var 3) (.cons (.call 10 (.cons (.var 7) (.cons (.var 5) .nil)) .nil [.inl (.inl 0), .inl (.inl 1)]) .nil)) .nil [.inl (.inl 0), .inl (.inl 1)]))
  (.cons (.asg (.nm 4) (.call 3 (.cons (.var 4) (.cons (.call 4 (.cons (.var 7) (.cons (.var 6) .nil)) .nil [.inl (.inl 0), .inl (.inl 1)]) .nil)) .nil [.inl (.inl 0), .inl (.inl 1)]))
  .nil)) .nil)
  .nil))
  (.cons (.ret (.tup (.cons (.var 3) (.cons (.var 4) .nil))))
  .nil))))
def n_check_none : List Str := ["size", "rows", "multipliers", "vector", "limit"]
def c_check_none : QSs := (.cons (.expr (.call 12 (.cons (.var 0) (.cons (.var 1) .nil)) .nil [.inl (.inl 0), .inl (.inl 1)]))
  (.cons (.ife (.not (.v (.call 13 (.cons (.var 2) .nil) (.cons (.bi .len (.cons (.var 1) .nil)) .nil) [.inl (.inl 0), .inl (.inr 0)]))) (.cons (.raise 3 [] .nil)
  .nil) .nil)
  (.cons (.asg (.tp [(.nm 3), (.nm 4)]) (.call 14 (.cons (.var 0) (.cons (.var 1) (.cons (.var 2) .nil))) .nil [.inl (.inl 0), .inl (.inl 1), .inl (.inl 2)]))
  (.cons (.ife (.or (.v (.cmp .NotEq (.var 3) (.call 8 (.cons (.var 0) .nil) .nil [.inl (.inl 0)]))) (.not (.v (.call 5 (.cons (.var 4) (.cons (.con (.tup [(.int (0)), (.int (1))])) .nil)) .nil [.inl (.inl 0), .inl (.inl 1)])))) (.cons (.raise 3 [] .nil)
  .nil) .nil)
  .nil))))
def n_check_limit : List Str := ["size", "rows", "bound", "multipliers", "vector", "limit"]
def c_check_limit : QSs := (.cons (.expr (.call 12 (.cons (.var 0) (.cons (.var 1) .nil)) .nil [.inl (.inl 0), .inl (.inl 1)]))
  (.cons (.ife (.not (.v (.call 11 (.cons (.var 2) .nil) (.cons (.var 0) .nil) [.inl (.inl 0), .inl (.inr 0)]))) (.cons (.raise 2 [] .nil)
  .nil) .nil)
  (.cons (.ife (.not (.v (.call 13 (.cons (.var 3) .nil) (.cons (.bi .len (.cons (.var 1) .nil)) .nil) [.inl (.inl 0), .inl (.inr 0)]))) (.cons (.raise 3 [] .nil)
  .nil) .nil)
  (.cons (.asg (.tp [(.nm 4), (.nm 5)]) (.call 14 (.cons (.var 0) (.cons (.var 1) (.cons (.var 3) .nil))) .nil [.inl (.inl 0), .inl (.inl 1), .inl (.inl 2)]))
  (.cons (.ife (.or (.v (.cmp .NotEq (.var 4) (.idx (.var 2) (.con (.int (0)))))) (.not (.v (.call 6 (.cons (.var 5) (.cons (.idx (.var 2) (.con (.int (1)))) .nil)) .nil [.inl (.inl 0), .inl (.inl 1)])))) (.cons (.raise 3 [] .nil)
  .nil) .nil)
  .nil)))))
def n__law_cell : List Str := ["script", "k"]
def c__law_cell : QSs := (.cons (.ife (.v (.cmp .Lt (.var 1) (.bi .len (.cons (.var 0) .nil)))) (.cons (.ret (.bi .int (.cons (.idx (.var 0) (.var 1)) .nil)))
  .nil) .nil)
  (.cons (.ret (.con (.int (0))))
  .nil))
def n__law_rich : List Str := ["cell", "k", "mixed"]
def c__law_rich : QSs := (.cons (.ife (.v (.cmp .GtE (.var 0) (.bin .Pow (.con (.int (10))) (.con (.int (18)))))) (.cons (.ret (.bi .int (.cons (.var 0) .nil)))
  .nil) .nil)
  (.cons (.asg (.nm 2) (.bin .Mod (.bi .int (.cons (.bin .Add (.bin .Add (.bin .Mult (.var 0) (.con (.int (48271)))) (.bin .Mult (.var 1) (.con (.int (69621))))) (.con (.int (11)))) .nil)) (.con (.int (2147483647)))))
  (.cons (.ret (.bin .Add (.bin .Mult (.var 2) (.con (.int (2147483629)))) (.bin .Mod (.bi .int (.cons (.bin .Add (.bin .Mult (.var 2) (.con (.int (16807)))) (.var 0)) .nil)) (.con (.int (2147483629))))))
  .nil)))
def n__law_make : List Str := ["above", "below", "one", "other"]
def c__law_make : QSs := (.cons (.par 2 3 (.bi .abs (.cons (.var 0) .nil)) (.bi .abs (.cons (.var 1) .nil)))
  (.cons (.whl (.v (.cmp .Gt (.var 3) (.con (.int (0))))) (.cons (.par 2 3 (.var 3) (.bin .Sub (.var 2) (.bin .Mult (.bin .FloorDiv (.var 2) (.var 3)) (.var 3))))
  .nil))
  (.cons (.ife (.v (.cmp .Lt (.var 1) (.con (.int (0))))) (.cons (.asg (.nm 2) (.neg (.var 2)))
  .nil) .nil)
  (.cons (.ret (.tup (.cons (.bin .FloorDiv (.var 0) (.var 2)) (.cons (.bin .FloorDiv (.var 1) (.var 2)) .nil))))
  .nil))))
def n__law_add : List Str := ["one", "other"]
def c__law_add : QSs := (.cons (.ret (.call 19 (.cons (.bin .Add (.bin .Mult (.idx (.var 0) (.con (.int (0)))) (.idx (.var 1) (.con (.int (1))))) (.bin .Mult (.idx (.var 1) (.con (.int (0)))) (.idx (.var 0) (.con (.int (1)))))) (.cons (.bin .Mult (.idx (.var 0) (.con (.int (1)))) (.idx (.var 1) (.con (.int (1))))) .nil)) .nil [.inl (.inl 0), .inl (.inl 1)]))
  .nil)
def n__law_mul : List Str := ["one", "other"]
def c__law_mul : QSs := (.cons (.ret (.call 19 (.cons (.bin .Mult (.idx (.var 0) (.con (.int (0)))) (.idx (.var 1) (.con (.int (0))))) (.cons (.bin .Mult (.idx (.var 0) (.con (.int (1)))) (.idx (.var 1) (.con (.int (1))))) .nil)) .nil [.inl (.inl 0), .inl (.inl 1)]))
  .nil)
def n__law_less : List Str := ["one", "other"]
def c__law_less : QSs := (.cons (.ret (.cmp .Lt (.bin .Mult (.idx (.var 0) (.con (.int (0)))) (.idx (.var 1) (.con (.int (1))))) (.bin .Mult (.idx (.var 1) (.con (.int (0)))) (.idx (.var 0) (.con (.int (1)))))))
  .nil)
def n__law_ratio : List Str := ["rich", "above"]
def c__law_ratio : QSs := (.cons (.asg (.nm 1) (.bin .Sub (.bin .Mod (.var 0) (.con (.int (13)))) (.con (.int (6)))))
  (.cons (.ife (.v (.cmp .Eq (.bin .Mod (.bin .FloorDiv (.var 0) (.con (.int (13)))) (.con (.int (5)))) (.con (.int (0))))) (.cons (.asg (.nm 1) (.bin .Sub (.bin .Mod (.bin .FloorDiv (.var 0) (.con (.int (65)))) (.con (.int (201)))) (.con (.int (100)))))
  .nil) .nil)
  (.cons (.ret (.call 19 (.cons (.var 1) (.cons (.idx (.lst (.cons (.con (.int (1))) (.cons (.con (.int (1))) (.cons (.con (.int (1))) (.cons (.con (.int (2))) (.cons (.con (.int (3))) (.cons (.con (.int (4))) (.cons (.con (.int (7))) .nil)))))))) (.bin .Mod (.bin .FloorDiv (.var 0) (.con (.int (13065)))) (.con (.int (7))))) .nil)) .nil [.inl (.inl 0), .inl (.inl 1)]))
  .nil)))
def n__law_dot : List Str := ["one", "other", "found", "k"]
def c__law_dot : QSs := (.cons (.asg (.nm 2) (.tup (.cons (.con (.int (0))) (.cons (.con (.int (1))) .nil))))
  (.cons (.for (.nm 3) (.rng1 (.bi .len (.cons (.var 0) .nil))) (.cons (.asg (.nm 2) (.call 20 (.cons (.var 2) (.cons (.call 21 (.cons (.idx (.var 0) (.var 3)) (.cons (.idx (.var 1) (.var 3)) .nil)) .nil [.inl (.inl 0), .inl (.inl 1)]) .nil)) .nil [.inl (.inl 0), .inl (.inl 1)]))
  .nil))
  (.cons (.ret (.var 2))
  .nil)))
def n__law_bound : List Str := ["size", "rich", "vector", "k", "part"]
def c__law_bound : QSs := (.cons (.asg (.nm 2) (.lst .nil))
  (.cons (.for (.nm 3) (.rng1 (.var 0)) (.cons (.asg (.nm 4) (.bin .FloorDiv (.var 1) (.bin .Add (.con (.int (5))) (.bin .Mult (.bin .Mult (.con (.int (7))) (.var 3)) (.var 3)))))
  (.cons (.expr (.mth 0 (.var 2) (.cons (.ife (.v (.cmp .Eq (.bin .Mod (.var 4) (.con (.int (3)))) (.con (.int (0))))) (.tup (.cons (.con (.int (0))) (.cons (.con (.int (1))) .nil))) (.call 23 (.cons (.bin .FloorDiv (.var 4) (.con (.int (3)))) .nil) .nil [.inl (.inl 0)])) .nil)))
  .nil)))
  (.cons (.ret (.tup (.cons (.bi .tuple (.cons (.var 2) .nil)) (.cons (.call 23 (.cons (.bin .FloorDiv (.var 1) (.con (.int (11)))) .nil) .nil [.inl (.inl 0)]) .nil))))
  .nil)))
def n__law_system : List Str := ["script", "size", "most", "rows", "k", "rich", "bound", "old", "item"]
def c__law_system : QSs := (.cons (.asg (.nm 3) (.lst .nil))
  (.cons (.for (.nm 4) (.rng1 (.bin .Mod (.call 17 (.cons (.var 0) (.cons (.con (.int (1))) .nil)) .nil [.inl (.inl 0), .inl (.inl 1)]) (.bin .Add (.var 2) (.con (.int (1)))))) (.cons (.asg (.nm 5) (.call 18 (.cons (.call 17 (.cons (.var 0) (.cons (.bin .Add (.con (.int (2))) (.var 4)) .nil)) .nil [.inl (.inl 0), .inl (.inl 1)]) (.cons (.var 4) .nil)) .nil [.inl (.inl 0), .inl (.inl 1)]))
  (.cons (.asg (.nm 6) (.call 25 (.cons (.var 1) (.cons (.bin .FloorDiv (.var 5) (.con (.int (4)))) .nil)) .nil [.inl (.inl 0), .inl (.inl 1)]))
  (.cons (.ife (.and (.v (.cmp .Eq (.bin .Mod (.var 5) (.con (.int (4)))) (.con (.int (0))))) (.v (.cmp .Gt (.bi .len (.cons (.var 3) .nil)) (.con (.int (0)))))) (.cons (.asg (.nm 7) (.idx (.var 3) (.bin .Mod (.bin .FloorDiv (.var 5) (.con (.int (4)))) (.bi .len (.cons (.var 3) .nil)))))
  (.cons (.asg (.nm 6) (.tup (.cons (.bi .tuple (.cons (.lc (.call 21 (.cons (.tup (.cons (.neg (.con (.int (1)))) (.cons (.con (.int (1))) .nil))) (.cons (.var 8) .nil)) .nil [.inl (.inl 0), .inl (.inl 1)]) (.nm 8) (.v (.idx (.var 7) (.con (.int (0))))) [8] .yes) .nil)) (.cons (.call 21 (.cons (.tup (.cons (.neg (.con (.int (1)))) (.cons (.con (.int (1))) .nil))) (.cons (.idx (.var 7) (.con (.int (1)))) .nil)) .nil [.inl (.inl 0), .inl (.inl 1)]) .nil))))
  .nil)) .nil)
  (.cons (.ife (.v (.cmp .Eq (.bin .Mod (.var 5) (.con (.int (4)))) (.con (.int (1))))) (.cons (.asg (.nm 6) (.tup (.cons (.idx (.var 6) (.con (.int (0)))) (.cons (.tup (.cons (.con (.int (0))) (.cons (.con (.int (1))) .nil))) .nil))))
  .nil) .nil)
  (.cons (.expr (.mth 0 (.var 3) (.cons (.var 6) .nil)))
  .nil))))))
  (.cons (.ret (.var 3))
  .nil)))
def n__law_summed : List Str := ["size", "rows", "multipliers", "vector", "limit", "k", "j"]
def c__law_summed : QSs := (.cons (.asg (.nm 3) (.bin .Mult (.lst (.cons (.tup (.cons (.con (.int (0))) (.cons (.con (.int (1))) .nil))) .nil)) (.var 0)))
  (.cons (.asg (.nm 4) (.tup (.cons (.con (.int (0))) (.cons (.con (.int (1))) .nil))))
  (.cons (.for (.nm 5) (.rng1 (.bi .len (.cons (.var 1) .nil))) (.cons (.for (.nm 6) (.rng1 (.var 0)) (.cons (.sub (.var 3) (.var 6) (.call 20 (.cons (.idx (.var 3) (.var 6)) (.cons (.call 21 (.cons (.idx (.var 2) (.var 5)) (.cons (.idx (.idx (.idx (.var 1) (.var 5)) (.con (.int (0)))) (.var 6)) .nil)) .nil [.inl (.inl 0), .inl (.inl 1)]) .nil)) .nil [.inl (.inl 0), .inl (.inl 1)]))
  .nil))
  (.cons (.asg (.nm 4) (.call 20 (.cons (.var 4) (.cons (.call 21 (.cons (.idx (.var 2) (.var 5)) (.cons (.idx (.idx (.var 1) (.var 5)) (.con (.int (1)))) .nil)) .nil [.inl (.inl 0), .inl (.inl 1)]) .nil)) .nil [.inl (.inl 0), .inl (.inl 1)]))
  .nil)))
  (.cons (.ret (.tup (.cons (.bi .tuple (.cons (.var 3) .nil)) (.cons (.var 4) .nil))))
  .nil))))
def n__law_keeps : List Str := ["rows", "point", "vector", "limit"]
def c__law_keeps : QSs := (.cons (.ret (.bi .all (.cons (.lc (.nott (.call 22 (.cons (.var 3) (.cons (.call 24 (.cons (.var 2) (.cons (.var 1) .nil)) .nil [.inl (.inl 0), .inl (.inl 1)]) .nil)) .nil [.inl (.inl 0), .inl (.inl 1)])) (.tp [(.nm 2), (.nm 3)]) (.v (.var 0)) [2, 3] .yes) .nil)))
  .nil)
def n__law_is_ratio : List Str := ["value", "item"]
def c__law_is_ratio : QSs := (.cons (.ife (.or (.not (.v (.isi (.var 0) .tuple))) (.v (.cmp .NotEq (.bi .len (.cons (.var 0) .nil)) (.con (.int (2)))))) (.cons (.ret (.con (.bl false)))
  .nil) .nil)
  (.cons (.for (.nm 1) (.v (.var 0)) (.cons (.ife (.or (.not (.v (.isi (.var 1) .int))) (.v (.isi (.var 1) .bool))) (.cons (.ret (.con (.bl false)))
  .nil) .nil)
  .nil))
  (.cons (.ret (.andv (.cmp .Gt (.idx (.var 0) (.con (.int (1)))) (.con (.int (0)))) (.cmp .Eq (.call 19 (.cons (.idx (.var 0) (.con (.int (0)))) (.cons (.idx (.var 0) (.con (.int (1)))) .nil)) .nil [.inl (.inl 0), .inl (.inl 1)]) (.var 0))))
  .nil)))
def n__law_are : List Str := ["value", "count", "item"]
def c__law_are : QSs := (.cons (.ret (.andv (.isi (.var 0) .tuple) (.andv (.cmp .Eq (.bi .len (.cons (.var 0) .nil)) (.var 1)) (.bi .all (.cons (.lc (.call 29 (.cons (.var 2) .nil) .nil [.inl (.inl 0)]) (.nm 2) (.v (.var 0)) [2] .yes) .nil)))))
  .nil)
def n__law_odd : List Str := ["value", "rich", "odd", "one", "choice"]
def c__law_odd : QSs := (.cons (.asg (.nm 2) (.lst (.cons (.con .non) (.cons (.tup .nil) (.cons (.tup (.cons (.con (.int (1))) (.cons (.con (.int (1))) .nil))) (.cons (.tup (.cons (.con (.int (2))) (.cons (.con (.int (4))) .nil))) (.cons (.tup (.cons (.con (.int (1))) (.cons (.con (.int (0))) .nil))) (.cons (.tup (.cons (.con (.int (1))) (.cons (.neg (.con (.int (1)))) .nil))) (.cons (.tup (.cons (.con (.bl true)) (.cons (.con (.int (1))) .nil))) (.cons (.tup (.cons (.con (.int (1))) (.cons (.con (.int (2))) (.cons (.con (.int (3))) .nil)))) (.cons (.lst (.cons (.con (.int (1))) (.cons (.con (.int (1))) .nil))) (.cons (.con (.str "1/2")) (.cons (.con (.int (1))) .nil)))))))))))))
  (.cons (.asg (.nm 3) (.idx (.var 2) (.bin .Mod (.bin .FloorDiv (.var 1) (.con (.int (8)))) (.con (.int (11))))))
  (.cons (.asg (.nm 4) (.bin .Mod (.var 1) (.con (.int (8)))))
  (.cons (.ife (.v (.cmp .Eq (.var 4) (.con (.int (0))))) (.cons (.ret (.slc (.var 0) .none (.some (.neg (.con (.int (1)))))))
  .nil) .nil)
  (.cons (.ife (.v (.cmp .Eq (.var 4) (.con (.int (1))))) (.cons (.ret (.bin .Add (.var 0) (.tup (.cons (.tup (.cons (.con (.int (0))) (.cons (.con (.int (1))) .nil))) .nil))))
  .nil) .nil)
  (.cons (.ife (.and (.v (.cmp .Eq (.var 4) (.con (.int (2))))) (.v (.cmp .Gt (.bi .len (.cons (.var 0) .nil)) (.con (.int (0)))))) (.cons (.ret (.bin .Add (.tup (.cons (.var 3) .nil)) (.slc (.var 0) (.some (.con (.int (1)))) .none)))
  .nil) .nil)
  (.cons (.ife (.v (.cmp .Eq (.var 4) (.con (.int (3))))) (.cons (.ret (.bi .list (.cons (.var 0) .nil)))
  .nil) .nil)
  (.cons (.ife (.v (.cmp .Eq (.var 4) (.con (.int (4))))) (.cons (.ret (.var 3))
  .nil) .nil)
  (.cons (.ret (.var 0))
  .nil)))))))))
def n__law_told : List Str := ["call", "size", "rows", "bound", "multipliers", "e"]
def c__law_told : QSs := (.cons (.try (.cons (.ife (.v (.cmp .Eq (.var 0) (.con (.int (0))))) (.cons (.ret (.ife (.v (.cmp .Is (.call 15 (.cons (.var 1) (.cons (.var 2) (.cons (.var 4) .nil))) .nil [.inl (.inl 0), .inl (.inl 1), .inl (.inl 2)]) (.con .non))) (.con (.str "right")) (.con (.str "else"))))
  .nil) .nil)
  (.cons (.ife (.v (.cmp .Eq (.var 0) (.con (.int (1))))) (.cons (.ret (.ife (.v (.cmp .Is (.call 16 (.cons (.var 1) (.cons (.var 2) (.cons (.var 3) (.cons (.var 4) .nil)))) .nil [.inl (.inl 0), .inl (.inl 1), .inl (.inl 2), .inl (.inl 3)]) (.con .non))) (.con (.str "right")) (.con (.str "else"))))
  .nil) .nil)
  (.cons (.ret (.ife (.v (.cmp .Is (.call 12 (.cons (.var 1) (.cons (.var 2) .nil)) .nil [.inl (.inl 0), .inl (.inl 1)]) (.con .non))) (.con (.str "right")) (.con (.str "else"))))
  .nil))) 0 (.some 5) (.cons (.ret (.ife (.v (.excIs 3)) (.con (.str "paper")) (.ife (.v (.excIs 2)) (.con (.str "system")) (.con (.str "else")))))
  .nil))
  .nil)
def n__law_is_bound : List Str := ["value", "size"]
def c__law_is_bound : QSs := (.cons (.ret (.andv (.isi (.var 0) .tuple) (.andv (.cmp .Eq (.bi .len (.cons (.var 0) .nil)) (.con (.int (2)))) (.andv (.call 30 (.cons (.idx (.var 0) (.con (.int (0)))) (.cons (.var 1) .nil)) .nil [.inl (.inl 0), .inl (.inl 1)]) (.call 29 (.cons (.idx (.var 0) (.con (.int (1)))) .nil) .nil [.inl (.inl 0)])))))
  .nil)
def n__law_none : List Str := ["size", "rows", "multipliers", "item", "vector", "limit"]
def c__law_none : QSs := (.cons (.ife (.or (.not (.v (.call 30 (.cons (.var 2) (.cons (.bi .len (.cons (.var 1) .nil)) .nil)) .nil [.inl (.inl 0), .inl (.inl 1)]))) (.v (.bi .any (.cons (.lc (.cmp .Lt (.idx (.var 3) (.con (.int (0)))) (.con (.int (0)))) (.nm 3) (.v (.var 2)) [3] .yes) .nil)))) (.cons (.ret (.con (.str "paper")))
  .nil) .nil)
  (.cons (.asg (.tp [(.nm 4), (.nm 5)]) (.call 27 (.cons (.var 0) (.cons (.var 1) (.cons (.var 2) .nil))) .nil [.inl (.inl 0), .inl (.inl 1), .inl (.inl 2)]))
  (.cons (.ret (.ife (.and (.v (.cmp .Eq (.var 4) (.bin .Mult (.tup (.cons (.tup (.cons (.con (.int (0))) (.cons (.con (.int (1))) .nil))) .nil)) (.var 0)))) (.v (.cmp .Lt (.idx (.var 5) (.con (.int (0)))) (.con (.int (0)))))) (.con (.str "right")) (.con (.str "paper"))))
  .nil)))
def n__law_limit : List Str := ["size", "rows", "bound", "multipliers", "item", "vector", "limit"]
def c__law_limit : QSs := (.cons (.ife (.not (.v (.call 33 (.cons (.var 2) (.cons (.var 0) .nil)) .nil [.inl (.inl 0), .inl (.inl 1)]))) (.cons (.ret (.con (.str "system")))
  .nil) .nil)
  (.cons (.ife (.or (.not (.v (.call 30 (.cons (.var 3) (.cons (.bi .len (.cons (.var 1) .nil)) .nil)) .nil [.inl (.inl 0), .inl (.inl 1)]))) (.v (.bi .any (.cons (.lc (.cmp .Lt (.idx (.var 4) (.con (.int (0)))) (.con (.int (0)))) (.nm 4) (.v (.var 3)) [4] .yes) .nil)))) (.cons (.ret (.con (.str "paper")))
  .nil) .nil)
  (.cons (.asg (.tp [(.nm 5), (.nm 6)]) (.call 27 (.cons (.var 0) (.cons (.var 1) (.cons (.var 3) .nil))) .nil [.inl (.inl 0), .inl (.inl 1), .inl (.inl 2)]))
  (.cons (.ret (.ife (.and (.v (.cmp .Eq (.var 5) (.idx (.var 2) (.con (.int (0)))))) (.not (.v (.call 22 (.cons (.idx (.var 2) (.con (.int (1)))) (.cons (.var 6) .nil)) .nil [.inl (.inl 0), .inl (.inl 1)])))) (.con (.str "right")) (.con (.str "paper"))))
  .nil))))
def n_law : List Str := ["script", "size", "rows", "rich", "k", "drawn", "item", "kept", "pair", "multipliers", "vector", "limit", "bound", "strange", "call"]
def c_law : QSs := (.cons (.asg (.nm 1) (.bin .Mod (.call 17 (.cons (.var 0) (.cons (.con (.int (0))) .nil)) .nil [.inl (.inl 0), .inl (.inl 1)]) (.con (.int (4)))))
  (.cons (.asg (.nm 2) (.bi .tuple (.cons (.call 26 (.cons (.var 0) (.cons (.var 1) (.cons (.con (.int (6))) .nil))) .nil [.inl (.inl 0), .inl (.inl 1), .inl (.inl 2)]) .nil)))
  (.cons (.asg (.nm 3) (.call 18 (.cons (.call 17 (.cons (.var 0) (.cons (.con (.int (9))) .nil)) .nil [.inl (.inl 0), .inl (.inl 1)]) (.cons (.con (.int (31))) .nil)) .nil [.inl (.inl 0), .inl (.inl 1)]))
  (.cons (.asg (.nm 5) (.bi .tuple (.cons (.lc (.idx (.lst (.cons (.tup (.cons (.con (.int (0))) (.cons (.con (.int (1))) .nil))) (.cons (.tup (.cons (.con (.int (1))) (.cons (.con (.int (1))) .nil))) (.cons (.call 23 (.cons (.bin .FloorDiv (.var 3) (.bin .Add (.con (.int (3))) (.var 4))) .nil) .nil [.inl (.inl 0)]) .nil)))) (.bin .Mod (.bin .FloorDiv (.var 3) (.bin .Add (.con (.int (7))) (.var 4))) (.con (.int (3))))) (.nm 4) (.rng1 (.bi .len (.cons (.var 2) .nil))) [4] .yes) .nil)))
  (.cons (.asg (.nm 7) (.bi .tuple (.cons (.lc (.ife (.v (.cmp .GtE (.idx (.var 6) (.con (.int (0)))) (.con (.int (0))))) (.var 6) (.tup (.cons (.neg (.idx (.var 6) (.con (.int (0))))) (.cons (.idx (.var 6) (.con (.int (1)))) .nil)))) (.nm 6) (.v (.var 5)) [6] .yes) .nil)))
  (.cons (.ife (.v (.cmp .NotEq (.call 14 (.cons (.var 1) (.cons (.var 2) (.cons (.var 7) .nil))) .nil [.inl (.inl 0), .inl (.inl 1), .inl (.inl 2)]) (.call 27 (.cons (.var 1) (.cons (.var 2) (.cons (.var 7) .nil))) .nil [.inl (.inl 0), .inl (.inl 1), .inl (.inl 2)]))) (.cons (.ret (.con (.bl false)))
  .nil) .nil)
  (.cons (.asg (.nm 8) (.bi .tuple (.cons (.lc (.ife (.v (.cmp .In (.var 4) (.lst (.cons (.bin .Mod (.var 3) (.con (.int (7)))) (.cons (.bin .Mod (.bin .FloorDiv (.var 3) (.con (.int (7)))) (.con (.int (7)))) .nil))))) (.tup (.cons (.con (.int (1))) (.cons (.con (.int (1))) .nil))) (.tup (.cons (.con (.int (0))) (.cons (.con (.int (1))) .nil)))) (.nm 4) (.rng1 (.bi .len (.cons (.var 2) .nil))) [4] .yes) .nil)))
  (.cons (.for (.nm 9) (.v (.lst (.cons (.var 5) (.cons (.var 7) (.cons (.var 8) (.cons (.call 31 (.cons (.var 7) (.cons (.bin .FloorDiv (.var 3) (.con (.int (49)))) .nil)) .nil [.inl (.inl 0), .inl (.inl 1)]) .nil)))))) (.cons (.ife (.v (.cmp .NotEq (.call 13 (.cons (.var 9) .nil) (.cons (.bi .len (.cons (.var 2) .nil)) .nil) [.inl (.inl 0), .inl (.inr 0)]) (.andv (.call 30 (.cons (.var 9) (.cons (.bi .len (.cons (.var 2) .nil)) .nil)) .nil [.inl (.inl 0), .inl (.inl 1)]) (.bi .all (.cons (.lc (.cmp .GtE (.idx (.var 6) (.con (.int (0)))) (.con (.int (0)))) (.nm 6) (.v (.var 9)) [6] .yes) .nil))))) (.cons (.ret (.con (.bl false)))
  .nil) .nil)
  (.cons (.ife (.v (.cmp .NotEq (.call 32 (.cons (.con (.int (0))) (.cons (.var 1) (.cons (.var 2) (.cons (.con .non) (.cons (.var 9) .nil))))) .nil [.inl (.inl 0), .inl (.inl 1), .inl (.inl 2), .inl (.inl 3), .inl (.inl 4)]) (.call 34 (.cons (.var 1) (.cons (.var 2) (.cons (.var 9) .nil))) .nil [.inl (.inl 0), .inl (.inl 1), .inl (.inl 2)]))) (.cons (.ret (.con (.bl false)))
  .nil) .nil)
  (.cons (.asg (.tp [(.nm 10), (.nm 11)]) (.call 27 (.cons (.var 1) (.cons (.var 2) (.cons (.var 7) .nil))) .nil [.inl (.inl 0), .inl (.inl 1), .inl (.inl 2)]))
  (.cons (.asg (.nm 12) (.tup (.cons (.var 10) (.cons (.call 20 (.cons (.var 11) (.cons (.idx (.lst (.cons (.tup (.cons (.con (.int (0))) (.cons (.con (.int (1))) .nil))) (.cons (.tup (.cons (.neg (.con (.int (1)))) (.cons (.con (.int (5))) .nil))) (.cons (.tup (.cons (.con (.int (1))) (.cons (.con (.int (3))) .nil))) .nil)))) (.bin .Mod (.bin .FloorDiv (.var 3) (.con (.int (343)))) (.con (.int (3))))) .nil)) .nil [.inl (.inl 0), .inl (.inl 1)]) .nil))))
  (.cons (.ife (.v (.cmp .Eq (.bin .Mod (.bin .FloorDiv (.var 3) (.con (.int (1029)))) (.con (.int (4)))) (.con (.int (0))))) (.cons (.asg (.nm 12) (.call 31 (.cons (.var 12) (.cons (.bin .FloorDiv (.var 3) (.con (.int (4116)))) .nil)) .nil [.inl (.inl 0), .inl (.inl 1)]))
  .nil) .nil)
  (.cons (.ife (.v (.cmp .NotEq (.call 11 (.cons (.var 12) .nil) (.cons (.var 1) .nil) [.inl (.inl 0), .inl (.inr 0)]) (.call 33 (.cons (.var 12) (.cons (.var 1) .nil)) .nil [.inl (.inl 0), .inl (.inl 1)]))) (.cons (.ret (.con (.bl false)))
  .nil) .nil)
  (.cons (.ife (.v (.cmp .NotEq (.call 32 (.cons (.con (.int (1))) (.cons (.var 1) (.cons (.var 2) (.cons (.var 12) (.cons (.var 9) .nil))))) .nil [.inl (.inl 0), .inl (.inl 1), .inl (.inl 2), .inl (.inl 3), .inl (.inl 4)]) (.call 35 (.cons (.var 1) (.cons (.var 2) (.cons (.var 12) (.cons (.var 9) .nil)))) .nil [.inl (.inl 0), .inl (.inl 1), .inl (.inl 2), .inl (.inl 3)]))) (.cons (.ret (.con (.bl false)))
  .nil) .nil)
  .nil))))))))
  (.cons (.asg (.nm 13) (.idx (.lst (.cons (.bi .list (.cons (.var 2) .nil)) (.cons (.bin .Add (.var 2) (.tup (.cons (.tup (.cons (.con (.int (1))) (.cons (.con (.int (2))) .nil))) .nil))) (.cons (.bin .Add (.var 2) (.tup (.cons (.tup (.cons (.bin .Mult (.tup (.cons (.tup (.cons (.con (.int (0))) (.cons (.con (.int (1))) .nil))) .nil)) (.bin .Add (.var 1) (.con (.int (1))))) (.cons (.tup (.cons (.con (.int (0))) (.cons (.con (.int (1))) .nil))) .nil))) .nil))) (.cons (.con .non) .nil))))) (.bin .Mod (.var 3) (.con (.int (4))))))
  (.cons (.ret (.andv (.cmp .Eq (.lc (.call 32 (.cons (.var 14) (.cons (.var 1) (.cons (.var 13) (.cons (.con .non) (.cons (.var 7) .nil))))) .nil [.inl (.inl 0), .inl (.inl 1), .inl (.inl 2), .inl (.inl 3), .inl (.inl 4)]) (.nm 14) (.rng1 (.con (.int (3)))) [14] .yes) (.bin .Mult (.lst (.cons (.con (.str "system")) .nil)) (.con (.int (3))))) (.cmp .Eq (.call 32 (.cons (.con (.int (2))) (.cons (.var 1) (.cons (.var 2) (.cons (.con .non) (.cons (.var 7) .nil))))) .nil [.inl (.inl 0), .inl (.inl 1), .inl (.inl 2), .inl (.inl 3), .inl (.inl 4)]) (.con (.str "right")))))
  .nil))))))))))
def fns : List FnC := ⟨1, 1, c_is_integer⟩ :: ⟨1, 1, c_is_ratio⟩ :: ⟨2, 3, c_make⟩ :: ⟨2, 2, c_add⟩ :: ⟨2, 2, c_multiply⟩ :: ⟨2, 2, c_less⟩ :: ⟨2, 2, c_at_most⟩ :: ⟨2, 3, c_is_vector⟩ :: ⟨1, 1, c_zero⟩ :: ⟨2, 4, c_added⟩ :: ⟨2, 3, c_scaled⟩ :: ⟨2, 2, c_is_bound⟩ :: ⟨2, 3, c_check_system⟩ :: ⟨2, 3, c_are_multipliers⟩ :: ⟨3, 8, c_summed⟩ :: ⟨3, 5, c_check_none⟩ :: ⟨4, 6, c_check_limit⟩ :: ⟨2, 2, c__law_cell⟩ :: ⟨2, 3, c__law_rich⟩ :: ⟨2, 4, c__law_make⟩ :: ⟨2, 2, c__law_add⟩ :: ⟨2, 2, c__law_mul⟩ :: ⟨2, 2, c__law_less⟩ :: ⟨1, 2, c__law_ratio⟩ :: ⟨2, 4, c__law_dot⟩ :: ⟨2, 5, c__law_bound⟩ :: ⟨3, 9, c__law_system⟩ :: ⟨3, 7, c__law_summed⟩ :: ⟨2, 4, c__law_keeps⟩ :: ⟨1, 2, c__law_is_ratio⟩ :: ⟨2, 3, c__law_are⟩ :: ⟨2, 5, c__law_odd⟩ :: ⟨5, 6, c__law_told⟩ :: ⟨2, 2, c__law_is_bound⟩ :: ⟨3, 6, c__law_none⟩ :: ⟨4, 7, c__law_limit⟩ :: ⟨1, 15, c_law⟩ :: []
def sub (a b : Nat) : Bool := [(0, 0), (1, 0), (1, 1), (2, 0), (2, 2), (3, 0), (3, 3)].contains (a, b)
abbrev s_is_integer : Stmt := top 8
def d_is_integer : He.DefD := ⟨("is_integer", none), "is_integer", "is_integer", defArgs s_is_integer, defBody s_is_integer, defScope s_is_integer, [], []⟩
abbrev s_is_ratio : Stmt := top 9
def d_is_ratio : He.DefD := ⟨("is_ratio", none), "is_ratio", "is_ratio", defArgs s_is_ratio, defBody s_is_ratio, defScope s_is_ratio, [], []⟩
abbrev s_make : Stmt := top 10
def d_make : He.DefD := ⟨("make", none), "make", "make", defArgs s_make, defBody s_make, defScope s_make, [.int (1)], []⟩
abbrev s_add : Stmt := top 11
def d_add : He.DefD := ⟨("add", none), "add", "add", defArgs s_add, defBody s_add, defScope s_add, [], []⟩
abbrev s_multiply : Stmt := top 12
def d_multiply : He.DefD := ⟨("multiply", none), "multiply", "multiply", defArgs s_multiply, defBody s_multiply, defScope s_multiply, [], []⟩
abbrev s_less : Stmt := top 13
def d_less : He.DefD := ⟨("less", none), "less", "less", defArgs s_less, defBody s_less, defScope s_less, [], []⟩
abbrev s_at_most : Stmt := top 14
def d_at_most : He.DefD := ⟨("at_most", none), "at_most", "at_most", defArgs s_at_most, defBody s_at_most, defScope s_at_most, [], []⟩
abbrev s_is_vector : Stmt := top 16
def d_is_vector : He.DefD := ⟨("is_vector", none), "is_vector", "is_vector", defArgs s_is_vector, defBody s_is_vector, defScope s_is_vector, [], [("size", .non)]⟩
abbrev s_zero : Stmt := top 17
def d_zero : He.DefD := ⟨("zero", none), "zero", "zero", defArgs s_zero, defBody s_zero, defScope s_zero, [], []⟩
abbrev s_added : Stmt := top 18
def d_added : He.DefD := ⟨("added", none), "added", "added", defArgs s_added, defBody s_added, defScope s_added, [], []⟩
abbrev s_scaled : Stmt := top 19
def d_scaled : He.DefD := ⟨("scaled", none), "scaled", "scaled", defArgs s_scaled, defBody s_scaled, defScope s_scaled, [], []⟩
abbrev s_is_bound : Stmt := top 21
def d_is_bound : He.DefD := ⟨("is_bound", none), "is_bound", "is_bound", defArgs s_is_bound, defBody s_is_bound, defScope s_is_bound, [], [("size", .non)]⟩
abbrev s_check_system : Stmt := top 22
def d_check_system : He.DefD := ⟨("check_system", none), "check_system", "check_system", defArgs s_check_system, defBody s_check_system, defScope s_check_system, [], []⟩
abbrev s_are_multipliers : Stmt := top 23
def d_are_multipliers : He.DefD := ⟨("are_multipliers", none), "are_multipliers", "are_multipliers", defArgs s_are_multipliers, defBody s_are_multipliers, defScope s_are_multipliers, [], []⟩
abbrev s_summed : Stmt := top 24
def d_summed : He.DefD := ⟨("summed", none), "summed", "summed", defArgs s_summed, defBody s_summed, defScope s_summed, [], []⟩
abbrev s_check_none : Stmt := top 25
def d_check_none : He.DefD := ⟨("check_none", none), "check_none", "check_none", defArgs s_check_none, defBody s_check_none, defScope s_check_none, [], []⟩
abbrev s_check_limit : Stmt := top 26
def d_check_limit : He.DefD := ⟨("check_limit", none), "check_limit", "check_limit", defArgs s_check_limit, defBody s_check_limit, defScope s_check_limit, [], []⟩
abbrev s__law_cell : Stmt := top 28
def d__law_cell : He.DefD := ⟨("_law_cell", none), "_law_cell", "_law_cell", defArgs s__law_cell, defBody s__law_cell, defScope s__law_cell, [], []⟩
abbrev s__law_rich : Stmt := top 29
def d__law_rich : He.DefD := ⟨("_law_rich", none), "_law_rich", "_law_rich", defArgs s__law_rich, defBody s__law_rich, defScope s__law_rich, [], []⟩
abbrev s__law_make : Stmt := top 30
def d__law_make : He.DefD := ⟨("_law_make", none), "_law_make", "_law_make", defArgs s__law_make, defBody s__law_make, defScope s__law_make, [], []⟩
abbrev s__law_add : Stmt := top 31
def d__law_add : He.DefD := ⟨("_law_add", none), "_law_add", "_law_add", defArgs s__law_add, defBody s__law_add, defScope s__law_add, [], []⟩
abbrev s__law_mul : Stmt := top 32
def d__law_mul : He.DefD := ⟨("_law_mul", none), "_law_mul", "_law_mul", defArgs s__law_mul, defBody s__law_mul, defScope s__law_mul, [], []⟩
abbrev s__law_less : Stmt := top 33
def d__law_less : He.DefD := ⟨("_law_less", none), "_law_less", "_law_less", defArgs s__law_less, defBody s__law_less, defScope s__law_less, [], []⟩
abbrev s__law_ratio : Stmt := top 34
def d__law_ratio : He.DefD := ⟨("_law_ratio", none), "_law_ratio", "_law_ratio", defArgs s__law_ratio, defBody s__law_ratio, defScope s__law_ratio, [], []⟩
abbrev s__law_dot : Stmt := top 35
def d__law_dot : He.DefD := ⟨("_law_dot", none), "_law_dot", "_law_dot", defArgs s__law_dot, defBody s__law_dot, defScope s__law_dot, [], []⟩
abbrev s__law_bound : Stmt := top 36
def d__law_bound : He.DefD := ⟨("_law_bound", none), "_law_bound", "_law_bound", defArgs s__law_bound, defBody s__law_bound, defScope s__law_bound, [], []⟩
abbrev s__law_system : Stmt := top 37
def d__law_system : He.DefD := ⟨("_law_system", none), "_law_system", "_law_system", defArgs s__law_system, defBody s__law_system, defScope s__law_system, [], []⟩
abbrev s__law_summed : Stmt := top 38
def d__law_summed : He.DefD := ⟨("_law_summed", none), "_law_summed", "_law_summed", defArgs s__law_summed, defBody s__law_summed, defScope s__law_summed, [], []⟩
abbrev s__law_keeps : Stmt := top 39
def d__law_keeps : He.DefD := ⟨("_law_keeps", none), "_law_keeps", "_law_keeps", defArgs s__law_keeps, defBody s__law_keeps, defScope s__law_keeps, [], []⟩
abbrev s__law_is_ratio : Stmt := top 40
def d__law_is_ratio : He.DefD := ⟨("_law_is_ratio", none), "_law_is_ratio", "_law_is_ratio", defArgs s__law_is_ratio, defBody s__law_is_ratio, defScope s__law_is_ratio, [], []⟩
abbrev s__law_are : Stmt := top 41
def d__law_are : He.DefD := ⟨("_law_are", none), "_law_are", "_law_are", defArgs s__law_are, defBody s__law_are, defScope s__law_are, [], []⟩
abbrev s__law_odd : Stmt := top 42
def d__law_odd : He.DefD := ⟨("_law_odd", none), "_law_odd", "_law_odd", defArgs s__law_odd, defBody s__law_odd, defScope s__law_odd, [], []⟩
abbrev s__law_told : Stmt := top 43
def d__law_told : He.DefD := ⟨("_law_told", none), "_law_told", "_law_told", defArgs s__law_told, defBody s__law_told, defScope s__law_told, [], []⟩
abbrev s__law_is_bound : Stmt := top 44
def d__law_is_bound : He.DefD := ⟨("_law_is_bound", none), "_law_is_bound", "_law_is_bound", defArgs s__law_is_bound, defBody s__law_is_bound, defScope s__law_is_bound, [], []⟩
abbrev s__law_none : Stmt := top 45
def d__law_none : He.DefD := ⟨("_law_none", none), "_law_none", "_law_none", defArgs s__law_none, defBody s__law_none, defScope s__law_none, [], []⟩
abbrev s__law_limit : Stmt := top 46
def d__law_limit : He.DefD := ⟨("_law_limit", none), "_law_limit", "_law_limit", defArgs s__law_limit, defBody s__law_limit, defScope s__law_limit, [], []⟩
abbrev s_law : Stmt := top 47
def d_law : He.DefD := ⟨("law", none), "law", "law", defArgs s_law, defBody s_law, defScope s_law, [], []⟩
def dd : List He.DefD := d_is_integer :: d_is_ratio :: d_make :: d_add :: d_multiply :: d_less :: d_at_most :: d_is_vector :: d_zero :: d_added :: d_scaled :: d_is_bound :: d_check_system :: d_are_multipliers :: d_summed :: d_check_none :: d_check_limit :: d__law_cell :: d__law_rich :: d__law_make :: d__law_add :: d__law_mul :: d__law_less :: d__law_ratio :: d__law_dot :: d__law_bound :: d__law_system :: d__law_summed :: d__law_keeps :: d__law_is_ratio :: d__law_are :: d__law_odd :: d__law_told :: d__law_is_bound :: d__law_none :: d__law_limit :: d_law :: []
def L : LawD := ⟨gl, fns, sub, ["KinkError", "ByZero", "BadSystem", "BadPaper"], dd⟩
theorem cs_is_integer : cSs 40 ⟨n_is_integer, (d_is_integer).scope, asOf (d_is_integer).scope.names, L.gl, false, none⟩ (d_is_integer).body = some c_is_integer := by kernel_rfl
theorem sc_is_integer : FnScope n_is_integer ["value"] (d_is_integer).scope := fnScope_by (by kernel_rfl)
theorem as_is_integer : asOk (d_is_integer).scope = true := by kernel_rfl
theorem ok_is_integer : DefOk L d_is_integer 0 1 [(1, [], arrOf [] [.inl (.inl 0)])] := ⟨["value"], n_is_integer, c_is_integer, rfl, sc_is_integer, as_is_integer, rfl, cs_is_integer, fun K f fd FD n ks arr hm => by
  simp only [List.mem_cons, List.not_mem_nil, or_false, Prod.mk.injEq] at hm
  obtain ⟨rfl, rfl, rfl⟩ := hm
  exact ⟨rfl, rfl, kb_A FD [.inl (.inl 0)] fun _ _ _ _ _ _ us ws h1 h2 => match us, ws, h1, h2 with | [_], [], _, _ => rfl⟩⟩
theorem cs_is_ratio : cSs 40 ⟨n_is_ratio, (d_is_ratio).scope, asOf (d_is_ratio).scope.names, L.gl, false, none⟩ (d_is_ratio).body = some c_is_ratio := by kernel_rfl
theorem sc_is_ratio : FnScope n_is_ratio ["value"] (d_is_ratio).scope := fnScope_by (by kernel_rfl)
theorem as_is_ratio : asOk (d_is_ratio).scope = true := by kernel_rfl
theorem ok_is_ratio : DefOk L d_is_ratio 1 1 [(1, [], arrOf [] [.inl (.inl 0)])] := ⟨["value"], n_is_ratio, c_is_ratio, rfl, sc_is_ratio, as_is_ratio, rfl, cs_is_ratio, fun K f fd FD n ks arr hm => by
  simp only [List.mem_cons, List.not_mem_nil, or_false, Prod.mk.injEq] at hm
  obtain ⟨rfl, rfl, rfl⟩ := hm
  exact ⟨rfl, rfl, kb_A FD [.inl (.inl 0)] fun _ _ _ _ _ _ us ws h1 h2 => match us, ws, h1, h2 with | [_], [], _, _ => rfl⟩⟩
theorem cs_make : cSs 40 ⟨n_make, (d_make).scope, asOf (d_make).scope.names, L.gl, false, none⟩ (d_make).body = some c_make := by kernel_rfl
theorem sc_make : FnScope n_make ["above", "below"] (d_make).scope := fnScope_by (by kernel_rfl)
theorem as_make : asOk (d_make).scope = true := by kernel_rfl
theorem ok_make : DefOk L d_make 2 2 [(2, [], arrOf [(.int (1))] [.inl (.inl 0), .inl (.inl 1)])] := ⟨["above", "below"], n_make, c_make, rfl, sc_make, as_make, rfl, cs_make, fun K f fd FD n ks arr hm => by
  simp only [List.mem_cons, List.not_mem_nil, or_false, Prod.mk.injEq] at hm
  obtain ⟨rfl, rfl, rfl⟩ := hm
  exact ⟨rfl, rfl, kb_B FD [(.int (1))] [.inl (.inl 0), .inl (.inl 1)] (fun z => by cases z) rfl fun _ _ _ _ _ _ _ us ws its h1 h2 h3 => match us, ws, its, h1, h2, h3 with | [_, _], [], [_], _, _, _ => ⟨_, rfl, rfl⟩⟩⟩
theorem cs_add : cSs 40 ⟨n_add, (d_add).scope, asOf (d_add).scope.names, L.gl, false, none⟩ (d_add).body = some c_add := by kernel_rfl
theorem sc_add : FnScope n_add ["one", "other"] (d_add).scope := fnScope_by (by kernel_rfl)
theorem as_add : asOk (d_add).scope = true := by kernel_rfl
theorem ok_add : DefOk L d_add 3 2 [(2, [], arrOf [] [.inl (.inl 0), .inl (.inl 1)])] := ⟨["one", "other"], n_add, c_add, rfl, sc_add, as_add, rfl, cs_add, fun K f fd FD n ks arr hm => by
  simp only [List.mem_cons, List.not_mem_nil, or_false, Prod.mk.injEq] at hm
  obtain ⟨rfl, rfl, rfl⟩ := hm
  exact ⟨rfl, rfl, kb_A FD [.inl (.inl 0), .inl (.inl 1)] fun _ _ _ _ _ _ us ws h1 h2 => match us, ws, h1, h2 with | [_, _], [], _, _ => rfl⟩⟩
theorem cs_multiply : cSs 40 ⟨n_multiply, (d_multiply).scope, asOf (d_multiply).scope.names, L.gl, false, none⟩ (d_multiply).body = some c_multiply := by kernel_rfl
theorem sc_multiply : FnScope n_multiply ["one", "other"] (d_multiply).scope := fnScope_by (by kernel_rfl)
theorem as_multiply : asOk (d_multiply).scope = true := by kernel_rfl
theorem ok_multiply : DefOk L d_multiply 4 2 [(2, [], arrOf [] [.inl (.inl 0), .inl (.inl 1)])] := ⟨["one", "other"], n_multiply, c_multiply, rfl, sc_multiply, as_multiply, rfl, cs_multiply, fun K f fd FD n ks arr hm => by
  simp only [List.mem_cons, List.not_mem_nil, or_false, Prod.mk.injEq] at hm
  obtain ⟨rfl, rfl, rfl⟩ := hm
  exact ⟨rfl, rfl, kb_A FD [.inl (.inl 0), .inl (.inl 1)] fun _ _ _ _ _ _ us ws h1 h2 => match us, ws, h1, h2 with | [_, _], [], _, _ => rfl⟩⟩
theorem cs_less : cSs 40 ⟨n_less, (d_less).scope, asOf (d_less).scope.names, L.gl, false, none⟩ (d_less).body = some c_less := by kernel_rfl
theorem sc_less : FnScope n_less ["one", "other"] (d_less).scope := fnScope_by (by kernel_rfl)
theorem as_less : asOk (d_less).scope = true := by kernel_rfl
theorem ok_less : DefOk L d_less 5 2 [(2, [], arrOf [] [.inl (.inl 0), .inl (.inl 1)])] := ⟨["one", "other"], n_less, c_less, rfl, sc_less, as_less, rfl, cs_less, fun K f fd FD n ks arr hm => by
  simp only [List.mem_cons, List.not_mem_nil, or_false, Prod.mk.injEq] at hm
  obtain ⟨rfl, rfl, rfl⟩ := hm
  exact ⟨rfl, rfl, kb_A FD [.inl (.inl 0), .inl (.inl 1)] fun _ _ _ _ _ _ us ws h1 h2 => match us, ws, h1, h2 with | [_, _], [], _, _ => rfl⟩⟩
theorem cs_at_most : cSs 40 ⟨n_at_most, (d_at_most).scope, asOf (d_at_most).scope.names, L.gl, false, none⟩ (d_at_most).body = some c_at_most := by kernel_rfl
theorem sc_at_most : FnScope n_at_most ["one", "other"] (d_at_most).scope := fnScope_by (by kernel_rfl)
theorem as_at_most : asOk (d_at_most).scope = true := by kernel_rfl
theorem ok_at_most : DefOk L d_at_most 6 2 [(2, [], arrOf [] [.inl (.inl 0), .inl (.inl 1)])] := ⟨["one", "other"], n_at_most, c_at_most, rfl, sc_at_most, as_at_most, rfl, cs_at_most, fun K f fd FD n ks arr hm => by
  simp only [List.mem_cons, List.not_mem_nil, or_false, Prod.mk.injEq] at hm
  obtain ⟨rfl, rfl, rfl⟩ := hm
  exact ⟨rfl, rfl, kb_A FD [.inl (.inl 0), .inl (.inl 1)] fun _ _ _ _ _ _ us ws h1 h2 => match us, ws, h1, h2 with | [_, _], [], _, _ => rfl⟩⟩
theorem cs_is_vector : cSs 40 ⟨n_is_vector, (d_is_vector).scope, asOf (d_is_vector).scope.names, L.gl, false, none⟩ (d_is_vector).body = some c_is_vector := by kernel_rfl
theorem sc_is_vector : FnScope n_is_vector ["value", "size"] (d_is_vector).scope := fnScope_by (by kernel_rfl)
theorem as_is_vector : asOk (d_is_vector).scope = true := by kernel_rfl
theorem ok_is_vector : DefOk L d_is_vector 7 2 [(1, ["size"], arrOf [] [.inl (.inl 0), .inl (.inr 0)])] := ⟨["value", "size"], n_is_vector, c_is_vector, rfl, sc_is_vector, as_is_vector, rfl, cs_is_vector, fun K f fd FD n ks arr hm => by
  simp only [List.mem_cons, List.not_mem_nil, or_false, Prod.mk.injEq] at hm
  obtain ⟨rfl, rfl, rfl⟩ := hm
  exact ⟨rfl, rfl, kb_A FD [.inl (.inl 0), .inl (.inr 0)] fun _ _ _ _ _ _ us ws h1 h2 => match us, ws, h1, h2 with | [_], [_], _, _ => rfl⟩⟩
theorem cs_zero : cSs 40 ⟨n_zero, (d_zero).scope, asOf (d_zero).scope.names, L.gl, false, none⟩ (d_zero).body = some c_zero := by kernel_rfl
theorem sc_zero : FnScope n_zero ["size"] (d_zero).scope := fnScope_by (by kernel_rfl)
theorem as_zero : asOk (d_zero).scope = true := by kernel_rfl
theorem ok_zero : DefOk L d_zero 8 1 [(1, [], arrOf [] [.inl (.inl 0)])] := ⟨["size"], n_zero, c_zero, rfl, sc_zero, as_zero, rfl, cs_zero, fun K f fd FD n ks arr hm => by
  simp only [List.mem_cons, List.not_mem_nil, or_false, Prod.mk.injEq] at hm
  obtain ⟨rfl, rfl, rfl⟩ := hm
  exact ⟨rfl, rfl, kb_A FD [.inl (.inl 0)] fun _ _ _ _ _ _ us ws h1 h2 => match us, ws, h1, h2 with | [_], [], _, _ => rfl⟩⟩
theorem cs_added : cSs 40 ⟨n_added, (d_added).scope, asOf (d_added).scope.names, L.gl, false, none⟩ (d_added).body = some c_added := by kernel_rfl
theorem sc_added : FnScope n_added ["one", "other"] (d_added).scope := fnScope_by (by kernel_rfl)
theorem as_added : asOk (d_added).scope = true := by kernel_rfl
theorem ok_added : DefOk L d_added 9 2 [(2, [], arrOf [] [.inl (.inl 0), .inl (.inl 1)])] := ⟨["one", "other"], n_added, c_added, rfl, sc_added, as_added, rfl, cs_added, fun K f fd FD n ks arr hm => by
  simp only [List.mem_cons, List.not_mem_nil, or_false, Prod.mk.injEq] at hm
  obtain ⟨rfl, rfl, rfl⟩ := hm
  exact ⟨rfl, rfl, kb_A FD [.inl (.inl 0), .inl (.inl 1)] fun _ _ _ _ _ _ us ws h1 h2 => match us, ws, h1, h2 with | [_, _], [], _, _ => rfl⟩⟩
theorem cs_scaled : cSs 40 ⟨n_scaled, (d_scaled).scope, asOf (d_scaled).scope.names, L.gl, false, none⟩ (d_scaled).body = some c_scaled := by kernel_rfl
theorem sc_scaled : FnScope n_scaled ["factor", "vector"] (d_scaled).scope := fnScope_by (by kernel_rfl)
theorem as_scaled : asOk (d_scaled).scope = true := by kernel_rfl
theorem ok_scaled : DefOk L d_scaled 10 2 [(2, [], arrOf [] [.inl (.inl 0), .inl (.inl 1)])] := ⟨["factor", "vector"], n_scaled, c_scaled, rfl, sc_scaled, as_scaled, rfl, cs_scaled, fun K f fd FD n ks arr hm => by
  simp only [List.mem_cons, List.not_mem_nil, or_false, Prod.mk.injEq] at hm
  obtain ⟨rfl, rfl, rfl⟩ := hm
  exact ⟨rfl, rfl, kb_A FD [.inl (.inl 0), .inl (.inl 1)] fun _ _ _ _ _ _ us ws h1 h2 => match us, ws, h1, h2 with | [_, _], [], _, _ => rfl⟩⟩
theorem cs_is_bound : cSs 40 ⟨n_is_bound, (d_is_bound).scope, asOf (d_is_bound).scope.names, L.gl, false, none⟩ (d_is_bound).body = some c_is_bound := by kernel_rfl
theorem sc_is_bound : FnScope n_is_bound ["value", "size"] (d_is_bound).scope := fnScope_by (by kernel_rfl)
theorem as_is_bound : asOk (d_is_bound).scope = true := by kernel_rfl
theorem ok_is_bound : DefOk L d_is_bound 11 2 [(1, ["size"], arrOf [] [.inl (.inl 0), .inl (.inr 0)])] := ⟨["value", "size"], n_is_bound, c_is_bound, rfl, sc_is_bound, as_is_bound, rfl, cs_is_bound, fun K f fd FD n ks arr hm => by
  simp only [List.mem_cons, List.not_mem_nil, or_false, Prod.mk.injEq] at hm
  obtain ⟨rfl, rfl, rfl⟩ := hm
  exact ⟨rfl, rfl, kb_A FD [.inl (.inl 0), .inl (.inr 0)] fun _ _ _ _ _ _ us ws h1 h2 => match us, ws, h1, h2 with | [_], [_], _, _ => rfl⟩⟩
theorem cs_check_system : cSs 40 ⟨n_check_system, (d_check_system).scope, asOf (d_check_system).scope.names, L.gl, false, none⟩ (d_check_system).body = some c_check_system := by kernel_rfl
theorem sc_check_system : FnScope n_check_system ["size", "rows"] (d_check_system).scope := fnScope_by (by kernel_rfl)
theorem as_check_system : asOk (d_check_system).scope = true := by kernel_rfl
theorem ok_check_system : DefOk L d_check_system 12 2 [(2, [], arrOf [] [.inl (.inl 0), .inl (.inl 1)])] := ⟨["size", "rows"], n_check_system, c_check_system, rfl, sc_check_system, as_check_system, rfl, cs_check_system, fun K f fd FD n ks arr hm => by
  simp only [List.mem_cons, List.not_mem_nil, or_false, Prod.mk.injEq] at hm
  obtain ⟨rfl, rfl, rfl⟩ := hm
  exact ⟨rfl, rfl, kb_A FD [.inl (.inl 0), .inl (.inl 1)] fun _ _ _ _ _ _ us ws h1 h2 => match us, ws, h1, h2 with | [_, _], [], _, _ => rfl⟩⟩
theorem cs_are_multipliers : cSs 40 ⟨n_are_multipliers, (d_are_multipliers).scope, asOf (d_are_multipliers).scope.names, L.gl, false, none⟩ (d_are_multipliers).body = some c_are_multipliers := by kernel_rfl
theorem sc_are_multipliers : FnScope n_are_multipliers ["value", "count"] (d_are_multipliers).scope := fnScope_by (by kernel_rfl)
theorem as_are_multipliers : asOk (d_are_multipliers).scope = true := by kernel_rfl
theorem ok_are_multipliers : DefOk L d_are_multipliers 13 2 [(1, ["count"], arrOf [] [.inl (.inl 0), .inl (.inr 0)])] := ⟨["value", "count"], n_are_multipliers, c_are_multipliers, rfl, sc_are_multipliers, as_are_multipliers, rfl, cs_are_multipliers, fun K f fd FD n ks arr hm => by
  simp only [List.mem_cons, List.not_mem_nil, or_false, Prod.mk.injEq] at hm
  obtain ⟨rfl, rfl, rfl⟩ := hm
  exact ⟨rfl, rfl, kb_A FD [.inl (.inl 0), .inl (.inr 0)] fun _ _ _ _ _ _ us ws h1 h2 => match us, ws, h1, h2 with | [_], [_], _, _ => rfl⟩⟩
theorem cs_summed : cSs 40 ⟨n_summed, (d_summed).scope, asOf (d_summed).scope.names, L.gl, false, none⟩ (d_summed).body = some c_summed := by kernel_rfl
theorem sc_summed : FnScope n_summed ["size", "rows", "multipliers"] (d_summed).scope := fnScope_by (by kernel_rfl)
theorem as_summed : asOk (d_summed).scope = true := by kernel_rfl
theorem ok_summed : DefOk L d_summed 14 3 [(3, [], arrOf [] [.inl (.inl 0), .inl (.inl 1), .inl (.inl 2)])] := ⟨["size", "rows", "multipliers"], n_summed, c_summed, rfl, sc_summed, as_summed, rfl, cs_summed, fun K f fd FD n ks arr hm => by
  simp only [List.mem_cons, List.not_mem_nil, or_false, Prod.mk.injEq] at hm
  obtain ⟨rfl, rfl, rfl⟩ := hm
  exact ⟨rfl, rfl, kb_A FD [.inl (.inl 0), .inl (.inl 1), .inl (.inl 2)] fun _ _ _ _ _ _ us ws h1 h2 => match us, ws, h1, h2 with | [_, _, _], [], _, _ => rfl⟩⟩
theorem cs_check_none : cSs 40 ⟨n_check_none, (d_check_none).scope, asOf (d_check_none).scope.names, L.gl, false, none⟩ (d_check_none).body = some c_check_none := by kernel_rfl
theorem sc_check_none : FnScope n_check_none ["size", "rows", "multipliers"] (d_check_none).scope := fnScope_by (by kernel_rfl)
theorem as_check_none : asOk (d_check_none).scope = true := by kernel_rfl
theorem ok_check_none : DefOk L d_check_none 15 3 [(3, [], arrOf [] [.inl (.inl 0), .inl (.inl 1), .inl (.inl 2)])] := ⟨["size", "rows", "multipliers"], n_check_none, c_check_none, rfl, sc_check_none, as_check_none, rfl, cs_check_none, fun K f fd FD n ks arr hm => by
  simp only [List.mem_cons, List.not_mem_nil, or_false, Prod.mk.injEq] at hm
  obtain ⟨rfl, rfl, rfl⟩ := hm
  exact ⟨rfl, rfl, kb_A FD [.inl (.inl 0), .inl (.inl 1), .inl (.inl 2)] fun _ _ _ _ _ _ us ws h1 h2 => match us, ws, h1, h2 with | [_, _, _], [], _, _ => rfl⟩⟩
theorem cs_check_limit : cSs 40 ⟨n_check_limit, (d_check_limit).scope, asOf (d_check_limit).scope.names, L.gl, false, none⟩ (d_check_limit).body = some c_check_limit := by kernel_rfl
theorem sc_check_limit : FnScope n_check_limit ["size", "rows", "bound", "multipliers"] (d_check_limit).scope := fnScope_by (by kernel_rfl)
theorem as_check_limit : asOk (d_check_limit).scope = true := by kernel_rfl
theorem ok_check_limit : DefOk L d_check_limit 16 4 [(4, [], arrOf [] [.inl (.inl 0), .inl (.inl 1), .inl (.inl 2), .inl (.inl 3)])] := ⟨["size", "rows", "bound", "multipliers"], n_check_limit, c_check_limit, rfl, sc_check_limit, as_check_limit, rfl, cs_check_limit, fun K f fd FD n ks arr hm => by
  simp only [List.mem_cons, List.not_mem_nil, or_false, Prod.mk.injEq] at hm
  obtain ⟨rfl, rfl, rfl⟩ := hm
  exact ⟨rfl, rfl, kb_A FD [.inl (.inl 0), .inl (.inl 1), .inl (.inl 2), .inl (.inl 3)] fun _ _ _ _ _ _ us ws h1 h2 => match us, ws, h1, h2 with | [_, _, _, _], [], _, _ => rfl⟩⟩
theorem cs__law_cell : cSs 40 ⟨n__law_cell, (d__law_cell).scope, asOf (d__law_cell).scope.names, L.gl, false, none⟩ (d__law_cell).body = some c__law_cell := by kernel_rfl
theorem sc__law_cell : FnScope n__law_cell ["script", "k"] (d__law_cell).scope := fnScope_by (by kernel_rfl)
theorem as__law_cell : asOk (d__law_cell).scope = true := by kernel_rfl
theorem ok__law_cell : DefOk L d__law_cell 17 2 [(2, [], arrOf [] [.inl (.inl 0), .inl (.inl 1)])] := ⟨["script", "k"], n__law_cell, c__law_cell, rfl, sc__law_cell, as__law_cell, rfl, cs__law_cell, fun K f fd FD n ks arr hm => by
  simp only [List.mem_cons, List.not_mem_nil, or_false, Prod.mk.injEq] at hm
  obtain ⟨rfl, rfl, rfl⟩ := hm
  exact ⟨rfl, rfl, kb_A FD [.inl (.inl 0), .inl (.inl 1)] fun _ _ _ _ _ _ us ws h1 h2 => match us, ws, h1, h2 with | [_, _], [], _, _ => rfl⟩⟩
theorem cs__law_rich : cSs 40 ⟨n__law_rich, (d__law_rich).scope, asOf (d__law_rich).scope.names, L.gl, false, none⟩ (d__law_rich).body = some c__law_rich := by kernel_rfl
theorem sc__law_rich : FnScope n__law_rich ["cell", "k"] (d__law_rich).scope := fnScope_by (by kernel_rfl)
theorem as__law_rich : asOk (d__law_rich).scope = true := by kernel_rfl
theorem ok__law_rich : DefOk L d__law_rich 18 2 [(2, [], arrOf [] [.inl (.inl 0), .inl (.inl 1)])] := ⟨["cell", "k"], n__law_rich, c__law_rich, rfl, sc__law_rich, as__law_rich, rfl, cs__law_rich, fun K f fd FD n ks arr hm => by
  simp only [List.mem_cons, List.not_mem_nil, or_false, Prod.mk.injEq] at hm
  obtain ⟨rfl, rfl, rfl⟩ := hm
  exact ⟨rfl, rfl, kb_A FD [.inl (.inl 0), .inl (.inl 1)] fun _ _ _ _ _ _ us ws h1 h2 => match us, ws, h1, h2 with | [_, _], [], _, _ => rfl⟩⟩
theorem cs__law_make : cSs 40 ⟨n__law_make, (d__law_make).scope, asOf (d__law_make).scope.names, L.gl, false, none⟩ (d__law_make).body = some c__law_make := by kernel_rfl
theorem sc__law_make : FnScope n__law_make ["above", "below"] (d__law_make).scope := fnScope_by (by kernel_rfl)
theorem as__law_make : asOk (d__law_make).scope = true := by kernel_rfl
theorem ok__law_make : DefOk L d__law_make 19 2 [(2, [], arrOf [] [.inl (.inl 0), .inl (.inl 1)])] := ⟨["above", "below"], n__law_make, c__law_make, rfl, sc__law_make, as__law_make, rfl, cs__law_make, fun K f fd FD n ks arr hm => by
  simp only [List.mem_cons, List.not_mem_nil, or_false, Prod.mk.injEq] at hm
  obtain ⟨rfl, rfl, rfl⟩ := hm
  exact ⟨rfl, rfl, kb_A FD [.inl (.inl 0), .inl (.inl 1)] fun _ _ _ _ _ _ us ws h1 h2 => match us, ws, h1, h2 with | [_, _], [], _, _ => rfl⟩⟩
theorem cs__law_add : cSs 40 ⟨n__law_add, (d__law_add).scope, asOf (d__law_add).scope.names, L.gl, false, none⟩ (d__law_add).body = some c__law_add := by kernel_rfl
theorem sc__law_add : FnScope n__law_add ["one", "other"] (d__law_add).scope := fnScope_by (by kernel_rfl)
theorem as__law_add : asOk (d__law_add).scope = true := by kernel_rfl
theorem ok__law_add : DefOk L d__law_add 20 2 [(2, [], arrOf [] [.inl (.inl 0), .inl (.inl 1)])] := ⟨["one", "other"], n__law_add, c__law_add, rfl, sc__law_add, as__law_add, rfl, cs__law_add, fun K f fd FD n ks arr hm => by
  simp only [List.mem_cons, List.not_mem_nil, or_false, Prod.mk.injEq] at hm
  obtain ⟨rfl, rfl, rfl⟩ := hm
  exact ⟨rfl, rfl, kb_A FD [.inl (.inl 0), .inl (.inl 1)] fun _ _ _ _ _ _ us ws h1 h2 => match us, ws, h1, h2 with | [_, _], [], _, _ => rfl⟩⟩
theorem cs__law_mul : cSs 40 ⟨n__law_mul, (d__law_mul).scope, asOf (d__law_mul).scope.names, L.gl, false, none⟩ (d__law_mul).body = some c__law_mul := by kernel_rfl
theorem sc__law_mul : FnScope n__law_mul ["one", "other"] (d__law_mul).scope := fnScope_by (by kernel_rfl)
theorem as__law_mul : asOk (d__law_mul).scope = true := by kernel_rfl
theorem ok__law_mul : DefOk L d__law_mul 21 2 [(2, [], arrOf [] [.inl (.inl 0), .inl (.inl 1)])] := ⟨["one", "other"], n__law_mul, c__law_mul, rfl, sc__law_mul, as__law_mul, rfl, cs__law_mul, fun K f fd FD n ks arr hm => by
  simp only [List.mem_cons, List.not_mem_nil, or_false, Prod.mk.injEq] at hm
  obtain ⟨rfl, rfl, rfl⟩ := hm
  exact ⟨rfl, rfl, kb_A FD [.inl (.inl 0), .inl (.inl 1)] fun _ _ _ _ _ _ us ws h1 h2 => match us, ws, h1, h2 with | [_, _], [], _, _ => rfl⟩⟩
theorem cs__law_less : cSs 40 ⟨n__law_less, (d__law_less).scope, asOf (d__law_less).scope.names, L.gl, false, none⟩ (d__law_less).body = some c__law_less := by kernel_rfl
theorem sc__law_less : FnScope n__law_less ["one", "other"] (d__law_less).scope := fnScope_by (by kernel_rfl)
theorem as__law_less : asOk (d__law_less).scope = true := by kernel_rfl
theorem ok__law_less : DefOk L d__law_less 22 2 [(2, [], arrOf [] [.inl (.inl 0), .inl (.inl 1)])] := ⟨["one", "other"], n__law_less, c__law_less, rfl, sc__law_less, as__law_less, rfl, cs__law_less, fun K f fd FD n ks arr hm => by
  simp only [List.mem_cons, List.not_mem_nil, or_false, Prod.mk.injEq] at hm
  obtain ⟨rfl, rfl, rfl⟩ := hm
  exact ⟨rfl, rfl, kb_A FD [.inl (.inl 0), .inl (.inl 1)] fun _ _ _ _ _ _ us ws h1 h2 => match us, ws, h1, h2 with | [_, _], [], _, _ => rfl⟩⟩
theorem cs__law_ratio : cSs 40 ⟨n__law_ratio, (d__law_ratio).scope, asOf (d__law_ratio).scope.names, L.gl, false, none⟩ (d__law_ratio).body = some c__law_ratio := by kernel_rfl
theorem sc__law_ratio : FnScope n__law_ratio ["rich"] (d__law_ratio).scope := fnScope_by (by kernel_rfl)
theorem as__law_ratio : asOk (d__law_ratio).scope = true := by kernel_rfl
theorem ok__law_ratio : DefOk L d__law_ratio 23 1 [(1, [], arrOf [] [.inl (.inl 0)])] := ⟨["rich"], n__law_ratio, c__law_ratio, rfl, sc__law_ratio, as__law_ratio, rfl, cs__law_ratio, fun K f fd FD n ks arr hm => by
  simp only [List.mem_cons, List.not_mem_nil, or_false, Prod.mk.injEq] at hm
  obtain ⟨rfl, rfl, rfl⟩ := hm
  exact ⟨rfl, rfl, kb_A FD [.inl (.inl 0)] fun _ _ _ _ _ _ us ws h1 h2 => match us, ws, h1, h2 with | [_], [], _, _ => rfl⟩⟩
theorem cs__law_dot : cSs 40 ⟨n__law_dot, (d__law_dot).scope, asOf (d__law_dot).scope.names, L.gl, false, none⟩ (d__law_dot).body = some c__law_dot := by kernel_rfl
theorem sc__law_dot : FnScope n__law_dot ["one", "other"] (d__law_dot).scope := fnScope_by (by kernel_rfl)
theorem as__law_dot : asOk (d__law_dot).scope = true := by kernel_rfl
theorem ok__law_dot : DefOk L d__law_dot 24 2 [(2, [], arrOf [] [.inl (.inl 0), .inl (.inl 1)])] := ⟨["one", "other"], n__law_dot, c__law_dot, rfl, sc__law_dot, as__law_dot, rfl, cs__law_dot, fun K f fd FD n ks arr hm => by
  simp only [List.mem_cons, List.not_mem_nil, or_false, Prod.mk.injEq] at hm
  obtain ⟨rfl, rfl, rfl⟩ := hm
  exact ⟨rfl, rfl, kb_A FD [.inl (.inl 0), .inl (.inl 1)] fun _ _ _ _ _ _ us ws h1 h2 => match us, ws, h1, h2 with | [_, _], [], _, _ => rfl⟩⟩
theorem cs__law_bound : cSs 40 ⟨n__law_bound, (d__law_bound).scope, asOf (d__law_bound).scope.names, L.gl, false, none⟩ (d__law_bound).body = some c__law_bound := by kernel_rfl
theorem sc__law_bound : FnScope n__law_bound ["size", "rich"] (d__law_bound).scope := fnScope_by (by kernel_rfl)
theorem as__law_bound : asOk (d__law_bound).scope = true := by kernel_rfl
theorem ok__law_bound : DefOk L d__law_bound 25 2 [(2, [], arrOf [] [.inl (.inl 0), .inl (.inl 1)])] := ⟨["size", "rich"], n__law_bound, c__law_bound, rfl, sc__law_bound, as__law_bound, rfl, cs__law_bound, fun K f fd FD n ks arr hm => by
  simp only [List.mem_cons, List.not_mem_nil, or_false, Prod.mk.injEq] at hm
  obtain ⟨rfl, rfl, rfl⟩ := hm
  exact ⟨rfl, rfl, kb_A FD [.inl (.inl 0), .inl (.inl 1)] fun _ _ _ _ _ _ us ws h1 h2 => match us, ws, h1, h2 with | [_, _], [], _, _ => rfl⟩⟩
theorem cs__law_system : cSs 40 ⟨n__law_system, (d__law_system).scope, asOf (d__law_system).scope.names, L.gl, false, none⟩ (d__law_system).body = some c__law_system := by kernel_rfl
theorem sc__law_system : FnScope n__law_system ["script", "size", "most"] (d__law_system).scope := fnScope_by (by kernel_rfl)
theorem as__law_system : asOk (d__law_system).scope = true := by kernel_rfl
theorem ok__law_system : DefOk L d__law_system 26 3 [(3, [], arrOf [] [.inl (.inl 0), .inl (.inl 1), .inl (.inl 2)])] := ⟨["script", "size", "most"], n__law_system, c__law_system, rfl, sc__law_system, as__law_system, rfl, cs__law_system, fun K f fd FD n ks arr hm => by
  simp only [List.mem_cons, List.not_mem_nil, or_false, Prod.mk.injEq] at hm
  obtain ⟨rfl, rfl, rfl⟩ := hm
  exact ⟨rfl, rfl, kb_A FD [.inl (.inl 0), .inl (.inl 1), .inl (.inl 2)] fun _ _ _ _ _ _ us ws h1 h2 => match us, ws, h1, h2 with | [_, _, _], [], _, _ => rfl⟩⟩
theorem cs__law_summed : cSs 40 ⟨n__law_summed, (d__law_summed).scope, asOf (d__law_summed).scope.names, L.gl, false, none⟩ (d__law_summed).body = some c__law_summed := by kernel_rfl
theorem sc__law_summed : FnScope n__law_summed ["size", "rows", "multipliers"] (d__law_summed).scope := fnScope_by (by kernel_rfl)
theorem as__law_summed : asOk (d__law_summed).scope = true := by kernel_rfl
theorem ok__law_summed : DefOk L d__law_summed 27 3 [(3, [], arrOf [] [.inl (.inl 0), .inl (.inl 1), .inl (.inl 2)])] := ⟨["size", "rows", "multipliers"], n__law_summed, c__law_summed, rfl, sc__law_summed, as__law_summed, rfl, cs__law_summed, fun K f fd FD n ks arr hm => by
  simp only [List.mem_cons, List.not_mem_nil, or_false, Prod.mk.injEq] at hm
  obtain ⟨rfl, rfl, rfl⟩ := hm
  exact ⟨rfl, rfl, kb_A FD [.inl (.inl 0), .inl (.inl 1), .inl (.inl 2)] fun _ _ _ _ _ _ us ws h1 h2 => match us, ws, h1, h2 with | [_, _, _], [], _, _ => rfl⟩⟩
theorem cs__law_keeps : cSs 40 ⟨n__law_keeps, (d__law_keeps).scope, asOf (d__law_keeps).scope.names, L.gl, false, none⟩ (d__law_keeps).body = some c__law_keeps := by kernel_rfl
theorem sc__law_keeps : FnScope n__law_keeps ["rows", "point"] (d__law_keeps).scope := fnScope_by (by kernel_rfl)
theorem as__law_keeps : asOk (d__law_keeps).scope = true := by kernel_rfl
theorem ok__law_keeps : DefOk L d__law_keeps 28 2 [] := ⟨["rows", "point"], n__law_keeps, c__law_keeps, rfl, sc__law_keeps, as__law_keeps, rfl, cs__law_keeps, fun K f fd FD n ks arr hm => by
  cases hm⟩
theorem cs__law_is_ratio : cSs 40 ⟨n__law_is_ratio, (d__law_is_ratio).scope, asOf (d__law_is_ratio).scope.names, L.gl, false, none⟩ (d__law_is_ratio).body = some c__law_is_ratio := by kernel_rfl
theorem sc__law_is_ratio : FnScope n__law_is_ratio ["value"] (d__law_is_ratio).scope := fnScope_by (by kernel_rfl)
theorem as__law_is_ratio : asOk (d__law_is_ratio).scope = true := by kernel_rfl
theorem ok__law_is_ratio : DefOk L d__law_is_ratio 29 1 [(1, [], arrOf [] [.inl (.inl 0)])] := ⟨["value"], n__law_is_ratio, c__law_is_ratio, rfl, sc__law_is_ratio, as__law_is_ratio, rfl, cs__law_is_ratio, fun K f fd FD n ks arr hm => by
  simp only [List.mem_cons, List.not_mem_nil, or_false, Prod.mk.injEq] at hm
  obtain ⟨rfl, rfl, rfl⟩ := hm
  exact ⟨rfl, rfl, kb_A FD [.inl (.inl 0)] fun _ _ _ _ _ _ us ws h1 h2 => match us, ws, h1, h2 with | [_], [], _, _ => rfl⟩⟩
theorem cs__law_are : cSs 40 ⟨n__law_are, (d__law_are).scope, asOf (d__law_are).scope.names, L.gl, false, none⟩ (d__law_are).body = some c__law_are := by kernel_rfl
theorem sc__law_are : FnScope n__law_are ["value", "count"] (d__law_are).scope := fnScope_by (by kernel_rfl)
theorem as__law_are : asOk (d__law_are).scope = true := by kernel_rfl
theorem ok__law_are : DefOk L d__law_are 30 2 [(2, [], arrOf [] [.inl (.inl 0), .inl (.inl 1)])] := ⟨["value", "count"], n__law_are, c__law_are, rfl, sc__law_are, as__law_are, rfl, cs__law_are, fun K f fd FD n ks arr hm => by
  simp only [List.mem_cons, List.not_mem_nil, or_false, Prod.mk.injEq] at hm
  obtain ⟨rfl, rfl, rfl⟩ := hm
  exact ⟨rfl, rfl, kb_A FD [.inl (.inl 0), .inl (.inl 1)] fun _ _ _ _ _ _ us ws h1 h2 => match us, ws, h1, h2 with | [_, _], [], _, _ => rfl⟩⟩
theorem cs__law_odd : cSs 40 ⟨n__law_odd, (d__law_odd).scope, asOf (d__law_odd).scope.names, L.gl, false, none⟩ (d__law_odd).body = some c__law_odd := by kernel_rfl
theorem sc__law_odd : FnScope n__law_odd ["value", "rich"] (d__law_odd).scope := fnScope_by (by kernel_rfl)
theorem as__law_odd : asOk (d__law_odd).scope = true := by kernel_rfl
theorem ok__law_odd : DefOk L d__law_odd 31 2 [(2, [], arrOf [] [.inl (.inl 0), .inl (.inl 1)])] := ⟨["value", "rich"], n__law_odd, c__law_odd, rfl, sc__law_odd, as__law_odd, rfl, cs__law_odd, fun K f fd FD n ks arr hm => by
  simp only [List.mem_cons, List.not_mem_nil, or_false, Prod.mk.injEq] at hm
  obtain ⟨rfl, rfl, rfl⟩ := hm
  exact ⟨rfl, rfl, kb_A FD [.inl (.inl 0), .inl (.inl 1)] fun _ _ _ _ _ _ us ws h1 h2 => match us, ws, h1, h2 with | [_, _], [], _, _ => rfl⟩⟩
theorem cs__law_told : cSs 40 ⟨n__law_told, (d__law_told).scope, asOf (d__law_told).scope.names, L.gl, false, none⟩ (d__law_told).body = some c__law_told := by kernel_rfl
theorem sc__law_told : FnScope n__law_told ["call", "size", "rows", "bound", "multipliers"] (d__law_told).scope := fnScope_by (by kernel_rfl)
theorem as__law_told : asOk (d__law_told).scope = true := by kernel_rfl
theorem ok__law_told : DefOk L d__law_told 32 5 [(5, [], arrOf [] [.inl (.inl 0), .inl (.inl 1), .inl (.inl 2), .inl (.inl 3), .inl (.inl 4)])] := ⟨["call", "size", "rows", "bound", "multipliers"], n__law_told, c__law_told, rfl, sc__law_told, as__law_told, rfl, cs__law_told, fun K f fd FD n ks arr hm => by
  simp only [List.mem_cons, List.not_mem_nil, or_false, Prod.mk.injEq] at hm
  obtain ⟨rfl, rfl, rfl⟩ := hm
  exact ⟨rfl, rfl, kb_A FD [.inl (.inl 0), .inl (.inl 1), .inl (.inl 2), .inl (.inl 3), .inl (.inl 4)] fun _ _ _ _ _ _ us ws h1 h2 => match us, ws, h1, h2 with | [_, _, _, _, _], [], _, _ => rfl⟩⟩
theorem cs__law_is_bound : cSs 40 ⟨n__law_is_bound, (d__law_is_bound).scope, asOf (d__law_is_bound).scope.names, L.gl, false, none⟩ (d__law_is_bound).body = some c__law_is_bound := by kernel_rfl
theorem sc__law_is_bound : FnScope n__law_is_bound ["value", "size"] (d__law_is_bound).scope := fnScope_by (by kernel_rfl)
theorem as__law_is_bound : asOk (d__law_is_bound).scope = true := by kernel_rfl
theorem ok__law_is_bound : DefOk L d__law_is_bound 33 2 [(2, [], arrOf [] [.inl (.inl 0), .inl (.inl 1)])] := ⟨["value", "size"], n__law_is_bound, c__law_is_bound, rfl, sc__law_is_bound, as__law_is_bound, rfl, cs__law_is_bound, fun K f fd FD n ks arr hm => by
  simp only [List.mem_cons, List.not_mem_nil, or_false, Prod.mk.injEq] at hm
  obtain ⟨rfl, rfl, rfl⟩ := hm
  exact ⟨rfl, rfl, kb_A FD [.inl (.inl 0), .inl (.inl 1)] fun _ _ _ _ _ _ us ws h1 h2 => match us, ws, h1, h2 with | [_, _], [], _, _ => rfl⟩⟩
theorem cs__law_none : cSs 40 ⟨n__law_none, (d__law_none).scope, asOf (d__law_none).scope.names, L.gl, false, none⟩ (d__law_none).body = some c__law_none := by kernel_rfl
theorem sc__law_none : FnScope n__law_none ["size", "rows", "multipliers"] (d__law_none).scope := fnScope_by (by kernel_rfl)
theorem as__law_none : asOk (d__law_none).scope = true := by kernel_rfl
theorem ok__law_none : DefOk L d__law_none 34 3 [(3, [], arrOf [] [.inl (.inl 0), .inl (.inl 1), .inl (.inl 2)])] := ⟨["size", "rows", "multipliers"], n__law_none, c__law_none, rfl, sc__law_none, as__law_none, rfl, cs__law_none, fun K f fd FD n ks arr hm => by
  simp only [List.mem_cons, List.not_mem_nil, or_false, Prod.mk.injEq] at hm
  obtain ⟨rfl, rfl, rfl⟩ := hm
  exact ⟨rfl, rfl, kb_A FD [.inl (.inl 0), .inl (.inl 1), .inl (.inl 2)] fun _ _ _ _ _ _ us ws h1 h2 => match us, ws, h1, h2 with | [_, _, _], [], _, _ => rfl⟩⟩
theorem cs__law_limit : cSs 40 ⟨n__law_limit, (d__law_limit).scope, asOf (d__law_limit).scope.names, L.gl, false, none⟩ (d__law_limit).body = some c__law_limit := by kernel_rfl
theorem sc__law_limit : FnScope n__law_limit ["size", "rows", "bound", "multipliers"] (d__law_limit).scope := fnScope_by (by kernel_rfl)
theorem as__law_limit : asOk (d__law_limit).scope = true := by kernel_rfl
theorem ok__law_limit : DefOk L d__law_limit 35 4 [(4, [], arrOf [] [.inl (.inl 0), .inl (.inl 1), .inl (.inl 2), .inl (.inl 3)])] := ⟨["size", "rows", "bound", "multipliers"], n__law_limit, c__law_limit, rfl, sc__law_limit, as__law_limit, rfl, cs__law_limit, fun K f fd FD n ks arr hm => by
  simp only [List.mem_cons, List.not_mem_nil, or_false, Prod.mk.injEq] at hm
  obtain ⟨rfl, rfl, rfl⟩ := hm
  exact ⟨rfl, rfl, kb_A FD [.inl (.inl 0), .inl (.inl 1), .inl (.inl 2), .inl (.inl 3)] fun _ _ _ _ _ _ us ws h1 h2 => match us, ws, h1, h2 with | [_, _, _, _], [], _, _ => rfl⟩⟩
theorem cs_law : cSs 40 ⟨n_law, (d_law).scope, asOf (d_law).scope.names, L.gl, false, none⟩ (d_law).body = some c_law := by kernel_rfl
theorem sc_law : FnScope n_law ["script"] (d_law).scope := fnScope_by (by kernel_rfl)
theorem as_law : asOk (d_law).scope = true := by kernel_rfl
theorem ok_law : DefOk L d_law 36 1 [(1, [], arrOf [] [.inl (.inl 0)])] := ⟨["script"], n_law, c_law, rfl, sc_law, as_law, rfl, cs_law, fun K f fd FD n ks arr hm => by
  simp only [List.mem_cons, List.not_mem_nil, or_false, Prod.mk.injEq] at hm
  obtain ⟨rfl, rfl, rfl⟩ := hm
  exact ⟨rfl, rfl, kb_A FD [.inl (.inl 0)] fun _ _ _ _ _ _ us ws h1 h2 => match us, ws, h1, h2 with | [_], [], _, _ => rfl⟩⟩
theorem allT : AllT L L.gl := ⟨trivial, trivial, trivial, trivial, trivial, trivial, trivial, trivial, trivial, trivial, trivial, trivial, trivial, trivial, trivial, trivial, trivial, ⟨d_is_integer, rfl, rfl, ok_is_integer⟩, ⟨d_is_ratio, rfl, rfl, ok_is_ratio⟩, ⟨d_make, rfl, rfl, ok_make⟩, ⟨d_add, rfl, rfl, ok_add⟩, ⟨d_multiply, rfl, rfl, ok_multiply⟩, ⟨d_less, rfl, rfl, ok_less⟩, ⟨d_at_most, rfl, rfl, ok_at_most⟩, ⟨d_is_vector, rfl, rfl, ok_is_vector⟩, ⟨d_zero, rfl, rfl, ok_zero⟩, ⟨d_added, rfl, rfl, ok_added⟩, ⟨d_scaled, rfl, rfl, ok_scaled⟩, ⟨d_is_bound, rfl, rfl, ok_is_bound⟩, ⟨d_check_system, rfl, rfl, ok_check_system⟩, ⟨d_are_multipliers, rfl, rfl, ok_are_multipliers⟩, ⟨d_summed, rfl, rfl, ok_summed⟩, ⟨d_check_none, rfl, rfl, ok_check_none⟩, ⟨d_check_limit, rfl, rfl, ok_check_limit⟩, ⟨d__law_cell, rfl, rfl, ok__law_cell⟩, ⟨d__law_rich, rfl, rfl, ok__law_rich⟩, ⟨d__law_make, rfl, rfl, ok__law_make⟩, ⟨d__law_add, rfl, rfl, ok__law_add⟩, ⟨d__law_mul, rfl, rfl, ok__law_mul⟩, ⟨d__law_less, rfl, rfl, ok__law_less⟩, ⟨d__law_ratio, rfl, rfl, ok__law_ratio⟩, ⟨d__law_dot, rfl, rfl, ok__law_dot⟩, ⟨d__law_bound, rfl, rfl, ok__law_bound⟩, ⟨d__law_system, rfl, rfl, ok__law_system⟩, ⟨d__law_summed, rfl, rfl, ok__law_summed⟩, ⟨d__law_keeps, rfl, rfl, ok__law_keeps⟩, ⟨d__law_is_ratio, rfl, rfl, ok__law_is_ratio⟩, ⟨d__law_are, rfl, rfl, ok__law_are⟩, ⟨d__law_odd, rfl, rfl, ok__law_odd⟩, ⟨d__law_told, rfl, rfl, ok__law_told⟩, ⟨d__law_is_bound, rfl, rfl, ok__law_is_bound⟩, ⟨d__law_none, rfl, rfl, ok__law_none⟩, ⟨d__law_limit, rfl, rfl, ok__law_limit⟩, ⟨d_law, rfl, rfl, ok_law⟩, trivial⟩
theorem boots : (L.gl.all fun p => bootB p.1 p.2) = true := by kernel_rfl
abbrev R : PySem.W.OpenRow := PySem.W.OpenLaw.row PySem.Challenge.rw_kinkatlas_k18_multipliers_are_judged
abbrev hk : PySem.W.Hook := He.hookX 4 [] L.dd [] [] (exB L)
def ob (s : PySem.W.SharedT) : He.AlX := He.obsX 4 [] L.dd [] [] (exB L) (HandSHeadRun.getT s)
theorem ob_eq (s : PySem.W.SharedT) : ob s = hk.obs s.abs := He.obsX_eq (HandSHeadRun.getT_eq s)
def loose0 : List PySem.Str := ["__name__", "KinkError", "ByZero", "BadSystem", "BadPaper", "ZERO", "is_integer", "is_ratio", "make", "add", "multiply", "less", "at_most", "is_vector", "zero", "added", "scaled", "is_bound", "check_system", "are_multipliers", "summed", "check_none", "check_limit", "_law_cell", "_law_rich", "_law_make", "_law_add", "_law_mul", "_law_less", "_law_ratio"]
def loose1 : List PySem.Str := ["_law_dot", "_law_bound", "_law_system", "_law_summed", "_law_keeps", "_law_is_ratio", "_law_are", "_law_odd", "_law_told", "_law_is_bound", "_law_none", "_law_limit"]
abbrev loose : List PySem.Str := loose0 ++ loose1
theorem run (w : World) : HandSHeadRun.RunEqI R (PySem.W.view R.prog [0, 47]) hk ob 5880 loose w := by
  unfold HandSHeadRun.RunEqI
  kernel_rfl
end K18
open PySem PySem.W PySem.Calls PyProof.Rows in
theorem K18.done {fuel k : Nat} (hr : L2.Room (2 * (k + 1)) callerA) (plain : ∀ ns : List Int, ns.length ≤ 63 → (∀ z ∈ ns, Builtin.Int.intBits z ≤ 1048576) → ∃ h, PV.callI K18.fns K18.sub fuel (k + 1) 36 [.fl (ns.map PV.D.int)] [] = .ok (.bl true) h) : PySem.Challenge.rw_kinkatlas_k18_multipliers_are_judged.Holds := by
  w_on; o_law
  refine HandSHeadRun.head_imp (r := OpenLaw.row PySem.Challenge.rw_kinkatlas_k18_multipliers_are_judged) (q := view (OpenLaw.row PySem.Challenge.rw_kinkatlas_k18_multipliers_are_judged).prog [0, 47]) (H := K18.hk) (ob := K18.ob) (M := 5880) (loose := K18.loose) (d := HandSHeadRun.topDef (OpenLaw.row PySem.Challenge.rw_kinkatlas_k18_multipliers_are_judged).prog 47) (kwd := []) K18.ob_eq
    K18.run (by kernel_rfl) (by kernel_rfl) (by kernel_rfl) (by rfl) (by first | assumption | decide +kernel) (by decide +kernel) ⟨rfl, rfl, rfl, rfl, rfl, by decide +kernel⟩ ?hw ?hc
  case hw => w_witness2
  case hc =>
    exact PV.pv_walk (L := K18.L) (l := PySem.Challenge.rw_kinkatlas_k18_multipliers_are_judged) (n := 63) (fuel := fuel) (k := k) (i := 36) (x := "script") (N := K18.n_law) (code := K18.c_law) (dL := K18.d_law) rfl (by decide) (by kernel_rfl) (by kernel_rfl) hr K18.boots K18.allT rfl rfl rfl K18.sc_law K18.as_law rfl K18.cs_law ⟨_, by exact rfl⟩
      (fun _ _ _ _ _ _ us h => match us, h with | [_], _ => rfl) plain
/-! K18b: the program's and the law's judging of kinds. -/
namespace K18
open PySem PV
variable {fuel k : Nat} {h : Hd}
abbrev F (fuel k : Nat) : Ev := evL fns sub fuel k
/-! ### ratios -/
theorem g_is_integer {x : D} (hx : isRef x = false) : Giv (F fuel (k + 1)) 0 [x] (.bl (intB x)) := givC (code := C_is_integer) rfl rfl fun h => t_is_integer hx
theorem e_is_ratio' {x : D} (hx : Askd h x) : callI fns sub fuel (k + 2) 1 [x] h = .ok (.bl (ratB x)) h := by
  rw [call_eq (np := 1) (nn := 1) (code := C_is_ratio 0) rfl rfl]
  exact t_is_ratio (fun y hy => g_is_integer hy) hx
theorem g_make : MakesR (F fuel (k + 1)) 2 := fun a b hb sb => givC (code := C_make 1) rfl rfl fun h => t_make hb sb (by decide)
theorem g_add {p q : Rat} {n : Nat} (sp : Qn n p) (sq : Qn n q) (hn : n ≤ 4400) : Giv (F fuel (k + 2)) 3 [rv p, rv q] (rv (p + q)) := givC (code := C_add 2) rfl rfl fun h => t_add g_make sp sq hn
theorem g_mul {p q : Rat} {n : Nat} (sp : Qn n p) (sq : Qn n q) (hn : n ≤ 4400) : Giv (F fuel (k + 2)) 4 [rv p, rv q] (rv (p * q)) := givC (code := C_mul 2) rfl rfl fun h => t_mul g_make sp sq hn
theorem g_less {p q : Rat} {n : Nat} (sp : Qn n p) (sq : Qn n q) (hn : n ≤ 4400) : Giv (F fuel (k + 1)) 5 [rv p, rv q] (.bl (decide (p < q))) := givC (code := C_less) rfl rfl fun h => t_less sp sq (by omega)
theorem g_at_most {p q : Rat} {n : Nat} (sp : Qn n p) (sq : Qn n q) (hn : n ≤ 4400) : Giv (F fuel (k + 1)) 6 [rv p, rv q] (.bl (decide (p ≤ q))) := givC (code := C_at_most) rfl rfl fun h => t_at_most sp sq (by omega)
theorem g_zero {n : Nat} (hn : n ≤ 1000) : Giv (F fuel (k + 1)) 8 [.int (n : Int)] (vv (List.replicate n 0)) := givC (code := C_zero) rfl rfl fun h => t_zero hn
/-! ### the law's -/
theorem g_lmake (hF : 2 ^ 8900 ≤ fuel) : MakesA (F fuel (k + 1)) 19 := fun a b hb sa sb => givC (code := C_lmake) rfl rfl fun h => t_lmake hF hb sa sb
theorem g_ladd (hF : 2 ^ 8900 ≤ fuel) {p q : Rat} {n : Nat} (sp : Qn n p) (sq : Qn n q) (hn : n ≤ 4400) : Giv (F fuel (k + 2)) 20 [rv p, rv q] (rv (p + q)) := givC (code := C_add 19) rfl rfl fun h => t_addA (g_lmake hF) sp sq hn
theorem g_lmul (hF : 2 ^ 8900 ≤ fuel) {p q : Rat} {n : Nat} (sp : Qn n p) (sq : Qn n q) (hn : n ≤ 4400) : Giv (F fuel (k + 2)) 21 [rv p, rv q] (rv (p * q)) := givC (code := C_mul 19) rfl rfl fun h => t_mulA (g_lmake hF) sp sq hn
theorem g_lless {p q : Rat} {n : Nat} (sp : Qn n p) (sq : Qn n q) (hn : n ≤ 4400) : Giv (F fuel (k + 1)) 22 [rv p, rv q] (.bl (decide (p < q))) := givC (code := C_less) rfl rfl fun h => t_less sp sq (by omega)
theorem g_lratio (hF : 2 ^ 8900 ≤ fuel) (c : Int) : Giv (F fuel (k + 2)) 23 [.int c] (rv (lrat c)) := givC (code := C_lratio 19) rfl rfl fun h => t_lratio (g_lmake hF) c
theorem g_cell (ns : List Int) (j : Nat) : Giv (F fuel (k + 1)) 17 [.fl (ns.map .int), .int (j : Int)] (.int (cellI ns j)) := givC (code := C_cell) rfl rfl fun h => t_cell ns j
theorem g_rich {z : Int} {j : Nat} (sz : Sz 1048577 z) (hj : j ≤ 1000) : Giv (F fuel (k + 1)) 18 [.int z, .int (j : Int)] (.int (richI z j)) := givC (code := C_rich) rfl rfl fun h => t_rich sz hj
/-- what is asked about a value that may be a ratio: of small numbers, no list within -/
def Ask (h : Hd) (x : D) : Prop := Askd h x ∧ ∀ a b : Int, x = .tup [.int a, .int b] → Sz 1000 a ∧ Sz 1000 b
theorem e_is_ratio {x : D} (hx : Ask h x) : callI fns sub fuel (k + 2) 1 [x] h = .ok (.bl (ratB x)) h := e_is_ratio' hx.1
theorem eq_ratio {a b : Int} (hb : 0 < b) (q : Nat.gcd a.natAbs b.natAbs = 1) : rv (Rat.divInt a b) = .tup [.int a, .int b] := by
  rw [← mkR_rv (by omega)]
  have e : gd a b = 1 := by unfold gd; omega
  have e2 : mkR a b = (a, b) := by
    unfold mkR
    rw [if_neg (by omega), e, Int.fdiv_one, Int.fdiv_one]
  rw [e2]
theorem ne_ratio {a b : Int} (hb : 0 < b) (q : ¬ Nat.gcd a.natAbs b.natAbs = 1) : eqD (rv (Rat.divInt a b)) (.tup [.int a, .int b]) = false := by
  cases r : eqD (rv (Rat.divInt a b)) (.tup [.int a, .int b]) with
  | false => rfl
  | true =>
    exfalso
    unfold rv at r
    simp at r
    have c := (Rat.divInt a b).reduced
    unfold Nat.Coprime at c
    apply q
    rw [← r.1]
    have e : (Rat.divInt a b).den = b.natAbs := by omega
    rw [← e]
    exact c
theorem e_lis_ratio (hF : 2 ^ 8900 ≤ fuel) {x : D} (hx : Ask h x) : callI fns sub fuel (k + 2) 29 [x] h = .ok (.bl (ratB x)) h := by
  rw [call_eq (np := 1) (nn := 2) (code := c__law_is_ratio) rfl rfl]
  cases x with
  | ref n =>
    have e := isi_ref_tuple (hx.1.1 n rfl)
    simp [c__law_is_ratio, startD, e, ratB]
  | tup xs =>
    match xs, hx with
    | [], _ => simp [c__law_is_ratio, startD, ratB]
    | [a], _ => simp [c__law_is_ratio, startD, ratB]
    | [a, b], hx =>
      have ha := hx.1.2 _ rfl a (by simp)
      have hb := hx.1.2 _ rfl b (by simp)
      have one : ∀ x : D, isRef x = false → (intB x = false → isiV x .int h = some false ∨ (isiV x .int h = some true ∧ isiV x .bool h = some true)) := fun x hr hi => by
        cases x with
        | ref n => cases hr
        | int i => cases hi
        | bl b => exact .inr ⟨rfl, rfl⟩
        | _ => exact .inl rfl
      cases qa : intB a with
      | false =>
        have r : ratB (.tup [a, b]) = false := by
          cases a with
          | int i => cases qa
          | _ => rfl
        rcases one a ha qa with e | ⟨e, e'⟩
        · simp [c__law_is_ratio, startD, r, loopF, e]
        · simp [c__law_is_ratio, startD, r, loopF, e, e']
      | true =>
        obtain ⟨i, rfl⟩ : ∃ i, a = .int i := by
          cases a with
          | int i => exact ⟨i, rfl⟩
          | _ => cases qa
        cases qb : intB b with
        | false =>
          have r : ratB (.tup [.int i, b]) = false := by
            cases b with
            | int i => cases qb
            | _ => rfl
          rcases one b hb qb with e | ⟨e, e'⟩
          · simp [c__law_is_ratio, startD, r, loopF, e]
          · simp [c__law_is_ratio, startD, r, loopF, e, e']
        | true =>
          obtain ⟨j, rfl⟩ : ∃ i, b = .int i := by
            cases b with
            | int i => exact ⟨i, rfl⟩
            | _ => cases qb
          obtain ⟨s1, s2⟩ := hx.2 i j rfl
          by_cases q : 0 < j
          · have m := gc' (fns := fns) (sub := sub) (g_lmake (k := k) hF i j (by omega) (s1.mono (by decide)) (s2.mono (by decide))) h
            have ee : eqV h (rv (Rat.divInt i j)) (.tup [.int i, .int j]) = some (eqD (rv (Rat.divInt i j)) (.tup [.int i, .int j])) := eqV_sh (n := 1) (m := 1) (sh_rv _) (sh_tup fun z hz => by
              simp at hz
              rcases hz with rfl | rfl <;> exact sh_int _) (by decide) (by decide) h
            by_cases g : Nat.gcd i.natAbs j.natAbs = 1
            · have er : eqD (rv (Rat.divInt i j)) (.tup [.int i, .int j]) = true := by rw [eq_ratio q g]; simp
              rw [er] at ee
              simp [c__law_is_ratio, startD, ratB, loopF, q, g, arrD, m, ee]
            · rw [ne_ratio q g] at ee
              simp [c__law_is_ratio, startD, ratB, loopF, q, g, arrD, m, ee]
          · simp [c__law_is_ratio, startD, ratB, loopF, q]
    | a :: b :: c :: r, _ =>
      have : ¬ ((r.length : Int) + 1 + 1 + 1 = 2) := by omega
      simp [c__law_is_ratio, startD, ratB, this]
  | _ => simp [c__law_is_ratio, startD, ratB]
/-! ### vectors -/
def vecB (n : Nat) : D → Bool
  | .tup xs => decide (xs.length = n) && xs.all ratB
  | _ => false
/-- what is asked of a value that may be a vector -/
def Ask2 (h : Hd) (x : D) : Prop := (∀ n, x = .ref n → (lstAt h n).isSome = true) ∧ ∀ xs, x = .tup xs → xs.length ≤ 1000 ∧ ∀ y ∈ xs, Ask h y
theorem Ask.ext {x : D} {H : Hd} (a : Ask h x) (p : h <+: H) : Ask H x := ⟨⟨fun n e => by
  have := a.1.1 n e
  cases q : lstAt h n with
  | none => rw [q] at this; cases this
  | some xs => rw [lst_pre q p]; rfl, a.1.2⟩, a.2⟩
theorem len_n {α : Type} (xs : List α) (n : Nat) : ((xs.length : Int) = (n : Int)) = (xs.length = n) := by
  apply propext
  omega
theorem e_is_vector {x : D} {n : Nat} (hx : Ask2 h x) : callI fns sub fuel (k + 3) 7 [x, .int (n : Int)] h = .ok (.bl (vecB n x)) h := by
  rw [call_eq (np := 2) (nn := 3) (code := c_is_vector) rfl rfl]
  refine fin_gives rfl ?_
  cases x with
  | ref m =>
    have e := isi_ref_tuple (hx.1 m rfl)
    simp [c_is_vector, startD, e, vecB]
  | tup xs =>
    obtain ⟨hl, ha⟩ := hx.2 xs rfl
    have isn : isV (.int (n : Int)) .non = some false := rfl
    by_cases q : xs.length = n
    · simp [c_is_vector, startD, q, isn]
      refine WpE_lc xs id (fun y => .bl (ratB y)) (by simp) (by omega) (fun _ _ => rfl) (fun y hy => ⟨[some (.tup xs), some (.int (n : Int)), some y], by simp [wipeD], fun H p => ⟨rfl, ?_⟩⟩) fun H p => ?_
      · have c := e_is_ratio (fuel := fuel) (k := k) ((ha y hy).ext p)
        simp [arrD, c]
      · simp [vecB, q, pre_app p]
    · simp [c_is_vector, startD, len_n, q, isn, vecB]
  | _ => simp [c_is_vector, startD, vecB]
theorem e_lare (hF : 2 ^ 8900 ≤ fuel) {x : D} {n : Nat} (hx : Ask2 h x) : callI fns sub fuel (k + 3) 30 [x, .int (n : Int)] h = .ok (.bl (vecB n x)) h := by
  rw [call_eq (np := 2) (nn := 3) (code := c__law_are) rfl rfl]
  refine fin_gives rfl ?_
  cases x with
  | ref m =>
    have e := isi_ref_tuple (hx.1 m rfl)
    simp [c__law_are, startD, e, vecB]
  | tup xs =>
    obtain ⟨hl, ha⟩ := hx.2 xs rfl
    by_cases q : xs.length = n
    · simp [c__law_are, startD, q]
      refine WpE_lc xs id (fun y => .bl (ratB y)) (by simp) (by omega) (fun _ _ => rfl) (fun y hy => ⟨[some (.tup xs), some (.int (n : Int)), some y], by simp [wipeD], fun H p => ⟨rfl, ?_⟩⟩) fun H p => ?_
      · have c := e_lis_ratio (k := k) hF ((ha y hy).ext p)
        simp [arrD, c]
      · simp [vecB, q, pre_app p]
    · simp [c__law_are, startD, len_n, q, vecB]
  | _ => simp [c__law_are, startD, vecB]
end K18
/-! K18c: bounds, systems, multipliers. -/
namespace K18
open PySem PV
variable {fuel k : Nat} {h : Hd}
theorem Ask2.ext {x : D} {H : Hd} (a : Ask2 h x) (p : h <+: H) : Ask2 H x := ⟨fun n e => by
  have := a.1 n e
  cases q : lstAt h n with
  | none => rw [q] at this; cases this
  | some xs => rw [lst_pre q p]; rfl, fun xs e => ⟨(a.2 xs e).1, fun y hy => ((a.2 xs e).2 y hy).ext p⟩⟩
def bndB (n : Nat) : D → Bool
  | .tup [v, r] => vecB n v && ratB r
  | _ => false
def Ask3 (h : Hd) (x : D) : Prop := (∀ n, x = .ref n → (lstAt h n).isSome = true) ∧ ∀ v r, x = .tup [v, r] → Ask2 h v ∧ Ask h r
theorem Ask3.ext {x : D} {H : Hd} (a : Ask3 h x) (p : h <+: H) : Ask3 H x := ⟨fun n e => by
  have := a.1 n e
  cases q : lstAt h n with
  | none => rw [q] at this; cases this
  | some xs => rw [lst_pre q p]; rfl, fun v r e => ⟨(a.2 v r e).1.ext p, (a.2 v r e).2.ext p⟩⟩
theorem e_is_bound {x : D} {n : Nat} (hx : Ask3 h x) : callI fns sub fuel (k + 4) 11 [x, .int (n : Int)] h = .ok (.bl (bndB n x)) h := by
  rw [call_eq (np := 2) (nn := 2) (code := c_is_bound) rfl rfl]
  cases x with
  | ref m =>
    have e := isi_ref_tuple (hx.1 m rfl)
    simp [c_is_bound, startD, e, bndB]
  | tup xs =>
    match xs, hx with
    | [], _ => simp [c_is_bound, startD, bndB]
    | [a], _ => simp [c_is_bound, startD, bndB]
    | [a, b], hx =>
      obtain ⟨ha, hb⟩ := hx.2 a b rfl
      have c1 := e_is_vector (fuel := fuel) (k := k) (n := n) ha
      have c2 := e_is_ratio (fuel := fuel) (k := k + 1) hb
      cases q : vecB n a <;> simp [c_is_bound, startD, bndB, arrD, c1, c2, q]
    | a :: b :: c :: r, _ =>
      have : ¬ ((r.length : Int) + 1 + 1 + 1 = 2) := by omega
      simp [c_is_bound, startD, bndB, this]
  | _ => simp [c_is_bound, startD, bndB]
theorem e_lis_bound (hF : 2 ^ 8900 ≤ fuel) {x : D} {n : Nat} (hx : Ask3 h x) : callI fns sub fuel (k + 4) 33 [x, .int (n : Int)] h = .ok (.bl (bndB n x)) h := by
  rw [call_eq (np := 2) (nn := 2) (code := c__law_is_bound) rfl rfl]
  cases x with
  | ref m =>
    have e := isi_ref_tuple (hx.1 m rfl)
    simp [c__law_is_bound, startD, e, bndB]
  | tup xs =>
    match xs, hx with
    | [], _ => simp [c__law_is_bound, startD, bndB]
    | [a], _ => simp [c__law_is_bound, startD, bndB]
    | [a, b], hx =>
      obtain ⟨ha, hb⟩ := hx.2 a b rfl
      have c1 := e_lare (k := k) (n := n) hF ha
      have c2 := e_lis_ratio (k := k + 1) hF hb
      cases q : vecB n a <;> simp [c__law_is_bound, startD, bndB, arrD, c1, c2, q]
    | a :: b :: c :: r, _ =>
      have : ¬ ((r.length : Int) + 1 + 1 + 1 = 2) := by omega
      simp [c__law_is_bound, startD, bndB, this]
  | _ => simp [c__law_is_bound, startD, bndB]
/-! ### systems -/
def sysB (n : Nat) : D → Bool
  | .tup xs => xs.all (bndB n)
  | _ => false
def Ask4 (h : Hd) (x : D) : Prop := (∀ n, x = .ref n → (lstAt h n).isSome = true) ∧ ∀ xs, x = .tup xs → xs.length ≤ 1000 ∧ ∀ y ∈ xs, Ask3 h y
theorem sys_ok {x : D} {n : Nat} (hx : Ask4 h x) (P : Po) (h1 : sysB n x = true → ∀ H, h <+: H → P.nx [some (.int (n : Int)), some x, none] H) (h2 : sysB n x = false → ∀ H, h <+: H → P.ex ⟨2, []⟩ [some (.int (n : Int)), some x, none] H) : WpS (exSs (F fuel (k + 4)) c_check_system [some (.int (n : Int)), some x, none] h) P := by
  cases x with
  | ref m =>
    have e := isi_ref_tuple (hx.1 m rfl)
    have := h2 rfl h (List.prefix_refl _)
    simpa [c_check_system, e] using this
  | tup xs =>
    obtain ⟨hl, ha⟩ := hx.2 xs rfl
    simp [c_check_system]
    refine WpE_lc xs id (fun y => .bl (bndB n y)) (by simp) (by omega) (fun _ _ => rfl) (fun y hy => ⟨[some (.int (n : Int)), some (.tup xs), some y], by simp [wipeD], fun H p => ⟨rfl, ?_⟩⟩) fun H p => ?_
    · have c := e_is_bound (fuel := fuel) (k := k) (n := n) ((ha y hy).ext p)
      simp [arrD, c]
    · cases q : xs.all (bndB n) with
      | true =>
        have := h1 q (H ++ [.lst (xs.map fun y => .bl (bndB n y))]) (pre_app p)
        simpa [q] using this
      | false =>
        have := h2 q (H ++ [.lst (xs.map fun y => .bl (bndB n y))]) (pre_app p)
        simpa [q] using this
  | _ =>
    have := h2 rfl h (List.prefix_refl _)
    simpa [c_check_system] using this
theorem e_check_system {x : D} {n : Nat} (hx : Ask4 h x) : callI fns sub fuel (k + 5) 12 [.int (n : Int), x] h = if sysB n x then .ok .non h else .ex ⟨2, []⟩ h := by
  rw [call_eq (np := 2) (nn := 3) (code := c_check_system) rfl rfl]
  have st : startD 3 [.int (n : Int), x] = [some (.int (n : Int)), some x, none] := rfl
  rw [st]
  cases q : sysB n x with
  | true => exact fin_gives rfl (sys_ok hx _ (fun _ H p => ⟨rfl, p⟩) fun w => by rw [q] at w; cases w)
  | false => exact fin_raises rfl (sys_ok hx _ (fun w => by rw [q] at w; cases w) fun _ H p => ⟨rfl, p⟩)
/-! ### multipliers -/
def nnB : D → Bool
  | .tup (.int a :: _) => decide (0 ≤ a)
  | _ => false
def mulB (n : Nat) : D → Bool
  | .tup xs => decide (xs.length = n) && xs.all fun y => ratB y && nnB y
  | _ => false
theorem ratB_is {y : D} (q : ratB y = true) : ∃ r : Rat, y = rv r := by
  match y, q with
  | .tup [.int a, .int b], q =>
    simp [ratB] at q
    exact ⟨Rat.divInt a b, (eq_ratio q.1 q.2).symm⟩
@[simp] theorem nn_rv (q : Rat) : nnB (rv q) = decide (0 ≤ q.num) := rfl
theorem e_are_mul {x : D} {n : Nat} (hx : Ask2 h x) : callI fns sub fuel (k + 3) 13 [x, .int (n : Int)] h = .ok (.bl (mulB n x)) h := by
  rw [call_eq (np := 2) (nn := 3) (code := c_are_multipliers) rfl rfl]
  refine fin_gives rfl ?_
  cases x with
  | ref m =>
    have e := isi_ref_tuple (hx.1 m rfl)
    simp [c_are_multipliers, startD, e, mulB]
  | tup xs =>
    obtain ⟨hl, ha⟩ := hx.2 xs rfl
    by_cases q : xs.length = n
    · simp [c_are_multipliers, startD, q]
      refine WpE_lc xs id (fun y => .bl (ratB y && nnB y)) (by simp) (by omega) (fun _ _ => rfl) (fun y hy => ⟨[some (.tup xs), some (.int (n : Int)), some y], by simp [wipeD], fun H p => ⟨rfl, ?_⟩⟩) fun H p => ?_
      · have c := e_is_ratio (fuel := fuel) (k := k) ((ha y hy).ext p)
        cases r : ratB y with
        | false => simp [arrD, c, r]
        | true =>
          obtain ⟨z, rfl⟩ := ratB_is r
          simp [arrD, c, r]
      · simp [mulB, q, pre_app p]
    · simp [c_are_multipliers, startD, len_n, q, mulB]
  | _ => simp [c_are_multipliers, startD, mulB]
end K18
/-! K18d: sums. -/
namespace K18
open PySem PV
variable {fuel k : Nat} {h : Hd}
def bvF (n : Nat) (r : Nat → Nat → Rat) (l : Nat → Rat) (i : Nat) : D := .tup [vv (vec n (r i)), rv (l i)]
def rowsD (m n : Nat) (r : Nat → Nat → Rat) (l : Nat → Rat) : D := .tup ((List.range m).map (bvF n r l))
def sumD (m n : Nat) (r : Nat → Nat → Rat) (l f : Nat → Rat) : D := .tup [vv (vec n fun j => sumN (fun i => f i * r i j) m), rv (sumN (fun i => f i * l i) m)]
theorem g_added {n b : Nat} {f g : Nat → Rat} (hf : Qf b f) (hg : Qf b g) (hn : n ≤ 1000) (hb : b ≤ 4400) : Giv (F fuel (k + 3)) 9 [vv (vec n f), vv (vec n g)] (vv (vec n fun i => f i + g i)) := givC (code := C_added 3) rfl rfl fun h => by
  have t := t_added (ev := F fuel (k + 2)) (h := h) (ad := 3) (v := vec n f) (w := vec n g) (line_ok (by simp; omega)) fun p hp => let ⟨a, c⟩ := zip_mem hf hg p hp; g_add a c hb
  rw [addV2_vec] at t
  exact t
theorem g_scaled {n b : Nat} {c : Rat} {f : Nat → Rat} (hc : Qn b c) (hf : Qf b f) (hn : n ≤ 1000) (hb : b ≤ 4400) : Giv (F fuel (k + 3)) 10 [rv c, vv (vec n f)] (vv (vec n fun i => c * f i)) := givC (code := C_scaled 4) rfl rfl fun h => by
  have t := t_scaled (ev := F fuel (k + 2)) (h := h) (mu := 4) (f := c) (w := vec n f) (line_ok (by simp; omega)) fun p hp => by
    obtain ⟨i, _, e⟩ := vec_mem hp
    rw [e]
    exact g_mul hc (hf i) hb
  rw [scale_vec] at t
  exact t
def sumI (m n : Nat) (r : Nat → Nat → Rat) (l f : Nat → Rat) (h : Hd) (i : Nat) (s : Sl) (H : Hd) : Prop := ∃ x5 x6 x7 : Option D, s = [some (.int (n : Int)), some (rowsD m n r l), some (vv (vec m f)), some (vv (vec n fun j => sumN (fun i => f i * r i j) i)), some (rv (sumN (fun i => f i * l i) i)), x5, x6, x7] ∧ H = h
theorem g_summed {m n : Nat} {r : Nat → Nat → Rat} {l f : Nat → Rat} (hr : ∀ i, Qf 20 (r i)) (hl : Qf 20 l) (hf : Qf 20 f) (hm : m ≤ 6) (hn : n ≤ 4) : Giv (F fuel (k + 4)) 14 [.int (n : Int), rowsD m n r l, vv (vec m f)] (sumD m n r l f) := givW (code := c_summed) rfl rfl (fun N => by simp [sumD, D.lt, D.lts, vv_lt, rv_lt]) fun h => by
  have z := gc' (fns := fns) (sub := sub) (g_zero (fuel := fuel) (k := k + 2) (n := n) (by omega)) h
  have zp : zipV (rowsD m n r l) (vv (vec m f)) h = .ok ⟨(List.range m).map fun i => .tup [bvF n r l i, rv (f i)], []⟩ h := by
    rw [← vv_vec]
    unfold rowsD
    rw [zipV_tup, zip_rng]
  simp [c_summed, startD, arrD, z, zp]
  refine WpS_for (List.range m) (fun i => .tup [bvF n r l i, rv (f i)]) (sumI m n r l f h) rfl ⟨none, none, none, by rw [zero_vec]; rfl, rfl⟩ (fun i hi s H ⟨x5, x6, x7, es, eH⟩ => ?_) fun s H ⟨x5, x6, x7, es, eH⟩ => ?_
  · subst es eH
    have hi : i < m := by simpa using hi
    refine ⟨rfl, [some (.int (n : Int)), some (rowsD m n r l), some (vv (vec m f)), some (vv (vec n fun j => sumN (fun i => f i * r i j) i)), some (rv (sumN (fun i => f i * l i) i)), some (vv (vec n (r i))), some (rv (l i)), some (rv (f i))], by simp [bvF], ?_⟩
    by_cases q : f i = 0
    · have z' : eqV H (rv 0) (.tup [.int 0, .int 1]) = some true := by rw [eqV_rv0]; simp
      simp [q, z']
      refine ⟨some (vv (vec n (r i))), some (rv (l i)), some (rv 0), ?_, rfl⟩
      have e1 : ∀ g : Nat → Rat, sumN (fun i => f i * g i) (i + 1) = sumN (fun i => f i * g i) i := fun g => by
        show _ + f i * g i = _
        rw [q, Rat.zero_mul, Rat.add_zero]
      rw [e1 l, vec_congr fun j _ => e1 fun i => r i j]
    · have sm : Qf 280 fun j => sumN (fun i => f i * r i j) i := fun j => sum_sz (b := 40) (fun i => (hf i).mul (hr i j)) i (by omega)
      have sl : Qn 280 (sumN (fun i => f i * l i) i) := sum_sz (b := 40) (fun i => (hf i).mul (hl i)) i (by omega)
      have c1 := gc' (fns := fns) (sub := sub) (g_scaled (fuel := fuel) (k := k) (n := n) (hf i) (hr i) (by omega) (by decide)) H
      have c2 := gc' (fns := fns) (sub := sub) (g_added (fuel := fuel) (k := k) (n := n) sm (fun j => ((hf i).mul (hr i j)).mono (show _ ≤ 280 by decide)) (by omega) (by decide)) H
      have c3 := gc' (fns := fns) (sub := sub) (g_mul (fuel := fuel) (k := k + 1) (hf i) (hl i) (by decide)) H
      have c4 := gc' (fns := fns) (sub := sub) (g_add (fuel := fuel) (k := k + 1) sl (((hf i).mul (hl i)).mono (show _ ≤ 280 by decide)) (by decide)) H
      simp [q, arrD, c1, c2, c3, c4]
      exact ⟨some (vv (vec n (r i))), some (rv (l i)), some (rv (f i)), rfl, rfl⟩
  · subst es eH
    simp [sumD]
/-! ### by the law -/
def lsI (m n : Nat) (r : Nat → Nat → Rat) (l f : Nat → Rat) (h : Hd) (nV : Nat) (i : Nat) (s : Sl) (H : Hd) : Prop := ∃ x5 x6 : Option D, s = [some (.int (n : Int)), some (rowsD m n r l), some (vv (vec m f)), some (.ref nV), some (rv (sumN (fun i => f i * l i) i)), x5, x6] ∧ h <+: H ∧ lstAt H nV = some ((List.range n).map fun j => rv (sumN (fun i => f i * r i j) i))
def lsJ (m n : Nat) (r : Nat → Nat → Rat) (l f : Nat → Rat) (h : Hd) (nV : Nat) (i j : Nat) (s : Sl) (H : Hd) : Prop := ∃ x6 : Option D, s = [some (.int (n : Int)), some (rowsD m n r l), some (vv (vec m f)), some (.ref nV), some (rv (sumN (fun i => f i * l i) i)), some (.int (i : Int)), x6] ∧ h <+: H ∧ lstAt H nV = some ((List.range n).map fun j' => rv (sumN (fun i => f i * r i j') (if j' < j then i + 1 else i)))
theorem g_lsummed (hF : 2 ^ 8900 ≤ fuel) {m n : Nat} {r : Nat → Nat → Rat} {l f : Nat → Rat} (hr : ∀ i, Qf 20 (r i)) (hl : Qf 20 l) (hf : Qf 20 f) (hm : m ≤ 6) (hn : n ≤ 4) : Giv (F fuel (k + 3)) 27 [.int (n : Int), rowsD m n r l, vv (vec m f)] (sumD m n r l f) := givW (code := c__law_summed) rfl rfl (fun N => by simp [sumD, D.lt, D.lts, vv_lt, rv_lt]) fun h => by
  have n1 : decide ((1 : Nat) ≤ line) = true := by decide
  have d1 : decide ((n : Int) ≤ 1000) = true := decide_eq_true (by omega)
  have d2 : decide (-1000 ≤ (n : Int)) = true := decide_eq_true (by omega)
  have fl : List.replicate n (D.tup [.int 0, .int 1]) = (List.range n).map fun j => rv (sumN (fun i => f i * r i j) 0) := by
    apply List.ext_getElem
    · simp
    · intro i h1 h2
      simp [sumN, rv_zero]
  have lr : ∀ H, biV .len [rowsD m n r l] H = .ok (.int (m : Int)) H := fun H => by
    unfold rowsD
    rw [bi_len_tup]
    simp
  have at1 : ∀ i, i < m → ∀ H, idxV (rowsD m n r l) (.int (i : Int)) H = .ok (bvF n r l i) H := fun i hi H => by
    unfold rowsD
    rw [t_idx, at_rng hi]
    rfl
  have at2 : ∀ i H, idxV (bvF n r l i) (.int 0) H = .ok (vv (vec n (r i))) H := fun i H => by simp [bvF]
  have at3 : ∀ i H, idxV (bvF n r l i) (.int 1) H = .ok (rv (l i)) H := fun i H => by simp [bvF]
  simp only [c__law_summed, startD, List.map_cons, List.map_nil, List.length_cons, List.length_nil, List.replicate]
  simp [n1, d1, d2, fl, lr, rngV_k (show (m : Int) = (m : Nat) from rfl) (show m ≤ 1000000 by omega)]
  refine WpS_rng m (lsI m n r l f h (h.length + 1)) ⟨none, none, rfl, pre_app (List.prefix_refl _), by simp⟩ (fun i hi s H ⟨x5, x6, es, p, e⟩ => ?_) fun s H ⟨x5, x6, es, p, e⟩ => ?_
  · subst es
    refine ⟨[some (.int (n : Int)), some (rowsD m n r l), some (vv (vec m f)), some (.ref (h.length + 1)), some (rv (sumN (fun i => f i * l i) i)), some (.int (i : Int)), x6], by simp, ?_⟩
    simp [rngV_k (show (n : Int) = (n : Nat) from rfl) (show n ≤ 1000000 by omega)]
    refine WpS_rng n (lsJ m n r l f h (h.length + 1) i) ⟨x6, rfl, p, by simpa using e⟩ (fun j hj s H ⟨x6, es, p, e⟩ => ?_) fun s H ⟨x6, es, p, e⟩ => ?_
    · subst es
      refine ⟨[some (.int (n : Int)), some (rowsD m n r l), some (vv (vec m f)), some (.ref (h.length + 1)), some (rv (sumN (fun i => f i * l i) i)), some (.int (i : Int)), some (.int (j : Int))], by simp, ?_⟩
      have sm : Qn 280 (sumN (fun i => f i * r i j) i) := sum_sz (b := 40) (fun i => (hf i).mul (hr i j)) i (by omega)
      have c1 := gc' (fns := fns) (sub := sub) (g_lmul (k := k) hF (hf i) (hr i j) (by decide)) H
      have c2 := gc' (fns := fns) (sub := sub) (g_ladd (k := k) hF sm (((hf i).mul (hr i j)).mono (show _ ≤ 280 by decide)) (by decide)) H
      have sb : ∀ (d : D) (s : Sl), subV (.ref (h.length + 1)) (.int (j : Int)) d s H = .nx s (H.set (h.length + 1) (.lst (((List.range n).map fun j' => rv (sumN (fun i => f i * r i j') (if j' < j then i + 1 else i))).set j d))) := fun d s => by
        rw [r_sub H _ e, ix_n (by simpa using hj)]
        rfl
      simp [e, at_rng hj, at_vec hi, at_vec hj, at1 i hi, at2, arrD, c1, c2, sb]
      refine ⟨some (.int (j : Int)), rfl, pre_set p (by omega), ?_⟩
      rw [r_set e]
      congr 1
      have := set_rng (r := fun j' => rv (sumN (fun i => f i * r i j') (if j' < j then i + 1 else i))) (r' := fun j' => rv (sumN (fun i => f i * r i j') (if j' < j + 1 then i + 1 else i))) (n := n) (j := j) fun t ht => by
        by_cases w : t < j
        · simp only [if_pos w, if_pos (show t < j + 1 by omega)]
        · simp only [if_neg w, if_neg (show ¬ t < j + 1 by omega)]
      rw [← this]
      simp [sumN]
    · subst es
      have sl : Qn 280 (sumN (fun i => f i * l i) i) := sum_sz (b := 40) (fun i => (hf i).mul (hl i)) i (by omega)
      have c3 := gc' (fns := fns) (sub := sub) (g_lmul (k := k) hF (hf i) (hl i) (by decide)) H
      have c4 := gc' (fns := fns) (sub := sub) (g_ladd (k := k) hF sl (((hf i).mul (hl i)).mono (show _ ≤ 280 by decide)) (by decide)) H
      simp [at_vec hi, at1 i hi, at3, arrD, c3, c4]
      refine ⟨some (.int (i : Int)), x6, rfl, p, ?_⟩
      rw [e]
      congr 1
      apply List.map_congr_left
      intro j hj
      rw [if_pos (List.mem_range.mp hj)]
  · subst es
    simp [e, sumD, vv_vec, p]
end K18
/-! K18e: what the checks say and what the law says: the same. -/
namespace K18
open PySem PV
variable {fuel k : Nat} {h : Hd}
inductive Res where
  | right | paper | system
def Res.out : Res → Hd → Out D
  | .right, h => .ok .non h
  | .paper, h => .ex ⟨3, []⟩ h
  | .system, h => .ex ⟨2, []⟩ h
def Res.str : Res → D
  | .right => .str "right"
  | .paper => .str "paper"
  | .system => .str "system"
@[simp] theorem out_r (h : Hd) : Res.right.out h = .ok .non h := rfl
@[simp] theorem out_p (h : Hd) : Res.paper.out h = .ex ⟨3, []⟩ h := rfl
@[simp] theorem out_s (h : Hd) : Res.system.out h = .ex ⟨2, []⟩ h := rfl
theorem told_ex {e : Exn} {s : Sl} {ρ : Res} (he : ρ.out h = .ex e h) (hs : 5 < s.length) : tryS (F fuel k) 0 (some 5) (.cons (.ret (.ife (.v (.excIs 3)) (.con (.str "paper")) (.ife (.v (.excIs 2)) (.con (.str "system")) (.con (.str "else"))))) .nil) (.ex e s h) = .rt ρ.str h := by
  cases ρ with
  | right => cases he
  | paper =>
    injection he with he
    subst he
    rw [tryS_ex _ _ _ _ _ _ _ (by rfl) (by simpa [inS] using hs)]
    have s1 : sub 3 3 = true := by rfl
    simp [s1, Res.str]
  | system =>
    injection he with he
    subst he
    rw [tryS_ex _ _ _ _ _ _ _ (by rfl) (by simpa [inS] using hs)]
    have s1 : sub 2 3 = false := by rfl
    have s2 : sub 2 2 = true := by rfl
    simp [s1, s2, Res.str]
theorem told_ok {ρ : Res} {i : Nat} {ds : List D} {s : Sl} (c : callI fns sub fuel k i ds h = ρ.out h) : (∃ e, ρ.out h = .ex e h ∧ callI fns sub fuel k i ds h = .ex e h) ∨ (ρ = .right ∧ callI fns sub fuel k i ds h = .ok .non h) := by
  cases ρ with
  | right => exact .inr ⟨rfl, c⟩
  | paper => exact .inl ⟨_, rfl, c⟩
  | system => exact .inl ⟨_, rfl, c⟩
theorem e_told0 {ρ : Res} {sz rows b x : D} (c : callI fns sub fuel k 15 [sz, rows, x] h = ρ.out h) : callI fns sub fuel (k + 1) 32 [.int 0, sz, rows, b, x] h = .ok ρ.str h := by
  rw [call_eq (np := 5) (nn := 6) (code := c__law_told) rfl rfl]
  rcases told_ok (s := []) c with ⟨e, he, c⟩ | ⟨rfl, c⟩
  · have t := told_ex (fuel := fuel) (k := k) (s := [some (.int 0), some sz, some rows, some b, some x, none]) he (by simp)
    simp [c__law_told, startD, arrD, c]
    rw [t]
    simp
  · simp [c__law_told, startD, arrD, c, Res.str]
theorem e_told1 {ρ : Res} {sz rows b x : D} (c : callI fns sub fuel k 16 [sz, rows, b, x] h = ρ.out h) : callI fns sub fuel (k + 1) 32 [.int 1, sz, rows, b, x] h = .ok ρ.str h := by
  rw [call_eq (np := 5) (nn := 6) (code := c__law_told) rfl rfl]
  rcases told_ok (s := []) c with ⟨e, he, c⟩ | ⟨rfl, c⟩
  · have t := told_ex (fuel := fuel) (k := k) (s := [some (.int 1), some sz, some rows, some b, some x, none]) he (by simp)
    simp [c__law_told, startD, arrD, c]
    rw [t]
    simp
  · simp [c__law_told, startD, arrD, c, Res.str]
theorem e_told2 {ρ : Res} {sz rows b x : D} (c : callI fns sub fuel k 12 [sz, rows] h = ρ.out h) : callI fns sub fuel (k + 1) 32 [.int 2, sz, rows, b, x] h = .ok ρ.str h := by
  rw [call_eq (np := 5) (nn := 6) (code := c__law_told) rfl rfl]
  rcases told_ok (s := []) c with ⟨e, he, c⟩ | ⟨rfl, c⟩
  · have t := told_ex (fuel := fuel) (k := k) (s := [some (.int 2), some sz, some rows, some b, some x, none]) he (by simp)
    simp [c__law_told, startD, arrD, c]
    rw [t]
    simp
  · simp [c__law_told, startD, arrD, c, Res.str]
/-! ### what a vector is -/
theorem rat_all : ∀ {xs : List D}, xs.all ratB = true → ∃ v : List Rat, xs = v.map rv
  | [], _ => ⟨[], rfl⟩
  | x :: xs, e => by
    simp only [List.all_cons, Bool.and_eq_true] at e
    obtain ⟨q, rfl⟩ := ratB_is e.1
    obtain ⟨v, rfl⟩ := rat_all e.2
    exact ⟨q :: v, rfl⟩
theorem vec_is {n : Nat} {x : D} (e : vecB n x = true) : ∃ v : List Rat, x = vv v ∧ v.length = n := by
  match x, e with
  | .tup xs, e =>
    simp only [vecB, Bool.and_eq_true, decide_eq_true_eq] at e
    obtain ⟨v, rfl⟩ := rat_all e.2
    exact ⟨v, rfl, by simpa using e.1⟩
theorem vec_yes (n : Nat) (f : Nat → Rat) : vecB n (vv (vec n f)) = true := by
  rw [← vv_vec]
  simp [vecB, ratB_rv]
theorem mul_vec (m : Nat) (f : Nat → Rat) : mulB m (vv (vec m f)) = (List.range m).all fun i => decide (0 ≤ f i) := by
  rw [← vv_vec]
  simp [mulB, List.all_map]
  rw [Bool.eq_iff_iff]
  simp [ratB_rv]
theorem mul_vecB {m : Nat} {x : D} (e : mulB m x = true) : vecB m x = true := by
  match x, e with
  | .tup xs, e =>
    simp only [mulB, Bool.and_eq_true, decide_eq_true_eq, List.all_eq_true] at e
    simp only [vecB, Bool.and_eq_true, decide_eq_true_eq, List.all_eq_true]
    exact ⟨e.1, fun y hy => (e.2 y hy).1⟩
/-- multipliers, right ones or not -/
def Mk (h : Hd) (x : D) : Prop := Ask2 h x ∧ ∀ v : List Rat, x = vv v → ∀ q ∈ v, Qn 20 q
theorem Mk.vec {m : Nat} {x : D} (hx : Mk h x) (e : vecB m x = true) : ∃ f, x = vv (PV.vec m f) ∧ Qf 20 f := by
  obtain ⟨v, rfl, hl⟩ := vec_is e
  refine ⟨fun i => v.getD i 0, by rw [← vec_of hl], fun i => ?_⟩
  show Qn 20 (v.getD i 0)
  rw [List.getD_eq_getElem?_getD]
  by_cases q : i < v.length
  · simp [q]
    exact hx.2 v rfl _ (List.getElem_mem q)
  · simp [q]
    exact Qn.zero (by decide)
theorem rows_sys (m n : Nat) (r : Nat → Nat → Rat) (l : Nat → Rat) : sysB n (rowsD m n r l) = true := by
  simp [rowsD, sysB, bvF, bndB, vec_yes, ratB_rv]
def Rows (r : Nat → Nat → Rat) (l : Nat → Rat) : Prop := (∀ i, Qf 20 (r i)) ∧ Qf 20 l
theorem ask_rv {q : Rat} (s : Qn 1000 q) : Ask h (rv q) := ⟨⟨fun n e => (by cases e), fun xs e y hy => by
  injection e with e
  subst e
  simp at hy
  rcases hy with rfl | rfl <;> rfl⟩, fun a b e => by
  injection e with e
  injection e with e1 e2
  injection e1 with e1
  injection e2 with e2 _
  injection e2 with e2
  exact ⟨e1 ▸ s.1, e2 ▸ s.2⟩⟩
theorem ask_vv {v : List Rat} (hl : v.length ≤ 1000) (s : ∀ q ∈ v, Qn 1000 q) : Ask2 h (vv v) := ⟨fun n e => (by cases e), fun xs e => by
  injection e with e
  subst e
  refine ⟨by simpa using hl, fun y hy => ?_⟩
  obtain ⟨q, hq, rfl⟩ := List.mem_map.mp hy
  exact ask_rv (s q hq)⟩
theorem ask_vec {n : Nat} {f : Nat → Rat} (hl : n ≤ 1000) (s : Qf 1000 f) : Ask2 h (vv (vec n f)) := ask_vv (by simpa using hl) fun q hq => by
  obtain ⟨i, _, rfl⟩ := vec_mem hq
  exact s i
theorem ask_pair {v r : D} (a : Ask2 h v) (b : Ask h r) : Ask3 h (.tup [v, r]) := ⟨fun n e => (by cases e), fun v' r' e => by
  injection e with e
  injection e with e1 e2
  injection e2 with e2 _
  subst e1 e2
  exact ⟨a, b⟩⟩
theorem ask_rows {m n : Nat} {r : Nat → Nat → Rat} {l : Nat → Rat} (hr : Rows r l) (hm : m ≤ 6) (hn : n ≤ 4) : Ask4 h (rowsD m n r l) := ⟨fun n e => (by cases e), fun xs e => by
  injection e with e
  subst e
  refine ⟨by simp; omega, fun y hy => ?_⟩
  obtain ⟨i, hi, rfl⟩ := List.mem_map.mp hy
  exact ask_pair (ask_vec (by omega) ((hr.1 i).mono (by decide))) (ask_rv ((hr.2 i).mono (by decide)))⟩
theorem len_rows (m n : Nat) (r : Nat → Nat → Rat) (l : Nat → Rat) (H : Hd) : biV .len [rowsD m n r l] H = .ok (.int (m : Int)) H := by
  unfold rowsD
  rw [bi_len_tup]
  simp
theorem num_lt0 (q : Rat) : (q.num < 0) = (q < 0) := by
  apply propext
  rw [Rat.lt_iff]
  show q.num < 0 ↔ q.num * ((1 : Nat) : Int) < 0 * (q.den : Int)
  simp
theorem any_neg (m : Nat) (f : Nat → Rat) : ((List.range m).any fun i => decide (f i < 0)) = !((List.range m).all fun i => decide (0 ≤ f i)) := by
  rw [Bool.eq_iff_iff]
  simp [Rat.not_le]
/-- the law's word on multipliers that show that nothing keeps all bounds -/
theorem lnone_no (hF : 2 ^ 8900 ≤ fuel) {m n : Nat} {r : Nat → Nat → Rat} {l : Nat → Rat} {x : D} (hm : m ≤ 6) (hx : Mk h x) (e : mulB m x = false) : callI fns sub fuel (k + 4) 34 [.int (n : Int), rowsD m n r l, x] h = .ok (.str "paper") h := by
  rw [call_eq (np := 3) (nn := 6) (code := c__law_none) rfl rfl]
  refine fin_gives rfl ?_
  have c := e_lare (k := k) (n := m) hF hx.1
  cases q : vecB m x with
  | false => simp [c__law_none, startD, len_rows, arrD, c, q]
  | true =>
    obtain ⟨f, rfl, hf⟩ := hx.vec q
    rw [mul_vec] at e
    simp [c__law_none, startD, len_rows, arrD, c, q, walk_vec]
    refine WpE_lc (List.range m) (fun i => rv (f i)) (fun i => .bl (decide (f i < 0))) rfl (by simp; omega) (fun _ _ => rfl) (fun i hi => ⟨[some (.int (n : Int)), some (rowsD m n r l), some (vv (vec m f)), some (rv (f i)), none, none], by simp [wipeD], fun H p => ⟨rfl, by simp [num_lt0]⟩⟩) fun H p => ?_
    simp [any_neg, e, pre_app p]
theorem lnone_yes (hF : 2 ^ 8900 ≤ fuel) {m n : Nat} {r : Nat → Nat → Rat} {l f : Nat → Rat} (hr : Rows r l) (hf : Qf 20 f) (hm : m ≤ 6) (hn : n ≤ 4) (e : mulB m (vv (vec m f)) = true) : callI fns sub fuel (k + 4) 34 [.int (n : Int), rowsD m n r l, vv (vec m f)] h =
    .ok (if decide ((vec n fun j => sumN (fun i => f i * r i j) m) = vec n fun _ => 0) && decide (sumN (fun i => f i * l i) m < 0) then .str "right" else .str "paper") h := by
  rw [call_eq (np := 3) (nn := 6) (code := c__law_none) rfl rfl]
  refine fin_gives (by split <;> rfl) ?_
  have c := e_lare (k := k) (n := m) (h := h) hF (ask_vec (n := m) (f := f) (by omega) (hf.mono (by decide)))
  have q := vec_yes m f
  have d1 : decide ((n : Int) ≤ 1000) = true := decide_eq_true (by omega)
  have d2 : decide (-1000 ≤ (n : Int)) = true := decide_eq_true (by omega)
  have n1 : decide ((1 : Nat) ≤ line) = true := by decide
  rw [mul_vec] at e
  simp [c__law_none, startD, len_rows, arrD, c, q, walk_vec]
  refine WpE_lc (List.range m) (fun i => rv (f i)) (fun i => .bl (decide (f i < 0))) rfl (by simp; omega) (fun _ _ => rfl) (fun i hi => ⟨[some (.int (n : Int)), some (rowsD m n r l), some (vv (vec m f)), some (rv (f i)), none, none], by simp [wipeD], fun H p => ⟨rfl, by simp [num_lt0]⟩⟩) fun H p => ?_
  have s := gc' (fns := fns) (sub := sub) (g_lsummed (k := k) hF hr.1 hr.2 hf hm hn) (H ++ [.lst ((List.range m).map fun i => .bl (decide (f i < 0)))])
  have z := mul_rep (x := .tup [.int 0, .int 1]) (n := n) (by omega) (H ++ [.lst ((List.range m).map fun i => .bl (decide (f i < 0)))])
  have z2 : D.tup (List.replicate n (.tup [.int 0, .int 1])) = vv (vec n fun _ => 0) := by
    rw [← zero_vec]
    simp [vv, List.map_replicate, rv_zero]
  rw [z2] at z
  simp [any_neg, e, arrD, s, sumD, n1, z, eqV_vv, num_lt0]
  by_cases q1 : (vec n fun j => sumN (fun i => f i * r i j) m) = vec n fun _ => 0
  · by_cases q2 : sumN (fun i => f i * l i) m < 0
    · simp [q1, q2, pre_app p, num_lt0]
    · simp [q1, q2, pre_app p, num_lt0]
  · simp [q1, pre_app p]
/-! ### check_none -/
theorem none_no {m n : Nat} {r : Nat → Nat → Rat} {l : Nat → Rat} {x : D} (hr : Rows r l) (hm : m ≤ 6) (hn : n ≤ 4) (hx : Mk h x) (e : mulB m x = false) : callI fns sub fuel (k + 6) 15 [.int (n : Int), rowsD m n r l, x] h = Res.paper.out h := by
  rw [call_eq (np := 3) (nn := 5) (code := c_check_none) rfl rfl]
  have c1 := e_check_system (fuel := fuel) (k := k) (n := n) (ask_rows (h := h) (n := n) hr hm hn)
  rw [rows_sys] at c1
  have c2 := e_are_mul (fuel := fuel) (k := k + 2) (n := m) hx.1
  simp [c_check_none, startD, arrD, c1, len_rows, c2, e]
theorem none_yes {m n : Nat} {r : Nat → Nat → Rat} {l f : Nat → Rat} (hr : Rows r l) (hf : Qf 20 f) (hm : m ≤ 6) (hn : n ≤ 4) (e : mulB m (vv (vec m f)) = true) : callI fns sub fuel (k + 6) 15 [.int (n : Int), rowsD m n r l, vv (vec m f)] h =
    (if decide ((vec n fun j => sumN (fun i => f i * r i j) m) = vec n fun _ => 0) && decide (sumN (fun i => f i * l i) m < 0) then Res.right else Res.paper).out h := by
  rw [call_eq (np := 3) (nn := 5) (code := c_check_none) rfl rfl]
  have c1 := e_check_system (fuel := fuel) (k := k) (n := n) (ask_rows (h := h) (n := n) hr hm hn)
  rw [rows_sys] at c1
  have c2 := e_are_mul (fuel := fuel) (k := k + 2) (n := m) (h := h) (ask_vec (n := m) (f := f) (by omega) (hf.mono (by decide)))
  have c3 := gc' (fns := fns) (sub := sub) (g_summed (fuel := fuel) (k := k + 1) hr.1 hr.2 hf hm hn) h
  have c4 := gc' (fns := fns) (sub := sub) (g_zero (fuel := fuel) (k := k + 4) (n := n) (by omega)) h
  rw [zero_vec] at c4
  have sl : Qn 280 (sumN (fun i => f i * l i) m) := sum_sz (b := 40) (fun i => (hf i).mul (hr.2 i)) m (by omega)
  have c5 := gc' (fns := fns) (sub := sub) (g_less (fuel := fuel) (k := k + 4) sl (Qn.zero (by decide)) (by decide)) h
  rw [rv_zero] at c5
  simp [c_check_none, startD, arrD, c1, len_rows, c2, e, c3, sumD, c4, eqV_vv]
  by_cases q1 : (vec n fun j => sumN (fun i => f i * r i j) m) = vec n fun _ => 0
  · by_cases q2 : sumN (fun i => f i * l i) m < 0
    · simp [q1, q2, c5, arrD]
    · simp [q1, q2, c5, arrD]
  · simp [q1]
theorem both_none (hF : 2 ^ 8900 ≤ fuel) {m n : Nat} {r : Nat → Nat → Rat} {l : Nat → Rat} {x : D} (hr : Rows r l) (hm : m ≤ 6) (hn : n ≤ 4) (hx : Mk h x) :
    ∃ ρ : Res, callI fns sub fuel (k + 6) 15 [.int (n : Int), rowsD m n r l, x] h = ρ.out h ∧ callI fns sub fuel (k + 7) 34 [.int (n : Int), rowsD m n r l, x] h = .ok ρ.str h := by
  cases e : mulB m x with
  | false => exact ⟨.paper, none_no hr hm hn hx e, lnone_no (k := k + 3) hF hm hx e⟩
  | true =>
    obtain ⟨f, rfl, hf⟩ := hx.vec (mul_vecB e)
    refine ⟨_, none_yes hr hf hm hn e, ?_⟩
    rw [lnone_yes (k := k + 3) hF hr hf hm hn e]
    split <;> rfl
end K18
/-! K18f: multipliers that show a limit. -/
namespace K18
open PySem PV
variable {fuel k : Nat} {h : Hd}
/-- a bound, a right one or not -/
def Bk (h : Hd) (b : D) : Prop := Ask3 h b ∧ ∀ v (q : Rat), b = .tup [v, rv q] → Qn 400 q
theorem Bk.is {n : Nat} {b : D} (hb : Bk h b) (e : bndB n b = true) : ∃ (v : List Rat) (q : Rat), b = .tup [vv v, rv q] ∧ Qn 400 q := by
  match b, e with
  | .tup [x, y], e =>
    simp only [bndB, Bool.and_eq_true] at e
    obtain ⟨v, rfl, _⟩ := vec_is e.1
    obtain ⟨q, rfl⟩ := ratB_is e.2
    exact ⟨v, q, rfl, hb.2 _ _ rfl⟩
theorem llimit_no (hF : 2 ^ 8900 ≤ fuel) {m n : Nat} {r : Nat → Nat → Rat} {l : Nat → Rat} {x b : D} (hm : m ≤ 6) (hb : Bk h b) (eb : bndB n b = true) (hx : Mk h x) (e : mulB m x = false) : callI fns sub fuel (k + 5) 35 [.int (n : Int), rowsD m n r l, b, x] h = .ok (.str "paper") h := by
  rw [call_eq (np := 4) (nn := 7) (code := c__law_limit) rfl rfl]
  refine fin_gives rfl ?_
  have c0 := e_lis_bound (k := k) (n := n) hF hb.1
  have c := e_lare (k := k + 1) (n := m) hF hx.1
  cases q : vecB m x with
  | false => simp [c__law_limit, startD, len_rows, arrD, c0, eb, c, q]
  | true =>
    obtain ⟨f, rfl, hf⟩ := hx.vec q
    rw [mul_vec] at e
    simp [c__law_limit, startD, len_rows, arrD, c0, eb, c, q, walk_vec]
    refine WpE_lc (List.range m) (fun i => rv (f i)) (fun i => .bl (decide (f i < 0))) rfl (by simp; omega) (fun _ _ => rfl) (fun i hi => ⟨[some (.int (n : Int)), some (rowsD m n r l), some b, some (vv (vec m f)), some (rv (f i)), none, none], by simp [wipeD], fun H p => ⟨rfl, by simp [num_lt0]⟩⟩) fun H p => ?_
    simp [any_neg, e, pre_app p]
theorem llimit_yes (hF : 2 ^ 8900 ≤ fuel) {m n : Nat} {r : Nat → Nat → Rat} {l f : Nat → Rat} {v : List Rat} {q : Rat} (hr : Rows r l) (hf : Qf 20 f) (hm : m ≤ 6) (hn : n ≤ 4) (hb : Bk h (.tup [vv v, rv q])) (eb : bndB n (.tup [vv v, rv q]) = true) (e : mulB m (vv (vec m f)) = true) : callI fns sub fuel (k + 5) 35 [.int (n : Int), rowsD m n r l, .tup [vv v, rv q], vv (vec m f)] h =
    .ok (if decide ((vec n fun j => sumN (fun i => f i * r i j) m) = v) && decide (sumN (fun i => f i * l i) m ≤ q) then .str "right" else .str "paper") h := by
  rw [call_eq (np := 4) (nn := 7) (code := c__law_limit) rfl rfl]
  refine fin_gives (by split <;> rfl) ?_
  have c0 := e_lis_bound (k := k) (n := n) hF hb.1
  have c := e_lare (k := k + 1) (n := m) (h := h) hF (ask_vec (n := m) (f := f) (by omega) (hf.mono (by decide)))
  have q0 := vec_yes m f
  rw [mul_vec] at e
  simp [c__law_limit, startD, len_rows, arrD, c0, eb, c, q0, walk_vec]
  refine WpE_lc (List.range m) (fun i => rv (f i)) (fun i => .bl (decide (f i < 0))) rfl (by simp; omega) (fun _ _ => rfl) (fun i hi => ⟨[some (.int (n : Int)), some (rowsD m n r l), some (.tup [vv v, rv q]), some (vv (vec m f)), some (rv (f i)), none, none], by simp [wipeD], fun H p => ⟨rfl, by simp [num_lt0]⟩⟩) fun H p => ?_
  have s := gc' (fns := fns) (sub := sub) (g_lsummed (k := k + 1) hF hr.1 hr.2 hf hm hn) (H ++ [.lst ((List.range m).map fun i => .bl (decide (f i < 0)))])
  have sl : Qn 400 (sumN (fun i => f i * l i) m) := sum_sz (b := 40) (fun i => (hf i).mul (hr.2 i)) m (by omega)
  have c5 := gc' (fns := fns) (sub := sub) (g_lless (fuel := fuel) (k := k + 3) (hb.2 _ _ rfl) sl (by decide)) (H ++ [.lst ((List.range m).map fun i => .bl (decide (f i < 0)))])
  simp [any_neg, e, arrD, s, sumD, eqV_vv]
  by_cases q1 : (vec n fun j => sumN (fun i => f i * r i j) m) = v
  · by_cases q2 : sumN (fun i => f i * l i) m ≤ q
    · have q3 : ¬ q < sumN (fun i => f i * l i) m := Rat.not_lt.mpr q2
      simp [q1, q2, q3, pre_app p, arrD, c5]
    · have q3 : q < sumN (fun i => f i * l i) m := Rat.not_le.mp q2
      simp [q1, q2, q3, pre_app p, arrD, c5]
  · simp [q1, pre_app p]
theorem limit_no {m n : Nat} {r : Nat → Nat → Rat} {l : Nat → Rat} {x b : D} (hr : Rows r l) (hm : m ≤ 6) (hn : n ≤ 4) (hb : Bk h b) (eb : bndB n b = true) (hx : Mk h x) (e : mulB m x = false) : callI fns sub fuel (k + 6) 16 [.int (n : Int), rowsD m n r l, b, x] h = Res.paper.out h := by
  rw [call_eq (np := 4) (nn := 6) (code := c_check_limit) rfl rfl]
  have c1 := e_check_system (fuel := fuel) (k := k) (n := n) (ask_rows (h := h) (n := n) hr hm hn)
  rw [rows_sys] at c1
  have c0 := e_is_bound (fuel := fuel) (k := k + 1) (n := n) hb.1
  have c2 := e_are_mul (fuel := fuel) (k := k + 2) (n := m) hx.1
  simp [c_check_limit, startD, arrD, c1, c0, eb, len_rows, c2, e]
theorem limit_yes {m n : Nat} {r : Nat → Nat → Rat} {l f : Nat → Rat} {v : List Rat} {q : Rat} (hr : Rows r l) (hf : Qf 20 f) (hm : m ≤ 6) (hn : n ≤ 4) (hb : Bk h (.tup [vv v, rv q])) (eb : bndB n (.tup [vv v, rv q]) = true) (e : mulB m (vv (vec m f)) = true) : callI fns sub fuel (k + 6) 16 [.int (n : Int), rowsD m n r l, .tup [vv v, rv q], vv (vec m f)] h =
    (if decide ((vec n fun j => sumN (fun i => f i * r i j) m) = v) && decide (sumN (fun i => f i * l i) m ≤ q) then Res.right else Res.paper).out h := by
  rw [call_eq (np := 4) (nn := 6) (code := c_check_limit) rfl rfl]
  have c1 := e_check_system (fuel := fuel) (k := k) (n := n) (ask_rows (h := h) (n := n) hr hm hn)
  rw [rows_sys] at c1
  have c0 := e_is_bound (fuel := fuel) (k := k + 1) (n := n) hb.1
  have c2 := e_are_mul (fuel := fuel) (k := k + 2) (n := m) (h := h) (ask_vec (n := m) (f := f) (by omega) (hf.mono (by decide)))
  have c3 := gc' (fns := fns) (sub := sub) (g_summed (fuel := fuel) (k := k + 1) hr.1 hr.2 hf hm hn) h
  have sl : Qn 400 (sumN (fun i => f i * l i) m) := sum_sz (b := 40) (fun i => (hf i).mul (hr.2 i)) m (by omega)
  have c5 := gc' (fns := fns) (sub := sub) (g_at_most (fuel := fuel) (k := k + 4) sl (hb.2 _ _ rfl) (by decide)) h
  simp [c_check_limit, startD, arrD, c1, c0, eb, len_rows, c2, e, c3, sumD, eqV_vv]
  by_cases q1 : (vec n fun j => sumN (fun i => f i * r i j) m) = v
  · by_cases q2 : sumN (fun i => f i * l i) m ≤ q
    · simp [q1, q2, c5, arrD]
    · simp [q1, q2, c5, arrD]
  · simp [q1]
theorem both_limit (hF : 2 ^ 8900 ≤ fuel) {m n : Nat} {r : Nat → Nat → Rat} {l : Nat → Rat} {x b : D} (hr : Rows r l) (hm : m ≤ 6) (hn : n ≤ 4) (hb : Bk h b) (hx : Mk h x) :
    ∃ ρ : Res, callI fns sub fuel (k + 6) 16 [.int (n : Int), rowsD m n r l, b, x] h = ρ.out h ∧ callI fns sub fuel (k + 7) 35 [.int (n : Int), rowsD m n r l, b, x] h = .ok ρ.str h := by
  cases eb : bndB n b with
  | false =>
    refine ⟨.system, ?_, ?_⟩
    · rw [call_eq (np := 4) (nn := 6) (code := c_check_limit) rfl rfl]
      have c1 := e_check_system (fuel := fuel) (k := k) (n := n) (ask_rows (h := h) (n := n) hr hm hn)
      rw [rows_sys] at c1
      have c0 := e_is_bound (fuel := fuel) (k := k + 1) (n := n) hb.1
      simp [c_check_limit, startD, arrD, c1, c0, eb]
    · rw [call_eq (np := 4) (nn := 7) (code := c__law_limit) rfl rfl]
      have c0 := e_lis_bound (k := k + 2) (n := n) hF hb.1
      simp [c__law_limit, startD, arrD, c0, eb, Res.str]
  | true =>
    cases e : mulB m x with
    | false => exact ⟨.paper, limit_no hr hm hn hb eb hx e, llimit_no (k := k + 2) hF hm hb eb hx e⟩
    | true =>
      obtain ⟨f, rfl, hf⟩ := hx.vec (mul_vecB e)
      obtain ⟨v, q, rfl, hq⟩ := hb.is eb
      refine ⟨_, limit_yes hr hf hm hn hb eb e, ?_⟩
      rw [llimit_yes (k := k + 2) hF hr hf hm hn hb eb e]
      split <;> rfl
end K18
/-! K18g: the drawn system, odd values. -/
namespace K18
open PySem PV
variable {fuel k : Nat} {h : Hd}
def lbv (c : Int) (k : Nat) : Rat := if (c.fdiv (5 + 7 * k * k)).fmod 3 = 0 then 0 else lrat ((c.fdiv (5 + 7 * k * k)).fdiv 3)
theorem lbv_sz (c : Int) : Qf 20 (lbv c) := fun k => by
  unfold lbv
  split
  · exact Qn.zero (by decide)
  · exact (lrat_sz _).mono (by decide)
theorem g_lbound (hF : 2 ^ 8900 ≤ fuel) {n : Nat} (hn : n ≤ 4) (c : Int) : Giv (F fuel (k + 3)) 25 [.int (n : Int), .int c] (.tup [vv (vec n (lbv c)), rv (lrat (c.fdiv 11))]) := givW (code := c__law_bound) rfl rfl (fun N => by simp [D.lt, D.lts, vv_lt, rv_lt]) fun h => by
  have n0 : decide ((0 : Nat) ≤ line) = true := by decide
  have d11 := div_ok (j := 11) c (by decide) (by decide)
  simp [c__law_bound, startD, n0, rngV_k (show (n : Int) = (n : Nat) from rfl) (show n ≤ 1000000 by omega)]
  refine WpS_rng n (fun i s H => ∃ x3 x4 : Option D, s = [some (.int (n : Int)), some (.int c), some (.ref h.length), x3, x4] ∧ h <+: H ∧ lstAt H h.length = some ((List.range i).map fun j => rv (lbv c j))) ⟨none, none, rfl, pre_app (List.prefix_refl _), by simp⟩ (fun i hi s H ⟨x3, x4, es, p, e⟩ => ?_) fun s H ⟨x3, x4, es, p, e⟩ => ?_
  · subst es
    refine ⟨[some (.int (n : Int)), some (.int c), some (.ref h.length), some (.int (i : Int)), x4], by simp, ?_⟩
    have si : Sz 10 (i : Int) := Sz.nat (by show i < 1024; omega)
    have m1 : mulOk 7 (i : Int) = true := mulOk_sz (show Sz 3 7 by unfold Sz; decide) si (by decide)
    have m2 : mulOk (7 * (i : Int)) (i : Int) = true := mulOk_sz ((show Sz 3 7 by unfold Sz; decide).mul si) si (by decide)
    have ii : i * i ≤ 4 * 4 := Nat.mul_le_mul (by omega) (by omega)
    have ie : (7 : Int) * i * i = ((7 * (i * i) : Nat) : Int) := by
      rw [Int.natCast_mul, Int.natCast_mul, Int.mul_assoc]
      rfl
    have d1 := div_ok (j := 5 + 7 * (i : Int) * i) c (by rw [ie]; omega) (by rw [ie]; omega)
    have d2 := div_ok (j := 3) (c.fdiv (5 + 7 * (i : Int) * i)) (by decide) (by decide)
    have cc := fun x H => gc' (fns := fns) (sub := sub) (g_lratio (k := k) hF x) H
    have ln : i < 16777216 := by omega
    by_cases q : (c.fdiv (5 + 7 * (i : Int) * i)).fmod 3 = 0
    · have b : lbv c i = 0 := if_pos q
      simp [m1, m2, d1, q, e, ln]
      refine ⟨pre_set p (by omega), ?_⟩
      rw [r_set e, ← app_rng, b]
      rfl
    · have b : lbv c i = _ := if_neg q
      simp [m1, m2, d1, d2, q, e, ln, arrD, cc]
      refine ⟨pre_set p (by omega), ?_⟩
      rw [r_set e, ← app_rng, b]
  · subst es
    have cc := gc' (fns := fns) (sub := sub) (g_lratio (k := k) hF (c.fdiv 11)) H
    simp [e, d11, arrD, cc, vv_vec, p]
def negF (f : Nat → Rat) : Nat → Rat := fun i => -1 * f i
theorem neg_sz {q : Rat} {n : Nat} (s : Qn n q) : Qn n (-1 * q) := by
  have e : (-1 : Rat) * q = -q := by rw [Rat.neg_mul, Rat.one_mul]
  rw [e]
  exact ⟨s.1.neg, s.2⟩
theorem rv_neg1 : rv (-1) = .tup [.int (-1), .int 1] := rfl
theorem put {H' : Hd} {i n : Nat} {r : Nat → Nat → Rat} {l : Nat → Rat} {v : Nat → Rat} {q : Rat} (hr : Rows r l) (sv : Qf 20 v) (sq : Qn 20 q) (p : h <+: H') (e : lstAt H' h.length = some ((List.range i).map (bvF n r l))) :
    h <+: H'.set h.length (.lst ((List.range i).map (bvF n r l) ++ [.tup [vv (vec n v), rv q]])) ∧ ∃ r' l', Rows r' l' ∧ lstAt (H'.set h.length (.lst ((List.range i).map (bvF n r l) ++ [.tup [vv (vec n v), rv q]]))) h.length = some ((List.range (i + 1)).map (bvF n r' l')) := by
  refine ⟨pre_set p (Nat.le_refl _), fun t => if t = i then v else r t, fun t => if t = i then q else l t, ⟨fun t => ?_, fun t => ?_⟩, ?_⟩
  · show Qf 20 (if t = i then v else r t)
    split
    · exact sv
    · exact hr.1 t
  · show Qn 20 (if t = i then q else l t)
    split
    · exact sq
    · exact hr.2 t
  · rw [r_set e, ← app_rng]
    congr 2
    · apply List.map_congr_left
      intro t ht
      have : ¬ t = i := by have := List.mem_range.mp ht; omega
      simp [bvF, this]
    · simp [bvF]
/-- the drawn system: a new list of bounds -/
theorem e_lsystem (hF : 2 ^ 8900 ≤ fuel) {ns : List Int} (hns : Ints ns) {n : Nat} (hn : n ≤ 4) : WpE (callI fns sub fuel (k + 4) 26 [.fl (ns.map .int), .int (n : Int), .int 6] h) (fun d H => h <+: H ∧ ∃ t, d = .ref t ∧ ∃ m r l, m ≤ 6 ∧ Rows r l ∧ lstAt H t = some ((List.range m).map (bvF n r l))) noX := by
  obtain ⟨m, hm, em⟩ := fmod_n (cellI ns 1) (m := 7) (by decide)
  have em : (cellI ns 1).fmod 7 = (m : Int) := em
  refine lisW (np := 3) (nn := 9) (code := c__law_system) rfl rfl ?_
  have n0 : decide ((0 : Nat) ≤ line) = true := by decide
  have cl := fun j H => gc' (fns := fns) (sub := sub) (g_cell (fuel := fuel) (k := k + 2) ns j) H
  have c1 := fun H => cl 1 H
  simp only [Int.natCast_one] at c1
  simp [c__law_system, startD, n0, arrD, c1, em, rngV_k (show (m : Int) = (m : Nat) from rfl) (show m ≤ 1000000 by omega)]
  refine WpS_rng m (fun i s H => ∃ x4 x5 x6 x7 x8 : Option D, s = [some (.fl (ns.map .int)), some (.int (n : Int)), some (.int 6), some (.ref h.length), x4, x5, x6, x7, x8] ∧ h <+: H ∧ ∃ r l, Rows r l ∧ lstAt H h.length = some ((List.range i).map (bvF n r l))) ?_ (fun i hi s H ⟨x4, x5, x6, x7, x8, es, p, r, l, hr, e⟩ => ?_) fun s H ⟨x4, x5, x6, x7, x8, es, p, r, l, hr, e⟩ => ?_
  · refine ⟨none, none, none, none, none, rfl, List.prefix_append _ _, fun _ _ => 0, fun _ => 0, ⟨fun _ _ => Qn.zero (by decide), fun _ => Qn.zero (by decide)⟩, ?_⟩
    simp
  · subst es
    refine ⟨[some (.fl (ns.map .int)), some (.int (n : Int)), some (.int 6), some (.ref h.length), some (.int (i : Int)), x5, x6, x7, x8], by simp, ?_⟩
    have e2 : (2 : Int) + i = ((2 + i : Nat) : Int) := by omega
    have c2 := cl (2 + i) H
    rw [← e2] at c2
    have c3 := gc' (fns := fns) (sub := sub) (g_rich (fuel := fuel) (k := k + 2) (cell_sz hns (2 + i)) (show i ≤ 1000 by omega)) H
    generalize richI (cellI ns (2 + i)) i = c at *
    have d4 := div_ok (j := 4) c (by decide) (by decide)
    have c4 := gc' (fns := fns) (sub := sub) (g_lbound (k := k) hF hn (c.fdiv 4)) H
    have ln : i < 16777216 := by omega
    have z : (D.tup [.int 0, .int 1]) = rv 0 := rfl
    by_cases q0 : c.fmod 4 = 0
    · by_cases qi : 0 < i
      · obtain ⟨t, ht, et⟩ := fmod_n (c.fdiv 4) (m := i) qi
        have i0 : ¬ (i : Int) = 0 := by omega
        have i1 : ¬ i = 0 := by omega
        simp [arrD, c2, c3, d4, c4, q0, e, qi, i0, i1, et, at_rng ht, bvF, walk_vec]
        refine WpE_lc (List.range n) (fun j => rv (r t j)) (fun j => rv (-1 * r t j)) rfl (by simp; omega) (fun _ _ => rfl) (fun j hj => ⟨_, by simp [wipeD]; rfl, fun H' p' => ⟨rfl, ?_⟩⟩) fun H' p' => ?_
        · have c5 := gc' (fns := fns) (sub := sub) (g_lmul (k := k + 1) hF (p := -1) (q := r t j) (n := 20) ⟨by unfold Sz; decide, by unfold Sz; decide⟩ (hr.1 t j) (by decide)) H'
          rw [rv_neg1] at c5
          simp [arrD, c5]
        · have c5 := gc' (fns := fns) (sub := sub) (g_lmul (k := k + 1) hF (p := -1) (q := l t) (n := 20) ⟨by unfold Sz; decide, by unfold Sz; decide⟩ (hr.2 t) (by decide)) (H' ++ [.lst ((List.range n).map fun j => rv (-1 * r t j))])
          rw [rv_neg1] at c5
          have e' := lst_pre e (pre_app (l := [.lst ((List.range n).map fun j => rv (-1 * r t j))]) p')
          have pt := put (n := n) (i := i) (v := fun j => -1 * r t j) (q := -1 * l t) hr (fun j => neg_sz (hr.1 t j)) (neg_sz (hr.2 t)) (p.trans (pre_app (l := [.lst ((List.range n).map fun j => rv (-1 * r t j))]) p')) e'
          simp [arrD, c5, vv_vec, q0, e', ln]
          exact pt
      · simp [arrD, c2, c3, d4, c4, q0, e, qi, ln]
        exact put hr (lbv_sz _) ((lrat_sz _).mono (by decide)) p e
    · by_cases q1 : c.fmod 4 = 1
      · simp [arrD, c2, c3, d4, c4, q1, e, ln, z]
        exact put hr (lbv_sz _) (Qn.zero (by decide)) p e
      · simp [arrD, c2, c3, d4, c4, q0, q1, e, ln]
        exact put hr (lbv_sz _) ((lrat_sz _).mono (by decide)) p e
  · subst es
    simp [p, D.lt, e]
    exact ⟨m, by omega, r, l, hr, rfl⟩
end K18
/-! K18h: odd values. -/
namespace K18
open PySem PV
variable {fuel k : Nat} {h : Hd}
theorem lst_back {H : Hd} (p : h <+: H) {t : Nat} (l : t < h.length) : lstAt H t = lstAt h t := by
  obtain ⟨r, rfl⟩ := p
  unfold lstAt
  rw [List.getElem?_append_left l]
def oddL (t : Nat) : List D := [.non, .tup [], .tup [.int 1, .int 1], .tup [.int 2, .int 4], .tup [.int 1, .int 0], .tup [.int 1, .int (-1)], .tup [.bl true, .int 1], .tup [.int 1, .int 2, .int 3], .ref t, .str "1/2", .int 1]
def oddF : List D := [.non, .tup [], .tup [.int 1, .int 1], .tup [.int 2, .int 4], .tup [.int 1, .int 0], .tup [.int 1, .int (-1)], .tup [.bl true, .int 1], .tup [.int 1, .int 2, .int 3], .str "1/2", .int 1]
def OddP (H : Hd) (d : D) : Prop := d ∈ oddF ∨ ∃ t, d = .ref t ∧ (lstAt H t).isSome = true
/-- what an odd value of xs is -/
inductive Odd (H : Hd) (xs : List D) : D → Prop
  | less : Odd H xs (.tup (cut xs none (some (-1))))
  | more : Odd H xs (.tup (xs ++ [.tup [.int 0, .int 1]]))
  | first (d : D) (hd : OddP H d) : Odd H xs (.tup (d :: cut xs (some 1) none))
  | list (n : Nat) (e : lstAt H n = some xs) : Odd H xs (.ref n)
  | one (d : D) (hd : OddP H d) : Odd H xs d
  | same : Odd H xs (.tup xs)
theorem OddP.back {H : Hd} {d : D} (p : h <+: H) (o : OddP H d) (l : D.lt h.length d = true) : OddP h d := by
  rcases o with o | ⟨t, rfl, e⟩
  · exact .inl o
  · refine .inr ⟨t, rfl, ?_⟩
    have l : t < h.length := by simpa [D.lt] using l
    rw [← lst_back p l]
    exact e
theorem Odd.back {H : Hd} {xs : List D} {d : D} (p : h <+: H) (o : Odd H xs d) (l : D.lt h.length d = true) : Odd h xs d := by
  cases o with
  | less => exact .less
  | more => exact .more
  | same => exact .same
  | first d hd => exact .first d (hd.back p (by simp [D.lt, D.lts] at l; exact l.1))
  | one d hd => exact .one d (hd.back p l)
  | list n e =>
    have l : n < h.length := by simpa [D.lt] using l
    exact .list n (by rw [← lst_back p l]; exact e)
theorem cut_len {α : Type} (xs : List α) (lo hi : Option Int) : (cut xs lo hi).length ≤ xs.length := by
  unfold cut
  simp
  omega
theorem e_lodd {xs : List D} (hl : xs.length ≤ 1000) (c : Int) : WpE (callI fns sub fuel (k + 1) 31 [.tup xs, .int c] h) (fun d H => h <+: H ∧ Odd H xs d) noX := by
  refine lisW (np := 2) (nn := 5) (code := c__law_odd) rfl rfl ?_
  obtain ⟨j, hj, ej⟩ := fmod_n (c.fdiv 8) (m := 11) (by decide)
  have ej : (c.fdiv 8).fmod 11 = (j : Int) := ej
  obtain ⟨one, ho, eo⟩ : ∃ one, one ∈ oddL h.length ∧ L2.atI (oddL h.length) ((c.fdiv 8).fmod 11) = some one := by
    rw [ej, at_n (show j < (oddL h.length).length from hj)]
    exact ⟨_, List.getElem_mem _, rfl⟩
  have eo : L2.atI ([.non, .tup [], .tup [.int 1, .int 1], .tup [.int 2, .int 4], .tup [.int 1, .int 0], .tup [.int 1, .int (-1)], .tup [.bl true, .int 1], .tup [.int 1, .int 2, .int 3], .ref h.length, .str "1/2", .int 1] : List D) ((c.fdiv 8).fmod 11) = some one := eo
  have n0 : decide ((0 : Nat) ≤ line) = true := by decide
  have n11 : decide ((11 : Nat) ≤ line) = true := by decide
  have n1 : decide ((1 : Nat) ≤ line) = true := by decide
  have d8 := div_ok (j := 8) c (by decide) (by decide)
  have l1 : decide (xs.length + 1 ≤ line) = true := decide_eq_true (line_ok (by omega))
  have l2 : 1 + (cut xs (some 1) none).length ≤ 16777216 := by have := cut_len xs (some 1) none; omega
  have op : ∀ l, OddP (h ++ (.lst [.int 1, .int 1] :: l)) one := fun l => by
    simp [oddL] at ho
    rcases ho with rfl | rfl | rfl | rfl | rfl | rfl | rfl | rfl | rfl | rfl | rfl
    · exact .inl (by simp [oddF])
    · exact .inl (by simp [oddF])
    · exact .inl (by simp [oddF])
    · exact .inl (by simp [oddF])
    · exact .inl (by simp [oddF])
    · exact .inl (by simp [oddF])
    · exact .inl (by simp [oddF])
    · exact .inl (by simp [oddF])
    · exact .inr ⟨h.length, rfl, by rw [lst_off0]; rfl⟩
    · exact .inl (by simp [oddF])
    · exact .inl (by simp [oddF])
  have fin : ∀ (d : D) (H : Hd), h <+: H → Odd H xs d → h <+: H ∧ (D.lt h.length d = true → h <+: h ∧ Odd h xs d) ∧ (D.lt h.length d = false → h <+: H ∧ Odd H xs d) := fun d H p o => ⟨p, fun l => ⟨List.prefix_refl _, o.back p l⟩, fun _ => ⟨p, o⟩⟩
  generalize hQ : (fun (d : D) (h' : Hd) => h <+: h' ∧ (D.lt h.length d = true → h <+: h ∧ Odd h xs d) ∧ (D.lt h.length d = false → h <+: h' ∧ Odd h' xs d)) = Q
  have fin : ∀ (d : D) (l : Hd), Odd (h ++ l) xs d → Q d (h ++ l) := fun d l o => by
    rw [← hQ]
    exact fin d _ (List.prefix_append _ _) o
  simp only [c__law_odd, startD, List.map_cons, List.map_nil, List.length_cons, List.length_nil, List.replicate, List.cons_append, List.nil_append]
  by_cases q0 : c.fmod 8 = 0
  · simp [n0, n11, n1, d8, eo, q0]
    exact fin _ _ .less
  · by_cases q1 : c.fmod 8 = 1
    · simp [n0, n11, n1, d8, eo, q1, l1]
      exact fin _ _ .more
    · by_cases q2 : c.fmod 8 = 2
      · by_cases q3 : 0 < xs.length
        · simp [n0, n11, n1, d8, eo, q2, q3, l2]
          exact fin _ _ (.first _ (op _))
        · simp [n0, n11, n1, d8, eo, q2, q3]
          exact fin _ _ .same
      · by_cases q3 : c.fmod 8 = 3
        · simp [n0, n11, n1, d8, eo, q3]
          exact fin _ _ (.list _ (by simp))
        · by_cases q4 : c.fmod 8 = 4
          · simp [n0, n11, n1, d8, eo, q4]
            exact fin _ _ (.one _ (op _))
          · simp [n0, n11, n1, d8, eo, q0, q1, q2, q3, q4]
            exact fin _ _ .same
/-! ### what may be asked of odd values -/
theorem ask_int (H : Hd) (i : Int) : Ask H (.int i) := ⟨⟨fun n e => (by cases e), fun xs e => (by cases e)⟩, fun a b e => (by cases e)⟩
theorem ask_bl (H : Hd) (i : Bool) : Ask H (.bl i) := ⟨⟨fun n e => (by cases e), fun xs e => (by cases e)⟩, fun a b e => (by cases e)⟩
theorem odd_ask {H : Hd} {d : D} (o : OddP H d) : Ask H d := by
  rcases o with o | ⟨t, rfl, e⟩
  · refine ⟨⟨fun n e => ?_, fun xs e y hy => ?_⟩, fun a b e => ?_⟩
    · subst e
      simp [oddF] at o
    · subst e
      simp [oddF] at o
      rcases o with rfl | rfl | rfl | rfl | rfl | rfl | rfl
      all_goals simp at hy
      all_goals (first | (rcases hy with rfl | rfl | rfl <;> rfl) | (rcases hy with rfl | rfl <;> rfl) | (subst hy; rfl))
    · subst e
      simp [oddF] at o
      unfold Sz
      omega
  · exact ⟨⟨fun n e' => by injection e' with e'; subst e'; exact e, fun xs e => (by cases e)⟩, fun a b e => (by cases e)⟩
theorem odd_ask2 {H : Hd} {d : D} (o : OddP H d) : Ask2 H d := by
  rcases o with o | ⟨t, rfl, e⟩
  · refine ⟨fun n e => ?_, fun xs e => ?_⟩
    · subst e
      simp [oddF] at o
    · subst e
      simp [oddF] at o
      rcases o with rfl | rfl | rfl | rfl | rfl | rfl | rfl
      all_goals refine ⟨by simp, fun y hy => ?_⟩
      all_goals simp at hy
      all_goals (first | (rcases hy with rfl | rfl | rfl <;> first | exact ask_int _ _ | exact ask_bl _ _) | (rcases hy with rfl | rfl <;> first | exact ask_int _ _ | exact ask_bl _ _) | (subst hy; exact ask_int _ _))
  · exact ⟨fun n e' => by injection e' with e'; subst e'; exact e, fun xs e => (by cases e)⟩
theorem ask2_int (H : Hd) (i : Int) : Ask2 H (.int i) := ⟨fun n e => (by cases e), fun xs e => (by cases e)⟩
theorem ask2_bl (H : Hd) (i : Bool) : Ask2 H (.bl i) := ⟨fun n e => (by cases e), fun xs e => (by cases e)⟩
theorem odd_bk {H : Hd} {d : D} (o : OddP H d) : Bk H d := by
  rcases o with o | ⟨t, rfl, e⟩
  · refine ⟨⟨fun n e => ?_, fun v r e => ?_⟩, fun v q e => ?_⟩
    · subst e
      simp [oddF] at o
    · subst e
      simp [oddF] at o
      rcases o with ⟨rfl, rfl⟩ | ⟨rfl, rfl⟩ | ⟨rfl, rfl⟩ | ⟨rfl, rfl⟩ | ⟨rfl, rfl⟩
      all_goals exact ⟨by first | exact ask2_int _ _ | exact ask2_bl _ _, ask_int _ _⟩
    · subst e
      simp [oddF, rv] at o
  · exact ⟨⟨fun n e' => by injection e' with e'; subst e'; exact e, fun v r e => (by cases e)⟩, fun v q e => (by cases e)⟩
theorem odd_q {H : Hd} {q : Rat} (o : OddP H (rv q)) : Qn 20 q := by
  rcases o with o | ⟨t, e, _⟩
  · simp [oddF, rv] at o
    unfold Qn Sz
    omega
  · cases e
theorem odd_mk {H : Hd} {d : D} (o : OddP H d) : Mk H d := by
  refine ⟨odd_ask2 o, fun v e q hq => ?_⟩
  subst e
  rcases o with o | ⟨t, e, _⟩
  · match v, hq with
    | [a], hq => simp [oddF, vv, rv] at o
    | [a, b], hq => simp [oddF, vv, rv] at o
    | [a, b, c], hq => simp [oddF, vv, rv] at o
    | a :: b :: c :: d :: v, hq => simp [oddF, vv, rv] at o
  · cases e
theorem cut_map' {α β : Type} (f : α → β) (xs : List α) (lo hi : Option Int) : cut (xs.map f) lo hi = (cut xs lo hi).map f := by
  unfold cut
  rw [List.length_map, List.map_take, List.map_drop]
theorem cut_mem {α : Type} {xs : List α} {lo hi : Option Int} {x : α} (hx : x ∈ cut xs lo hi) : x ∈ xs := by
  unfold cut at hx
  exact List.mem_of_mem_drop (List.mem_of_mem_take hx)
theorem vv_inj {v w : List Rat} (e : vv v = vv w) : v = w := by
  have := eqD_vv v w
  rw [e] at this
  have r := eqD_vv w w
  rw [r] at this
  simpa using this
theorem mk_vv {H : Hd} {v : List Rat} (hl : v.length ≤ 1000) (hv : ∀ q ∈ v, Qn 20 q) : Mk H (vv v) := ⟨ask_vv hl fun q hq => (hv q hq).mono (by decide), fun w e q hq => by
  have := vv_inj e
  subst this
  exact hv q hq⟩
theorem odd_mul {H : Hd} {v : List Rat} {d : D} (hl : v.length ≤ 900) (hv : ∀ q ∈ v, Qn 20 q) (o : Odd H (v.map rv) d) : Mk H d := by
  cases o with
  | less =>
    rw [cut_map']
    exact mk_vv (by have := cut_len v none (some (-1)); omega) fun q hq => hv q (cut_mem hq)
  | more =>
    have e : D.tup (v.map rv ++ [.tup [.int 0, .int 1]]) = vv (v ++ [0]) := by simp [vv, rv_zero]
    rw [e]
    refine mk_vv (by simp; omega) fun q hq => ?_
    rcases List.mem_append.mp hq with z | z
    · exact hv q z
    · simp at z
      subst z
      exact Qn.zero (by decide)
  | same => exact mk_vv (by omega) hv
  | one d hd => exact odd_mk hd
  | list n e => exact ⟨⟨fun m e' => by injection e' with e'; subst e'; rw [e]; rfl, fun xs e => (by cases e)⟩, fun w e => (by cases e)⟩
  | first d hd =>
    rw [cut_map']
    have cl := cut_len v (some 1) none
    refine ⟨⟨fun n e => (by cases e), fun xs e => ?_⟩, fun w e q hq => ?_⟩
    · injection e with e
      subst e
      refine ⟨by simp; omega, fun y hy => ?_⟩
      rcases List.mem_cons.mp hy with rfl | hy
      · exact odd_ask hd
      · obtain ⟨q, hq, rfl⟩ := List.mem_map.mp hy
        exact ask_rv ((hv q (cut_mem hq)).mono (by decide))
    · match w, hq with
      | a :: w, hq =>
        unfold vv at e
        injection e with e
        rw [List.map_cons] at e
        injection e with e1 e2
        have e2 : vv (cut v (some 1) none) = vv w := by unfold vv; rw [e2]
        have e2 := vv_inj e2
        subst e1 e2
        rcases List.mem_cons.mp hq with rfl | hq
        · exact odd_q hd
        · exact hv q (cut_mem hq)
theorem rv_inj {p q : Rat} (e : rv p = rv q) : p = q := by
  have := eqD_rv p q
  rw [e] at this
  have r := eqD_rv q q
  rw [r] at this
  simpa using this
theorem bk_pair {H : Hd} {v : D} {q : Rat} (a : Ask2 H v) (hq : Qn 400 q) : Bk H (.tup [v, rv q]) := ⟨ask_pair a (ask_rv (hq.mono (by decide))), fun v' q' e => by
  injection e with e
  injection e with _ e
  injection e with e _
  rw [← rv_inj e]
  exact hq⟩
theorem odd_bound {H : Hd} {n : Nat} {f : Nat → Rat} {q : Rat} {d : D} (hn : n ≤ 900) (hf : Qf 400 f) (hq : Qn 400 q) (o : Odd H [vv (vec n f), rv q] d) : Bk H d := by
  have long : ∀ xs : List D, xs.length ≠ 2 → Bk H (.tup xs) := fun xs hx => ⟨⟨fun n e => (by cases e), fun v r e => (by injection e with e; subst e; exact absurd rfl hx)⟩, fun v r e => (by injection e with e; subst e; exact absurd rfl hx)⟩
  cases o with
  | less => exact long _ (by simp [cut, HT.sIx])
  | more => exact long _ (by simp)
  | same => exact bk_pair (ask_vec (by omega) (hf.mono (by decide))) hq
  | one d hd => exact odd_bk hd
  | list n e => exact ⟨⟨fun m e' => by injection e' with e'; subst e'; rw [e]; rfl, fun v r e => (by cases e)⟩, fun v q e => (by cases e)⟩
  | first d hd =>
    have e : cut [vv (vec n f), rv q] (some 1) none = [rv q] := by simp [cut, HT.sIx]
    rw [e]
    exact bk_pair (odd_ask2 hd) hq
end K18
/-! K18i: a turn of the law. -/
namespace K18
open PySem PV
variable {fuel k : Nat} {h : Hd}
def bodyL : QSs := match c_law with
  | .cons _ (.cons _ (.cons _ (.cons _ (.cons _ (.cons _ (.cons _ (.cons (.for _ _ b) _))))))) => b
  | _ => .nil
theorem sh_res (ρ : Res) : Sh 0 ρ.str := by
  cases ρ
  · exact fun h => ⟨by simp only [Res.str, toPy, PyData.canLay0]; decide +kernel, by simp [Res.str, toPy, PyData.depth]⟩
  · exact fun h => ⟨by simp only [Res.str, toPy, PyData.canLay0]; decide +kernel, by simp [Res.str, toPy, PyData.depth]⟩
  · exact fun h => ⟨by simp only [Res.str, toPy, PyData.canLay0]; decide +kernel, by simp [Res.str, toPy, PyData.depth]⟩
theorem eqD_res (ρ : Res) : eqD ρ.str ρ.str = true := by
  cases ρ <;> simp [Res.str]
theorem eq_res (ρ : Res) (h : Hd) : eqV h ρ.str ρ.str = some true := by rw [eqV_sh (sh_res ρ) (sh_res ρ) (by decide) (by decide), eqD_res]
theorem sh_sum (m n : Nat) (r : Nat → Nat → Rat) (l f : Nat → Rat) : Sh 3 (sumD m n r l f) := sh_pair (sh_vv _) (sh_rv _) (by decide) (by decide)
theorem eq_sum (m n : Nat) (r : Nat → Nat → Rat) (l f : Nat → Rat) (h : Hd) : eqV h (sumD m n r l f) (sumD m n r l f) = some true := by
  rw [eqV_sh (sh_sum m n r l f) (sh_sum m n r l f) (by decide) (by decide)]
  simp [sumD]
theorem sum_is (m n : Nat) (r : Nat → Nat → Rat) (l f : Nat → Rat) : sumD m n r l f = .tup [vv (vec n fun j => sumN (fun i => f i * r i j) m), rv (sumN (fun i => f i * l i) m)] := rfl
def turnI (h0 : Hd) (ns : List Int) (m n : Nat) (r : Nat → Nat → Rat) (l : Nat → Rat) (c : Int) (drawn : D) (kf : Nat → Rat) (pair : D) (s : Sl) (H : Hd) : Prop := ∃ x4 x6 x9 x10 x11 x12 x13 x14 : Option D, s = [some (.fl (ns.map .int)), some (.int (n : Int)), some (rowsD m n r l), some (.int c), x4, some drawn, x6, some (vv (vec m kf)), some pair, x9, x10, x11, x12, x13, x14] ∧ h0 <+: H
def lim (c : Int) : Rat := ([0, Rat.divInt (-1) 5, Rat.divInt 1 3] : List Rat).getD ((c.fdiv 343).fmod 3).toNat 0
theorem lim_sz (c : Int) : Qn 20 (lim c) := by
  unfold lim
  obtain ⟨j, hj, e⟩ := fmod_n (c.fdiv 343) (m := 3) (by decide)
  have e : (c.fdiv 343).fmod 3 = (j : Int) := e
  rw [e, Int.toNat_natCast]
  match j, hj with
  | 0, _ => exact Qn.zero (by decide)
  | 1, _ => exact Qn.divInt (a := -1) (b := 5) (n := 20) (by decide) (by unfold Sz; decide) (by unfold Sz; decide)
  | 2, _ => exact Qn.divInt (a := 1) (b := 3) (n := 20) (by decide) (by unfold Sz; decide) (by unfold Sz; decide)
theorem lim_at (c : Int) : L2.atI ([.tup [.int 0, .int 1], .tup [.int (-1), .int 5], .tup [.int 1, .int 3]] : List D) ((c.fdiv 343).fmod 3) = some (rv (lim c)) := by
  unfold lim
  obtain ⟨j, hj, e⟩ := fmod_n (c.fdiv 343) (m := 3) (by decide)
  have e : (c.fdiv 343).fmod 3 = (j : Int) := e
  rw [e, Int.toNat_natCast, at_n (by simpa using hj)]
  match j, hj with
  | 0, _ => rfl
  | 1, _ =>
    show some (D.tup [.int (-1), .int 5]) = some (rv (Rat.divInt (-1) 5))
    rw [eq_ratio (by decide) (by decide)]
  | 2, _ =>
    show some (D.tup [.int 1, .int 3]) = some (rv (Rat.divInt 1 3))
    rw [eq_ratio (by decide) (by decide)]
theorem turn_ok (hF : 2 ^ 8900 ≤ fuel) {ns : List Int} {m n : Nat} {r : Nat → Nat → Rat} {l kf : Nat → Rat} {c : Int} {drawn pair x : D} {h0 : Hd} (hr : Rows r l) (hm : m ≤ 6) (hn : n ≤ 3) (hk : Qf 20 kf) {H : Hd} (p : h0 <+: H) (hx : Mk h0 x) (R : D → Hd → Prop) (x4 x6 x10 x11 x12 x13 x14 : Option D) :
    WpS (exSs (F fuel (k + 7)) bodyL [some (.fl (ns.map .int)), some (.int (n : Int)), some (rowsD m n r l), some (.int c), x4, some drawn, x6, some (vv (vec m kf)), some pair, some x, x10, x11, x12, x13, x14] H) ⟨turnI h0 ns m n r l c drawn kf pair, R, noS, turnI h0 ns m n r l c drawn kf pair, fun _ _ _ => False⟩ := by
  have mkx : ∀ {H' : Hd}, h0 <+: H' → Mk H' x := fun p' => ⟨hx.1.ext p', hx.2⟩
  have a1 := fun (H' : Hd) (p' : h0 <+: H') => e_are_mul (fuel := fuel) (k := k + 4) (n := m) (mkx p').1
  have a2 := fun (H' : Hd) (p' : h0 <+: H') => e_lare (k := k + 4) (n := m) hF (mkx p').1
  have step1 : ∀ (x6 : Option D) (H' : Hd), h0 <+: H' → WpS (exSs (F fuel (k + 7)) (match bodyL with | .cons _ r => r | _ => .nil) [some (.fl (ns.map .int)), some (.int (n : Int)), some (rowsD m n r l), some (.int c), x4, some drawn, x6, some (vv (vec m kf)), some pair, some x, x10, x11, x12, x13, x14] H') ⟨turnI h0 ns m n r l c drawn kf pair, R, noS, turnI h0 ns m n r l c drawn kf pair, fun _ _ _ => False⟩ := fun x6 H' p' => by
    obtain ⟨ρ, r1, r2⟩ := both_none (fuel := fuel) (k := k) (n := n) hF hr hm (show n ≤ 4 by omega) (mkx p')
    have t0 := e_told0 (b := .non) r1
    have s1 := gc' (fns := fns) (sub := sub) (g_lsummed (k := k + 4) hF hr.1 hr.2 hk hm (show n ≤ 4 by omega)) H'
    have sl : Qn 290 (sumN (fun i => kf i * l i) m) := sum_sz (b := 40) (fun i => (hk i).mul (hr.2 i)) m (by omega)
    have sv : Qf 290 fun j => sumN (fun i => kf i * r i j) m := fun j => sum_sz (b := 40) (fun i => (hk i).mul (hr.1 i j)) m (by omega)
    have d1 := div_ok (j := 343) c (by decide) (by decide)
    have d2 := div_ok (j := 1029) c (by decide) (by decide)
    have d3 := div_ok (j := 4116) c (by decide) (by decide)
    have n3 : decide ((3 : Nat) ≤ line) = true := by decide
    have ad := fun H => gc' (fns := fns) (sub := sub) (g_ladd (k := k + 5) hF sl ((lim_sz c).mono (show 20 ≤ 290 by decide)) (by decide)) H
    simp [bodyL, c_law, arrD, t0, r2, eq_res, s1, sumD, d1, n3, lim_at, ad, d2]
    -- the bound, odd or not
    have step2 : ∀ (b : D) (x6 : Option D) (H2 : Hd), h0 <+: H2 → Bk H2 b → WpS (exSs (F fuel (k + 7)) (match bodyL with | .cons _ (.cons _ (.cons _ (.cons _ (.cons _ r)))) => r | _ => .nil) [some (.fl (ns.map .int)), some (.int (n : Int)), some (rowsD m n r l), some (.int c), x4, some drawn, x6, some (vv (vec m kf)), some pair, some x, some (vv (vec n fun j => sumN (fun i => kf i * r i j) m)), some (rv (sumN (fun i => kf i * l i) m)), some b, x13, x14] H2) ⟨turnI h0 ns m n r l c drawn kf pair, R, noS, turnI h0 ns m n r l c drawn kf pair, fun _ _ _ => False⟩ := fun b x6 H2 p2 hb => by
      obtain ⟨ρ, q1, q2⟩ := both_limit (fuel := fuel) (k := k) (n := n) hF hr hm (show n ≤ 4 by omega) hb (mkx p2)
      have t1 := e_told1 q1
      have b1 := e_is_bound (fuel := fuel) (k := k + 3) (n := n) hb.1
      have b2 := e_lis_bound (k := k + 3) (n := n) hF hb.1
      simp [bodyL, c_law, arrD, b1, b2, t1, q2, eq_res]
      exact ⟨x4, x6, _, _, _, _, x13, x14, rfl, p2⟩
    have b0 : ∀ H2 : Hd, Bk H2 (.tup [vv (vec n fun j => sumN (fun i => kf i * r i j) m), rv (sumN (fun i => kf i * l i) m + lim c)]) := fun H2 => bk_pair (ask_vec (by omega) (sv.mono (by decide))) ((sl.add (lim_sz c)).mono (by decide))
    refine WpS_if (fun q => ?_) (fun q => ?_)
    · simp [arrD, d3]
      refine WpE_mono (e_lodd (fuel := fuel) (k := k + 6) (by simp) (c.fdiv 4116)) (fun b H2 ⟨p2, o⟩ => ?_) (fun _ _ f => f.elim)
      have hb := odd_bound (by omega) (sv.mono (by decide)) ((sl.add (lim_sz c)).mono (by decide)) o
      have := step2 b x6 H2 ((pre_app p').trans p2) hb
      simp [bodyL, c_law] at this ⊢
      exact this
    · have := step2 _ x6 (H' ++ [.lst [.tup [.int 0, .int 1], .tup [.int (-1), .int 5], .tup [.int 1, .int 3]]]) (pre_app p') (b0 _)
      simp [bodyL, c_law] at this ⊢
      exact this
  have z1 := a1 H p
  have z2 := a2 H p
  cases q : vecB m x with
  | false =>
    have q2 : mulB m x = false := by
      cases w : mulB m x with
      | false => rfl
      | true => rw [mul_vecB w] at q; cases q
    have := step1 x6 H p
    simp [bodyL, c_law, arrD, len_rows] at this
    simp [bodyL, c_law, arrD, len_rows, z1, z2, q, q2]
    exact this
  | true =>
    obtain ⟨f, rfl, hf⟩ := hx.vec q
    have q2 := mul_vec m f
    rw [q2] at z1
    simp [bodyL, c_law, arrD, len_rows, z1, z2, q, walk_vec]
    refine WpE_lc (List.range m) (fun i => rv (f i)) (fun i => .bl (decide (0 ≤ f i))) rfl (by simp; omega) (fun _ _ => rfl) (fun i hi => ⟨_, by simp [wipeD]; rfl, fun H' p' => ⟨rfl, by simp⟩⟩) fun H' p' => ?_
    have := step1 x6 (H' ++ [.lst ((List.range m).map fun i => .bl (decide (0 ≤ f i)))]) (pre_app (p.trans p'))
    simp [bodyL, c_law, arrD, len_rows] at this
    simp [bodyL, c_law, arrD, len_rows]
    exact this
end K18
/-! K18j: the law. -/
namespace K18
open PySem PV
variable {fuel k : Nat} {h : Hd}
theorem told_sys {x y b : D} {n : Nat} (hx : Ask4 h x) (e : sysB n x = false) (j : Nat) (hj : j < 3) : callI fns sub fuel (k + 7) 32 [.int (j : Int), .int (n : Int), x, b, y] h = .ok (.str "system") h := by
  match j, hj with
  | 0, _ =>
    refine e_told0 (ρ := .system) ?_
    rw [call_eq (np := 3) (nn := 5) (code := c_check_none) rfl rfl]
    have c1 := e_check_system (fuel := fuel) (k := k) (n := n) hx
    rw [e] at c1
    simp [c_check_none, startD, arrD, c1]
  | 1, _ =>
    refine e_told1 (ρ := .system) ?_
    rw [call_eq (np := 4) (nn := 6) (code := c_check_limit) rfl rfl]
    have c1 := e_check_system (fuel := fuel) (k := k) (n := n) hx
    rw [e] at c1
    simp [c_check_limit, startD, arrD, c1]
  | 2, _ =>
    refine e_told2 (ρ := .system) ?_
    have c1 := e_check_system (fuel := fuel) (k := k + 1) (n := n) hx
    rw [e] at c1
    exact c1
def dr (c : Int) (j : Nat) : Rat := ([0, 1, lrat (c.fdiv (3 + j))] : List Rat).getD ((c.fdiv (7 + j)).fmod 3).toNat 0
theorem dr_sz (c : Int) : Qf 20 (dr c) := fun j => by
  unfold dr
  obtain ⟨i, hi, e⟩ := fmod_n (c.fdiv (7 + j)) (m := 3) (by decide)
  have e : (c.fdiv (7 + j)).fmod 3 = (i : Int) := e
  rw [e, Int.toNat_natCast]
  match i, hi with
  | 0, _ => exact Qn.zero (by decide)
  | 1, _ => exact Qn.one (by decide)
  | 2, _ => exact (lrat_sz _).mono (by decide)
theorem dr_at (c : Int) (j : Nat) : L2.atI ([.tup [.int 0, .int 1], .tup [.int 1, .int 1], rv (lrat (c.fdiv (3 + j)))] : List D) ((c.fdiv (7 + j)).fmod 3) = some (rv (dr c j)) := by
  unfold dr
  obtain ⟨i, hi, e⟩ := fmod_n (c.fdiv (7 + j)) (m := 3) (by decide)
  have e : (c.fdiv (7 + j)).fmod 3 = (i : Int) := e
  rw [e, Int.toNat_natCast, at_n (by simpa using hi)]
  match i, hi with
  | 0, _ => rfl
  | 1, _ => rfl
  | 2, _ => rfl
def kp (c : Int) (j : Nat) : Rat := if 0 ≤ dr c j then dr c j else -dr c j
theorem kp_sz (c : Int) : Qf 20 (kp c) := fun j => by
  unfold kp
  split
  · exact dr_sz c j
  · exact ⟨(dr_sz c j).1.neg, (dr_sz c j).2⟩
theorem rv_neg (q : Rat) : D.tup [.int (-q.num), .int (q.den : Int)] = rv (-q) := rfl
def pr (c : Int) (j : Nat) : Rat := if L2.inV (.int j) [.int (c.fmod 7), .int ((c.fdiv 7).fmod 7)] then 1 else 0
theorem pr_sz (c : Int) : Qf 20 (pr c) := fun j => by
  unfold pr
  split
  · exact Qn.one (by decide)
  · exact Qn.zero (by decide)
theorem in_ref {H : Hd} {t : Nat} {a b x : Int} (e : lstAt H t = some [.int a, .int b]) : PV.inV H (.int x) (.ref t) = some (L2.inV (.int x) [.int a, .int b]) := by
  show (match lstAt H t with
    | some xs => if flatD (.int x) && xs.all flatD then some (L2.inV (toV (.int x)) (xs.map toV)) else none
    | none => none) = _
  rw [e]
  rfl
def lastL : QSs := match c_law with
  | .cons _ (.cons _ (.cons _ (.cons _ (.cons _ (.cons _ (.cons _ (.cons _ (.cons _ r)))))))) => r
  | _ => .nil
theorem sh_str (ρ : Res) : Sh 0 ρ.str := sh_res ρ
theorem Ask4.ext {x : D} {H : Hd} (a : Ask4 h x) (p : h <+: H) : Ask4 H x := ⟨fun n e => by
  have := a.1 n e
  cases q : lstAt h n with
  | none => rw [q] at this; cases this
  | some xs => rw [lst_pre q p]; rfl, fun xs e => ⟨(a.2 xs e).1, fun y hy => ((a.2 xs e).2 y hy).ext p⟩⟩
/-- the end: strange systems are refused -/
theorem end_ok {m n : Nat} {r : Nat → Nat → Rat} {l : Nat → Rat} {y kf : D} {H : Hd} (hr : Rows r l) (hm : m ≤ 6) (hn : n ≤ 3) (hy : Ask4 H y) (e : sysB n y = false) (P : Po) (hq : ∀ H', P.rt (.bl true) H') (v0 v3 v4 v5 v6 v8 v9 v10 v11 v12 v14 : Option D) :
    WpS (exSs (F fuel (k + 7)) lastL [v0, some (.int (n : Int)), some (rowsD m n r l), v3, v4, v5, v6, some kf, v8, v9, v10, v11, v12, some y, v14] H) P := by
  have r3 : ∀ H, rngV [.int 3] H = .ok ⟨(List.range 3).map fun j : Nat => .int (j : Int), []⟩ H := fun H => rngV_n (n := 3) (by decide) H
  simp [lastL, c_law, r3]
  refine WpE_lc (List.range 3) (fun j : Nat => .int (j : Int)) (fun j => .str "system") rfl (by decide) (fun _ _ => rfl) (fun j hj => ⟨_, by simp [wipeD]; rfl, fun H' p' => ⟨rfl, ?_⟩⟩) fun H1 p1 => ?_
  · have c := told_sys (fuel := fuel) (k := k) (y := kf) (b := .non) (n := n) (hy.ext p') e j (List.mem_range.mp hj)
    simp [arrD, c]
  · have n1 : decide ((1 : Nat) ≤ line) = true := by decide
    have l3 : (List.range 3).map (fun _ : Nat => D.str "system") = [.str "system", .str "system", .str "system"] := rfl
    have rep : List.replicate 3 (D.str "system") = [.str "system", .str "system", .str "system"] := rfl
    have sy : Sh 0 (D.str "system") := sh_res .system
    have eq := eqV_ref (h := H1 ++ [.lst [.str "system", .str "system", .str "system"], .lst [.str "system"], .lst [.str "system", .str "system", .str "system"]]) (a := H1.length) (b := H1.length + 2) (xs := [.str "system", .str "system", .str "system"]) (ys := [.str "system", .str "system", .str "system"]) (n := 0) (by simp) (by rw [lst_offk]; rfl) (fun x hx => by simp at hx; subst hx; exact sy) (fun x hx => by simp at hx; subst hx; exact sy) (by decide)
    simp [l3, rep, n1]
    rw [eq]
    have c1 := e_check_system (fuel := fuel) (k := k + 1) (n := n) (ask_rows (h := H1 ++ [.lst [.str "system", .str "system", .str "system"], .lst [.str "system"], .lst [.str "system", .str "system", .str "system"]]) (n := n) hr hm (show n ≤ 4 by omega))
    rw [rows_sys] at c1
    have t2 := e_told2 (ρ := .right) (b := .non) (x := kf) c1
    have er := eq_res .right (H1 ++ [.lst [.str "system", .str "system", .str "system"], .lst [.str "system"], .lst [.str "system", .str "system", .str "system"]])
    simp only [Res.str] at t2 er
    simp [arrD, t2, er]
    exact hq _
theorem add_rows (m n : Nat) (r : Nat → Nat → Rat) (l : Nat → Rat) (z : D) (hm : m ≤ 6) (h : Hd) : addV (rowsD m n r l) (.tup [z]) h = .ok (.tup ((List.range m).map (bvF n r l) ++ [z])) h := by
  unfold rowsD
  rw [t_addv, decide_eq_true (line_ok (by simp; omega))]
  rfl
theorem fix_one {H : Hd} {t : Nat} {xs : List D} (e : lstAt H t = some xs) : fixOk H [(t, xs)] = true := by
  unfold fixOk
  rw [e]
  simp [D.beqs_refl, fixOk]
theorem ask_more {m n : Nat} {r : Nat → Nat → Rat} {l : Nat → Rat} {z : D} (hr : Rows r l) (hm : m ≤ 6) (hn : n ≤ 4) (hz : Ask3 h z) : Ask4 h (.tup ((List.range m).map (bvF n r l) ++ [z])) := ⟨fun n e => (by cases e), fun xs e => by
  injection e with e
  subst e
  refine ⟨by simp; omega, fun y hy => ?_⟩
  rcases List.mem_append.mp hy with q | q
  · exact ((ask_rows (h := h) hr hm hn).2 _ rfl).2 y q
  · simp at q
    subst q
    exact hz⟩
theorem sys_more {m n : Nat} {r : Nat → Nat → Rat} {l : Nat → Rat} {z : D} (e : bndB n z = false) : sysB n (.tup ((List.range m).map (bvF n r l) ++ [z])) = false := by
  simp [sysB, e]
theorem e_law (hF : 2 ^ 8900 ≤ fuel) {ns : List Int} (hns : Ints ns) : ∃ h', callI fns sub fuel (k + 8) 36 [.fl (ns.map .int)] [] = .ok (.bl true) h' := by
  refine ⟨[], ?_⟩
  rw [call_eq (np := 1) (nn := 15) (code := c_law) rfl rfl]
  refine fin_gives rfl ?_
  have cl := fun j H => gc' (fns := fns) (sub := sub) (g_cell (fuel := fuel) (k := k + 6) ns j) H
  have cl0 := fun H => cl 0 H
  have cl9 := fun H => cl 9 H
  simp only [Int.natCast_zero] at cl0
  have e9 : ((9 : Nat) : Int) = 9 := rfl
  rw [e9] at cl9
  obtain ⟨n, hn, en⟩ := fmod_n (cellI ns 0) (m := 4) (by decide)
  have en : (cellI ns 0).fmod 4 = (n : Int) := en
  simp only [c_law, startD, List.map_cons, List.map_nil, List.length_cons, List.length_nil, List.replicate, List.cons_append, List.nil_append]
  simp [arrD, cl0, en]
  refine WpE_mono (e_lsystem (fuel := fuel) (k := k + 3) hF hns (show n ≤ 4 by omega)) (fun d H ⟨p, t, ed, m, r, l, hm, hr, e⟩ => ?_) (fun _ _ f => f.elim)
  subst ed
  have rw_ : D.tup ((List.range m).map (bvF n r l)) = rowsD m n r l := rfl
  have c9 := gc' (fns := fns) (sub := sub) (g_rich (fuel := fuel) (k := k + 6) (cell_sz hns 9) (show 31 ≤ 1000 by decide)) H
  have e31 : ((31 : Nat) : Int) = 31 := rfl
  rw [e31] at c9
  generalize richI (cellI ns 9) 31 = c at *
  simp [e, rw_, arrD, cl9, c9, len_rows, rngV_k (show (m : Int) = (m : Nat) from rfl) (show m ≤ 1000000 by omega)]
  have n3 : decide ((3 : Nat) ≤ line) = true := by decide
  -- drawn
  refine WpE_lc (List.range m) (fun j => .int (j : Int)) (fun j => rv (dr c j)) rfl (by simp; omega) (fun _ _ => rfl) (fun j hj => ⟨_, by simp [wipeD]; rfl, fun H' p' => ⟨rfl, ?_⟩⟩) fun H1 p1 => ?_
  · have hj := List.mem_range.mp hj
    have d1 := div_ok (j := 3 + (j : Int)) c (by omega) (by omega)
    have d2 := div_ok (j := 7 + (j : Int)) c (by omega) (by omega)
    have rt := gc' (fns := fns) (sub := sub) (g_lratio (k := k + 5) hF (c.fdiv (3 + j))) H'
    have at_ := dr_at c j
    simp [arrD, d1, d2, rt, n3, at_]
  simp [vv_vec, walk_vec]
  -- kept
  refine WpE_lc (List.range m) (fun j => rv (dr c j)) (fun j => rv (kp c j)) rfl (by simp; omega) (fun _ _ => rfl) (fun j hj => ⟨_, by simp [wipeD]; rfl, fun H' p' => ⟨rfl, ?_⟩⟩) fun H2 p2 => ?_
  · by_cases q : 0 ≤ dr c j
    · simp [q, kp]
    · simp [q, kp, rv_neg]
  have s1 := fun H => gc' (fns := fns) (sub := sub) (g_summed (fuel := fuel) (k := k + 3) hr.1 hr.2 (kp_sz c) hm (show n ≤ 4 by omega)) H
  have s2 := fun H => gc' (fns := fns) (sub := sub) (g_lsummed (k := k + 4) hF hr.1 hr.2 (kp_sz c) hm (show n ≤ 4 by omega)) H
  simp [vv_vec, arrD, s1, s2, eq_sum, len_rows, rngV_k (show (m : Int) = (m : Nat) from rfl) (show m ≤ 1000000 by omega)]
  -- pair
  have d7 := div_ok (j := 7) c (by decide) (by decide)
  refine WpE_lc (List.range m) (fun j => .int (j : Int)) (fun j => rv (pr c j)) rfl (by simp; omega) (fun _ _ => rfl) (fun j hj => ⟨_, by simp [wipeD]; rfl, fun H' p' => ⟨rfl, ?_⟩⟩) fun H3 p3 => ?_
  · have ir : PV.inV (H' ++ [.lst [.int (c.fmod 7), .int ((c.fdiv 7).fmod 7)]]) (.int (j : Int)) (.ref H'.length) = some (L2.inV (.int j) [.int (c.fmod 7), .int ((c.fdiv 7).fmod 7)]) := in_ref (by simp)
    by_cases q : L2.inV (.int j) [.int (c.fmod 7), .int ((c.fdiv 7).fmod 7)] = true
    · simp [d7, ir, q, pr, rv_one]
    · have q : L2.inV (.int j) [.int (c.fmod 7), .int ((c.fdiv 7).fmod 7)] = false := by simpa using q
      simp [d7, ir, q, pr, rv_zero]
  have d49 := div_ok (j := 49) c (by decide) (by decide)
  simp [vv_vec, arrD, d49]
  refine WpE_mono (e_lodd (fuel := fuel) (k := k + 6) (xs := (vec m (kp c)).map rv) (by simp; omega) (c.fdiv 49)) (fun x H4 ⟨p4, o⟩ => ?_) (fun _ _ f => f.elim)
  have mx : Mk H4 x := odd_mul (by simp; omega) (fun q hq => by
    obtain ⟨i, _, rfl⟩ := vec_mem hq
    exact kp_sz c i) o
  have n4 : decide ((4 : Nat) ≤ line) = true := by decide
  have mkv : ∀ {H : Hd} {f : Nat → Rat}, Qf 20 f → Mk H (vv (vec m f)) := fun hf => mk_vv (by simp; omega) fun q hq => by
    obtain ⟨i, _, rfl⟩ := vec_mem hq
    exact hf i
  simp [n4]
  have hall : ∀ y ∈ ([vv (vec m (dr c)), vv (vec m (kp c)), vv (vec m (pr c)), x] : List D), Mk (H4 ++ [.lst [vv (vec m (dr c)), vv (vec m (kp c)), vv (vec m (pr c)), x]]) y := fun y hy => by
    simp at hy
    rcases hy with rfl | rfl | rfl | rfl
    · exact mkv (dr_sz c)
    · exact mkv (kp_sz c)
    · exact mkv (pr_sz c)
    · exact ⟨mx.1.ext (List.prefix_append _ _), mx.2⟩
  refine WpS_for [vv (vec m (dr c)), vv (vec m (kp c)), vv (vec m (pr c)), x] id (fun _ => turnI (H4 ++ [.lst [vv (vec m (dr c)), vv (vec m (kp c)), vv (vec m (pr c)), x]]) ns m n r l c (vv (vec m (dr c))) (kp c) (vv (vec m (pr c)))) rfl ⟨_, _, _, _, _, _, _, _, rfl, List.prefix_refl _⟩ (fun i hi s H5 ⟨x4, x6, x9, x10, x11, x12, x13, x14, es, p5⟩ => ?_) fun s H5 ⟨x4, x6, x9, x10, x11, x12, x13, x14, es, p5⟩ => ?_
  · subst es
    refine ⟨fix_one (lst_pre (by simp) p5), _, bindG_nm _ _ _, ?_⟩
    have t := turn_ok (k := k) (ns := ns) (c := c) (drawn := vv (vec m (dr c))) (pair := vv (vec m (pr c))) hF hr hm (show n ≤ 3 by omega) (kp_sz c) p5 (hall _ (List.getElem_mem hi)) (fun d' h' => d' = .bl true) x4 x6 x10 x11 x12 x13 x14
    refine WpS_mono t (fun _ _ q => q) (fun _ _ q => by simpa using q) (fun _ _ q => q.elim) (fun _ _ q => q) (fun _ _ _ q => q.elim)
  · subst es
    refine ⟨fix_one (lst_pre (by simp) p5), ?_⟩
    have d1 : addV (rowsD m n r l) (.tup [.tup [.int 1, .int 2]]) = fun h => .ok (.tup ((List.range m).map (bvF n r l) ++ [.tup [.int 1, .int 2]])) h := funext fun h => add_rows m n r l _ hm h
    have ln : ∀ H, biV .list [rowsD m n r l] H = newL ((List.range m).map (bvF n r l)) H := fun H => rfl
    have n1 : decide ((1 : Nat) ≤ line) = true := by decide
    have mr : ∀ (z : D) H, mulV (.tup [z]) (.int ((n : Int) + 1)) H = .ok (.tup (List.replicate (n + 1) z)) H := fun z H => by
      have := mul_rep (x := z) (n := n + 1) (by omega) H
      rwa [show ((n + 1 : Nat) : Int) = (n : Int) + 1 from by omega] at this
    have z2 : D.tup (List.replicate (n + 1) (.tup [.int 0, .int 1])) = vv (vec (n + 1) fun _ => 0) := by
      rw [← zero_vec]
      simp [vv, List.map_replicate, rv_zero]
    simp only [beh_nx]
    simp [ln, n1, n4, add_rows m n r l _ hm, mr, z2]
    obtain ⟨j, hj, ej⟩ := fmod_n c (m := 4) (by decide)
    have ej : c.fmod 4 = (j : Int) := ej
    generalize hG : H5 ++ [Cell.lst ((List.range m).map (bvF n r l)), .lst [.ref H5.length, .tup ((List.range m).map (bvF n r l) ++ [.tup [.int 1, .int 2]]), .tup ((List.range m).map (bvF n r l) ++ [.tup [vv (vec (n + 1) fun _ => 0), .tup [.int 0, .int 1]]]), .non]] = G
    obtain ⟨y, a, b, at_⟩ : ∃ y, Ask4 G y ∧ sysB n y = false ∧ L2.atI ([.ref H5.length, .tup ((List.range m).map (bvF n r l) ++ [.tup [.int 1, .int 2]]), .tup ((List.range m).map (bvF n r l) ++ [.tup [vv (vec (n + 1) fun _ => 0), .tup [.int 0, .int 1]]]), .non] : List D) (c.fmod 4) = some y := by
      match j, hj with
      | 0, _ =>
        refine ⟨.ref H5.length, ⟨fun t e => ?_, fun xs e => (by cases e)⟩, rfl, by rw [ej]; rfl⟩
        injection e with e
        rw [← e, ← hG, lst_off0]
        rfl
      | 1, _ =>
        refine ⟨_, ask_more hr hm (show n ≤ 4 by omega) ?_, sys_more rfl, by rw [ej]; rfl⟩
        exact ⟨fun n e => (by cases e), fun v q e => (by
          injection e with e
          injection e with e1 e2
          injection e2 with e2 _
          subst e1 e2
          exact ⟨ask2_int _ _, ask_int _ _⟩)⟩
      | 2, _ =>
        refine ⟨_, ask_more hr hm (show n ≤ 4 by omega) ?_, sys_more ?_, by rw [ej]; rfl⟩
        · exact ask_pair (ask_vec (by omega) fun _ => Qn.zero (by decide)) (ask_rv (q := 0) (Qn.zero (by decide)))
        · have : vecB n (vv (vec (n + 1) fun _ => 0)) = false := by
            rw [← vv_vec]
            simp [vecB]
          simp [bndB, this]
      | 3, _ => exact ⟨.non, ⟨fun t e => (by cases e), fun xs e => (by cases e)⟩, rfl, by rw [ej]; rfl⟩
    rw [at_]
    simp only [idO_some, WpE_ok, KS_, y_asg_, bindG_nm, asgO_some, WpS_nx, beh_nx, List.set_cons_succ, List.set_cons_zero]
    exact end_ok (fuel := fuel) (k := k) hr hm (show n ≤ 3 by omega) a b _ (fun _ => rfl) _ _ _ _ _ _ _ _ _ _ _
end K18
open PySem PySem.W PySem.Calls in
theorem PySem.Challenge.cw_kinkatlas_k18_multipliers_are_judged_holds : PySem.Challenge.rw_kinkatlas_k18_multipliers_are_judged.Holds := by
  refine K18.done (fuel := 2 ^ 8900) (k := 7) ⟨by decide, by decide, by decide⟩ fun ns hl hb => K18.e_law (Nat.le_refl _) fun z hz => PV.sz_bits (hb z hz)
