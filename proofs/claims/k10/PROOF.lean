import PyProof.Rows.All
import Wide.All
import OpenK.AllK
import Wide.FinOn
import HandS.ForMost
import HandS.TupAny
import HandS.TupMul
import HandS.Style
import HandS.SortInts
import HandS.IsInst
import HandS.Conv
import HandS.Walk
import HandS.Zip
import KE.GoesMore
import KE.GoesEnum
import HandS.Flow
import HandS.Comp
import HandS.Strs
import HandS.SetFor
import HandS.Words
import PySem.Challenge.RW_fewcellseach_k10_any_value_as_sizes_fill
set_option Elab.async false
set_option linter.all false
set_option maxRecDepth 100000
set_option maxHeartbeats 4000000
/-! Ev, part A: value trees, the store, the mini-language and its evaluator. -/
namespace Ev
open PySem

/-! ### values -/
inductive TV where
  | non | bl (b : Bool) | int (i : Int) | str (s : Str) | tup (l : List TV) | ref (n : Nat) | fz (l : List TV)
instance : Inhabited TV := ⟨.non⟩
inductive SO where
  | lst (l : List TV) | frz (l : List TV)

/-! ### the store: a binary tree by the place's digits -/
inductive Tr where
  | nil | node (v : Option SO) (l r : Tr)
def Tr.get : Tr → Nat → Option SO
  | .nil, _ => none
  | .node v l r, k => match k with
    | 0 => v
    | k + 1 => bif (k % 2).beq 0 then l.get (k / 2) else r.get (k / 2)
def Tr.set : Nat → Tr → Nat → SO → Tr
  | 0, t, _, _ => t
  | f + 1, t, k, o => match t, k with
    | .nil, 0 => .node (some o) .nil .nil
    | .nil, k + 1 => bif (k % 2).beq 0 then .node none (Tr.set f .nil (k / 2) o) .nil else .node none .nil (Tr.set f .nil (k / 2) o)
    | .node _ l r, 0 => .node (some o) l r
    | .node v l r, k + 1 => bif (k % 2).beq 0 then .node v (Tr.set f l (k / 2) o) r else .node v l (Tr.set f r (k / 2) o)
structure Sto where
  nx : Nat
  t : Tr
def Sto.get (S : Sto) (n : Nat) : Option SO := bif n.blt S.nx then S.t.get n else none
def Sto.set (S : Sto) (n : Nat) (o : SO) : Sto := ⟨S.nx, Tr.set (n + 1) S.t n o⟩
def Sto.push (S : Sto) (o : SO) : Sto := ⟨S.nx + 1, Tr.set (S.nx + 1) S.t S.nx o⟩

theorem Tr.get_set_same : ∀ (f : Nat) (t : Tr) (k : Nat) (o : SO), k < f → (Tr.set f t k o).get k = some o
  | 0, _, _, _, h => absurd h (Nat.not_lt_zero _)
  | f + 1, .nil, 0, o, _ => rfl
  | f + 1, .node _ _ _, 0, o, _ => rfl
  | f + 1, .nil, k + 1, o, h => by
    have h2 : k / 2 < f := by omega
    cases hb : (k % 2).beq 0 with
    | true => simp only [Tr.set, hb, cond_true, Tr.get]; exact Tr.get_set_same f .nil (k / 2) o h2
    | false => simp only [Tr.set, hb, cond_false, Tr.get]; exact Tr.get_set_same f .nil (k / 2) o h2
  | f + 1, .node v l r, k + 1, o, h => by
    have h2 : k / 2 < f := by omega
    cases hb : (k % 2).beq 0 with
    | true => simp only [Tr.set, hb, cond_true, Tr.get]; exact Tr.get_set_same f l (k / 2) o h2
    | false => simp only [Tr.set, hb, cond_false, Tr.get]; exact Tr.get_set_same f r (k / 2) o h2
theorem Tr.get_set_ne : ∀ (f : Nat) (t : Tr) (k j : Nat) (o : SO), j ≠ k → (Tr.set f t k o).get j = t.get j
  | 0, _, _, _, _, _ => rfl
  | f + 1, .nil, 0, j, o, h => by
    cases j with
    | zero => exact absurd rfl h
    | succ j => simp [Tr.set, Tr.get]
  | f + 1, .node _ _ _, 0, j, o, h => by
    cases j with
    | zero => exact absurd rfl h
    | succ j => simp [Tr.set, Tr.get]
  | f + 1, .nil, k + 1, j, o, h => by
    cases j with
    | zero => cases hb : (k % 2).beq 0 <;> simp [Tr.set, hb, Tr.get]
    | succ j =>
      cases hb : (k % 2).beq 0 <;> cases hj : (j % 2).beq 0 <;> simp only [Tr.set, hb, hj, cond_true, cond_false, Tr.get]
      · rw [Tr.get_set_ne f .nil (k / 2) (j / 2) o fun e => by
          have h1 : k % 2 ≠ 0 := fun q => by rw [q] at hb; cases hb
          have h2 : j % 2 ≠ 0 := fun q => by rw [q] at hj; cases hj
          omega]
        rfl
      · rw [Tr.get_set_ne f .nil (k / 2) (j / 2) o fun e => by
          have h1 : k % 2 = 0 := Nat.eq_of_beq_eq_true hb
          have h2 : j % 2 = 0 := Nat.eq_of_beq_eq_true hj
          omega]
        rfl
  | f + 1, .node v l r, k + 1, j, o, h => by
    cases j with
    | zero => cases hb : (k % 2).beq 0 <;> simp [Tr.set, hb, Tr.get]
    | succ j =>
      cases hb : (k % 2).beq 0 <;> cases hj : (j % 2).beq 0 <;> simp only [Tr.set, hb, hj, cond_true, cond_false, Tr.get]
      · rw [Tr.get_set_ne f r (k / 2) (j / 2) o fun e => by
          have h1 : k % 2 ≠ 0 := fun q => by rw [q] at hb; cases hb
          have h2 : j % 2 ≠ 0 := fun q => by rw [q] at hj; cases hj
          omega]
      · rw [Tr.get_set_ne f l (k / 2) (j / 2) o fun e => by
          have h1 : k % 2 = 0 := Nat.eq_of_beq_eq_true hb
          have h2 : j % 2 = 0 := Nat.eq_of_beq_eq_true hj
          omega]
section
variable {S : Sto} {n m : Nat} {o : SO}
theorem Sto.get_eq (h : n < S.nx) : S.get n = S.t.get n := by
  have e : n.blt S.nx = true := Nat.ble_eq_true_of_le h
  unfold Sto.get
  rw [e]
  rfl
theorem Sto.get_none (h : S.nx ≤ n) : S.get n = none := by
  have e : n.blt S.nx = false := by
    cases q : n.blt S.nx with
    | false => rfl
    | true => exact absurd (Nat.le_of_ble_eq_true q) (by omega)
  unfold Sto.get
  rw [e]
  rfl
theorem Sto.lt_of_get (h : S.get n = some o) : n < S.nx := by
  apply Nat.lt_of_not_le
  intro q
  rw [Sto.get_none q] at h
  cases h
theorem Sto.set_nx : (S.set n o).nx = S.nx := rfl
theorem Sto.push_nx : (S.push o).nx = S.nx + 1 := rfl
theorem Sto.get_set_same (h : n < S.nx) : (S.set n o).get n = some o := by
  rw [Sto.get_eq (by exact h)]
  exact Tr.get_set_same _ _ _ _ (Nat.lt_succ_self _)
theorem Sto.get_set_ne (h : m ≠ n) : (S.set n o).get m = S.get m := by
  by_cases q : m < S.nx
  · rw [Sto.get_eq (S := S.set n o) q, Sto.get_eq q]
    exact Tr.get_set_ne _ _ _ _ _ h
  · rw [Sto.get_none (S := S.set n o) (Nat.le_of_not_lt q), Sto.get_none (Nat.le_of_not_lt q)]
theorem Sto.get_push_same : (S.push o).get S.nx = some o := by
  rw [Sto.get_eq (Nat.lt_succ_self _)]
  exact Tr.get_set_same _ _ _ _ (Nat.lt_succ_self _)
theorem Sto.get_push_lt (h : m < S.nx) : (S.push o).get m = S.get m := by
  rw [Sto.get_eq (S := S.push o) (Nat.lt_succ_of_lt h), Sto.get_eq h]
  exact Tr.get_set_ne _ _ _ _ _ (Nat.ne_of_lt h)
theorem Sto.get_push : (S.push o).get m = if m = S.nx then some o else S.get m := by
  by_cases h : m = S.nx
  · rw [if_pos h, h]; exact Sto.get_push_same
  · rw [if_neg h]
    by_cases q : m < S.nx
    · exact Sto.get_push_lt q
    · rw [Sto.get_none (S := S.push o) (by show S.nx + 1 ≤ m; omega), Sto.get_none (by omega)]
end

/-! ### results -/
inductive R (α : Type) where
  | ok (a : α) (S : Sto)
  | err
def R.bind {α β : Type} (r : R α) (f : α → Sto → R β) : R β := match r with
  | .ok a S => f a S
  | .err => .err
@[simp] theorem R.bind_ok {α β : Type} (a : α) (S : Sto) (f : α → Sto → R β) : (R.ok a S).bind f = f a S := rfl
@[simp] theorem R.bind_err {α β : Type} (f : α → Sto → R β) : (R.err : R α).bind f = .err := rfl
theorem R.bind_eq {α β : Type} {r : R α} {f : α → Sto → R β} {b : β} {S' : Sto} (h : r.bind f = .ok b S') : ∃ a S, r = .ok a S ∧ f a S = .ok b S' := by
  cases r with
  | ok a S => exact ⟨a, S, rfl, h⟩
  | err => cases h
def R.of {α : Type} (o : Option α) (S : Sto) : R α := match o with
  | some a => .ok a S
  | none => .err
@[simp] theorem R.of_some {α : Type} (a : α) (S : Sto) : R.of (some a) S = .ok a S := rfl
@[simp] theorem R.of_none {α : Type} (S : Sto) : R.of (none : Option α) S = .err := rfl
theorem R.of_eq {α : Type} {o : Option α} {S S' : Sto} {a : α} (h : R.of o S = .ok a S') : o = some a ∧ S' = S := by
  cases o with
  | none => cases h
  | some b => cases h; exact ⟨rfl, rfl⟩

theorem R.bind_of {α β : Type} {o : Option α} {S S' : Sto} {f : α → Sto → R β} {b : β} (h : (R.of o S).bind f = .ok b S') : ∃ a, o = some a ∧ f a S = .ok b S' := by
  cases o with
  | none => cases h
  | some a => exact ⟨a, rfl, h⟩

/-- a value, or a list that is nobody's yet -/
inductive TW where
  | v (x : TV) | fr (l : List TV)
instance : Inhabited TW := ⟨.v .non⟩
/-- it is given a place -/
def TW.st : TW → Sto → R TV
  | .v x, S => .ok x S
  | .fr l, S => .ok (.ref S.nx) (S.push (.lst l))
@[simp] theorem TW.st_v (x : TV) (S : Sto) : (TW.v x).st S = .ok x S := rfl
@[simp] theorem TW.st_fr (l : List TV) (S : Sto) : (TW.fr l).st S = .ok (.ref S.nx) (S.push (.lst l)) := rfl

abbrev Env := List (Option TV)
abbrev Call := Nat → List TV → Sto → R TW

/-! ### the language -/
inductive BOp where
  | add | sub | mul | fdiv | mod | pow
inductive COp where
  | eq | ne | lt | le | gt | ge | is | isn | inn | nin
inductive Ty where
  | int | bool | str | tuple | list
/-- built-ins called by name -/
inductive BI where
  | len | abs | max2 | min2 | int | divmod | list | tuple | sorted | sum | all | any | set
inductive Mt where
  | append | pop | popAt | extend | index | count
mutual
inductive E where
  | var (i : Nat)
  | c (v : TV)
  | glob (i : Nat)
  | bin (op : BOp) (a b : E)
  | neg (a : E)
  | not (a : E)
  | and (a b : E)
  | or (a b : E)
  | cmp (op : COp) (a b : E)
  | chain (o1 o2 : COp) (a b c : E)
  | ite (t a b : E)
  | call (f : Nat) (as : Es)
  | bi (b : BI) (as : Es)
  | isI (ts : List Ty) (a : E)
  | meth (m : Mt) (o : E) (as : Es)
  | tup (es : Es)
  | lst (es : Es)
  | ix (a b : E)
  | sl (a : E) (lo hi : Oe)
  | rev (a : E)
  | rng (f : BI) (as : Es)
  | sset (a : E)
  | lset (a : E)
  | comp (own : List Nat) (tg : Tg) (it : It) (cs : Es) (e : E)
  | comp2 (own own2 : List Nat) (tg : Tg) (it : It) (cs : Es) (tg2 : Tg) (it2 : It) (cs2 : Es) (e : E)
  | never
inductive Es where
  | nil | cons (e : E) (r : Es)
inductive Oe where
  | no | some (e : E)
inductive It where
  | one (e : E)
  | zip (es : Es)
  | enum (e : E)
  | rng (es : Es)
inductive Tg where
  | var (i : Nat)
  | tup (ts : Tgs)
  | sub (o i : E)
inductive Tgs where
  | nil | cons (t : Tg) (r : Tgs)
end
mutual
inductive St where
  | ex (e : E)
  | asg (t : Tg) (e : E)
  | aug (i : Nat) (op : BOp) (e : E)
  | ret (e : E)
  | retN
  | iff (t : E) (a b : Ss)
  | forr (t : Tg) (it : It) (b : Ss)
  | whil (t : E) (b : Ss)
  | pass | brk | cnt | never
inductive Ss where
  | nil | cons (s : St) (r : Ss)
end

/-! ### by values -/
def seqS (S : Sto) : TW → Option (List TV)
  | .fr l => some l
  | .v (.tup l) => some l
  | .v (.fz l) => some l
  | .v (.ref n) => match S.get n with
    | some (.lst l) => some l
    | some (.frz l) => some l
    | none => none
  | _ => none
/-- a list, not a tuple -/
def lstS (S : Sto) : TW → Option (List TV)
  | .fr l => some l
  | .v (.fz l) => some l
  | .v (.ref n) => match S.get n with
    | some (.lst l) => some l
    | some (.frz l) => some l
    | none => none
  | _ => none
/-- a list that may be written -/
def lstM (S : Sto) : TW → Option (List TV)
  | .fr l => some l
  | .v (.ref n) => match S.get n with
    | some (.lst l) => some l
    | _ => none
  | _ => none
def truth (S : Sto) : TW → Option Bool
  | .fr l => some (!l.isEmpty)
  | .v .non => some false
  | .v (.bl b) => some b
  | .v (.int i) => some (i != 0)
  | .v (.str s) => if s.length ≤ sizeLine then some (s.length != 0) else none
  | .v (.tup l) => some (!l.isEmpty)
  | .v (.fz l) => some (!l.isEmpty)
  | .v (.ref n) => match S.get n with
    | some (.lst l) => some (!l.isEmpty)
    | some (.frz l) => some (!l.isEmpty)
    | none => none
def mapO {α β : Type} (f : α → Option β) : List α → Option (List β)
  | [] => some []
  | x :: r => (f x).bind fun y => (mapO f r).map (y :: ·)
/-- the data as a whole -/
def den : Nat → Sto → TV → Option PyData
  | _, _, .non => some .none
  | _, _, .bl b => some (.bool b)
  | _, _, .int i => some (.int i)
  | _, _, .str s => if PyData.canLay0 (.str s) then some (.str s) else none
  | 0, _, .tup _ => none
  | k + 1, S, .tup l => (mapO (fun x => den k S x) l).map .tuple
  | 0, _, .fz _ => none
  | k + 1, S, .fz l => (mapO (fun x => den k S x) l).map .list
  | 0, _, .ref _ => none
  | k + 1, S, .ref n => match S.get n with
    | some (.lst l) => (mapO (fun x => den k S x) l).map .list
    | some (.frz l) => (mapO (fun x => den k S x) l).map .list
    | none => none
def denW (S : Sto) : TW → Option PyData
  | .v x => den 30 S x
  | .fr l => (mapO (fun x => den 30 S x) l).map .list
def atI {α : Type} (xs : List α) (i : Int) : Option α :=
  if 0 ≤ i then xs[i.toNat]? else if -(xs.length : Int) ≤ i then xs[(i + xs.length).toNat]? else none
def ixN (n : Nat) (i : Int) : Option Nat :=
  if 0 ≤ i then (if i < n then some i.toNat else none) else if -(n : Int) ≤ i then some (i + n).toNat else none
def rep {α : Type} (xs : List α) : Nat → List α
  | 0 => []
  | k + 1 => xs ++ rep xs k
/-- bounds of a slice's part -/
def clipI (n d : Nat) : Option Int → Nat
  | none => d
  | some v => (if v < 0 then max (v + (n : Int)) 0 else min v (n : Int)).toNat
def cut {α : Type} (xs : List α) (lo hi : Option Int) : List α :=
  (xs.drop (clipI xs.length 0 lo)).take (clipI xs.length xs.length hi - clipI xs.length 0 lo)

def small64 (i : Int) : Bool := decide (-(2 ^ 64) < i) && decide (i < 2 ^ 64)
def binop (op : BOp) (x y : TW) (S : Sto) : R TW := match op, x, y with
  | .add, .v (.int i), .v (.int j) => .ok (.v (.int (i + j))) S
  | .add, .v (.str a), .v (.str b) => if a.length + b.length ≤ sizeLine then .ok (.v (.str (a ++ b))) S else .err
  | .add, .v (.tup a), .v (.tup b) => if a.length + b.length ≤ sizeLine then .ok (.v (.tup (a ++ b))) S else .err
  | .add, x, y => match lstM S x, lstM S y with
    | some a, some b => if a.length + b.length ≤ sizeLine then .ok (.fr (a ++ b)) S else .err
    | _, _ => .err
  | .sub, .v (.int i), .v (.int j) => .ok (.v (.int (i - j))) S
  | .mul, .v (.int i), .v (.int j) => if small64 i || small64 j then .ok (.v (.int (i * j))) S else .err
  | .mul, .v (.tup a), .v (.int j) => if a.isEmpty = false ∧ 2 ≤ j ∧ j ≤ 1000 ∧ a.length ≤ 1000 then .ok (.v (.tup (rep a j.toNat))) S else .err
  | .mul, x, .v (.int j) => match lstM S x with
    | some a => if -(2 ^ 63) ≤ j ∧ j < 2 ^ 63 ∧ a.length * j.toNat ≤ sizeLine then .ok (.fr (rep a j.toNat)) S else .err
    | none => .err
  | .fdiv, .v (.int i), .v (.int j) => if 0 < j ∧ j < 1073741824 then .ok (.v (.int (i / j))) S else .err
  | .mod, .v (.int i), .v (.int j) => if 0 < j then .ok (.v (.int (i % j))) S else .err
  | .pow, .v (.int i), .v (.int j) => if 0 ≤ j ∧ j ≤ 1000000 ∧ i.natAbs < 2 ^ 64 then .ok (.v (.int (i ^ j.toNat))) S else .err
  | _, _, _ => .err
def flat : TV → Bool
  | .non | .bl _ | .int _ | .str _ => true
  | _ => false
def eqF : TV → TV → Bool
  | .non, .non => true
  | .bl a, .bl b => a == b
  | .bl a, .int j => (if a then 1 else 0) == j
  | .int i, .bl b => i == (if b then 1 else 0)
  | .int i, .int j => i == j
  | .str x, .str y => x == y
  | _, _ => false
def isN : TV → Bool
  | .non => true
  | _ => false
def cmpop (op : COp) (x y : TW) (S : Sto) : R Bool := match op, x, y with
  | .lt, .v (.int i), .v (.int j) => .ok (decide (i < j)) S
  | .le, .v (.int i), .v (.int j) => .ok (decide (i ≤ j)) S
  | .gt, .v (.int i), .v (.int j) => .ok (decide (j < i)) S
  | .ge, .v (.int i), .v (.int j) => .ok (decide (j ≤ i)) S
  | .is, .v x, .v .non => .ok (isN x) S
  | .is, .v (.bl a), .v (.bl b) => .ok (decide (a = b)) S
  | .isn, .v x, .v .non => .ok (!isN x) S
  | .isn, .v (.bl a), .v (.bl b) => .ok (!decide (a = b)) S
  | .eq, x, y => match denW S x, denW S y with
    | some d, some e => .ok (PyData.eqv d e) S
    | _, _ => .err
  | .ne, x, y => match denW S x, denW S y with
    | some d, some e => .ok (!PyData.eqv d e) S
    | _, _ => .err
  | .inn, .v x, y => match seqS S y with
    | some l => if flat x && l.all flat then .ok (l.any fun z => eqF z x) S else .err
    | none => .err
  | .nin, .v x, y => match seqS S y with
    | some l => if flat x && l.all flat then .ok (!(l.any fun z => eqF z x)) S else .err
    | none => .err
  | _, _, _ => .err
def ints? : List TV → Option (List Int)
  | [] => some []
  | .int i :: r => (ints? r).map (i :: ·)
  | _ => none
def bls? : List TV → Option (List Bool)
  | [] => some []
  | .bl i :: r => (bls? r).map (i :: ·)
  | _ => none
/-- ints put in order -/
def insI (x : Int) : List Int → List Int
  | [] => [x]
  | y :: r => bif decide (x ≤ y) then x :: y :: r else y :: insI x r
def sortI : List Int → List Int
  | [] => []
  | x :: r => insI x (sortI r)
def rngL (a : Int) (n : Nat) : List TV := (List.range n).map fun (i : Nat) => .int (a + (i : Int))
def bif1 (b : BI) (x : TW) (S : Sto) : R TW := match b with
  | .len => match x with
    | .v (.str s) => if s.length ≤ sizeLine then .ok (.v (.int s.length)) S else .err
    | x => match seqS S x with
      | some l => .ok (.v (.int l.length)) S
      | none => .err
  | .abs => match x with
    | .v (.int i) => .ok (.v (.int (if i < 0 then -i else i))) S
    | _ => .err
  | .int => match x with
    | .v (.int i) => .ok (.v (.int i)) S
    | .v (.bl b) => .ok (.v (.int (if b then 1 else 0))) S
    | _ => .err
  | .list => match seqS S x with
    | some l => .ok (.fr l) S
    | none => .err
  | .tuple => match seqS S x with
    | some l => .ok (.v (.tup l)) S
    | none => .err
  | .sorted => match (seqS S x).bind ints? with
    | some l => .ok (.fr ((sortI l).map .int)) S
    | none => .err
  | .sum => match (lstS S x).bind ints? with
    | some l => .ok (.v (.int l.sum)) S
    | none => .err
  | .all => match (lstS S x).bind bls? with
    | some l => .ok (.v (.bl (l.all id))) S
    | none => .err
  | .any => match (lstS S x).bind bls? with
    | some l => .ok (.v (.bl (l.any id))) S
    | none => .err
  | _ => .err
def bif2 (b : BI) (x y : TW) (S : Sto) : R TW := match b, x, y with
  | .max2, .v (.int i), .v (.int j) => .ok (.v (.int (if j > i then j else i))) S
  | .min2, .v (.int i), .v (.int j) => .ok (.v (.int (if j < i then j else i))) S
  | .divmod, .v (.int i), .v (.int j) => if 0 < j ∧ j < 1073741824 then .ok (.v (.tup [.int (i / j), .int (i % j)])) S else .err
  | _, _, _ => .err
def bifn (b : BI) (xs : List TW) (S : Sto) : R TW := match xs with
  | [x] => bif1 b x S
  | [x, y] => bif2 b x y S
  | _ => .err
def tyOne (S : Sto) : TW → Option Ty
  | .fr _ => some .list
  | .v (.int _) => some .int
  | .v (.bl _) => some .bool
  | .v (.str _) => some .str
  | .v (.tup _) => some .tuple
  | .v (.fz _) => some .list
  | .v (.ref n) => match S.get n with
    | some (.lst _) => some .list
    | some (.frz _) => some .list
    | none => none
  | .v .non => none
def tyIs : Ty → Ty → Bool
  | .int, .int | .bool, .bool | .bool, .int | .str, .str | .tuple, .tuple | .list, .list => true
  | _, _ => false
def isTy (ts : List Ty) (x : TW) (S : Sto) : R TW := match x with
  | .v .non => .ok (.v (.bl false)) S
  | x => match tyOne S x with
    | some t => .ok (.v (.bl (ts.any (tyIs t)))) S
    | none => .err
def item (x y : TW) (S : Sto) : R TW := match y with
  | .v (.int i) => match x with
    | .v (.str s) => if s.length ≤ sizeLine then (R.of (atI s.cps.toList i) S).bind fun c S => .ok (.v (.str ⟨#[c]⟩)) S else .err
    | x => match seqS S x with
      | some l => (R.of (atI l i) S).bind fun v S => .ok (.v v) S
      | none => .err
  | _ => .err
def slice (x : TW) (lo hi : Option Int) (S : Sto) : R TW := match x with
  | .v (.tup l) => .ok (.v (.tup (cut l lo hi))) S
  | x => match lstS S x with
    | some l => .ok (.fr (cut l lo hi)) S
    | none => .err
def revd (x : TW) (S : Sto) : R TW := match lstS S x with
  | some l => .ok (.fr l.reverse) S
  | none => .err
/-- o[i] = v -/
def setIx (o i : TW) (v : TV) (S : Sto) : Option Sto := match o, i with
  | .v (.ref n), .v (.int k) => match S.get n with
    | some (.lst l) => (ixN l.length k).map fun j => S.set n (.lst (l.set j v))
    | _ => none
  | _, _ => none
/-- the ints of a tuple -/
def tupI : TW → Option (List Int)
  | .v (.tup l) => ints? l
  | _ => none
def insU (x : Int) : List Int → List Int
  | [] => [x]
  | y :: r => bif decide (x < y) then x :: y :: r else bif decide (x = y) then y :: r else y :: insU x r
/-- without repeats, rising -/
def dedI : List Int → List Int
  | [] => []
  | x :: r => insU x (dedI r)
def seqIx (i : Int) (n : Nat) : Option Nat := ixN n i
def meth (m : Mt) (o : TW) (xs : List TV) (S : Sto) : R TW := match m, o, xs with
  | .append, .v (.ref n), [x] => match S.get n with
    | some (.lst l) => if l.length < sizeLine then .ok (.v .non) (S.set n (.lst (l ++ [x]))) else .err
    | _ => .err
  | .pop, .v (.ref n), [] => match S.get n with
    | some (.lst l) => match l.getLast? with
      | some x => .ok (.v x) (S.set n (.lst l.dropLast))
      | none => .err
    | _ => .err
  | .popAt, .v (.ref n), [.int i] => match S.get n with
    | some (.lst l) => if -(2 ^ 63) ≤ i ∧ i < 2 ^ 63 then match ixN l.length i with
      | some k => match l[k]? with
        | some x => .ok (.v x) (S.set n (.lst (l.eraseIdx k)))
        | none => .err
      | none => .err else .err
    | _ => .err
  | _, _, _ => .err

/-- what a method is asked of -/
def mtTy (m : Mt) (x : TW) (S : Sto) : Option Unit := (lstS S x).map fun _ => ()
/-! ### what is walked -/
inductive Src where
  | li (n i : Nat) | ts (l : List TV)
def Src.next (S : Sto) : Src → Option (Option (TV × Src))
  | .ts [] => some none
  | .ts (x :: r) => some (some (x, .ts r))
  | .li n i => match S.get n with
    | some (.lst l) => bif i.ble l.length then some ((l[i]?).map fun x => (x, .li n (i + 1))) else none
    | some (.frz l) => bif i.ble l.length then some ((l[i]?).map fun x => (x, .li n (i + 1))) else none
    | none => none
def Src.many (S : Sto) : Src → Nat
  | .ts l => l.length
  | .li n i => match S.get n with
    | some (.lst l) => l.length - i
    | some (.frz l) => l.length - i
    | none => 0
def srcOf (S : Sto) : TW → Option Src
  | .fr l => some (.ts l)
  | .v (.tup l) => some (.ts l)
  | .v (.fz l) => some (.ts l)
  | .v (.str s) => some (.ts (s.cps.toList.map fun c => .str ⟨#[c]⟩))
  | .v (.ref n) => match S.get n with
    | some _ => some (.li n 0)
    | none => none
  | _ => none
inductive Itb where
  | one (s : Src)
  | zip2 (a b : Src)
  | zip3 (a b c : Src)
  | enum (i : Nat) (s : Src)
  | rng (a c : Int) (n : Nat)
def Itb.next (S : Sto) : Itb → Option (Option (TV × Itb))
  | .one s => (s.next S).map fun o => o.map fun p => (p.1, .one p.2)
  | .zip2 a b => (a.next S).bind fun oa => (b.next S).map fun ob => match oa, ob with
    | some p, some q => some (.tup [p.1, q.1], .zip2 p.2 q.2)
    | _, _ => none
  | .zip3 a b c => (a.next S).bind fun oa => (b.next S).bind fun ob => (c.next S).map fun oc => match oa, ob, oc with
    | some p, some q, some r => some (.tup [p.1, q.1, r.1], .zip3 p.2 q.2 r.2)
    | _, _, _ => none
  | .enum i s => (s.next S).map fun o => o.map fun p => (.tup [.int i, p.1], .enum (i + 1) p.2)
  | .rng _ _ 0 => some none
  | .rng a c (n + 1) => some (some (.int a, .rng (a + c) c n))
def Itb.many (S : Sto) : Itb → Nat
  | .one s => s.many S
  | .zip2 a b => a.many S
  | .zip3 a b c => a.many S
  | .enum _ s => s.many S
  | .rng _ _ n => n
def rngOk (a b : Int) : Bool := decide (-(2 ^ 62) ≤ a) && decide (a < 2 ^ 62) && decide (-(2 ^ 62) ≤ b) && decide (b < 2 ^ 62)
def rngN (a b c : Int) : Nat := if 0 < c then ((b - a + c - 1) / c).toNat else ((a - b + (-c) - 1) / (-c)).toNat
def rngOf (xs : List TW) : Option Itb := match xs with
  | [.v (.int b)] => if rngOk 0 b then some (.rng 0 1 b.toNat) else none
  | [.v (.int a), .v (.int b)] => if rngOk a b then some (.rng a 1 (b - a).toNat) else none
  | [.v (.int a), .v (.int b), .v (.int c)] => if c = -1 then (if rngOk a b then some (.rng a (-1) (a - b).toNat) else none)
    else if c ≠ 0 ∧ c ≠ 1 ∧ c.natAbs < 1073741824 ∧ Builtin.Range.small a b c = true ∧ Builtin.Range.rangeSize a b c = (Builtin.Range.rangeSize a b c).toNat then some (.rng a c (Builtin.Range.rangeSize a b c).toNat) else none
  | _ => none

/-- list(range(..)), tuple(range(..)) -/
def rngRes (f : BI) (xs : List TW) (S : Sto) : R TW := match rngOf xs with
  | some (.rng a 1 n) => if n ≤ 16777216 then (match f with
    | .list => .ok (.fr (rngL a n)) S
    | .tuple => .ok (.v (.tup (rngL a n))) S
    | _ => .err) else .err
  | _ => .err
/-! ### the evaluator -/
inductive SR where
  | nx (ρ : Env) (S : Sto) | ret (w : TW) (S : Sto) | brk (ρ : Env) (S : Sto) | cnt (ρ : Env) (S : Sto) | err
def wipe (ρ : Env) : List Nat → Env
  | [] => ρ
  | v :: vs => (wipe ρ vs).set v none
/-- a comprehension's turns -/
def compGo (tg : TV → Env → Sto → R Env) (cs : Env → Sto → R Bool) (el : Env → Sto → R TV) (ρ : Env) : Nat → Itb → List TV → Sto → R (List TV)
  | 0, _, _, _ => .err
  | k + 1, it, acc, S => match it.next S with
    | none => .err
    | some none => .ok acc S
    | some (some (x, it')) => (tg x ρ S).bind fun ρ' S => (cs ρ' S).bind fun b S =>
      bif b then (el ρ' S).bind fun y S => bif acc.length.blt sizeLine then compGo tg cs el ρ k it' (acc ++ [y]) S else .err
      else compGo tg cs el ρ k it' acc S
/-- two clauses -/
def compGo2 (tg : TV → Env → Sto → R Env) (cs : Env → Sto → R Bool) (it2 : Env → Sto → R Itb) (inner : Env → Nat → Itb → List TV → Sto → R (List TV)) (ρ : Env) : Nat → Itb → List TV → Sto → R (List TV)
  | 0, _, _, _ => .err
  | k + 1, it, acc, S => match it.next S with
    | none => .err
    | some none => .ok acc S
    | some (some (x, it')) => (tg x ρ S).bind fun ρ' S => (cs ρ' S).bind fun b S =>
      bif b then (it2 ρ' S).bind fun j S => (inner ρ' (j.many S + 1) j acc S).bind fun acc S => compGo2 tg cs it2 inner ρ k it' acc S
      else compGo2 tg cs it2 inner ρ k it' acc S
section
variable (C : Call) (G : List TV)
mutual
def evE : E → Env → Sto → R TW
  | .var i, ρ, S => match ρ[i]? with
    | some (some x) => .ok (.v x) S
    | _ => .err
  | .c x, _, S => .ok (.v x) S
  | .glob i, _, S => match G[i]? with
    | some x => .ok (.v x) S
    | none => .err
  | .bin op a b, ρ, S => (evE a ρ S).bind fun x S => (evE b ρ S).bind fun y S => binop op x y S
  | .neg a, ρ, S => (evE a ρ S).bind fun x S => match x with
    | .v (.int i) => .ok (.v (.int (-i))) S
    | _ => .err
  | .not a, ρ, S => (evE a ρ S).bind fun x S => (R.of (truth S x) S).bind fun b S => .ok (.v (.bl (!b))) S
  | .and a b, ρ, S => (evE a ρ S).bind fun x S => (R.of (truth S x) S).bind fun t S => bif t then evE b ρ S else .ok x S
  | .or a b, ρ, S => (evE a ρ S).bind fun x S => (R.of (truth S x) S).bind fun t S => bif t then .ok x S else evE b ρ S
  | .cmp op a b, ρ, S => (evE a ρ S).bind fun x S => (evE b ρ S).bind fun y S => (cmpop op x y S).bind fun t S => .ok (.v (.bl t)) S
  | .chain o1 o2 a b c, ρ, S => (evE a ρ S).bind fun x S => (evE b ρ S).bind fun y S => (cmpop o1 x y S).bind fun t S =>
    bif t then (evE c ρ S).bind fun z S => (cmpop o2 y z S).bind fun t S => .ok (.v (.bl t)) S else .ok (.v (.bl false)) S
  | .ite t a b, ρ, S => (evE t ρ S).bind fun x S => (R.of (truth S x) S).bind fun t S => bif t then evE a ρ S else evE b ρ S
  | .call f as, ρ, S => (evA as ρ S).bind fun xs S => C f xs S
  | .bi b as, ρ, S => (evW as ρ S).bind fun xs S => bifn b xs S
  | .isI ts a, ρ, S => (evE a ρ S).bind fun x S => isTy ts x S
  | .meth m o as, ρ, S => (evE o ρ S).bind fun x S => (R.of (mtTy m x S) S).bind fun _ S => (evA as ρ S).bind fun xs S => meth m x xs S
  | .tup es, ρ, S => (evA es ρ S).bind fun xs S => .ok (.v (.tup xs)) S
  | .lst es, ρ, S => (evA es ρ S).bind fun xs S => .ok (.fr xs) S
  | .ix a b, ρ, S => (evE a ρ S).bind fun x S => (evE b ρ S).bind fun y S => item x y S
  | .sl a lo hi, ρ, S => (evE a ρ S).bind fun x S => (evO lo ρ S).bind fun l S => (evO hi ρ S).bind fun h S => slice x l h S
  | .rev a, ρ, S => (evE a ρ S).bind fun x S => revd x S
  | .rng f as, ρ, S => (evW as ρ S).bind fun xs S => rngRes f xs S
  | .sset a, ρ, S => (evE a ρ S).bind fun x S => match tupI x with
    | some ns => if ns.length < 64 then .ok (.fr ((dedI ns).map .int)) S else .err
    | none => .err
  | .lset a, ρ, S => (evE a ρ S).bind fun x S => match tupI x with
    | some ns => if ns.length < 64 then .ok (.v (.int (dedI ns).length)) S else .err
    | none => .err
  | .comp own tg it cs e, ρ, S => (evI it ρ S).bind fun b S =>
    (compGo (fun x ρ S => asT tg x ρ S) (fun ρ S => evC cs ρ S) (fun ρ S => (evE e ρ S).bind fun x S => x.st S) (wipe ρ own) (b.many S + 1) b [] S).bind fun l S => .ok (.fr l) S
  | .comp2 own own2 tg it cs tg2 it2 cs2 e, ρ, S => (evI it ρ S).bind fun b S =>
    (compGo2 (fun x ρ S => asT tg x ρ S) (fun ρ S => evC cs ρ S) (fun ρ S => evI it2 ρ S)
      (fun ρ => compGo (fun x ρ S => asT tg2 x ρ S) (fun ρ S => evC cs2 ρ S) (fun ρ S => (evE e ρ S).bind fun x S => x.st S) (wipe ρ own2))
      (wipe ρ own) (b.many S + 1) b [] S).bind fun l S => .ok (.fr l) S
  | .never, _, _ => .err
/-- arguments that are kept -/
def evA : Es → Env → Sto → R (List TV)
  | .nil, _, S => .ok [] S
  | .cons e r, ρ, S => (evE e ρ S).bind fun x S => (x.st S).bind fun x S => (evA r ρ S).bind fun xs S => .ok (x :: xs) S
/-- arguments that are looked at -/
def evW : Es → Env → Sto → R (List TW)
  | .nil, _, S => .ok [] S
  | .cons e r, ρ, S => (evE e ρ S).bind fun x S => (evW r ρ S).bind fun xs S => .ok (x :: xs) S
/-- tests, all of them -/
def evC : Es → Env → Sto → R Bool
  | .nil, _, S => .ok true S
  | .cons e r, ρ, S => (evE e ρ S).bind fun x S => (R.of (truth S x) S).bind fun t S => bif t then evC r ρ S else .ok false S
def evO : Oe → Env → Sto → R (Option Int)
  | .no, _, S => .ok none S
  | .some e, ρ, S => (evE e ρ S).bind fun x S => match x with
    | .v (.int i) => .ok (some i) S
    | _ => .err
def evI : It → Env → Sto → R Itb
  | .one e, ρ, S => (evE e ρ S).bind fun x S => (R.of (srcOf S x) S).bind fun s S => .ok (.one s) S
  | .zip es, ρ, S => (evW es ρ S).bind fun xs S => match xs with
    | [x, y] => match srcOf S x, srcOf S y with
      | some a, some b => .ok (.zip2 a b) S
      | _, _ => .err
    | [x, y, z] => match srcOf S x, srcOf S y, srcOf S z with
      | some a, some b, some c => .ok (.zip3 a b c) S
      | _, _, _ => .err
    | _ => .err
  | .enum e, ρ, S => (evE e ρ S).bind fun x S => (R.of (srcOf S x) S).bind fun s S => .ok (.enum 0 s) S
  | .rng es, ρ, S => (evW es ρ S).bind fun xs S => (R.of (rngOf xs) S).bind fun b S => .ok b S
/-- a target takes a value -/
def asT : Tg → TV → Env → Sto → R Env
  | .var i, x, ρ, S => .ok (ρ.set i (some x)) S
  | .tup ts, x, ρ, S => match x with
    | .tup l => asTs ts l ρ S
    | _ => .err
  | .sub o i, x, ρ, S => (evE o ρ S).bind fun a S => (evE i ρ S).bind fun b S => match setIx a b x S with
    | some S => .ok ρ S
    | none => .err
def asTs : Tgs → List TV → Env → Sto → R Env
  | .nil, [], ρ, S => .ok ρ S
  | .cons t r, x :: l, ρ, S => (asT t x ρ S).bind fun ρ S => asTs r l ρ S
  | _, _, _, _ => .err
end
def forGo (tg : TV → Env → Sto → R Env) (bd : Env → Sto → SR) : Nat → Itb → Env → Sto → SR
  | 0, _, _, _ => .err
  | k + 1, it, ρ, S => match it.next S with
    | none => .err
    | some none => .nx ρ S
    | some (some (x, it')) => match tg x ρ S with
      | .err => .err
      | .ok ρ S => match bd ρ S with
        | .nx ρ S => forGo tg bd k it' ρ S
        | .cnt ρ S => forGo tg bd k it' ρ S
        | .brk ρ S => .nx ρ S
        | .ret w S => .ret w S
        | .err => .err
def whileGo (t : Env → Sto → R Bool) (bd : Env → Sto → SR) : Nat → Env → Sto → SR
  | 0, _, _ => .err
  | k + 1, ρ, S => match t ρ S with
    | .err => .err
    | .ok false S => .nx ρ S
    | .ok true S => match bd ρ S with
      | .nx ρ S => whileGo t bd k ρ S
      | .cnt ρ S => whileGo t bd k ρ S
      | .brk ρ S => .nx ρ S
      | .ret w S => .ret w S
      | .err => .err
def SR.then (r : SR) (f : Env → Sto → SR) : SR := match r with
  | .nx ρ S => f ρ S
  | r => r
def R.sr {α : Type} (r : R α) (f : α → Sto → SR) : SR := match r with
  | .ok a S => f a S
  | .err => .err
mutual
def evS : St → Env → Sto → SR
  | .ex e, ρ, S => (evE C G e ρ S).sr fun _ S => .nx ρ S
  | .asg t e, ρ, S => (evE C G e ρ S).sr fun x S => (x.st S).sr fun x S => (asT C G t x ρ S).sr fun ρ S => .nx ρ S
  | .aug i op e, ρ, S => match ρ[i]? with
    | some (some x) => (evE C G e ρ S).sr fun y S => match x, y with
      | .int a, .v (.int b) => match op with
        | .add => .nx (ρ.set i (some (.int (a + b)))) S
        | .sub => .nx (ρ.set i (some (.int (a - b)))) S
        | _ => .err
      | _, _ => .err
    | _ => .err
  | .ret e, ρ, S => (evE C G e ρ S).sr fun x S => .ret x S
  | .retN, _, S => .ret (.v .non) S
  | .iff t a b, ρ, S => (evE C G t ρ S).sr fun x S => (R.of (truth S x) S).sr fun t S => bif t then evSs a ρ S else evSs b ρ S
  | .forr t it b, ρ, S => (evI C G it ρ S).sr fun j S => forGo (asT C G t) (fun ρ S => evSs b ρ S) (j.many S + 1) j ρ S
  | .whil t b, ρ, S => whileGo (fun ρ S => (evE C G t ρ S).bind fun x S => R.of (truth S x) S) (fun ρ S => evSs b ρ S) 1000000000000 ρ S
  | .pass, ρ, S => .nx ρ S
  | .brk, ρ, S => .brk ρ S
  | .cnt, ρ, S => .cnt ρ S
  | .never, _, _ => .err
def evSs : Ss → Env → Sto → SR
  | .nil, ρ, S => .nx ρ S
  | .cons s r, ρ, S => (evS s ρ S).then fun ρ S => evSs r ρ S
end
end
structure Fn where
  n : Nat
  p : Nat
  body : Ss
instance : Inhabited Fn := ⟨⟨0, 0, .nil⟩⟩
def SR.out : SR → R TW
  | .nx _ S => .ok (.v .non) S
  | .ret w S => .ok w S
  | _ => .err
def startE (n : Nat) (xs : List TV) : Env := xs.map some ++ List.replicate (n - xs.length) none
def runF (C : Call) (G : List TV) (f : Fn) (xs : List TV) (S : Sto) : R TW :=
  bif xs.length.beq f.p then (evSs C G f.body (startE f.n xs) S).out else .err
def callN (P : List Fn) (G : List TV) : Nat → Call
  | 0 => fun _ _ _ => .err
  | n + 1 => fun f xs S => match P[f]? with
    | some d => runF (callN P G n) G d xs S
    | none => .err
end Ev

/-! Ev, part B: what a value tree, a store, are in the heap; extensions; the readings that the evaluator gives. -/
namespace Ev
open PySem PySem.Spec PyProof.Rows L2

/-! ### representation -/
/-- a list that nobody writes: the law's own, or one of the module's -/
def FzL (K : PySem.W.Frag) (H : Hp) (a : Addr) (xs : List V) : Prop :=
  (∃ o, H a = some (.frz o (.lst xs))) ∨ ∃ (o : Obj) (its : Array Value) (n : Nat), K.lookup a = some o ∧ o.cls = .type "list" ∧ o.dict = none ∧ o.data = .seq its n ∧ its.size ≤ sizeLine ∧ Vals xs its.toList
theorem FzL.seq {K : PySem.W.Frag} {H : Hp} {a : Addr} {xs : List V} (h : FzL K H a xs) : SqL K H a xs := h.elim (fun z => .inl (.inr z)) .inr
theorem FzL.keep {K : PySem.W.Frag} {H H' : Hp} {a : Addr} {xs : List V} (h : FzL K H a xs) (k : ∀ o, H a = some (.frz o (.lst xs)) → H' a = some (.frz o (.lst xs))) : FzL K H' a xs := h.elim (fun ⟨o, e⟩ => .inl ⟨o, k o e⟩) .inr
mutual
inductive RepV (K : PySem.W.Frag) (φ : List Addr) (H : Hp) : TV → V → Prop
  | non : RepV K φ H .non .non
  | bl (b : Bool) : RepV K φ H (.bl b) (.bl b)
  | int (i : Int) : RepV K φ H (.int i) (.int i)
  | str (s : Str) : RepV K φ H (.str s) (.str s)
  | ref {n : Nat} {a : Addr} : φ[n]? = some a → RepV K φ H (.ref n) (.ref a)
  | tup {l : List TV} {ws : List V} {a : Addr} : SqT K H a ws → RepVs K φ H l ws → RepV K φ H (.tup l) (.ref a)
  | fz {l : List TV} {ws : List V} {a : Addr} : FzL K H a ws → RepVs K φ H l ws → RepV K φ H (.fz l) (.ref a)
inductive RepVs (K : PySem.W.Frag) (φ : List Addr) (H : Hp) : List TV → List V → Prop
  | nil : RepVs K φ H [] []
  | cons {x : TV} {l : List TV} {w : V} {ws : List V} : RepV K φ H x w → RepVs K φ H l ws → RepVs K φ H (x :: l) (w :: ws)
end
def RepO (K : PySem.W.Frag) (φ : List Addr) (H : Hp) (a : Addr) : SO → Prop
  | .lst l => ∃ ws, H a = some (.lst ws) ∧ RepVs K φ H l ws
  | .frz l => ∃ o ws, H a = some (.frz o (.lst ws)) ∧ RepVs K φ H l ws
structure Rel (K : PySem.W.Frag) (φ : List Addr) (S : Sto) (H : Hp) : Prop where
  sz : φ.length = S.nx
  inj : ∀ (i j : Nat) (a : Addr), φ[i]? = some a → φ[j]? = some a → i = j
  obj : ∀ (n : Nat) (a : Addr), φ[n]? = some a → ∃ o, S.get n = some o ∧ RepO K φ H a o
/-- what was stands: new places, tracked things that are nobody's, tuples -/
structure Ext (K : PySem.W.Frag) (φ : List Addr) (H : Hp) (φ' : List Addr) (H' : Hp) : Prop where
  pre : ∃ m, φ' = φ ++ m
  keep : ∀ a o, a ∉ φ → H a = some o → H' a = some o ∧ a ∉ φ'
  tup : ∀ a xs, SqT K H a xs → SqT K H' a xs
  gone : ∀ a, H' a = none → H a = none
  fz : ∀ a xs, FzL K H a xs → FzL K H' a xs
def RepW (K : PySem.W.Frag) (H0 : Hp) (φ : List Addr) (H : Hp) : TW → V → Prop
  | .v x, w => RepV K φ H x w
  | .fr l, w => ∃ p ws, w = .ref p ∧ H0 p = none ∧ p ∉ φ ∧ H p = some (.lst ws) ∧ RepVs K φ H l ws
def RepWs (K : PySem.W.Frag) (H0 : Hp) (φ : List Addr) (H : Hp) : List TW → List V → Prop := Paired (RepW K H0 φ H)
structure RepE (K : PySem.W.Frag) (φ : List Addr) (H : Hp) (ρ : Env) (σ : L2.St) : Prop where
  len : ρ.length = σ.length
  at_ : ∀ (i : Nat) (x : TV), ρ[i]? = some (some x) → ∃ w, σ[i]? = some (some w) ∧ RepV K φ H x w

section
variable {K : PySem.W.Frag} {φ φ' φ1 φ2 : List Addr} {H H' H0 H1 H2 : Hp} {S S' : Sto} {ρ : Env} {σ : L2.St}
theorem Ext.refl (K : PySem.W.Frag) (φ : List Addr) (H : Hp) : Ext K φ H φ H := ⟨⟨[], by simp⟩, fun _ _ h e => ⟨e, h⟩, fun _ _ h => h, fun _ h => h, fun _ _ h => h⟩
theorem Ext.trans (a : Ext K φ H φ1 H1) (b : Ext K φ1 H1 φ2 H2) : Ext K φ H φ2 H2 where
  pre := by
    obtain ⟨m, e⟩ := a.pre
    obtain ⟨n, e'⟩ := b.pre
    exact ⟨m ++ n, by rw [e', e, List.append_assoc]⟩
  keep := fun c o n e => by
    obtain ⟨e1, n1⟩ := a.keep c o n e
    exact b.keep c o n1 e1
  tup := fun c xs h => b.tup c xs (a.tup c xs h)
  gone := fun c h => a.gone c (b.gone c h)
  fz := fun c xs h => b.fz c xs (a.fz c xs h)
theorem Ext.at_ (e : Ext K φ H φ' H') {n : Nat} {a : Addr} (h : φ[n]? = some a) : φ'[n]? = some a := by
  obtain ⟨m, rfl⟩ := e.pre
  rw [List.getElem?_append_left (List.getElem?_eq_some_iff.mp h).1]
  exact h
mutual
theorem RepV.mono (e : Ext K φ H φ' H') : ∀ {x : TV} {w : V}, RepV K φ H x w → RepV K φ' H' x w
  | _, _, .non => .non
  | _, _, .bl b => .bl b
  | _, _, .int i => .int i
  | _, _, .str s => .str s
  | _, _, .ref h => .ref (e.at_ h)
  | _, _, .tup h r => .tup (e.tup _ _ h) (RepVs.mono e r)
  | _, _, .fz h r => .fz (e.fz _ _ h) (RepVs.mono e r)
theorem RepVs.mono (e : Ext K φ H φ' H') : ∀ {l : List TV} {ws : List V}, RepVs K φ H l ws → RepVs K φ' H' l ws
  | _, _, .nil => .nil
  | _, _, .cons h r => .cons (RepV.mono e h) (RepVs.mono e r)
end
theorem RepVs.length : ∀ {l : List TV} {ws : List V}, RepVs K φ H l ws → l.length = ws.length
  | _, _, .nil => rfl
  | _, _, .cons _ r => by simp [RepVs.length r]
theorem RepVs.get : ∀ {l : List TV} {ws : List V} {i : Nat} {x : TV}, RepVs K φ H l ws → l[i]? = some x → ∃ w, ws[i]? = some w ∧ RepV K φ H x w
  | _, _, _, _, .nil, e => by simp at e
  | _, _, 0, _, .cons r _, e => by simp at e; subst e; exact ⟨_, rfl, r⟩
  | _, _, i + 1, x, .cons _ t, e => by
    obtain ⟨u, h1, h2⟩ := RepVs.get (i := i) (x := x) t (by simpa using e)
    exact ⟨u, by simpa using h1, h2⟩
theorem RepVs.append : ∀ {l k : List TV} {ws vs : List V}, RepVs K φ H l ws → RepVs K φ H k vs → RepVs K φ H (l ++ k) (ws ++ vs)
  | _, _, _, _, .nil, s => s
  | _, _, _, _, .cons r t, s => .cons r (RepVs.append t s)
theorem RepVs.take : ∀ {l : List TV} {ws : List V} (n : Nat), RepVs K φ H l ws → RepVs K φ H (l.take n) (ws.take n)
  | _, _, 0, _ => .nil
  | _, _, _ + 1, .nil => .nil
  | _, _, n + 1, .cons r t => .cons r (RepVs.take n t)
theorem RepVs.drop : ∀ {l : List TV} {ws : List V} (n : Nat), RepVs K φ H l ws → RepVs K φ H (l.drop n) (ws.drop n)
  | _, _, 0, r => r
  | _, _, _ + 1, .nil => .nil
  | _, _, n + 1, .cons r t => RepVs.drop n t
theorem RepVs.set {x : TV} {w : V} (r : RepV K φ H x w) : ∀ {l : List TV} {ws : List V} (i : Nat), RepVs K φ H l ws → RepVs K φ H (l.set i x) (ws.set i w)
  | _, _, _, .nil => .nil
  | _, _, 0, .cons _ t => .cons r t
  | _, _, i + 1, .cons q t => .cons q (RepVs.set r i t)
theorem RepVs.eraseIdx : ∀ {l : List TV} {ws : List V} (i : Nat), RepVs K φ H l ws → RepVs K φ H (l.eraseIdx i) (ws.eraseIdx i)
  | _, _, _, .nil => .nil
  | _, _, 0, .cons _ t => t
  | _, _, i + 1, .cons q t => .cons q (RepVs.eraseIdx i t)
theorem RepVs.reverse : ∀ {l : List TV} {ws : List V}, RepVs K φ H l ws → RepVs K φ H l.reverse ws.reverse
  | _, _, .nil => .nil
  | _, _, .cons r t => by
    rw [List.reverse_cons, List.reverse_cons]
    exact RepVs.append (RepVs.reverse t) (.cons r .nil)
theorem RepVs.dropLast : ∀ {l : List TV} {ws : List V}, RepVs K φ H l ws → RepVs K φ H l.dropLast ws.dropLast
  | _, _, .nil => .nil
  | _, _, .cons r .nil => .nil
  | _, _, .cons r (.cons q t) => .cons r (RepVs.dropLast (.cons q t))
theorem RepVs.rep (r : RepVs K φ H l ws) : ∀ n : Nat, RepVs K φ H (Ev.rep l n) (List.replicate n ws).flatten
  | 0 => .nil
  | n + 1 => by
    rw [List.replicate_succ, List.flatten_cons]
    exact r.append (RepVs.rep r n)
theorem RepE.mono (e : Ext K φ H φ' H') (r : RepE K φ H ρ σ) : RepE K φ' H' ρ σ := ⟨r.len, fun i x h => by
  obtain ⟨w, h1, h2⟩ := r.at_ i x h
  exact ⟨w, h1, h2.mono e⟩⟩
theorem RepE.set {x : TV} {w : V} (r : RepE K φ H ρ σ) (i : Nat) (h : RepV K φ H x w) : RepE K φ H (ρ.set i (some x)) (σ.set i (some w)) := by
  refine ⟨by simp [r.len], fun j y e => ?_⟩
  by_cases hj : i = j
  · subst hj
    by_cases hi : i < ρ.length
    · rw [List.getElem?_set_self hi] at e
      rw [List.getElem?_set_self (by rw [← r.len]; exact hi)]
      cases e
      exact ⟨w, rfl, h⟩
    · rw [List.getElem?_eq_none (by simpa using hi)] at e
      cases e
  · rw [List.getElem?_set_ne hj] at e
    rw [List.getElem?_set_ne hj]
    exact r.at_ j y e
theorem Rel.there (r : Rel K φ S H) {n : Nat} {a : Addr} (h : φ[n]? = some a) : ∃ o, H a = some o := by
  obtain ⟨o, _, q⟩ := r.obj n a h
  cases o with
  | lst l => obtain ⟨ws, e, _⟩ := q; exact ⟨_, e⟩
  | frz l => obtain ⟨ob, ws, e, _⟩ := q; exact ⟨_, e⟩
theorem Rel.new (r : Rel K φ S H) {p : Addr} (h : H p = none) : p ∉ φ := fun m => by
  obtain ⟨n, hn⟩ := List.mem_iff_getElem?.mp m
  obtain ⟨o, e⟩ := r.there hn
  rw [h] at e
  cases e
theorem Rel.notup (r : Rel K φ S H) {a : Addr} {xs : List V} (h : Rd H a (.tup xs)) : a ∉ φ := fun m => by
  obtain ⟨n, hn⟩ := List.mem_iff_getElem?.mp m
  obtain ⟨o, _, q⟩ := r.obj n a hn
  cases o with
  | lst l =>
    obtain ⟨ws, e, _⟩ := q
    rcases h with h | ⟨ob, h⟩ <;> rw [e] at h <;> cases h
  | frz l =>
    obtain ⟨ob', ws, e, _⟩ := q
    rcases h with h | ⟨ob, h⟩ <;> rw [e] at h <;> cases h
/-- a new thing, nobody's -/
theorem Ext.new (r : Rel K φ S H) {p : Addr} (o : HO) (h : H p = none) : Ext K φ H φ (upd H p o) where
  pre := ⟨[], by simp⟩
  keep := fun a u n e => ⟨by rw [upd_ne (ne_of_none e h)]; exact e, n⟩
  tup := fun a xs q => by
    rcases q with (q | ⟨ob, q⟩) | q
    · exact .inl (.inl (by rw [upd_ne (ne_of_none q h)]; exact q))
    · exact .inl (.inr ⟨ob, by rw [upd_ne (ne_of_none q h)]; exact q⟩)
    · exact .inr q
  gone := fun a q => by
    by_cases e : a = p
    · rw [e]; exact h
    · rw [upd_ne e] at q; exact q
  fz := fun a xs q => q.keep fun ob e => by rw [upd_ne (ne_of_none e h)]; exact e
theorem RepO.mono (e : Ext K φ H φ' H') {a : Addr} {o : SO} (h : ∀ u, H a = some u → H' a = some u) (r : RepO K φ H a o) : RepO K φ' H' a o := by
  cases o with
  | lst l => obtain ⟨ws, q, m⟩ := r; exact ⟨ws, h _ q, m.mono e⟩
  | frz l => obtain ⟨ob, ws, q, m⟩ := r; exact ⟨ob, ws, h _ q, m.mono e⟩
theorem Rel.upd_new (r : Rel K φ S H) {p : Addr} (o : HO) (h : H p = none) : Rel K φ S (upd H p o) := by
  refine ⟨r.sz, r.inj, fun n a e => ?_⟩
  obtain ⟨u, g, q⟩ := r.obj n a e
  refine ⟨u, g, RepO.mono (Ext.new r o h) (fun z ez => ?_) q⟩
  rw [upd_ne (ne_of_none ez h)]
  exact ez
/-- storing: seen from an H0 in which p was not there -/
theorem Ext.push {φ0 : List Addr} (e : Ext K φ0 H0 φ H) (r : Rel K φ S H) {p : Addr} (hp : H0 p = none) : Ext K φ0 H0 (φ ++ [p]) H where
  pre := by obtain ⟨m, rfl⟩ := e.pre; exact ⟨m ++ [p], by rw [List.append_assoc]⟩
  keep := fun a o n q => by
    obtain ⟨q1, n1⟩ := e.keep a o n q
    refine ⟨q1, fun m => ?_⟩
    rcases List.mem_append.mp m with m | m
    · exact n1 m
    · have : a = p := by simpa using m
      subst this
      rw [hp] at q
      cases q
  tup := e.tup
  gone := e.gone
  fz := e.fz
/-- a list of ours is written -/
theorem Ext.write (r : Rel K φ S H) {n : Nat} {a : Addr} {ws vs : List V} (hn : φ[n]? = some a) (h : H a = some (.lst ws)) : Ext K φ H φ (upd H a (.lst vs)) where
  pre := ⟨[], by simp⟩
  keep := fun b o nb e => ⟨by rw [upd_ne (show b ≠ a from fun z => nb (by rw [z]; exact List.mem_of_getElem? hn))]; exact e, nb⟩
  tup := fun b xs q => by
    have hb : ∀ ob, H b = some ob → (∀ zs, ob ≠ .lst zs) → b ≠ a := fun ob e d z => by
      subst z
      rw [h] at e
      cases e
      exact d _ rfl
    rcases q with (q | ⟨ob, q⟩) | q
    · exact .inl (.inl (by rw [upd_ne (hb _ q fun _ z => nomatch z)]; exact q))
    · exact .inl (.inr ⟨ob, by rw [upd_ne (hb _ q fun _ z => nomatch z)]; exact q⟩)
    · exact .inr q
  gone := fun b q => by
    by_cases e : b = a
    · subst e; rw [upd_same] at q; cases q
    · rw [upd_ne e] at q; exact q
  fz := fun b xs q => q.keep fun ob e => by rw [upd_ne (show b ≠ a from fun z => by subst z; rw [h] at e; cases e)]; exact e
theorem Rel.write (r : Rel K φ S H) {n : Nat} {a : Addr} {ws vs : List V} {l : List TV} (hn : φ[n]? = some a) (h : H a = some (.lst ws)) (m : RepVs K φ H l vs) : Rel K φ (S.set n (.lst l)) (upd H a (.lst vs)) := by
  have e := Ext.write (vs := vs) r hn h
  refine ⟨r.sz, r.inj, fun k b hb => ?_⟩
  by_cases hk : k = n
  · subst hk
    rw [hn] at hb
    cases hb
    refine ⟨.lst l, Sto.get_set_same ?_, vs, upd_same, m.mono e⟩
    rw [← r.sz]
    exact (List.getElem?_eq_some_iff.mp hn).1
  · obtain ⟨o, g, q⟩ := r.obj k b hb
    have hne : b ≠ a := fun z => hk (r.inj k n a (by rw [← z]; exact hb) hn)
    exact ⟨o, by rw [Sto.get_set_ne hk]; exact g, RepO.mono e (fun u z => by rw [upd_ne hne]; exact z) q⟩
theorem RepW.mono {w : V} {t : TW} (e : Ext K φ1 H1 φ2 H2) (r : RepW K H0 φ1 H1 t w) : RepW K H0 φ2 H2 t w := by
  cases t with
  | v x => exact RepV.mono e r
  | fr l =>
    obtain ⟨p, ws, h1, h2, h3, h4, h5⟩ := r
    obtain ⟨q1, q2⟩ := e.keep p _ h3 h4
    exact ⟨p, ws, h1, h2, q2, q1, h5.mono e⟩
theorem RepW.base {w : V} {t : TW} (hb : ∀ a, H1 a = none → H0 a = none) (r : RepW K H1 φ2 H2 t w) : RepW K H0 φ2 H2 t w := by
  cases t with
  | v x => exact r
  | fr l =>
    obtain ⟨p, ws, h1, h2, h3⟩ := r
    exact ⟨p, ws, h1, hb p h2, h3⟩
theorem RepWs.mono (e : Ext K φ1 H1 φ2 H2) : ∀ {ts : List TW} {ws : List V}, RepWs K H0 φ1 H1 ts ws → RepWs K H0 φ2 H2 ts ws
  | _, _, .nil => .nil
  | _, _, .cons r t => .cons (RepW.mono e r) (RepWs.mono e t)
theorem RepWs.base (hb : ∀ a, H1 a = none → H0 a = none) : ∀ {ts : List TW} {ws : List V}, RepWs K H1 φ2 H2 ts ws → RepWs K H0 φ2 H2 ts ws
  | _, _, .nil => .nil
  | _, _, .cons r t => .cons (RepW.base hb r) (RepWs.base hb t)
/-- giving a place to what an expression gave -/
theorem stored {t : TW} {w : V} {x : TV} {S1 : Sto} (e : Ext K φ H φ1 H1) (r : Rel K φ1 S H1) (h : RepW K H φ1 H1 t w) (q : t.st S = .ok x S1) :
    ∃ φ2, Ext K φ H φ2 H1 ∧ Rel K φ2 S1 H1 ∧ RepV K φ2 H1 x w ∧ (∃ m, φ2 = φ1 ++ m) := by
  cases t with
  | v y =>
    cases q
    exact ⟨φ1, e, r, h, [], by simp⟩
  | fr l =>
    cases q
    obtain ⟨p, ws, rfl, h2, h3, h4, h5⟩ := h
    have eP := e.push r h2
    -- within H1 itself only prefix, tuples matter
    have lift : ∀ {x : TV} {w : V}, RepV K φ1 H1 x w → RepV K (φ1 ++ [p]) H1 x w := by
      intro x w hx
      have f : ∀ (n : Nat) (a : Addr), φ1[n]? = some a → (φ1 ++ [p])[n]? = some a := fun n a z => by
        rw [List.getElem?_append_left (List.getElem?_eq_some_iff.mp z).1]
        exact z
      exact hx.rec (motive_1 := fun x w _ => RepV K (φ1 ++ [p]) H1 x w) (motive_2 := fun l ws _ => RepVs K (φ1 ++ [p]) H1 l ws) .non .bl .int .str (fun z => .ref (f _ _ z)) (fun a _ b => .tup a b) (fun a _ b => .fz a b) .nil fun _ _ a b => .cons a b
    have lifts : ∀ {l : List TV} {ws : List V}, RepVs K φ1 H1 l ws → RepVs K (φ1 ++ [p]) H1 l ws := by
      intro l
      induction l with
      | nil => intro ws hx; cases hx; exact .nil
      | cons y l ih => intro ws hx; cases hx with | cons a b => exact .cons (lift a) (ih b)
    refine ⟨φ1 ++ [p], eP, ?_, .ref ?_, [p], rfl⟩
    · refine ⟨by simp [r.sz, Sto.push_nx], fun i j a e1 e2 => ?_, fun n a e => ?_⟩
      · by_cases g1 : i < φ1.length
        · rw [List.getElem?_append_left g1] at e1
          by_cases g2 : j < φ1.length
          · rw [List.getElem?_append_left g2] at e2
            exact r.inj i j a e1 e2
          · rw [List.getElem?_append_right (by omega)] at e2
            have : a = p := by
              have := List.mem_of_getElem? e2
              simpa using this
            subst this
            exact absurd (List.mem_of_getElem? e1) h3
        · rw [List.getElem?_append_right (by omega)] at e1
          have ea : a = p := by
            have := List.mem_of_getElem? e1
            simpa using this
          subst ea
          have hi : i - φ1.length < 1 := by have := (List.getElem?_eq_some_iff.mp e1).1; simpa using this
          by_cases g2 : j < φ1.length
          · rw [List.getElem?_append_left g2] at e2
            exact absurd (List.mem_of_getElem? e2) h3
          · rw [List.getElem?_append_right (by omega)] at e2
            have hj : j - φ1.length < 1 := by have := (List.getElem?_eq_some_iff.mp e2).1; simpa using this
            omega
      · by_cases g1 : n < φ1.length
        · rw [List.getElem?_append_left g1] at e
          obtain ⟨o, g, q⟩ := r.obj n a e
          refine ⟨o, by rw [Sto.get_push_lt (by rw [← r.sz]; exact g1)]; exact g, ?_⟩
          cases o with
          | lst l => obtain ⟨ws, q, m⟩ := q; exact ⟨ws, q, lifts m⟩
          | frz l => obtain ⟨ob, ws, q, m⟩ := q; exact ⟨ob, ws, q, lifts m⟩
        · rw [List.getElem?_append_right (by omega)] at e
          have ea : a = p := by
            have := List.mem_of_getElem? e
            simpa using this
          have hi : n - φ1.length < 1 := by have := (List.getElem?_eq_some_iff.mp e).1; simpa using this
          have en : n = S.nx := by rw [← r.sz]; omega
          subst ea en
          exact ⟨.lst l, Sto.get_push_same, ws, h4, lifts h5⟩
    · rw [List.getElem?_append_right (by rw [r.sz]; exact Nat.le_refl _), r.sz, Nat.sub_self]
      rfl
end

/-! ### readings -/
/-- the end of an evaluation that began at φ, H -/
abbrev After (K : PySem.W.Frag) (φ : List Addr) (H : Hp) (S' : Sto) (P : List Addr → Hp → Prop) : Prop :=
  ∀ φ' H', Ext K φ H φ' H' → Rel K φ' S' H' → P φ' H'
def tE (K : PySem.W.Frag) (f : Env → Sto → R TW) : TE := fun σ H Q => ∃ φ S ρ x S', Rel K φ S H ∧ RepE K φ H ρ σ ∧ f ρ S = .ok x S' ∧ After K φ H S' fun φ' H' => ∀ w, RepW K H φ' H' x w → Q w H'
def tB (K : PySem.W.Frag) (f : Env → Sto → R Bool) : TT := fun σ H Q => ∃ φ S ρ x S', Rel K φ S H ∧ RepE K φ H ρ σ ∧ f ρ S = .ok x S' ∧ After K φ H S' fun φ' H' => Q x H'
def tA (K : PySem.W.Frag) (f : Env → Sto → R (List TV)) : TA := fun σ H Q => ∃ φ S ρ x S', Rel K φ S H ∧ RepE K φ H ρ σ ∧ f ρ S = .ok x S' ∧ After K φ H S' fun φ' H' => ∀ ws, RepVs K φ' H' x ws → Q ws H'
def tW (K : PySem.W.Frag) (f : Env → Sto → R (List TW)) : TA := fun σ H Q => ∃ φ S ρ x S', Rel K φ S H ∧ RepE K φ H ρ σ ∧ f ρ S = .ok x S' ∧ After K φ H S' fun φ' H' => ∀ ws, RepWs K H φ' H' x ws → Q ws H'
/-- by values; H0: where the evaluation began -/
structure At (K : PySem.W.Frag) (H0 : Hp) (φ : List Addr) (S : Sto) (H : Hp) : Prop where
  rel : Rel K φ S H
  base : ∀ a, H a = none → H0 a = none
def r1 (K : PySem.W.Frag) (g : TW → Sto → R TW) : V → Hp → VK → Prop := fun x H Q => ∃ H0 φ S a v S', At K H0 φ S H ∧ RepW K H0 φ H a x ∧ g a S = .ok v S' ∧ After K φ H S' fun φ' H' => ∀ w, RepW K H0 φ' H' v w → Q w H'
def r2 (K : PySem.W.Frag) (g : TW → TW → Sto → R TW) : R2 := fun x y H Q => ∃ H0 φ S a b v S', At K H0 φ S H ∧ RepW K H0 φ H a x ∧ RepW K H0 φ H b y ∧ g a b S = .ok v S' ∧ After K φ H S' fun φ' H' => ∀ w, RepW K H0 φ' H' v w → Q w H'
def rn (K : PySem.W.Frag) (g : List TW → Sto → R TW) : List V → Hp → VK → Prop := fun xs H Q => ∃ H0 φ S as v S', At K H0 φ S H ∧ RepWs K H0 φ H as xs ∧ g as S = .ok v S' ∧ After K φ H S' fun φ' H' => ∀ w, RepW K H0 φ' H' v w → Q w H'
theorem PE.weak {X : Cx} {e : Expr} {t t' : TE} (h : PE X e t) (i : ∀ σ H Q, t' σ H Q → t σ H Q) : PE X e t' := ⟨fun pins s σ H Q I q => h.run pins s σ H Q I (i σ H Q q)⟩
theorem PT.weak {X : Cx} {e : Expr} {t t' : TT} (h : PT X e t) (i : ∀ σ H Q, t' σ H Q → t σ H Q) : PT X e t' := ⟨fun pins s σ H Q I q => h.run pins s σ H Q I (i σ H Q q)⟩
theorem PW.weak {X : Cx} {e : Expr} {t t' : TT} (h : PW X e t) (i : ∀ σ H Q, t' σ H Q → t σ H Q) : PW X e t' := ⟨fun wh pins s σ H Q I q => h.run wh pins s σ H Q I (i σ H Q q)⟩
theorem PA.weak {X : Cx} {e : List Expr} {t t' : TA} (h : PA X e t) (i : ∀ σ H Q, t' σ H Q → t σ H Q) : PA X e t' := ⟨fun p pins s σ H Q I q => h.run p pins s σ H Q I (i σ H Q q)⟩
theorem OpR.weak {X : Cx} {f : Value → Value → Sem Value} {r r' : R2} (h : OpR X f r) (i : ∀ x y H Q, r' x y H Q → r x y H Q) : OpR X f r' := fun pins s σ H x y v u Q I rx ry q => h pins s σ H x y v u Q I rx ry (i x y H Q q)

section
variable {K : PySem.W.Frag} {f g : Env → Sto → R TW} {σ : L2.St} {H : Hp} {Q : VK}
/-- the step from an expression to what follows it -/
theorem tE_step {φ : List Addr} {S S1 : Sto} {ρ : Env} {x : TW} (rel : Rel K φ S H) (re : RepE K φ H ρ σ) (ev : f ρ S = .ok x S1)
    (h : ∀ φ' H', Ext K φ H φ' H' → Rel K φ' S1 H' → RepE K φ' H' ρ σ → ∀ w, RepW K H φ' H' x w → Q w H') : tE K f σ H Q :=
  ⟨φ, S, ρ, x, S1, rel, re, ev, fun φ' H' e r w hw => h φ' H' e r (re.mono e) w hw⟩
/-- two expressions, then an operation by values -/
theorem tE_bin {op : TW → TW → Sto → R TW} (h : tE K (fun ρ S => (f ρ S).bind fun x S => (g ρ S).bind fun y S => op x y S) σ H Q) :
    tE K f σ H fun x H1 => tE K g σ H1 fun y H2 => r2 K op x y H2 Q := by
  obtain ⟨φ, S, ρ, z, S3, rel, re, ev, q⟩ := h
  obtain ⟨x, S1, e1, ev⟩ := R.bind_eq ev
  obtain ⟨y, S2, e2, ev⟩ := R.bind_eq ev
  refine tE_step rel re e1 fun φ1 H1 x1 r1 re1 w1 hw1 => ?_
  refine tE_step r1 re1 e2 fun φ2 H2 x2 r2 re2 w2 hw2 => ?_
  exact ⟨H, φ2, S2, x, y, z, S3, ⟨r2, fun a n => x1.gone a (x2.gone a n)⟩, hw1.mono x2, hw2.base x1.gone, ev, fun φ' H' e r w hw => q φ' H' ((x1.trans x2).trans e) r w hw⟩
theorem tE_un {op : TW → Sto → R TW} (h : tE K (fun ρ S => (f ρ S).bind fun x S => op x S) σ H Q) :
    tE K f σ H fun x H1 => r1 K op x H1 Q := by
  obtain ⟨φ, S, ρ, z, S3, rel, re, ev, q⟩ := h
  obtain ⟨x, S1, e1, ev⟩ := R.bind_eq ev
  refine tE_step rel re e1 fun φ1 H1 x1 r1 re1 w1 hw1 => ?_
  exact ⟨H, φ1, S1, x, z, S3, ⟨r1, x1.gone⟩, hw1, ev, fun φ' H' e r w hw => q φ' H' (x1.trans e) r w hw⟩
end
end Ev

/-! Ev, part C: what the evaluator does by values is what the machine does. -/
namespace Ev
open PySem PySem.Spec PyProof.Rows L2

section
variable {K : PySem.W.Frag} {φ : List Addr} {H H0 : Hp} {S : Sto}
/-- a sequence that is read -/
theorem seq_of {t : TW} {l : List TV} {w : V} (r : Rel K φ S H) (h : RepW K H0 φ H t w) (e : seqS S t = some l) : ∃ a ws, w = .ref a ∧ (SqL K H a ws ∨ SqT K H a ws) ∧ RepVs K φ H l ws := by
  cases t with
  | fr k =>
    cases e
    obtain ⟨p, ws, rfl, _, _, h4, h5⟩ := h
    exact ⟨p, ws, rfl, .inl (SqL.of h4), h5⟩
  | v x =>
    cases h with
    | ref hn =>
      rename_i n a
      obtain ⟨o, g, q⟩ := r.obj n a hn
      simp only [seqS, g] at e
      cases o with
      | lst k => cases e; obtain ⟨ws, q, m⟩ := q; exact ⟨a, ws, rfl, .inl (SqL.of q), m⟩
      | frz k => cases e; obtain ⟨ob, ws, q, m⟩ := q; exact ⟨a, ws, rfl, .inl (.inl (.inr ⟨ob, q⟩)), m⟩
    | tup hs hr => cases e; exact ⟨_, _, rfl, .inr hs, hr⟩
    | fz hs hr => cases e; exact ⟨_, _, rfl, .inl hs.seq, hr⟩
    | _ => cases e
theorem lst_of {t : TW} {l : List TV} {w : V} (r : Rel K φ S H) (h : RepW K H0 φ H t w) (e : lstS S t = some l) : ∃ a ws, w = .ref a ∧ SqL K H a ws ∧ RepVs K φ H l ws := by
  cases t with
  | fr k =>
    cases e
    obtain ⟨p, ws, rfl, _, _, h4, h5⟩ := h
    exact ⟨p, ws, rfl, SqL.of h4, h5⟩
  | v x =>
    cases h with
    | ref hn =>
      rename_i n a
      obtain ⟨o, g, q⟩ := r.obj n a hn
      simp only [lstS, g] at e
      cases o with
      | lst k => cases e; obtain ⟨ws, q, m⟩ := q; exact ⟨a, ws, rfl, SqL.of q, m⟩
      | frz k => cases e; obtain ⟨ob, ws, q, m⟩ := q; exact ⟨a, ws, rfl, .inl (.inr ⟨ob, q⟩), m⟩
    | fz hs hr => cases e; exact ⟨_, _, rfl, hs.seq, hr⟩
    | _ => cases e
theorem lstM_of {t : TW} {l : List TV} {w : V} (r : Rel K φ S H) (h : RepW K H0 φ H t w) (e : lstM S t = some l) : ∃ a ws, w = .ref a ∧ H a = some (.lst ws) ∧ RepVs K φ H l ws := by
  cases t with
  | fr k =>
    cases e
    obtain ⟨p, ws, rfl, _, _, h4, h5⟩ := h
    exact ⟨p, ws, rfl, h4, h5⟩
  | v x =>
    cases h with
    | ref hn =>
      rename_i n a
      obtain ⟨o, g, q⟩ := r.obj n a hn
      simp only [lstM, g] at e
      cases o with
      | lst k => cases e; obtain ⟨ws, q, m⟩ := q; exact ⟨a, ws, rfl, q, m⟩
      | frz k => cases e
    | _ => cases e
/-- a written place -/
theorem get_of {n : Nat} {l : List TV} {w : V} (r : Rel K φ S H) (h : RepV K φ H (.ref n) w) (e : S.get n = some (.lst l)) : ∃ a ws, w = .ref a ∧ φ[n]? = some a ∧ H a = some (.lst ws) ∧ RepVs K φ H l ws := by
  cases h with
  | ref hn =>
    obtain ⟨o, g, q⟩ := r.obj n _ hn
    rw [e] at g
    cases g
    obtain ⟨ws, q, m⟩ := q
    exact ⟨_, ws, rfl, hn, q, m⟩
theorem mapO_cons {α β : Type} {f : α → Option β} {x : α} {r : List α} {ys : List β} (h : mapO f (x :: r) = some ys) : ∃ y t, f x = some y ∧ mapO f r = some t ∧ ys = y :: t := by
  unfold mapO at h
  cases e : f x with
  | none => rw [e] at h; cases h
  | some y =>
    rw [e] at h
    cases e2 : mapO f r with
    | none => rw [e2] at h; cases h
    | some t => rw [e2] at h; cases h; exact ⟨y, t, rfl, rfl, rfl⟩
theorem den_all {k : Nat} (ih : ∀ (x : TV) (d : PyData) (w : V), den k S x = some d → RepV K φ H x w → Dp K H w d) : ∀ (l : List TV) (ds : List PyData) (ws : List V), mapO (fun x => den k S x) l = some ds → RepVs K φ H l ws → DpAll K H ws ds
  | [], _, _, h, r => by cases h; cases r; exact .nil
  | x :: l, ds, ws, h, r => by
    obtain ⟨y, t, h1, h2, rfl⟩ := mapO_cons h
    cases r with
    | cons a b => exact .cons (ih x y _ h1 a) (den_all ih l t _ h2 b)
theorem den_ok (r : Rel K φ S H) : ∀ (k : Nat) (x : TV) (d : PyData) (w : V), den k S x = some d → RepV K φ H x w → Dp K H w d
  | k, .non, d, w, h, q => by cases k <;> (cases h; cases q; exact .non)
  | k, .bl b, d, w, h, q => by cases k <;> (cases h; cases q; exact .bl _)
  | k, .int i, d, w, h, q => by cases k <;> (cases h; cases q; exact .int _)
  | k, .str s, d, w, h, q => by
    cases q
    have h : (if PyData.canLay0 (.str s) then some (PyData.str s) else none) = some d := by cases k <;> exact h
    split at h
    · cases h; exact .str s
    · cases h
  | 0, .tup l, d, w, h, q => by cases h
  | k + 1, .tup l, d, w, h, q => by
    have h : (mapO (fun x => den k S x) l).map PyData.tuple = some d := h
    obtain ⟨ds, h1, rfl⟩ := Option.map_eq_some_iff.mp h
    cases q with
    | tup hs hr => exact .tup hs (den_all (fun x d w => den_ok r k x d w) l ds _ h1 hr)
  | 0, .fz l, d, w, h, q => by cases h
  | k + 1, .fz l, d, w, h, q => by
    have h : (mapO (fun x => den k S x) l).map PyData.list = some d := h
    obtain ⟨ds, h1, rfl⟩ := Option.map_eq_some_iff.mp h
    cases q with
    | fz hs hr => exact .lst hs.seq (den_all (fun x d w => den_ok r k x d w) l ds _ h1 hr)
  | 0, .ref n, d, w, h, q => by cases h
  | k + 1, .ref n, d, w, h, q => by
    cases q with
    | ref hn =>
      obtain ⟨o, g, q⟩ := r.obj n _ hn
      simp only [den, g] at h
      cases o with
      | lst l =>
        obtain ⟨ws, q, m⟩ := q
        obtain ⟨ds, h1, rfl⟩ := Option.map_eq_some_iff.mp h
        exact .lst (SqL.of q) (den_all (fun x d w => den_ok r k x d w) l ds _ h1 m)
      | frz l =>
        obtain ⟨ob, ws, q, m⟩ := q
        obtain ⟨ds, h1, rfl⟩ := Option.map_eq_some_iff.mp h
        exact .lst (.inl (.inr ⟨ob, q⟩)) (den_all (fun x d w => den_ok r k x d w) l ds _ h1 m)
theorem denW_ok (r : Rel K φ S H) {t : TW} {d : PyData} {w : V} (h : denW S t = some d) (q : RepW K H0 φ H t w) : Dp K H w d := by
  cases t with
  | v x => exact den_ok r 30 x d w h q
  | fr l =>
    obtain ⟨p, ws, rfl, _, _, h4, h5⟩ := q
    obtain ⟨ds, h1, rfl⟩ := Option.map_eq_some_iff.mp (show (mapO (fun x => den 30 S x) l).map PyData.list = some d from h)
    exact .lst (SqL.of h4) (den_all (fun x d w => den_ok r 30 x d w) l ds _ h1 h5)
theorem canLay_all : ∀ ds : List PyData, (∀ d ∈ ds, PyData.canLay0 d = true) → PyData.canLayAll0 ds = true
  | [], _ => by simp [PyData.canLayAll0]
  | d :: ds, h => by
    unfold PyData.canLayAll0
    rw [h d List.mem_cons_self, canLay_all ds fun e he => h e (List.mem_cons_of_mem _ he)]
    rfl
theorem depth_all (k : Nat) : ∀ ds : List PyData, (∀ d ∈ ds, PyData.depth d ≤ k) → PyData.depthAll ds ≤ k
  | [], _ => by simp [PyData.depthAll]
  | d :: ds, h => by
    unfold PyData.depthAll
    exact Nat.max_le.mpr ⟨h d List.mem_cons_self, depth_all k ds fun e he => h e (List.mem_cons_of_mem _ he)⟩
theorem mapO_mem {α β : Type} {f : α → Option β} : ∀ {l : List α} {ys : List β}, mapO f l = some ys → ∀ y ∈ ys, ∃ x, f x = some y
  | [], _, h, y, hy => by cases h; cases hy
  | x :: l, ys, h, y, hy => by
    obtain ⟨z, t, h1, h2, rfl⟩ := mapO_cons h
    rcases List.mem_cons.mp hy with e | hy
    · exact ⟨x, by rw [e]; exact h1⟩
    · exact mapO_mem h2 y hy
theorem den_shape : ∀ (k : Nat) (x : TV) (d : PyData), den k S x = some d → PyData.canLay0 d = true ∧ PyData.depth d ≤ k
  | k, .non, d, h => by cases k <;> (cases h; simp [PyData.canLay0, PyData.depth])
  | k, .bl b, d, h => by cases k <;> (cases h; simp [PyData.canLay0, PyData.depth])
  | k, .int i, d, h => by cases k <;> (cases h; simp [PyData.canLay0, PyData.depth])
  | k, .str s, d, h => by
    have h : (if PyData.canLay0 (.str s) then some (PyData.str s) else none) = some d := by cases k <;> exact h
    split at h
    · rename_i hc; cases h; exact ⟨hc, by simp [PyData.depth]⟩
    · cases h
  | 0, .tup l, d, h => by cases h
  | k + 1, .tup l, d, h => by
    have h : (mapO (fun x => den k S x) l).map PyData.tuple = some d := h
    obtain ⟨ds, h1, rfl⟩ := Option.map_eq_some_iff.mp h
    have a : ∀ d ∈ ds, PyData.canLay0 d = true ∧ PyData.depth d ≤ k := fun d hd => let ⟨x, e⟩ := mapO_mem h1 d hd; den_shape k x d e
    refine ⟨?_, ?_⟩
    · show PyData.canLay0 (.tuple ds) = true
      unfold PyData.canLay0
      exact canLay_all ds fun d hd => (a d hd).1
    · show PyData.depth (.tuple ds) ≤ k + 1
      unfold PyData.depth
      exact Nat.succ_le_succ (depth_all k ds fun d hd => (a d hd).2)
  | 0, .fz l, d, h => by cases h
  | k + 1, .fz l, d, h => by
    have h : (mapO (fun x => den k S x) l).map PyData.list = some d := h
    obtain ⟨ds, h1, rfl⟩ := Option.map_eq_some_iff.mp h
    have a : ∀ d ∈ ds, PyData.canLay0 d = true ∧ PyData.depth d ≤ k := fun d hd => let ⟨x, e⟩ := mapO_mem h1 d hd; den_shape k x d e
    refine ⟨?_, ?_⟩
    · show PyData.canLay0 (.list ds) = true
      unfold PyData.canLay0
      exact canLay_all ds fun d hd => (a d hd).1
    · show PyData.depth (.list ds) ≤ k + 1
      unfold PyData.depth
      exact Nat.succ_le_succ (depth_all k ds fun d hd => (a d hd).2)
  | 0, .ref n, d, h => by cases h
  | k + 1, .ref n, d, h => by
    have go : ∀ l, (mapO (fun x => den k S x) l).map PyData.list = some d → PyData.canLay0 d = true ∧ PyData.depth d ≤ k + 1 := fun l h => by
      obtain ⟨ds, h1, rfl⟩ := Option.map_eq_some_iff.mp h
      have a : ∀ d ∈ ds, PyData.canLay0 d = true ∧ PyData.depth d ≤ k := fun d hd => let ⟨x, e⟩ := mapO_mem h1 d hd; den_shape k x d e
      refine ⟨?_, ?_⟩
      · show PyData.canLay0 (.list ds) = true
        unfold PyData.canLay0
        exact canLay_all ds fun d hd => (a d hd).1
      · show PyData.depth (.list ds) ≤ k + 1
        unfold PyData.depth
        exact Nat.succ_le_succ (depth_all k ds fun d hd => (a d hd).2)
    simp only [den] at h
    split at h
    · exact go _ h
    · exact go _ h
    · cases h
theorem denW_shape {t : TW} {d : PyData} (h : denW S t = some d) : SeqAt.shaped d = true := by
  have fin : PyData.canLay0 d = true → PyData.depth d ≤ 31 → SeqAt.shaped d = true := fun a b => by
    unfold SeqAt.shaped
    rw [a, decide_eq_true (show PyData.depth d ≤ 64 by omega)]
    rfl
  cases t with
  | v x =>
    obtain ⟨a, b⟩ := den_shape 30 x d h
    exact fin a (by omega)
  | fr l =>
    obtain ⟨ds, h1, rfl⟩ := Option.map_eq_some_iff.mp (show (mapO (fun x => den 30 S x) l).map PyData.list = some d from h)
    have a : ∀ d ∈ ds, PyData.canLay0 d = true ∧ PyData.depth d ≤ 30 := fun d hd => let ⟨x, e⟩ := mapO_mem h1 d hd; den_shape 30 x d e
    refine fin ?_ ?_
    · unfold PyData.canLay0
      exact canLay_all ds fun d hd => (a d hd).1
    · unfold PyData.depth
      exact Nat.succ_le_succ (depth_all 30 ds fun d hd => (a d hd).2)
/-- a value's end -/
theorem fin0 {v : TW} {w : V} {Q : VK} (at_ : At K H0 φ S H) (q : After K φ H S fun φ' H' => ∀ w, RepW K H0 φ' H' v w → Q w H') (h : RepW K H0 φ H v w) : Q w H := q φ H (Ext.refl K φ H) at_.rel w h
/-- a new list's end -/
theorem finL {l : List TV} {ws : List V} {Q : VK} (at_ : At K H0 φ S H) (q : After K φ H S fun φ' H' => ∀ w, RepW K H0 φ' H' (.fr l) w → Q w H') (m : RepVs K φ H l ws) {p : Addr} (hp : H p = none) : Q (.ref p) (upd H p (.lst ws)) :=
  q φ _ (Ext.new at_.rel _ hp) (at_.rel.upd_new _ hp) _ ⟨p, ws, rfl, at_.base p hp, at_.rel.new hp, upd_same, m.mono (Ext.new at_.rel _ hp)⟩
theorem finT {l : List TV} {ws : List V} {Q : VK} (at_ : At K H0 φ S H) (q : After K φ H S fun φ' H' => ∀ w, RepW K H0 φ' H' (.v (.tup l)) w → Q w H') (m : RepVs K φ H l ws) {p : Addr} (hp : H p = none) : Q (.ref p) (upd H p (.tup ws)) :=
  q φ _ (Ext.new at_.rel _ hp) (at_.rel.upd_new _ hp) _ (.tup (SqT.of upd_same) (m.mono (Ext.new at_.rel _ hp)))
theorem isEmpty_rep {l : List TV} {ws : List V} (m : RepVs K φ H l ws) : l.isEmpty = ws.isEmpty := by
  cases m <;> rfl
theorem truth_ok {t : TW} {w : V} {k : Bool} (r : Rel K φ S H) (h : RepW K H0 φ H t w) (e : truth S t = some k) : TruV K w H k := by
  have sq : ∀ {l : List TV}, seqS S t = some l → some (!l.isEmpty) = some k → TruV K w H k := fun {l} e1 e2 => by
    obtain ⟨a, ws, rfl, q, m⟩ := seq_of r h e1
    cases e2
    rcases q with q | q
    · exact .inl ⟨ws, q, by rw [isEmpty_rep m]⟩
    · exact .inr (.inl ⟨ws, q, by rw [isEmpty_rep m]⟩)
  cases t with
  | fr l => exact sq rfl e
  | v x =>
    cases x with
    | non => cases h; cases e; exact rfl
    | bl b => cases h; cases e; exact rfl
    | int i => cases h; cases e; exact rfl
    | str s =>
      cases h
      simp only [truth] at e
      split at e
      · rename_i hs
        cases e
        refine ⟨hs, ?_⟩
        cases hl : s.length with
        | zero => rfl
        | succ n =>
          have e1 : ((n + 1 : Nat) != 0) = true := by simp
          have e2 : (((n + 1 : Nat) : Int) != 0) = true := by
            have : ((n + 1 : Nat) : Int) ≠ 0 := by omega
            simpa using this
          rw [e1, e2]
      · cases e
    | tup l => exact sq rfl e
    | fz l => exact sq rfl e
    | ref n =>
      simp only [truth] at e
      cases g : S.get n with
      | none => rw [g] at e; cases e
      | some o =>
        rw [g] at e
        cases o with
        | lst l => exact sq (by simp only [seqS, g]) e
        | frz l => exact sq (by simp only [seqS, g]) e
end

/-! ### two-place operations -/
section
variable {X : Cx}
theorem notSmall {a b : Int} (h : (small64 a || small64 b) = true) : CMul a b := by
  rcases Bool.or_eq_true_iff.mp h with h | h
  · have := Bool.and_eq_true_iff.mp h
    exact .inl ⟨of_decide_eq_true this.1, of_decide_eq_true this.2⟩
  · have := Bool.and_eq_true_iff.mp h
    exact .inr ⟨of_decide_eq_true this.1, of_decide_eq_true this.2⟩
theorem op_addE : OpR X (binaryOp .Add) (r2 X.K (binop .add)) := by
  intro pins s σ H x y v u Q I rx ry h
  obtain ⟨H0, φ, S, a, b, z, S', at_, ra, rb, ev, q⟩ := h
  unfold binop at ev
  split at ev <;> try contradiction
  · cases ra; cases rb; cases ev
    exact op_add pins s σ H _ _ v u Q I rx ry ⟨_, _, rfl, rfl, fin0 at_ q (.int _)⟩
  · split at ev
    · rename_i hz
      cases ra; cases rb; cases ev
      exact op_add_str pins s σ H _ _ v u Q I rx ry ⟨_, _, rfl, rfl, hz, fin0 at_ q (.str _)⟩
    · cases ev
  · split at ev
    · rename_i hz
      cases ra with | tup h1 m1 =>
      cases rb with | tup h2 m2 =>
      cases ev
      have l1 := m1.length
      have l2 := m2.length
      refine op_catA pins s σ H _ _ v u Q I rx ry ⟨_, _, _, _, rfl, rfl, h1, h2, by omega, fun e => ?_, fun e e2 => ?_, fun e e2 p hp => ?_⟩
      · subst e; cases m1; exact fin0 at_ q (.tup h2 m2)
      · subst e2; cases m2; exact fin0 at_ q (by rw [List.append_nil]; exact .tup h1 m1)
      · exact finT at_ q (m1.append m2) hp
    · cases ev
  · split at ev
    · rename_i l1 l2 e1 e2
      split at ev
      · rename_i hz
        cases ev
        obtain ⟨p1, ws1, rfl, g1, m1⟩ := lstM_of at_.rel ra e1
        obtain ⟨p2, ws2, rfl, g2, m2⟩ := lstM_of at_.rel rb e2
        have n1 := m1.length
        have n2 := m2.length
        exact op_cat pins s σ H _ _ v u Q I rx ry ⟨p1, p2, ws1, ws2, rfl, rfl, g1, g2, by omega, fun p hp => finL at_ q (m1.append m2) hp⟩
      · cases ev
    · cases ev
theorem op_subE : OpR X (binaryOp .Sub) (r2 X.K (binop .sub)) := by
  intro pins s σ H x y v u Q I rx ry h
  obtain ⟨H0, φ, S, a, b, z, S', at_, ra, rb, ev, q⟩ := h
  unfold binop at ev
  split at ev <;> try contradiction
  cases ra; cases rb; cases ev
  exact op_sub pins s σ H _ _ v u Q I rx ry ⟨_, _, rfl, rfl, fin0 at_ q (.int _)⟩
theorem op_mulE : OpR X (binaryOp .Mult) (r2 X.K (binop .mul)) := by
  intro pins s σ H x y v u Q I rx ry h
  obtain ⟨H0, φ, S, a, b, z, S', at_, ra, rb, ev, q⟩ := h
  unfold binop at ev
  split at ev <;> try contradiction
  · split at ev
    · rename_i hz
      cases ra; cases rb; cases ev
      exact op_mul pins s σ H _ _ v u Q I rx ry ⟨_, _, rfl, rfl, notSmall hz, fin0 at_ q (.int _)⟩
    · cases ev
  · split at ev
    · rename_i hz
      cases ra with | tup h1 m1 =>
      cases rb; cases ev
      have l1 := m1.length
      refine op_repT pins s σ H _ _ v u Q I rx ry ⟨_, _, _, rfl, rfl, h1, fun e => ?_, hz.2.1, hz.2.2.1, by omega, fun p hp => finT at_ q (m1.rep _) hp⟩
      subst e
      cases m1
      exact absurd hz.1 (by decide)
    · cases ev
  · split at ev
    · rename_i l1 e1
      split at ev
      · rename_i hz
        cases rb; cases ev
        obtain ⟨p1, ws1, rfl, g1, m1⟩ := lstM_of at_.rel ra e1
        have n1 := m1.length
        exact op_rep pins s σ H _ _ v u Q I rx ry ⟨p1, _, ws1, rfl, rfl, g1, hz.1, hz.2.1, by rw [← n1]; exact hz.2.2, fun p hp => finL at_ q (m1.rep _) hp⟩
      · cases ev
    · cases ev
theorem op_fdivE : OpR X (binaryOp .FloorDiv) (r2 X.K (binop .fdiv)) := by
  intro pins s σ H x y v u Q I rx ry h
  obtain ⟨H0, φ, S, a, b, z, S', at_, ra, rb, ev, q⟩ := h
  unfold binop at ev
  split at ev <;> try contradiction
  split at ev
  · rename_i hz
    cases ra; cases rb; cases ev
    exact op_fdiv pins s σ H _ _ v u Q I rx ry ⟨_, _, rfl, rfl, hz, fin0 at_ q (.int _)⟩
  · cases ev
theorem op_modE : OpR X (binaryOp .Mod) (r2 X.K (binop .mod)) := by
  intro pins s σ H x y v u Q I rx ry h
  obtain ⟨H0, φ, S, a, b, z, S', at_, ra, rb, ev, q⟩ := h
  unfold binop at ev
  split at ev <;> try contradiction
  split at ev
  · rename_i hz
    cases ra; cases rb; cases ev
    exact op_mod pins s σ H _ _ v u Q I rx ry ⟨_, _, rfl, rfl, hz, fin0 at_ q (.int _)⟩
  · cases ev
theorem op_powE : OpR X (binaryOp .Pow) (r2 X.K (binop .pow)) := by
  intro pins s σ H x y v u Q I rx ry h
  obtain ⟨H0, φ, S, a, b, z, S', at_, ra, rb, ev, q⟩ := h
  unfold binop at ev
  split at ev <;> try contradiction
  split at ev
  · rename_i hz
    cases ra; cases rb; cases ev
    exact op_pow pins s σ H _ _ v u Q I rx ry ⟨_, _, rfl, rfl, hz, fin0 at_ q (.int _)⟩
  · cases ev
def opOf : BOp → Operator
  | .add => .Add | .sub => .Sub | .mul => .Mult | .fdiv => .FloorDiv | .mod => .Mod | .pow => .Pow
theorem op_binE (op : BOp) : OpR X (binaryOp (opOf op)) (r2 X.K (binop op)) := by
  cases op
  · exact op_addE
  · exact op_subE
  · exact op_mulE
  · exact op_fdivE
  · exact op_modE
  · exact op_powE
end
end Ev

/-! Ev, part D: comparisons, built-in calls, items, slices, methods, by values. -/
namespace Ev
open PySem PySem.Spec PyProof.Rows L2

/-! ### comparisons -/
def rc (K : PySem.W.Frag) (op : COp) : R2 := fun x y H Q => ∃ H0 φ S a b t S', At K H0 φ S H ∧ RepW K H0 φ H a x ∧ RepW K H0 φ H b y ∧ cmpop op a b S = .ok t S' ∧ After K φ H S' fun φ' H' => Q (.bl t) H'
section
variable {K : PySem.W.Frag} {φ : List Addr} {H H0 : Hp} {S : Sto}
theorem finB {t : Bool} {Q : VK} (at_ : At K H0 φ S H) (q : After K φ H S fun φ' H' => Q (.bl t) H') : Q (.bl t) H := q φ H (Ext.refl K φ H) at_.rel
theorem flat_ok {x : TV} {w : V} (h : flat x = true) (r : RepV K φ H x w) : flatV w = true := by
  cases r <;> first | rfl | cases h
theorem flats_ok : ∀ {l : List TV} {ws : List V}, l.all flat = true → RepVs K φ H l ws → ws.all flatV = true
  | _, _, _, .nil => rfl
  | _, _, h, .cons a b => by
    rw [List.all_cons, Bool.and_eq_true] at h ⊢
    exact ⟨flat_ok h.1 a, flats_ok h.2 b⟩
theorem eqF_ok {x z : TV} {w u : V} (fx : flat x = true) (fz : flat z = true) (r : RepV K φ H x w) (q : RepV K φ H z u) : eqV u w = eqF z x := by
  cases r <;> (try exact absurd (show false = true from fx) Bool.false_ne_true) <;> cases q <;> first | rfl | exact absurd (show false = true from fz) Bool.false_ne_true
theorem any_ok {x : TV} {w : V} (fx : flat x = true) (r : RepV K φ H x w) : ∀ {l : List TV} {ws : List V}, l.all flat = true → RepVs K φ H l ws → inV w ws = l.any fun z => eqF z x
  | _, _, _, .nil => rfl
  | _, _, h, .cons a b => by
    rw [List.all_cons, Bool.and_eq_true] at h
    unfold inV
    rw [List.any_cons, List.any_cons, eqF_ok fx h.1 r a]
    congr 1
    exact any_ok fx r h.2 b
theorem isNon {x : TV} {w : V} (r : RepV K φ H x w) : decide (w = .non) = isN x := by
  cases r <;> rfl
end
section
variable {X : Cx}
def copOf : COp → CmpOp
  | .eq => .Eq | .ne => .NotEq | .lt => .Lt | .le => .LtE | .gt => .Gt | .ge => .GtE | .is => .Is | .isn => .IsNot | .inn => .In | .nin => .NotIn
theorem cmpE (hu : X.A.units + 64 < cLine) (op : COp) : OpR X (compareOp (copOf op)) (rc X.K op) := by
  intro pins s σ H x y v u Q I rx ry h
  obtain ⟨H0, φ, S, a, b, t, S', at_, ra, rb, ev, q⟩ := h
  unfold cmpop at ev
  split at ev <;> try contradiction
  · cases ra; cases rb; cases ev
    exact op_lt pins s σ H _ _ v u Q I rx ry ⟨_, _, rfl, rfl, finB at_ q⟩
  · cases ra; cases rb; cases ev
    exact op_le pins s σ H _ _ v u Q I rx ry ⟨_, _, rfl, rfl, finB at_ q⟩
  · cases ra; cases rb; cases ev
    exact op_gt pins s σ H _ _ v u Q I rx ry ⟨_, _, rfl, rfl, finB at_ q⟩
  · cases ra; cases rb; cases ev
    exact op_ge pins s σ H _ _ v u Q I rx ry ⟨_, _, rfl, rfl, finB at_ q⟩
  · cases rb; cases ev
    refine op_isN pins s σ H _ _ v u Q I rx ry ⟨rfl, ?_⟩
    rw [isNon ra]
    exact finB at_ q
  · cases ra; cases rb; cases ev
    exact op_isBl pins s σ H _ _ v u Q I rx ry ⟨_, _, rfl, rfl, finB at_ q⟩
  · cases rb; cases ev
    refine op_notN pins s σ H _ _ v u Q I rx ry ⟨rfl, ?_⟩
    rw [isNon ra]
    exact finB at_ q
  · cases ra; cases rb; cases ev
    exact op_notBl pins s σ H _ _ v u Q I rx ry ⟨_, _, rfl, rfl, finB at_ q⟩
  · split at ev
    · rename_i d e h1 h2
      cases ev
      exact op_eqD hu pins s σ H _ _ v u Q I rx ry ⟨d, e, denW_ok at_.rel h1 ra, denW_ok at_.rel h2 rb, denW_shape h1, denW_shape h2, finB at_ q⟩
    · cases ev
  · split at ev
    · rename_i d e h1 h2
      cases ev
      exact op_neD hu pins s σ H _ _ v u Q I rx ry ⟨d, e, denW_ok at_.rel h1 ra, denW_ok at_.rel h2 rb, denW_shape h1, denW_shape h2, finB at_ q⟩
    · cases ev
  · split at ev
    · rename_i l h1
      split at ev
      · rename_i hf
        rw [Bool.and_eq_true] at hf
        cases ev
        obtain ⟨p, ws, rfl, hs, m⟩ := seq_of at_.rel rb h1
        refine op_in_seq pins s σ H _ _ v u Q I rx ry ⟨p, ws, rfl, hs, flat_ok hf.1 ra, flats_ok hf.2 m, ?_⟩
        rw [any_ok hf.1 ra hf.2 m]
        exact finB at_ q
      · cases ev
    · cases ev
  · split at ev
    · rename_i l h1
      split at ev
      · rename_i hf
        rw [Bool.and_eq_true] at hf
        cases ev
        obtain ⟨p, ws, rfl, hs, m⟩ := seq_of at_.rel rb h1
        refine op_notIn_seq pins s σ H _ _ v u Q I rx ry ⟨p, ws, rfl, hs, flat_ok hf.1 ra, flats_ok hf.2 m, ?_⟩
        rw [any_ok hf.1 ra hf.2 m]
        exact finB at_ q
      · cases ev
    · cases ev
end

/-! ### built-ins of one or two arguments -/
theorem CallR.weak {X : Cx} {f : Value} {r r' : List V → Hp → VK → Prop} (h : CallR X f r) (i : ∀ xs H Q, r' xs H Q → r xs H Q) : CallR X f r' := fun pins s σ H xs us Q I r q => h pins s σ H xs us Q I r (i xs H Q q)
section
variable {K : PySem.W.Frag} {φ : List Addr} {H H0 : Hp} {S : Sto}
theorem ints_ok : ∀ {l : List TV} {ns : List Int} {ws : List V}, ints? l = some ns → RepVs K φ H l ws → ws = ns.map V.int
  | [], _, _, h, r => by cases h; cases r; rfl
  | x :: l, ns, ws, h, r => by
    cases r with
    | cons a b =>
      cases a with
      | int i =>
        obtain ⟨ms, h1, rfl⟩ := Option.map_eq_some_iff.mp (show (ints? l).map (i :: ·) = some ns from h)
        rw [ints_ok h1 b]
        rfl
      | _ => cases h
theorem bls_ok : ∀ {l : List TV} {ns : List Bool} {ws : List V}, bls? l = some ns → RepVs K φ H l ws → ws = ns.map V.bl
  | [], _, _, h, r => by cases h; cases r; rfl
  | x :: l, ns, ws, h, r => by
    cases r with
    | cons a b =>
      cases a with
      | bl i =>
        obtain ⟨ms, h1, rfl⟩ := Option.map_eq_some_iff.mp (show (bls? l).map (i :: ·) = some ns from h)
        rw [bls_ok h1 b]
        rfl
      | _ => cases h
theorem RepVs.ints : ∀ (ns : List Int), RepVs K φ H (ns.map TV.int) (ns.map V.int)
  | [] => .nil
  | i :: ns => .cons (.int i) (RepVs.ints ns)
end
theorem insI_perm (x : Int) : ∀ l : List Int, (insI x l).Perm (x :: l)
  | [] => .refl _
  | y :: r => by
    unfold insI
    cases h : decide (x ≤ y) with
    | true => exact .refl _
    | false => exact ((insI_perm x r).cons y).trans (.swap x y r)
theorem sortI_perm : ∀ l : List Int, (sortI l).Perm l
  | [] => .refl _
  | x :: r => (insI_perm x _).trans ((sortI_perm r).cons x)
theorem insI_sorted (x : Int) : ∀ l : List Int, l.Pairwise (· ≤ ·) → (insI x l).Pairwise (· ≤ ·)
  | [], _ => by simp [insI]
  | y :: r, h => by
    unfold insI
    rw [List.pairwise_cons] at h
    cases hd : decide (x ≤ y) with
    | true =>
      have hx : x ≤ y := of_decide_eq_true hd
      refine List.pairwise_cons.mpr ⟨fun z hz => ?_, List.pairwise_cons.mpr h⟩
      rcases List.mem_cons.mp hz with rfl | hz
      · exact hx
      · exact Int.le_trans hx (h.1 z hz)
    | false =>
      have hx : ¬ x ≤ y := of_decide_eq_false hd
      refine List.pairwise_cons.mpr ⟨fun z hz => ?_, insI_sorted x r h.2⟩
      rcases List.mem_cons.mp ((insI_perm x r).mem_iff.mp hz) with rfl | hz
      · omega
      · exact h.1 z hz
theorem sortI_sorted : ∀ l : List Int, (sortI l).Pairwise (· ≤ ·)
  | [] => .nil
  | x :: r => insI_sorted x _ (sortI_sorted r)
theorem sorted_one : ∀ {a b : List Int}, a.Perm b → a.Pairwise (· ≤ ·) → b.Pairwise (· ≤ ·) → a = b := fun h ha hb =>
  h.eq_of_pairwise (fun x y _ _ h1 h2 => Int.le_antisymm h1 h2) ha hb

section
variable {X : Cx}
theorem fin1 {K : PySem.W.Frag} {φ : List Addr} {H H0 : Hp} {as : List TW} {xs : List V} (r : RepWs K H0 φ H as xs) {x : TW} (e : as = [x]) : ∃ w, xs = [w] ∧ RepW K H0 φ H x w := by
  subst e
  cases r with
  | cons a b => cases b; exact ⟨_, rfl, a⟩
theorem fin2 {K : PySem.W.Frag} {φ : List Addr} {H H0 : Hp} {as : List TW} {xs : List V} (r : RepWs K H0 φ H as xs) {x y : TW} (e : as = [x, y]) : ∃ w u, xs = [w, u] ∧ RepW K H0 φ H x w ∧ RepW K H0 φ H y u := by
  subst e
  cases r with
  | cons a b => cases b with | cons c d => cases d; exact ⟨_, _, rfl, a, c⟩
/-- a built-in of one argument -/
abbrev rb1 (K : PySem.W.Frag) (b : BI) : List V → Hp → VK → Prop := rn K fun xs S => match xs with | [x] => bif1 b x S | _ => .err
abbrev rb2 (K : PySem.W.Frag) (b : BI) : List V → Hp → VK → Prop := rn K fun xs S => match xs with | [x, y] => bif2 b x y S | _ => .err
theorem b_len : CallR X (.builtin "len") (rb1 X.K .len) := by
  intro pins s σ H xs us Q I r h
  obtain ⟨H0, φ, S, as, z, S', at_, rs, ev, q⟩ := h
  simp only at ev
  split at ev
  · rename_i x
    obtain ⟨w, rfl, rw⟩ := fin1 rs rfl
    unfold bif1 at ev
    simp only at ev
    split at ev
    · rename_i y
      split at ev
      · rename_i hz
        cases rw; cases ev
        exact call_len_str pins s σ H _ us Q I r ⟨_, rfl, hz, fin0 at_ q (.int _)⟩
      · cases ev
    · split at ev
      · rename_i l e1
        cases ev
        obtain ⟨p, ws, rfl, hs, m⟩ := seq_of at_.rel rw e1
        refine call_len_seq pins s σ H _ us Q I r ⟨p, ws, rfl, hs, ?_⟩
        rw [← m.length]
        exact fin0 at_ q (.int _)
      · cases ev
  · cases ev
theorem b_abs : CallR X (.builtin "abs") (rb1 X.K .abs) := by
  intro pins s σ H xs us Q I r h
  obtain ⟨H0, φ, S, as, z, S', at_, rs, ev, q⟩ := h
  simp only at ev
  split at ev
  · rename_i x
    obtain ⟨w, rfl, rw⟩ := fin1 rs rfl
    unfold bif1 at ev
    simp only at ev
    split at ev
    · cases rw; cases ev
      exact call_abs pins s σ H _ us Q I r ⟨_, rfl, fin0 at_ q (.int _)⟩
    · cases ev
  · cases ev
theorem b_int : CallR X (.type "int") (rb1 X.K .int) := by
  intro pins s σ H xs us Q I r h
  obtain ⟨H0, φ, S, as, z, S', at_, rs, ev, q⟩ := h
  simp only at ev
  split at ev
  · rename_i x
    obtain ⟨w, rfl, rw⟩ := fin1 rs rfl
    unfold bif1 at ev
    simp only at ev
    split at ev
    · cases rw; cases ev
      exact call_int1 pins s σ H _ us Q I r (.inl ⟨_, rfl, fin0 at_ q (.int _)⟩)
    · cases rw; cases ev
      exact call_int1 pins s σ H _ us Q I r (.inr ⟨_, rfl, fin0 at_ q (.int _)⟩)
    · cases ev
  · cases ev
theorem b_list : CallR X (.type "list") (rb1 X.K .list) := by
  intro pins s σ H xs us Q I r h
  obtain ⟨H0, φ, S, as, z, S', at_, rs, ev, q⟩ := h
  simp only at ev
  split at ev
  · rename_i x
    obtain ⟨w, rfl, rw⟩ := fin1 rs rfl
    unfold bif1 at ev
    simp only at ev
    split at ev
    · rename_i l e1
      cases ev
      obtain ⟨p, ws, rfl, hs, m⟩ := seq_of at_.rel rw e1
      exact call_list_of pins s σ H _ us Q I r ⟨p, ws, rfl, hs, fun p hp => finL at_ q m hp⟩
    · cases ev
  · cases ev
theorem b_tuple : CallR X (.type "tuple") (rb1 X.K .tuple) := by
  intro pins s σ H xs us Q I r h
  obtain ⟨H0, φ, S, as, z, S', at_, rs, ev, q⟩ := h
  simp only at ev
  split at ev
  · rename_i x
    obtain ⟨w, rfl, rw⟩ := fin1 rs rfl
    unfold bif1 at ev
    simp only at ev
    split at ev
    · rename_i l e1
      cases ev
      obtain ⟨p, ws, rfl, hs, m⟩ := seq_of at_.rel rw e1
      rcases hs with hs | hs
      · exact call_tuple_of pins s σ H _ us Q I r ⟨p, ws, rfl, .inl ⟨hs, fun p hp => finT at_ q m hp⟩⟩
      · exact call_tuple_of pins s σ H _ us Q I r ⟨p, ws, rfl, .inr ⟨hs, fin0 at_ q (.tup hs m)⟩⟩
    · cases ev
  · cases ev
theorem b_sum (hc : X.calm = true) : CallR X (.builtin "sum") (rb1 X.K .sum) := by
  intro pins s σ H xs us Q I r h
  obtain ⟨H0, φ, S, as, z, S', at_, rs, ev, q⟩ := h
  simp only at ev
  split at ev
  · rename_i x
    obtain ⟨w, rfl, rw⟩ := fin1 rs rfl
    unfold bif1 at ev
    simp only at ev
    split at ev
    · rename_i l e1
      cases ev
      obtain ⟨k, e1, e2⟩ := Option.bind_eq_some_iff.mp e1
      obtain ⟨p, ws, rfl, hs, m⟩ := lst_of at_.rel rw e1
      exact cr_sum hc pins s σ H _ us Q I r ⟨p, l, rfl, by rw [← ints_ok e2 m]; exact hs, fin0 at_ q (.int _)⟩
    · cases ev
  · cases ev
theorem b_all (hc : X.calm = true) : CallR X (.builtin "all") (rb1 X.K .all) := by
  intro pins s σ H xs us Q I r h
  obtain ⟨H0, φ, S, as, z, S', at_, rs, ev, q⟩ := h
  simp only at ev
  split at ev
  · rename_i x
    obtain ⟨w, rfl, rw⟩ := fin1 rs rfl
    unfold bif1 at ev
    simp only at ev
    split at ev
    · rename_i l e1
      cases ev
      obtain ⟨k, e1, e2⟩ := Option.bind_eq_some_iff.mp e1
      obtain ⟨p, ws, rfl, hs, m⟩ := lst_of at_.rel rw e1
      exact cr_all hc pins s σ H _ us Q I r ⟨p, l, rfl, by rw [← bls_ok e2 m]; exact hs, fin0 at_ q (.bl _)⟩
    · cases ev
  · cases ev
theorem b_any (hc : X.calm = true) : CallR X (.builtin "any") (rb1 X.K .any) := by
  intro pins s σ H xs us Q I r h
  obtain ⟨H0, φ, S, as, z, S', at_, rs, ev, q⟩ := h
  simp only at ev
  split at ev
  · rename_i x
    obtain ⟨w, rfl, rw⟩ := fin1 rs rfl
    unfold bif1 at ev
    simp only at ev
    split at ev
    · rename_i l e1
      cases ev
      obtain ⟨k, e1, e2⟩ := Option.bind_eq_some_iff.mp e1
      obtain ⟨p, ws, rfl, hs, m⟩ := lst_of at_.rel rw e1
      exact cr_any hc pins s σ H _ us Q I r ⟨p, l, rfl, by rw [← bls_ok e2 m]; exact hs, fin0 at_ q (.bl _)⟩
    · cases ev
  · cases ev
theorem b_max2 (hc : X.calm = true) : CallR X (.builtin "max") (rb2 X.K .max2) := by
  intro pins s σ H xs us Q I r h
  obtain ⟨H0, φ, S, as, z, S', at_, rs, ev, q⟩ := h
  simp only at ev
  split at ev
  · obtain ⟨w, u, rfl, rw, ru⟩ := fin2 rs rfl
    unfold bif2 at ev
    split at ev <;> try contradiction
    cases rw; cases ru; cases ev
    exact call_max2 hc pins s σ H _ us Q I r ⟨_, _, rfl, fin0 at_ q (.int _)⟩
  · cases ev
theorem b_min2 (hc : X.calm = true) : CallR X (.builtin "min") (rb2 X.K .min2) := by
  intro pins s σ H xs us Q I r h
  obtain ⟨H0, φ, S, as, z, S', at_, rs, ev, q⟩ := h
  simp only at ev
  split at ev
  · obtain ⟨w, u, rfl, rw, ru⟩ := fin2 rs rfl
    unfold bif2 at ev
    split at ev <;> try contradiction
    cases rw; cases ru; cases ev
    exact call_min2 hc pins s σ H _ us Q I r ⟨_, _, rfl, fin0 at_ q (.int _)⟩
  · cases ev
theorem b_divmod : CallR X (.builtin "divmod") (rb2 X.K .divmod) := by
  intro pins s σ H xs us Q I r h
  obtain ⟨H0, φ, S, as, z, S', at_, rs, ev, q⟩ := h
  simp only at ev
  split at ev
  · obtain ⟨w, u, rfl, rw, ru⟩ := fin2 rs rfl
    unfold bif2 at ev
    split at ev <;> try contradiction
    split at ev
    · rename_i hz
      cases rw; cases ru; cases ev
      exact call_divmod pins s σ H _ us Q I r ⟨_, _, rfl, hz, fun p hp => finT at_ q (.cons (.int _) (.cons (.int _) .nil)) hp⟩
    · cases ev
  · cases ev
/-- the heap with a new list that holds vs -/
abbrev gath (h : Heap) (vs : List Value) : Heap := (h.push (seqObj "list" #[] 0)).update h.objs.size (Obj.mapSeq (· ++ vs.toArray))
/-- what a tuple holds, gathered in a new list -/
theorem collect_tup {l : Addr} {vs : List Value} {A : Around} {E : Value → Shared → Prop} {s : Shared} {Q : List Value → Shared → Prop} (hl : IsTup s.heap l vs.toArray) (hz : vs.length ≤ sizeLine)
    (h : Q vs { s with heap := gath s.heap vs }) : wpAny (model X.prog X.w) A (collect (.ref l)) Q E s := by
  obtain ⟨o, h1, h2, n, h3⟩ := id hl
  have hn : (s.heap.push (seqObj "list" #[] 0)).get? s.heap.objs.size = some (seqObj "list" #[] 0) := Heap.get?_push_size _ rfl
  have hp : (s.heap.push (seqObj "list" #[] 0)).get? l = some o := Heap.get?_push_of_some _ h1
  unfold collect
  refine wpAny_bind (wpAny_runValue (codeAny_builtin entry_proto_collect' ?_))
  show wpAny _ _ (newList [] >>= fun y => again (.builtin "list.__iadd__" ⟨[y, .ref l], []⟩)) _ _ s
  refine wpAny_bind (wpAny_newList (wpAny_pure ⟨Code.quiet_builtin _ (by decide +kernel), codeAny_builtin entry_list_iadd' ?_⟩))
  show wpAny _ _ (Builtin.List.listExtendWith (.ref s.heap.objs.size) (.ref l) (.ref s.heap.objs.size)) _ _ { s with heap := s.heap.push (seqObj "list" #[] 0) }
  unfold Builtin.List.listExtendWith
  refine wpAny_bind (wpAny_typeOf (T := "tuple") ⟨o, hp, h2⟩ ?_)
  rw [if_pos (show (Builtin.List.listSameRef (.ref s.heap.objs.size) (.ref l) || Value.type "tuple" == .type "list" || Value.type "tuple" == .type "tuple") = true by
    rw [show (Value.type "tuple" == Value.type "tuple") = true from rfl, Bool.or_true])]
  refine wpAny_bind (listItems_at hp h3 (wpAny_bind (listItems_at (xs := #[]) (n := 0) hn rfl ?_)))
  rw [if_neg (by simp)]
  refine wpAny_bind (listUpdate_at (xs := #[]) (n := 0) hn rfl ?_ (Nat.zero_le _) (by simp only [Array.size_append, List.size_toArray]; exact Nat.le_succ_of_le (by simpa using hz)))
  refine wpAny_pure ?_
  have hr : ((#[] : Array Value) ++ vs.toArray).toList = vs := by simp
  refine wpAny_bind (wpAny_load (get?_update_seq hn (· ++ vs.toArray)) ?_)
  show wpAny _ _ (pure ((#[] : Array Value) ++ vs.toArray).toList) Q E _
  rw [hr]
  exact wpAny_pure h
theorem sorted_tupI {l : Addr} {vs : List Value} {ns : List Int} {A : Around} {E : Value → Shared → Prop} {s : Shared} {Q : Value → Shared → Prop} (hl : IsTup s.heap l vs.toArray) (hI : IntsAre vs ns) (hz : vs.length ≤ sizeLine)
    (h : ∀ out : List Value, SrtO.Srtd SrtO.ltIv out → SrtO.Stb SrtO.ltIv out vs → Q (.ref (s.heap.objs.size + 1)) { s with heap := sortedAll s.heap vs out.toArray }) :
    wpAny (model X.prog X.w) A (call (.builtin "sorted") [.ref l]) Q E s := by
  refine Calls.call_function_entry kind_sorted plain_sorted entry_sorted (args_sorted1 _) ?_
  unfold Builtin.«sorted»
  refine wpAny_bind (wpAny_pure (wpAny_bind (collect_tup hl hz (wpAny_bind (wpAny_newList ?_ hz)))))
  have h1 : (gath s.heap vs).objs.size = s.heap.objs.size + 1 := by
    rw [Heap.size_update, Heap.size_push]
  have h2 : ((gath s.heap vs).push (seqObj "list" vs.toArray 0)).get? (s.heap.objs.size + 1) = some (seqObj "list" vs.toArray 0) := h1 ▸ Heap.get?_push_size _ rfl
  show wpAny _ _ _ _ _ { s with heap := (gath s.heap vs).push (seqObj "list" vs.toArray 0) }
  rw [h1]
  exact wpAny_bind (wpAny_holding (wpAny_call_entry slot_list_sort ⟨_, h2, rfl⟩ entry_list_sort (SrtO.list_sort_ord SrtO.swo_int h2 hz (fun z => SrtO.ints_sortable hI z) fun out hs hb => ⟨_, rfl, wpAny_pure ⟨_, rfl, h out hs hb⟩⟩) (args_list_sort _)))
theorem b_sorted : CallR X (.builtin "sorted") (rb1 X.K .sorted) := by
  intro pins s σ H xs us Q I r h
  obtain ⟨H0, φ, S, as, z, S', at_, rs, ev, q⟩ := h
  simp only at ev
  split at ev
  · rename_i x
    obtain ⟨w, rfl, rw⟩ := fin1 rs rfl
    unfold bif1 at ev
    simp only at ev
    split at ev
    · rename_i l e1
      cases ev
      obtain ⟨k, e1, e2⟩ := Option.bind_eq_some_iff.mp e1
      obtain ⟨p, ws, rfl, hs, m⟩ := seq_of at_.rel rw e1
      have e3 := ints_ok e2 m
      subst e3
      rcases hs with hs | hs
      · refine cr_sortedI pins s σ H _ us Q I r ⟨p, l, rfl, hs, fun ns p hp hs hn => ?_⟩
        rw [sorted_one (hp.trans (sortI_perm l).symm) hs (sortI_sorted l)]
        exact finL at_ q (RepVs.ints _) hn
      · obtain ⟨its, rv, hl, hz⟩ := I.tuple hs
        rw [Vals.ref1 r]
        have hi := rv.ints
        refine sorted_tupI hl hi (by rw [← rv.length]; exact hz) fun out h1 h2 => ?_
        obtain ⟨k1, k2, k3⟩ := SrtO.ints_out hi h1 h2
        obtain ⟨ep, he⟩ := PyProof.Rows.sortedAll_at s.heap its out.toArray
        have hlen : ((out.map SrtO.iv).map V.int).length ≤ sizeLine := by
          rw [List.length_map, k2.length_eq]
          rwa [List.length_map] at hz
        have en := sorted_one (k2.trans (sortI_perm l).symm) k3 (sortI_sorted l)
        have hf : H (s.heap.objs.size + 1) = none := I.hok.fresh (Nat.le_succ _)
        refine ⟨.ref (s.heap.objs.size + 1), upd H (s.heap.objs.size + 1) (.lst ((out.map SrtO.iv).map V.int)), I.laid (t' := s.toks) (fun _ _ z => PyProof.Rows.sortedAll_old z) (Nat.le_succ _) ⟨hlen, out, ep, vals_of_ints k1, he⟩, rfl, ?_⟩
        rw [en]
        exact finL at_ q (RepVs.ints _) hf
    · cases ev
  · cases ev
end
end Ev

/-! Ev, part E: what is walked: one source, enumerate, zip, ranges. -/
namespace Ev
open PySem PySem.Spec PyProof.Rows L2

/-- a source: a list, a tuple, a text -/
inductive SK where
  | L (a : Addr) | T (a : Addr) | Z (x : Str)
def SK.v : SK → V
  | .L a => .ref a | .T a => .ref a | .Z x => .str x
def signs (x : Str) : List V := x.cps.toList.map fun c => V.str ⟨#[c]⟩
def SkIs (K : PySem.W.Frag) (H : Hp) : SK → List V → Prop
  | .L a, xs => SqL K H a xs
  | .T a, xs => SqT K H a xs
  | .Z x, xs => xs = signs x
/-- its iterator at turn i -/
def SkIt (it : Addr) : SK → Nat → Heap → Prop
  | .L a, i, h => h.IsListIter it a i
  | .T a, i, h => h.IsTupleIter it a i
  | .Z x, i, h => ∃ t, h.IsStrIter it (strIterType x) x t i
theorem SkIt.obj {it : Addr} {k : SK} {i : Nat} {h : Heap} (s : SkIt it k i h) : ∃ o, h.get? it = some o ∧ ∀ v, o.data ≠ .cell v := by
  cases k with
  | L a => obtain ⟨o, e, _, d⟩ := s; exact ⟨o, e, fun v q => by rw [d] at q; cases q⟩
  | T a => obtain ⟨o, e, _, d⟩ := s; exact ⟨o, e, fun v q => by rw [d] at q; cases q⟩
  | Z x => obtain ⟨t, o, e, _, d⟩ := s; exact ⟨o, e, fun v q => by rw [d] at q; cases q⟩
theorem SkIt.keep {it : Addr} {k : SK} {i : Nat} {h h' : Heap} (s : SkIt it k i h) (e : ∀ o, h.get? it = some o → h'.get? it = some o) : SkIt it k i h' := by
  cases k with
  | L a => exact Heap.IsListIter.at s e
  | T a => exact Heap.IsTupleIter.at s e
  | Z x => obtain ⟨t, o, q, r⟩ := s; exact ⟨t, o, e o q, r⟩
theorem SkIt.lt {it : Addr} {k : SK} {i : Nat} {h : Heap} (s : SkIt it k i h) : it < h.objs.size := let ⟨_, e, _⟩ := s.obj; Heap.lt_size e

section
variable {X : Cx} {pins : List (Addr × Obj)} {σ : L2.St} {H : Hp} {s : Shared}
/-- a record of a walk is no object that is known -/
theorem rec_ne (I : Inv X pins σ H s) {a b : Addr} {o : HO} (h : H a = some o) (f : FpOk X pins H b) : a ≠ b := fun e => by
  subst e
  rw [f.1] at h
  cases h
theorem rec_neK (I : Inv X pins σ H s) {a b : Addr} {o : Obj} (h : X.K.lookup a = some o) (f : FpOk X pins H b) : a ≠ b := fun e => by
  subst e
  have q := I.ok.mod.kin a o h
  rcases f.2.2.2.1 with z | z
  · exact I.ok.noex a o q z
  · exact absurd (Nat.lt_of_lt_of_le (Heap.lt_size q) (Nat.le_trans I.ok.bsz z)) (Nat.lt_irrefl _)
theorem sql_ne (I : Inv X pins σ H s) {a b : Addr} {xs : List V} (h : SqL X.K H a xs) (f : FpOk X pins H b) : a ≠ b := by
  rcases h with (h | ⟨o, h⟩) | ⟨o, _, _, h, _⟩
  · exact rec_ne I h f
  · exact rec_ne I h f
  · exact rec_neK I h f
theorem sqt_ne (I : Inv X pins σ H s) {a b : Addr} {xs : List V} (h : SqT X.K H a xs) (f : FpOk X pins H b) : a ≠ b := by
  rcases h with (h | ⟨o, h⟩) | ⟨o, _, _, h, _⟩
  · exact rec_ne I h f
  · exact rec_ne I h f
  · exact rec_neK I h f
theorem SkIs.inj (I : Inv X pins σ H s) {k : SK} {xs ys : List V} (h : SkIs X.K H k xs) (g : SkIs X.K H k ys) : xs = ys := by
  cases k with
  | L a => exact I.list_inj h g
  | T a => exact I.tuple_inj h g
  | Z x => exact Eq.trans h (Eq.symm g)
/-- what its iterator draws -/
structure Dr (X : Cx) (s : Shared) (A : Around) (k : SK) (it : Addr) (xs : List V) (fp : List Addr) (P : Nat → Value → Prop) (St : Nat → Heap → Prop) : Prop where
  dr : Draws X.prog X.w A it fp xs.length P St
  st : ∀ i, SkIt it k i s.heap → St i s.heap
  ts : ∀ i h, St i h → SkIt it k i h
  val : ∀ i v, P i v → ∃ w, xs[i]? = some w ∧ RelV w v
  mem : it ∈ fp
  sub : ∀ b ∈ fp, b = it ∨ (∀ c, FpOk X pins H c → b ≠ c) ∧ b < s.heap.objs.size
theorem draws (I : Inv X pins σ H s) {A : Around} (hd : A.handled = none) {k : SK} {it : Addr} {xs : List V} (hs : SkIs X.K H k xs) (f : FpOk X pins H it) {i : Nat} (si : SkIt it k i s.heap) :
    ∃ fp P St, Dr (pins := pins) (H := H) X s A k it xs fp P St := by
  cases k with
  | L a =>
    obtain ⟨its, r, p, _⟩ := I.list hs
    have e : its.toArray.size = xs.length := by rw [List.size_toArray]; exact r.length.symm
    refine ⟨_, _, _, ⟨e ▸ Draws.list hd it a (sql_ne I hs f) its.toArray, fun i q => ⟨q, p.isList⟩, fun i h q => q.1, fun i v q => ?_, by simp, fun b hb => ?_⟩⟩
    · cases g : xs[i]? with
      | none =>
        rw [r.none_of g |> fun z => (by simpa using z : its.toArray[i]? = none)] at q
        cases q
      | some w =>
        obtain ⟨u, h1, h2⟩ := r.get g
        rw [show its.toArray[i]? = its[i]? by simp, h1] at q
        cases q
        exact ⟨w, rfl, h2⟩
    · have hb : b = it ∨ b = a := by simpa using hb
      rcases hb with z | z
      · exact .inl z
      · subst z; exact .inr ⟨fun c fc => sql_ne I hs fc, p.lt⟩
  | T a =>
    obtain ⟨its, r, p, _⟩ := I.tuple hs
    have e : its.toArray.size = xs.length := by rw [List.size_toArray]; exact r.length.symm
    refine ⟨_, _, _, ⟨e ▸ Draws.tuple hd it a (sqt_ne I hs f) its.toArray, fun i q => ⟨q, p⟩, fun i h q => q.1, fun i v q => ?_, by simp, fun b hb => ?_⟩⟩
    · cases g : xs[i]? with
      | none =>
        rw [r.none_of g |> fun z => (by simpa using z : its.toArray[i]? = none)] at q
        cases q
      | some w =>
        obtain ⟨u, h1, h2⟩ := r.get g
        rw [show its.toArray[i]? = its[i]? by simp, h1] at q
        cases q
        exact ⟨w, rfl, h2⟩
    · have hb : b = it ∨ b = a := by simpa using hb
      rcases hb with z | z
      · exact .inl z
      · subst z
        obtain ⟨o, ho, _⟩ := p
        exact .inr ⟨fun c fc => sqt_ne I hs fc, Heap.lt_size ho⟩
  | Z x =>
    obtain ⟨t, si⟩ := si
    have e : x.cps.size = xs.length := by rw [show xs = signs x from hs]; simp [signs]
    have ts : ∀ {u : Tok} {j : Nat}, s.heap.IsStrIter it (strIterType x) x u j → u = t := fun {u j} q => by
      obtain ⟨o, e1, _, d1⟩ := q
      obtain ⟨o', e2, _, d2⟩ := si
      rw [e1] at e2; cases e2
      rw [d1] at d2
      simp at d2
      exact d2.1
    refine ⟨_, _, _, ⟨e ▸ Draws.text hd it x t, fun j ⟨u, q⟩ => (ts q) ▸ q, fun j h q => ⟨t, q⟩, fun j v ⟨c, u, h1, h2⟩ => ⟨.str ⟨#[c]⟩, ?_, ⟨u, h2⟩⟩, by simp, fun b hb => .inl (by simpa using hb)⟩⟩
    rw [show xs = signs x from hs]
    simp only [signs, List.getElem?_map, Array.getElem?_toList, h1, Option.map_some]
end

/-! ### enumerate -/
def ItEn (K : PySem.W.Frag) (k : SK) : L2.It :=
  ⟨fun i H => ∃ (xs : List V) (x : V), SkIs K H k xs ∧ xs[i]? = some x,
    fun i H v H' => ∃ T x, v = .ref T ∧ H T = none ∧ H' = upd H T (.tup [.int (i : Nat), x]) ∧ ∀ xs, SkIs K H k xs → xs[i]? = some x,
    fun i H => ∃ xs : List V, SkIs K H k xs ∧ xs.length = i⟩
theorem turn_en {P : Program} {w : World} {K : PySem.W.Frag} {elts : List Expr} {kk : Nat} {tpos : Pos} (k : SK) (e it : Addr) :
    Turn P w K (.Tuple elts kk tpos) (ItEn K k) [e, it] e (fun i h => (∃ old, IsEnum h e it ((i : Nat) : Int) old) ∧ SkIt it k i h ∧ e ≠ it) where
  mem := by simp
  obj := fun i h st b hb => by
    obtain ⟨⟨old, he⟩, hi, _⟩ := st
    have hb : b = e ∨ b = it := by simpa using hb
    rcases hb with z | z
    · subst z; exact ⟨_, he, fun v q => nomatch q⟩
    · subst z; exact hi.obj
  keep := fun i h h' st q => let ⟨⟨old, he⟩, hi, hne⟩ := st; ⟨⟨old, q e (by simp) _ he⟩, hi.keep fun o z => q it (by simp) o z, hne⟩
  item := by
    intro X hP hw hK hc i pins s σ H E I hf st hg
    subst hP hw hK
    obtain ⟨⟨old, he⟩, hit, hne⟩ := st
    obtain ⟨xs, x, hq, hx⟩ := hg
    have hlt : i < xs.length := (List.getElem?_eq_some_iff.mp hx).1
    obtain ⟨fp, P, St, D⟩ := draws I (A := X.A.in1) (I.ok.hd hc) hq (hf it (by simp)) hit
    have hef : e ∉ fp := fun m => by
      rcases D.sub e m with z | z
      · exact hne z
      · exact z.1 e (hf e (by simp)) rfl
    have hel : e < s.heap.objs.size := Heap.lt_size he
    have hil := hit.lt
    refine wpAny_pyNext_enum_itemC D.dr he (D.st _ hit) hlt hne hef fun u h' tk hu ho hst hT hsz hk => ?_
    obtain ⟨w', hw', ru⟩ := D.val i u hu
    rw [hx] at hw'
    cases hw'
    refine ⟨_, rfl, wpAny_letOwnedTupleGo_enum (s := { s with heap := h', toks := tk + 1 }) ho fun h2 he2 sb => ?_⟩
    have hT2 : h2.get? s.heap.objs.size = some { cls := .type "tuple", data := .seq #[.int i tk, u] } := (sb.2 _ (Nat.ne_of_gt hel)).trans hT
    have new : ObjOk X.prog X.w (upd H s.heap.objs.size (.tup [.int (i : Nat), x])) h2 s.heap.objs.size (.tup [.int (i : Nat), x]) :=
      ⟨by show 2 ≤ sizeLine; decide, [.int i tk, u], .cons ⟨_, rfl⟩ (.cons ru .nil), ⟨_, hT2, rfl, _, rfl⟩⟩
    have J : Inv X pins σ (upd H s.heap.objs.size (.tup [.int (i : Nat), x])) { s with heap := h2, toks := tk + 1 } :=
      I.turnedNew (ch := [e, it]) (fun b ob hb q => (sb.2 b (fun z => hb (by simp [z]))).trans (hk b ob (fun z => hb (by simp [z])) (fun z => hb (by simp [z])) q)) hf (Nat.le_refl _) new
    refine ⟨.ref s.heap.objs.size, _, J, rfl, ⟨_, x, rfl, I.hok.fresh (Nat.le_refl _), rfl, fun ys hy => by rw [SkIs.inj I hy hq]; exact hx⟩, ⟨⟨u, ?_⟩, (D.ts _ _ hst).keep fun o q => (sb.2 it (Ne.symm hne)).trans q, hne⟩, fun b hb => ?_⟩
    · rw [show ((i + 1 : Nat) : Int) = (i : Int) + 1 by omega]; exact he2
    · have hb' : b < s.heap.objs.size := by
        have hb : b = e ∨ b = it := by simpa using hb
        rcases hb with z | z
        · rw [z]; exact hel
        · rw [z]; exact hil
      rw [upd_ne (Nat.ne_of_lt hb')]
      exact (hf b hb).1
  done := by
    intro X hP hw hK hc i pins s σ H E I hf st hg
    subst hP hw hK
    obtain ⟨⟨old, he⟩, hit, hne⟩ := st
    obtain ⟨xs, hq, rfl⟩ := hg
    obtain ⟨fp, P, St, D⟩ := draws I (A := X.A.in1) (I.ok.hd hc) hq (hf it (by simp)) hit
    obtain ⟨f0, f1, f2, f3, f4, f5⟩ := hf it (by simp)
    exact wpAny_pyNext_enum_endD D.dr he (D.st _ hit) fun h' eb => ⟨rfl, I.turned (t' := s.toks) (fun b o hb q => eb b o hb q) f0 f1 f3 f4 f5⟩
  self := fun A i s Q E st h => let ⟨⟨_, he⟩, _⟩ := st; wpAny_pyIter_enum he h

/-! ### zip of two -/
def ItZ2 (K : PySem.W.Frag) (k l : SK) : L2.It :=
  ⟨fun i H => ∃ (xs ys : List V) (x y : V), SkIs K H k xs ∧ SkIs K H l ys ∧ xs[i]? = some x ∧ ys[i]? = some y,
    fun i H v H' => ∃ T x y, v = .ref T ∧ H T = none ∧ H' = upd H T (.tup [x, y]) ∧ (∀ xs, SkIs K H k xs → xs[i]? = some x) ∧ ∀ ys, SkIs K H l ys → ys[i]? = some y,
    fun i H => ∃ xs ys : List V, SkIs K H k xs ∧ SkIs K H l ys ∧ i ≤ xs.length ∧ i ≤ ys.length ∧ (i = xs.length ∨ i = ys.length)⟩
structure Ap2 (z TI TO i1 i2 : Addr) : Prop where
  a1 : TI ≠ z
  a2 : TO ≠ z
  a3 : TI ≠ TO
  a4 : TI ≠ i1
  a5 : TI ≠ i2
  a6 : z ≠ i1
  a7 : z ≠ i2
  a8 : TO ≠ i1
  a9 : TO ≠ i2
  b1 : i1 ≠ i2
theorem sep2 {X : Cx} {pins : List (Addr × Obj)} {H : Hp} {s : Shared} {A : Around} {z TI TO i1 i2 : Addr} {k l : SK} {xs ys : List V} {fp1 fp2 : List Addr} {P1 P2 : Nat → Value → Prop} {St1 St2 : Nat → Heap → Prop} (a : Ap2 z TI TO i1 i2)
    (f : ∀ b ∈ [z, TI, TO, i1, i2], FpOk X pins H b) (D1 : Dr (pins := pins) (H := H) X s A k i1 xs fp1 P1 St1) (D2 : Dr (pins := pins) (H := H) X s A l i2 ys fp2 P2 St2) : ZipSep2 z TI TO i1 i2 fp1 fp2 := by
  have no1 : ∀ b, FpOk X pins H b → b ≠ i1 → b ∉ fp1 := fun b fb hb m => (D1.sub b m).elim hb fun q => q.1 b fb rfl
  have no2 : ∀ b, FpOk X pins H b → b ≠ i2 → b ∉ fp2 := fun b fb hb m => (D2.sub b m).elim hb fun q => q.1 b fb rfl
  exact ⟨a.a1, a.a2, a.a3, a.a4, D1.mem, no1 z (f z (by simp)) a.a6, no1 TO (f TO (by simp)) a.a8, a.a5, D2.mem, no2 z (f z (by simp)) a.a7, no2 TO (f TO (by simp)) a.a9, no2 i1 (f i1 (by simp)) a.b1, no1 i2 (f i2 (by simp)) a.b1.symm⟩
theorem turn_z2 {P : Program} {w : World} {K : PySem.W.Frag} {elts : List Expr} {kk : Nat} {tpos : Pos} (k l : SK) {z TI TO i1 i2 : Addr} (ap : Ap2 z TI TO i1 i2) :
    Turn P w K (.Tuple elts kk tpos) (ItZ2 K k l) [z, TI, TO, i1, i2] z (fun i h => IsZip h z TI TO .none ∧ IsTupOf2 h TI (.ref i1) (.ref i2) ∧ (∃ x y, IsTupOf2 h TO x y) ∧ SkIt i1 k i h ∧ SkIt i2 l i h) where
  mem := by simp
  obj := fun i h st c hc => by
    obtain ⟨hz, hTI, ⟨x, y, hTO⟩, h1, h2⟩ := st
    have hc : c = z ∨ c = TI ∨ c = TO ∨ c = i1 ∨ c = i2 := by simpa using hc
    rcases hc with q | q | q | q | q <;> subst q
    · exact ⟨_, hz, fun v q => nomatch q⟩
    · exact ⟨_, hTI, fun v q => nomatch q⟩
    · exact ⟨_, hTO, fun v q => nomatch q⟩
    · exact h1.obj
    · exact h2.obj
  keep := fun i h h' st q => by
    obtain ⟨hz, hTI, ⟨x, y, hTO⟩, h1, h2⟩ := st
    exact ⟨q z (by simp) _ hz, q TI (by simp) _ hTI, ⟨x, y, q TO (by simp) _ hTO⟩, h1.keep fun o e => q i1 (by simp) o e, h2.keep fun o e => q i2 (by simp) o e⟩
  item := by
    intro X hP hw hK hc i pins s σ H E I hf st hg
    subst hP hw hK
    obtain ⟨hz, hTI, ⟨x0, y0, hTO⟩, h1, h2⟩ := st
    obtain ⟨xs, ys, x, y, hqx, hqy, hx, hy⟩ := hg
    have l1 : i < xs.length := (List.getElem?_eq_some_iff.mp hx).1
    have l2 : i < ys.length := (List.getElem?_eq_some_iff.mp hy).1
    obtain ⟨fp1, P1, St1, D1⟩ := draws I (A := X.A.in1) (I.ok.hd hc) hqx (hf i1 (by simp)) h1
    obtain ⟨fp2, P2, St2, D2⟩ := draws I (A := X.A.in1) (I.ok.hd hc) hqy (hf i2 (by simp)) h2
    have hzl : z < s.heap.objs.size := Heap.lt_size hz
    refine wpAny_pyNext_zipD2_item (sep2 ap hf D1 D2) D1.dr D2.dr hz hTI hTO (D1.st _ h1) (D2.st _ h2) l1 l2 fun u1 u2 h' tk p1 p2 z' TO' t1 t2 hT hsz hk => ?_
    obtain ⟨w1, e1, ru1⟩ := D1.val i u1 p1
    obtain ⟨w2, e2, ru2⟩ := D2.val i u2 p2
    rw [hx] at e1; cases e1
    rw [hy] at e2; cases e2
    refine ⟨_, rfl, wpAny_letOwnedTupleGo_zip (s := { s with heap := h', toks := tk }) z' fun h3 z3 sb => ?_⟩
    have hT2 : h3.get? s.heap.objs.size = some { cls := .type "tuple", data := .seq #[u1, u2] } := (sb.2 _ (Nat.ne_of_gt hzl)).trans hT
    have new : ObjOk X.prog X.w (upd H s.heap.objs.size (.tup [x, y])) h3 s.heap.objs.size (.tup [x, y]) :=
      ⟨by show 2 ≤ sizeLine; decide, [u1, u2], .cons ru1 (.cons ru2 .nil), ⟨_, hT2, rfl, _, rfl⟩⟩
    have J : Inv X pins σ (upd H s.heap.objs.size (.tup [x, y])) { s with heap := h3, toks := tk } :=
      I.turnedNew (ch := [z, TI, TO, i1, i2]) (fun c o hb q => (sb.2 c (fun q' => hb (by simp [q']))).trans (hk c o (fun q' => hb (by simp [q'])) (fun q' => hb (by simp [q'])) (fun q' => hb (by simp [q'])) (fun q' => hb (by simp [q'])) q)) hf (Nat.le_refl _) new
    refine ⟨.ref s.heap.objs.size, _, J, rfl, ⟨_, x, y, rfl, I.hok.fresh (Nat.le_refl _), rfl, fun v hv => by rw [SkIs.inj I hv hqx]; exact hx, fun v hv => by rw [SkIs.inj I hv hqy]; exact hy⟩, ⟨z3, ?_, ⟨u1, u2, ?_⟩, ?_, ?_⟩, fun c hcm => ?_⟩
    · exact (sb.2 _ ap.a1).trans (hk _ _ ap.a1 ap.a3 ap.a4 ap.a5 hTI)
    · exact (sb.2 _ ap.a2).trans TO'
    · exact (D1.ts _ _ t1).keep fun o q => (sb.2 _ ap.a6.symm).trans q
    · exact (D2.ts _ _ t2).keep fun o q => (sb.2 _ ap.a7.symm).trans q
    · have hlt : c < s.heap.objs.size := by
        have hc : c = z ∨ c = TI ∨ c = TO ∨ c = i1 ∨ c = i2 := by simpa using hcm
        rcases hc with q | q | q | q | q <;> subst q
        · exact hzl
        · exact Heap.lt_size hTI
        · exact Heap.lt_size hTO
        · exact h1.lt
        · exact h2.lt
      rw [upd_ne (Nat.ne_of_lt hlt)]
      exact (hf c hcm).1
  done := by
    intro X hP hw hK hc i pins s σ H E I hf st hg
    subst hP hw hK
    obtain ⟨hz, hTI, ⟨x0, y0, hTO⟩, h1, h2⟩ := st
    obtain ⟨xs, ys, hqx, hqy, b1, b2, hend⟩ := hg
    obtain ⟨fp1, P1, St1, D1⟩ := draws I (A := X.A.in1) (I.ok.hd hc) hqx (hf i1 (by simp)) h1
    obtain ⟨fp2, P2, St2, D2⟩ := draws I (A := X.A.in1) (I.ok.hd hc) hqy (hf i2 (by simp)) h2
    exact wpAny_pyNext_zipD2_end (sep2 ap hf D1 D2) D1.dr D2.dr hz hTI hTO (D1.st _ h1) (D2.st _ h2) b1 b2 hend fun h' tk hk => ⟨rfl, I.turnedL (ch := [z, TI, TO, i1, i2]) (fun c o hb q =>
      hk c o (fun q' => hb (by simp [q'])) (fun q' => hb (by simp [q'])) (fun q' => hb (by simp [q'])) (fun q' => hb (by simp [q'])) q) hf⟩
  self := fun A i s Q E st h => wpAny_pyIter_zip st.1 h
end Ev

/-! Ev, part F: the evaluator's walks are the machine's. -/
namespace Ev
open PySem PySem.Spec PyProof.Rows L2

/-! ### a walk's state -/
/-- B, B1: the heap ahead of the source's making and behind it -/
inductive SrcSt (K : PySem.W.Frag) (B B1 : Hp) (φ : List Addr) (H : Hp) : Src → SK → Nat → Prop
  | li {n : Nat} {a : Addr} (i : Nat) : φ[n]? = some a → SrcSt K B B1 φ H (.li n i) (.L a) i
  | fr {p : Addr} {l : List TV} {ws : List V} (i : Nat) : B p = none → (∃ o, B1 p = some o) → p ∉ φ → H p = some (.lst ws) → RepVs K φ H l ws → i ≤ l.length → SrcSt K B B1 φ H (.ts (l.drop i)) (.L p) i
  | tup {a : Addr} {l : List TV} {ws : List V} (i : Nat) : SqT K H a ws → RepVs K φ H l ws → i ≤ l.length → SrcSt K B B1 φ H (.ts (l.drop i)) (.T a) i
  | fz {a : Addr} {l : List TV} {ws : List V} (i : Nat) : FzL K H a ws → RepVs K φ H l ws → i ≤ l.length → SrcSt K B B1 φ H (.ts (l.drop i)) (.L a) i
  | str (x : Str) (i : Nat) : i ≤ x.cps.size → SrcSt K B B1 φ H (.ts ((x.cps.toList.map fun c => TV.str ⟨#[c]⟩).drop i)) (.Z x) i
def ItK (K : PySem.W.Frag) : SK → L2.It
  | .L a => Itl K a
  | .T a => Itt K a
  | .Z x => Its x
inductive ItSt (K : PySem.W.Frag) (B B1 : Hp) (φ : List Addr) (H : Hp) : Itb → L2.It → Nat → Prop
  | one {s : Src} {k : SK} {i : Nat} : SrcSt K B B1 φ H s k i → ItSt K B B1 φ H (.one s) (ItK K k) i
  | enum {s : Src} {k : SK} {i : Nat} : SrcSt K B B1 φ H s k i → ItSt K B B1 φ H (.enum i s) (ItEn K k) i
  | zip2 {s t : Src} {k l : SK} {i : Nat} : SrcSt K B B1 φ H s k i → SrcSt K B B1 φ H t l i → ItSt K B B1 φ H (.zip2 s t) (ItZ2 K k l) i
  | rng (a c : Int) (n i : Nat) : i ≤ n → ItSt K B B1 φ H (.rng (a + (i : Nat) * c) c (n - i)) (Itc a c n) i
  | rngU (a : Int) (n i : Nat) : i ≤ n → ItSt K B B1 φ H (.rng (a + (i : Nat)) 1 (n - i)) (Itr a n) i
section
variable {K : PySem.W.Frag} {φ φ' : List Addr} {B B1 H H' : Hp} {S : Sto}
theorem SrcSt.mono (e : Ext K φ H φ' H') {s : Src} {k : SK} {i : Nat} (h : SrcSt K B B1 φ H s k i) : SrcSt K B B1 φ' H' s k i := by
  cases h with
  | li i h => exact .li i (e.at_ h)
  | fr i b1 b2 h1 h2 h3 h4 =>
    obtain ⟨q1, q2⟩ := e.keep _ _ h1 h2
    exact .fr i b1 b2 q2 q1 (h3.mono e) h4
  | tup i h1 h2 h3 => exact .tup i (e.tup _ _ h1) (h2.mono e) h3
  | fz i h1 h2 h3 => exact .fz i (e.fz _ _ h1) (h2.mono e) h3
  | str x i h => exact .str x i h
theorem ItSt.mono (e : Ext K φ H φ' H') {b : Itb} {J : L2.It} {i : Nat} (h : ItSt K B B1 φ H b J i) : ItSt K B B1 φ' H' b J i := by
  cases h with
  | one h => exact .one (h.mono e)
  | enum h => exact .enum (h.mono e)
  | zip2 h g => exact .zip2 (h.mono e) (g.mono e)
  | rng a c n i h => exact .rng a c n i h
  | rngU a n i h => exact .rngU a n i h
theorem fzl_upd {D a : Addr} {ws vs xs : List V} (hD : H D = some (.lst ws)) (q : FzL K H a xs) : FzL K (upd H D (.lst vs)) a xs := q.keep fun ob e => by rw [upd_ne (show a ≠ D from fun z => by subst z; rw [hD] at e; cases e)]; exact e
/-- a list that is nobody's is written: what the walk leans on stands -/
theorem rep_upd {D : Addr} {ws vs : List V} (hD : H D = some (.lst ws)) : ∀ {x : TV} {w : V}, RepV K φ H x w → RepV K φ (upd H D (.lst vs)) x w := by
  have t : ∀ a xs, SqT K H a xs → SqT K (upd H D (.lst vs)) a xs := fun a xs q => by
    have ne : ∀ ob, H a = some ob → (∀ zs, ob ≠ .lst zs) → a ≠ D := fun ob e d z => by
      subst z
      rw [hD] at e
      cases e
      exact d _ rfl
    rcases q with (q | ⟨ob, q⟩) | q
    · exact .inl (.inl (by rw [upd_ne (ne _ q fun _ z => nomatch z)]; exact q))
    · exact .inl (.inr ⟨ob, by rw [upd_ne (ne _ q fun _ z => nomatch z)]; exact q⟩)
    · exact .inr q
  intro x w hx
  exact hx.rec (motive_1 := fun x w _ => RepV K φ (upd H D (.lst vs)) x w) (motive_2 := fun l ws _ => RepVs K φ (upd H D (.lst vs)) l ws) .non .bl .int .str (fun z => .ref z) (fun a _ b => .tup (t _ _ a) b) (fun a _ b => .fz (fzl_upd hD a) b) .nil fun _ _ a b => .cons a b
theorem sqt_upd {D a : Addr} {ws vs xs : List V} (hD : H D = some (.lst ws)) (q : SqT K H a xs) : SqT K (upd H D (.lst vs)) a xs := by
  have ne : ∀ ob, H a = some ob → (∀ zs, ob ≠ .lst zs) → a ≠ D := fun ob e d z => by
    subst z
    rw [hD] at e
    cases e
    exact d _ rfl
  rcases q with (q | ⟨ob, q⟩) | q
  · exact .inl (.inl (by rw [upd_ne (ne _ q fun _ z => nomatch z)]; exact q))
  · exact .inl (.inr ⟨ob, by rw [upd_ne (ne _ q fun _ z => nomatch z)]; exact q⟩)
  · exact .inr q
theorem reps_upd {D : Addr} {ws vs : List V} (hD : H D = some (.lst ws)) : ∀ {l : List TV} {us : List V}, RepVs K φ H l us → RepVs K φ (upd H D (.lst vs)) l us
  | _, _, .nil => .nil
  | _, _, .cons a b => .cons (rep_upd hD a) (reps_upd hD b)
theorem SrcSt.upd {D : Addr} {ws vs : List V} (hD : H D = some (.lst ws)) (av : B D ≠ none ∨ B1 D = none) {s : Src} {k : SK} {i : Nat} (h : SrcSt K B B1 φ H s k i) : SrcSt K B B1 φ (upd H D (.lst vs)) s k i := by
  cases h with
  | li i h => exact .li i h
  | fr i b1 b2 h1 h2 h3 h4 =>
    refine .fr i b1 b2 h1 ?_ (reps_upd hD h3) h4
    rw [upd_ne]
    · exact h2
    · intro e
      subst e
      rcases av with av | av
      · exact av b1
      · obtain ⟨o, e⟩ := b2
        rw [av] at e
        cases e
  | tup i h1 h2 h3 => exact .tup i (sqt_upd hD h1) (reps_upd hD h2) h3
  | fz i h1 h2 h3 => exact .fz i (fzl_upd hD h1) (reps_upd hD h2) h3
  | str x i h => exact .str x i h
theorem ItSt.upd {D : Addr} {ws vs : List V} (hD : H D = some (.lst ws)) (av : B D ≠ none ∨ B1 D = none) {b : Itb} {J : L2.It} {i : Nat} (h : ItSt K B B1 φ H b J i) : ItSt K B B1 φ (upd H D (.lst vs)) b J i := by
  cases h with
  | one h => exact .one (h.upd hD av)
  | enum h => exact .enum (h.upd hD av)
  | zip2 h g => exact .zip2 (h.upd hD av) (g.upd hD av)
  | rng a c n i h => exact .rng a c n i h
  | rngU a n i h => exact .rngU a n i h
theorem Rel.upd_free {D : Addr} {ws vs : List V} (r : Rel K φ S H) (hn : D ∉ φ) (hD : H D = some (.lst ws)) : Rel K φ S (upd H D (.lst vs)) := by
  refine ⟨r.sz, r.inj, fun n a e => ?_⟩
  obtain ⟨o, g, q⟩ := r.obj n a e
  have hne : a ≠ D := fun z => hn (z ▸ List.mem_of_getElem? e)
  refine ⟨o, g, ?_⟩
  cases o with
  | lst l => obtain ⟨us, q, m⟩ := q; exact ⟨us, by rw [upd_ne hne]; exact q, reps_upd hD m⟩
  | frz l => obtain ⟨ob, us, q, m⟩ := q; exact ⟨ob, us, by rw [upd_ne hne]; exact q, reps_upd hD m⟩
theorem Ext.upd_free {φ0 : List Addr} {H0 : Hp} {D : Addr} {ws vs : List V} (e : Ext K φ0 H0 φ H) (hD : H D = some (.lst ws)) (h0 : H0 D = none) : Ext K φ0 H0 φ (upd H D (.lst vs)) where
  pre := e.pre
  keep := fun a o n q => by
    obtain ⟨q1, q2⟩ := e.keep a o n q
    exact ⟨by rw [upd_ne (ne_of_none q h0)]; exact q1, q2⟩
  tup := fun a xs q => sqt_upd hD (e.tup a xs q)
  fz := fun a xs q => fzl_upd hD (e.fz a xs q)
  gone := fun a q => by
    by_cases z : a = D
    · subst z; rw [upd_same] at q; cases q
    · rw [upd_ne z] at q; exact e.gone a q
theorem signs_at (x : Str) (i : Nat) : (signs x)[i]? = (x.cps[i]?).map fun c => V.str ⟨#[c]⟩ := by
  simp [signs]
/-- one source, one step -/
theorem src_step {s : Src} {k : SK} {i : Nat} (h : SrcSt K B B1 φ H s k i) (r : Rel K φ S H) : match s.next S with
    | none => True
    | some none => ∃ xs, SkIs K H k xs ∧ xs.length = i
    | some (some (x, s')) => ∃ xs w, SkIs K H k xs ∧ xs[i]? = some w ∧ RepV K φ H x w ∧ SrcSt K B B1 φ H s' k (i + 1) := by
  have tsStep : ∀ {l : List TV} {ws : List V} {k : SK}, RepVs K φ H l ws → SkIs K H k ws → i ≤ l.length → (∀ {j : Nat}, j ≤ l.length → SrcSt K B B1 φ H (.ts (l.drop j)) k j) →
      match (Src.ts (l.drop i)).next S with
      | none => True
      | some none => ∃ xs, SkIs K H k xs ∧ xs.length = i
      | some (some (x, s')) => ∃ xs w, SkIs K H k xs ∧ xs[i]? = some w ∧ RepV K φ H x w ∧ SrcSt K B B1 φ H s' k (i + 1) := by
    intro l ws k m sk hi nx
    by_cases hlt : i < l.length
    · rw [List.drop_eq_getElem_cons hlt]
      obtain ⟨w, hw, rw⟩ := m.get (List.getElem?_eq_getElem hlt)
      exact ⟨ws, w, sk, hw, rw, nx hlt⟩
    · have e : i = l.length := by omega
      rw [e, List.drop_length]
      exact ⟨ws, sk, by have := m.length; omega⟩
  cases h with
  | li i hn =>
    rename_i n a
    obtain ⟨o, g, q⟩ := r.obj n a hn
    have go : ∀ {l : List TV} {ws : List V}, RepVs K φ H l ws → SqL K H a ws → match (bif i.ble l.length then some ((l[i]?).map fun x => (x, Src.li n (i + 1))) else none) with
        | none => True
        | some none => ∃ xs, SkIs K H (.L a) xs ∧ xs.length = i
        | some (some (x, s')) => ∃ xs w, SkIs K H (.L a) xs ∧ xs[i]? = some w ∧ RepV K φ H x w ∧ SrcSt K B B1 φ H s' (.L a) (i + 1) := by
      intro l ws m sk
      cases hb : i.ble l.length with
      | false => exact trivial
      | true =>
        have hle : i ≤ l.length := Nat.le_of_ble_eq_true hb
        simp only [cond_true]
        by_cases hlt : i < l.length
        · rw [List.getElem?_eq_getElem hlt]
          obtain ⟨w, hw, rw⟩ := m.get (List.getElem?_eq_getElem hlt)
          exact ⟨ws, w, sk, hw, rw, .li (i + 1) hn⟩
        · rw [List.getElem?_eq_none (by omega)]
          exact ⟨ws, sk, by rw [← m.length]; omega⟩
    cases o with
    | lst l =>
      obtain ⟨ws, q, m⟩ := q
      simp only [Src.next, g]
      exact go m (SqL.of q)
    | frz l =>
      obtain ⟨ob, ws, q, m⟩ := q
      simp only [Src.next, g]
      exact go m (.inl (.inr ⟨ob, q⟩))
  | fr i b1 b2 h1 h2 h3 h4 => exact tsStep h3 (SqL.of h2) h4 fun hj => .fr _ b1 b2 h1 h2 h3 hj
  | tup i h1 h2 h3 => exact tsStep h2 h1 h3 fun hj => .tup _ h1 h2 hj
  | fz i h1 h2 h3 => exact tsStep h2 h1.seq h3 fun hj => .fz _ h1 h2 hj
  | str x i h =>
    have m : RepVs K φ H (x.cps.toList.map fun c => TV.str ⟨#[c]⟩) (signs x) := by
      unfold signs
      generalize x.cps.toList = l
      induction l with
      | nil => exact .nil
      | cons c l ih => exact .cons (.str _) ih
    exact tsStep m rfl (by simpa using h) fun hj => .str x _ (by simpa using hj)
theorem it_step {b : Itb} {J : L2.It} {i : Nat} (h : ItSt K B B1 φ H b J i) (r : Rel K φ S H) : match b.next S with
    | none => True
    | some none => J.stop i H
    | some (some (x, b')) => J.go i H ∧ ∀ w H2, J.yld i H w H2 → Ext K φ H φ H2 ∧ Rel K φ S H2 ∧ RepV K φ H2 x w ∧ ItSt K B B1 φ H2 b' J (i + 1) := by
  cases h with
  | one hs =>
    rename_i s k
    have q := src_step hs r
    simp only [Itb.next]
    cases e : s.next S with
    | none => exact trivial
    | some o =>
      rw [e] at q
      cases o with
      | none =>
        obtain ⟨xs, sk, hl⟩ := q
        cases k with
        | L a => exact ⟨xs, sk, by omega⟩
        | T a => exact ⟨xs, sk, by omega⟩
        | Z y => rw [show xs = signs y from sk] at hl; exact Nat.le_of_eq (show y.cps.size = i by simpa [signs] using hl)
      | some p =>
        obtain ⟨x, s'⟩ := p
        obtain ⟨xs, w, sk, hw, rw, ss⟩ := q
        cases k with
        | L a => exact ⟨⟨xs, w, sk, hw⟩, fun u H2 ⟨e1, e2⟩ => by subst e1; have := e2 xs sk; rw [hw] at this; cases this; exact ⟨.refl _ _ _, r, rw, .one ss⟩⟩
        | T a => exact ⟨⟨xs, w, sk, hw⟩, fun u H2 ⟨e1, e2⟩ => by subst e1; have := e2 xs sk; rw [hw] at this; cases this; exact ⟨.refl _ _ _, r, rw, .one ss⟩⟩
        | Z y =>
          have sk : xs = signs y := sk
          subst sk
          rw [signs_at] at hw
          obtain ⟨c, hc, rfl⟩ := Option.map_eq_some_iff.mp hw
          refine ⟨(Array.getElem?_eq_some_iff.mp hc).1, fun u H2 ⟨e1, c', e2, e3⟩ => ?_⟩
          subst e1
          rw [hc] at e2; cases e2
          subst e3
          exact ⟨.refl _ _ _, r, rw, .one ss⟩
  | enum hs =>
    rename_i s k
    have q := src_step hs r
    simp only [Itb.next]
    cases e : s.next S with
    | none => exact trivial
    | some o =>
      rw [e] at q
      cases o with
      | none => exact q
      | some p =>
        obtain ⟨x, s'⟩ := p
        obtain ⟨xs, w, sk, hw, rw, ss⟩ := q
        refine ⟨⟨xs, w, sk, hw⟩, fun u H2 ⟨T, y, e1, e2, e3, e4⟩ => ?_⟩
        subst e1 e3
        have e4 := e4 xs sk
        rw [hw] at e4; cases e4
        have x0 := Ext.new r (.tup [.int (i : Nat), w]) e2
        exact ⟨x0, r.upd_new _ e2, .tup (SqT.of upd_same) (.cons (.int _) (.cons (rw.mono x0) .nil)), .enum (ss.mono x0)⟩
  | zip2 hs ht =>
    rename_i s t k l
    have q := src_step hs r
    have q2 := src_step ht r
    simp only [Itb.next]
    cases e : s.next S with
    | none => exact trivial
    | some o =>
      rw [e] at q
      cases e' : t.next S with
      | none => exact trivial
      | some o' =>
        rw [e'] at q2
        simp only [Option.bind_some, Option.map_some]
        cases o with
        | none =>
          obtain ⟨xs, sk, hl⟩ := q
          cases o' with
          | none =>
            obtain ⟨ys, sk', hl'⟩ := q2
            exact ⟨xs, ys, sk, sk', by omega, by omega, .inl hl.symm⟩
          | some p =>
            obtain ⟨y, t'⟩ := p
            obtain ⟨ys, w, sk', hw, _⟩ := q2
            have := (List.getElem?_eq_some_iff.mp hw).1
            exact ⟨xs, ys, sk, sk', by omega, by omega, .inl hl.symm⟩
        | some p =>
          obtain ⟨x, s'⟩ := p
          obtain ⟨xs, w, sk, hw, rw, ss⟩ := q
          have hl1 := (List.getElem?_eq_some_iff.mp hw).1
          cases o' with
          | none =>
            obtain ⟨ys, sk', hl'⟩ := q2
            exact ⟨xs, ys, sk, sk', by omega, by omega, .inr hl'.symm⟩
          | some p =>
            obtain ⟨y, t'⟩ := p
            obtain ⟨ys, w2, sk', hw2, rw2, ss2⟩ := q2
            refine ⟨⟨xs, ys, w, w2, sk, sk', hw, hw2⟩, fun u H2 ⟨T, z1, z2, e1, e2, e3, e4, e5⟩ => ?_⟩
            subst e1 e3
            have e4 := e4 xs sk
            have e5 := e5 ys sk'
            rw [hw] at e4; cases e4
            rw [hw2] at e5; cases e5
            have x0 := Ext.new r (.tup [w, w2]) e2
            exact ⟨x0, r.upd_new _ e2, .tup (SqT.of upd_same) (.cons (rw.mono x0) (.cons (rw2.mono x0) .nil)), .zip2 (ss.mono x0) (ss2.mono x0)⟩
  | rng a c n i hi =>
    by_cases hlt : i < n
    · obtain ⟨m, hm⟩ : ∃ m, n - i = m + 1 := ⟨n - i - 1, by omega⟩
      rw [hm]
      refine ⟨hlt, fun w H2 ⟨e1, e2⟩ => ?_⟩
      subst e1 e2
      have e3 : a + (i : Nat) * c + c = a + ((i + 1 : Nat) : Int) * c := by rw [show ((i + 1 : Nat) : Int) = (i : Int) + 1 by omega, Int.add_mul, Int.one_mul, Int.add_assoc]
      have e4 : m = n - (i + 1) := by omega
      rw [e3, e4]
      exact ⟨.refl _ _ _, r, .int _, .rng a c n (i + 1) hlt⟩
    · have e : n - i = 0 := by omega
      rw [e]
      exact (show n ≤ i by omega)
  | rngU a n i hi =>
    by_cases hlt : i < n
    · obtain ⟨m, hm⟩ : ∃ m, n - i = m + 1 := ⟨n - i - 1, by omega⟩
      rw [hm]
      refine ⟨hlt, fun w H2 ⟨e1, e2⟩ => ?_⟩
      subst e1 e2
      have e3 : a + ((i : Nat) : Int) + 1 = a + ((i + 1 : Nat) : Int) := by omega
      have e4 : m = n - (i + 1) := by omega
      rw [e3, e4]
      exact ⟨.refl _ _ _, r, .int _, .rngU a n (i + 1) hlt⟩
    · have e : n - i = 0 := by omega
      rw [e]
      exact (show n ≤ i by omega)
end

/-! ### how a walk begins -/
def tI (K : PySem.W.Frag) (f : Env → Sto → Ev.R Itb) : TI := fun σ H R => ∃ φ S ρ b S', Rel K φ S H ∧ RepE K φ H ρ σ ∧ f ρ S = .ok b S' ∧ After K φ H S' fun φ' H' => ∀ J, ItSt K H H' φ' H' b J 0 → R J H'
theorem PI.weak {X : Cx} {tg e : Expr} {t t' : TI} (h : PI X tg e t) (i : ∀ σ H R, t' σ H R → t σ H R) : PI X tg e t' := ⟨fun pins s σ H R I q => h.run pins s σ H R I (i σ H R q)⟩
section
variable {X : Cx} {tg : Expr}
theorem src_of {K : PySem.W.Frag} {φ : List Addr} {H H0 : Hp} {S : Sto} {x : TW} {w : V} {s : Src} (r : Rel K φ S H) (h : RepW K H0 φ H x w) (e : srcOf S x = some s) :
    ∃ k, w = k.v ∧ SrcSt K H0 H φ H s k 0 ∧ ∃ xs, SkIs K H k xs := by
  cases x with
  | fr l =>
    cases e
    obtain ⟨p, ws, rfl, h2, h3, h4, h5⟩ := h
    exact ⟨.L p, rfl, .fr 0 h2 ⟨_, h4⟩ h3 h4 h5 (Nat.zero_le _), ws, SqL.of h4⟩
  | v x =>
    cases h with
    | str z => cases e; exact ⟨.Z z, rfl, .str z 0 (Nat.zero_le _), signs z, rfl⟩
    | tup h1 h2 => cases e; exact ⟨.T _, rfl, .tup 0 h1 h2 (Nat.zero_le _), _, h1⟩
    | fz h1 h2 => cases e; exact ⟨.L _, rfl, .fz 0 h1 h2 (Nat.zero_le _), _, h1.seq⟩
    | ref hn =>
      obtain ⟨o, g, q⟩ := r.obj _ _ hn
      simp only [srcOf, g] at e
      cases e
      cases o with
      | lst l => obtain ⟨ws, q, m⟩ := q; exact ⟨.L _, rfl, .li 0 hn, ws, SqL.of q⟩
      | frz l => obtain ⟨ob, ws, q, m⟩ := q; exact ⟨.L _, rfl, .li 0 hn, ws, .inl (.inr ⟨ob, q⟩)⟩
    | _ => cases e
/-- iter(v) -/
theorem iter_src {pins : List (Addr × Obj)} {σ : L2.St} {H : Hp} {s : Shared} {R : L2.It → Hp → Prop} {k : SK} {v : Value} {xs : List V} {E : Value → Shared → Prop} (I : Inv X pins σ H s) (rv : RelV k.v v) (sk : SkIs X.K H k xs) (q : R (ItK X.K k) H) :
    wpAny (model X.prog X.w) X.A (pyIter v) (PIE X pins σ tg R) E s := by
  cases k with
  | L a =>
    cases rv
    obtain ⟨its, rr, p, _⟩ := I.list sk
    exact wpAny_pyIter_list p.isList (pi_one (tk := s.toks) I _ (turn_list a _) ⟨_, Heap.get?_push_size _ rfl, rfl, rfl⟩ q)
  | T a =>
    cases rv
    obtain ⟨its, rr, p, _⟩ := I.tuple sk
    exact wpAny_pyIter_tuple p (pi_one (tk := s.toks) I _ (turn_tuple a _) ⟨_, Heap.get?_push_size _ rfl, rfl, rfl⟩ q)
  | Z x =>
    obtain ⟨t, rfl⟩ := rv
    cases ha : x.cps.all (· < 128)
    · exact wpAny_pyIter_wide ha (pi_one (tk := s.toks) I _ (turn_str _ x t "str_iterator" (.inr rfl)) ⟨_, Heap.get?_push_size _ rfl, rfl, rfl⟩ q)
    · exact wpAny_pyIter_ascii ha (pi_one (tk := s.toks) I _ (turn_str _ x t "str_ascii_iterator" (.inl rfl)) ⟨_, Heap.get?_push_size _ rfl, rfl, rfl⟩ q)
theorem pi_oneE {e : Expr} {f : Env → Sto → Ev.R TW} (he : PE X e (tE X.K f)) : PI X tg e (tI X.K fun ρ S => (f ρ S).bind fun x S => (R.of (srcOf S x) S).bind fun s S => .ok (.one s) S) := by
  refine ⟨fun pins s σ H R I h => ?_⟩
  obtain ⟨φ, S, ρ, b, S2, rel, re, ev, q⟩ := h
  obtain ⟨x, S1, e1, ev⟩ := Ev.R.bind_eq ev
  obtain ⟨src, e2, ev⟩ := Ev.R.bind_of ev
  cases ev
  have h' : tE X.K f σ H fun w H1 => ∃ k xs, w = k.v ∧ SkIs X.K H1 k xs ∧ R (ItK X.K k) H1 := by
    refine tE_step rel re e1 fun φ1 H1 x1 r1 re1 w hw => ?_
    obtain ⟨k, e3, ss, xs, sk⟩ := src_of r1 hw e2
    exact ⟨k, xs, e3, sk, q φ1 H1 x1 r1 _ (.one ss)⟩
  refine thn (he.run pins s σ H _ I h') fun v s1 ⟨w, H1, I1, rv, k, xs, e3, sk, q1⟩ => ?_
  subst e3
  exact iter_src I1 rv sk q1

/-! ### enumerate(v) -/
/-- how a source's iterator begins -/
theorem begins {pins : List (Addr × Obj)} {σ : L2.St} {H : Hp} {s : Shared} {k : SK} {v : Value} {xs : List V} (I : Inv X pins σ H s) (rv : RelV k.v v) (sk : SkIs X.K H k xs) :
    ∃ (o : Obj) (P : Heap → Prop), Begins v o P ∧ P s.heap ∧ ∀ (h : Heap) (it : Addr), h.get? it = some o → SkIt it k 0 h := by
  cases k with
  | L a =>
    cases rv
    obtain ⟨its, rr, p, _⟩ := I.list sk
    exact ⟨_, _, begins_list a its.toArray, p.isList, fun h it e => ⟨_, e, rfl, rfl⟩⟩
  | T a =>
    cases rv
    obtain ⟨its, rr, p, _⟩ := I.tuple sk
    exact ⟨_, _, begins_tuple a its.toArray, p, fun h it e => ⟨_, e, rfl, rfl⟩⟩
  | Z x =>
    obtain ⟨t, rfl⟩ := rv
    exact ⟨_, _, begins_text x t, trivial, fun h it e => ⟨t, _, e, rfl, rfl⟩⟩
theorem enum_new1 {v : Value} {o : Obj} {P : Heap → Prop} (B : Begins v o P) :
    Meets (Builtin.«enumerate.__new__» ⟨[.type "enumerate", v], []⟩) (fun _ R s => P s.heap ∧
      R (.ok (.ret (.ref (s.heap.push o).objs.size))) { s with heap := (s.heap.push o).push { cls := .type "enumerate", data := .fields #[.none, .bool false, .ref s.heap.objs.size, rawInt 0, .none, .none] } }) :=
  .of_wp fun prog w A R s ⟨h1, h⟩ => by
    obtain ⟨hp, g, d, tk, os⟩ := s
    have sub := sub_enumerate
    have go : ∀ {A' : Around} {E : Value → Shared → Prop} {Q : Value → Shared → Prop}, Q (.ref hp.objs.size) ⟨hp.push o, g, d, tk, os⟩ → wpAny (model prog w) A' (pyIter v) Q E ⟨hp, g, d, tk, os⟩ := fun q => B.iter prog w _ _ ⟨hp, g, d, tk, os⟩ _ h1 q
    wp_walk using go
    refine wpAny_stack_any fun st => wpAny_pure ?_
    split
    · rename_i c _ _ _ _ _
      cases (c == Value.type "enumerate") <;> (wp_walk using go; exact ⟨_, rfl, h⟩)
    · wp_walk using go
      exact ⟨_, rfl, h⟩
theorem call_enum1 {A : Around} {E : Value → Shared → Prop} {s : Shared} {v : Value} {o : Obj} {P : Heap → Prop} {Q : Value → Shared → Prop} (B : Begins v o P) (h1 : P s.heap)
    (h : ∀ h', IsEnum h' (s.heap.objs.size + 1) s.heap.objs.size 0 .none → h'.get? s.heap.objs.size = some o → (∀ b u, s.heap.get? b = some u → h'.get? b = some u) → Q (.ref (s.heap.objs.size + 1)) { s with heap := h' }) :
    wpAny (model X.prog X.w) A (call (.type "enumerate") [v]) Q E s := by
  refine callType_new F.called_enumerate (by decide) (F.typeCall_enumerate_1 _) (F.newCall_enumerate_1 _) (fun obj => F.args_object_init_2 obj _) F.entry_enumerate_new (enum_new1 B) ⟨h1, ?_⟩
  have e1 : (s.heap.push o).objs.size = s.heap.objs.size + 1 := Heap.size_push ..
  have e2 := Heap.get?_push_size (s.heap.push o) (o := { cls := .type "enumerate", data := .fields #[.none, .bool false, .ref s.heap.objs.size, rawInt 0, .none, .none] }) rfl
  rw [e1] at e2
  show _ ∧ _
  rw [e1]
  exact ⟨⟨_, e2, rfl⟩, h _ e2 (Heap.get?_push_of_some _ (Heap.get?_push_size _ B.free)) fun b u q => Heap.get?_push_of_some _ (Heap.get?_push_of_some _ q)⟩
theorem pi_enumE {e : Expr} {f : Env → Sto → Ev.R TW} {p pos tpos : Pos} {elts : List Expr} {kk : Nat} (hg : Gl X "enumerate") (hm : X.mg "enumerate" = none) (he : PE X e (tE X.K f)) (hs : starEach [e] X.env = [(false, eval e X.env)]) :
    PI X (.Tuple elts kk tpos) (.Call (.Name "enumerate" p) [e] [] pos) (tI X.K fun ρ S => (f ρ S).bind fun x S => (R.of (srcOf S x) S).bind fun s S => .ok (.enum 0 s) S) := by
  refine ⟨fun pins s σ H R I h => ?_⟩
  obtain ⟨φ, S, ρ, b, S2, rel, re, ev, q⟩ := h
  obtain ⟨x, S1, e1, ev⟩ := Ev.R.bind_eq ev
  obtain ⟨src, e2, ev⟩ := Ev.R.bind_of ev
  cases ev
  have h' : tCons (tE X.K f) tNil σ H fun ws H1 => ∃ k xs, ws = [k.v] ∧ SkIs X.K H1 k xs ∧ R (ItEn X.K k) H1 := by
    refine tE_step rel re e1 fun φ1 H1 x1 r1 re1 w hw => ?_
    obtain ⟨k, e3, ss, xs, sk⟩ := src_of r1 hw e2
    subst e3
    exact ⟨k, xs, rfl, sk, q φ1 H1 x1 r1 _ (.enum ss)⟩
  have pa : PA X [e] (tCons (tE X.K f) tNil) := pa_cons he pa_nil (by rw [hs]; rfl)
  refine Call_ (ld_blt I hg hm boot_enumerate (PyProof.Rows.callWith_type1 (thn (pa.run pos pins s σ H _ I h') fun us s1 ⟨vs, H1, I1, r1, q1⟩ => ?_) hs rfl))
  obtain ⟨k, xs, e3, sk, q1⟩ := q1
  subst e3
  obtain ⟨v, rfl, rv⟩ := vals1 r1
  obtain ⟨o, P, B, hP, hit⟩ := begins I1 rv sk
  refine call_enum1 B hP fun h2 hE ho kp => wpAny_pyIter_enum hE ?_
  refine ⟨s1.heap.objs.size + 1, [s1.heap.objs.size + 1, s1.heap.objs.size], _, _, H1, rfl, I1.kept (t' := s1.toks) kp, turn_en k (s1.heap.objs.size + 1) s1.heap.objs.size, ⟨⟨.none, hE⟩, hit _ _ ho, Nat.succ_ne_self _⟩, fun b hb => ?_, q1⟩
  have hle : s1.heap.objs.size ≤ b := by
    have hb : b = s1.heap.objs.size + 1 ∨ b = s1.heap.objs.size := by simpa using hb
    rcases hb with z | z <;> rw [z]
    · exact Nat.le_add_right _ _
    · exact Nat.le_refl _
  exact I1.fpOk hle (I1.hok.fresh hle)

/-! ### zip(v, u) -/
theorem pi_zip2E {e e' : Expr} {f g : Env → Sto → Ev.R TW} {p pos tpos : Pos} {elts : List Expr} {kk : Nat} (hg : Gl X "zip") (hm : X.mg "zip" = none) (he : PE X e (tE X.K f)) (he' : PE X e' (tE X.K g))
    (hs : starEach [e, e'] X.env = (false, eval e X.env) :: starEach [e'] X.env) (hs' : starEach [e'] X.env = [(false, eval e' X.env)]) :
    PI X (.Tuple elts kk tpos) (.Call (.Name "zip" p) [e, e'] [] pos) (tI X.K fun ρ S => (f ρ S).bind fun x S => (g ρ S).bind fun y S => match srcOf S x, srcOf S y with
      | some a, some b => .ok (.zip2 a b) S
      | _, _ => .err) := by
  refine ⟨fun pins s σ H R I h => ?_⟩
  obtain ⟨φ, S, ρ, b, S2, rel, re, ev, q⟩ := h
  obtain ⟨x, S1, e1, ev⟩ := Ev.R.bind_eq ev
  obtain ⟨y, S3, e2, ev⟩ := Ev.R.bind_eq ev
  split at ev
  · rename_i a c ea ec
    cases ev
    have h' : tCons (tE X.K f) (tCons (tE X.K g) tNil) σ H fun ws H1 => ∃ k l xs ys, ws = [k.v, l.v] ∧ SkIs X.K H1 k xs ∧ SkIs X.K H1 l ys ∧ R (ItZ2 X.K k l) H1 := by
      refine tE_step rel re e1 fun φ1 H1 x1 r1 re1 w hw => ?_
      refine tE_step r1 re1 e2 fun φ2 H2 x2 r2 re2 w2 hw2 => ?_
      obtain ⟨k, e3, ss, xs, sk⟩ := src_of r2 (hw.mono x2) ea
      obtain ⟨l, e4, ss2, ys, sk2⟩ := src_of r2 (hw2.base x1.gone) ec
      subst e3 e4
      exact ⟨k, l, xs, ys, rfl, sk, sk2, q φ2 H2 (x1.trans x2) r2 _ (.zip2 ss ss2)⟩
    have pa : PA X [e, e'] (tCons (tE X.K f) (tCons (tE X.K g) tNil)) := pa_cons he (pa_cons he' pa_nil (by rw [hs']; rfl)) hs
    refine Call_ (ld_blt I hg hm PyProof.Rows.boot_zip (PyProof.Rows.callWith_type1 (thn (pa.run pos pins s σ H _ I h') fun us s1 ⟨vs, H1, I1, r1, q1⟩ => ?_) hs (by rw [hs']; rfl)))
    obtain ⟨k, l, xs, ys, e3, sk, sk2, q1⟩ := q1
    subst e3
    obtain ⟨v, u, rfl, rv, ru⟩ := vals2 r1
    obtain ⟨o, P, B, hP, hit⟩ := begins I1 rv sk
    obtain ⟨o', P', B', hP', hit'⟩ := begins I1 ru sk2
    have ne : ∀ i j : Nat, i ≠ j → (s1.heap.objs.size + i : Nat) ≠ s1.heap.objs.size + j := fun i j q => by omega
    refine zip_begins2 B B' hP hP' fun h2 hz hTI hTO g1 g2 hsz kp => wpAny_pyIter_zip hz ?_
    have ap : Ap2 (s1.heap.objs.size + 4) (s1.heap.objs.size + 2) (s1.heap.objs.size + 3) s1.heap.objs.size (s1.heap.objs.size + 1) :=
      ⟨ne 2 4 (by decide), ne 3 4 (by decide), ne 2 3 (by decide), ne 2 0 (by decide), ne 2 1 (by decide), ne 4 0 (by decide), ne 4 1 (by decide), ne 3 0 (by decide), ne 3 1 (by decide), ne 0 1 (by decide)⟩
    refine ⟨s1.heap.objs.size + 4, [s1.heap.objs.size + 4, s1.heap.objs.size + 2, s1.heap.objs.size + 3, s1.heap.objs.size, s1.heap.objs.size + 1], _, _, H1, rfl, I1.kept (t' := s1.toks) kp, turn_z2 k l ap, ⟨hz, hTI, ⟨_, _, hTO⟩, hit _ _ g1, hit' _ _ g2⟩, fun c hc => ?_, q1⟩
    have hle : s1.heap.objs.size ≤ c := by
      have hc : c = s1.heap.objs.size + 4 ∨ c = s1.heap.objs.size + 2 ∨ c = s1.heap.objs.size + 3 ∨ c = s1.heap.objs.size ∨ c = s1.heap.objs.size + 1 := by simpa using hc
      rcases hc with z | z | z | z | z <;> rw [z]
      · exact Nat.le_add_right _ _
      · exact Nat.le_add_right _ _
      · exact Nat.le_add_right _ _
      · exact Nat.le_refl _
      · exact Nat.le_add_right _ _
    exact I1.fpOk hle (I1.hok.fresh hle)
  · cases ev
end
end Ev

/-! Ev, part G: expressions, form by form. -/
namespace Ev
open PySem PySem.Spec PyProof.Rows L2

/-- a value's truth, from the evaluator -/
abbrev tru (f : Env → Sto → R TW) : Env → Sto → R Bool := fun ρ S => (f ρ S).bind fun x S => R.of (truth S x) S
section
variable {X : Cx} {a b c : Expr} {f g h : Env → Sto → R TW} {pos : Pos}
/-- a reading that is stepped through -/
theorem tB_step {K : PySem.W.Frag} {f : Env → Sto → R Bool} {σ : L2.St} {H : Hp} {Q : Bool → Hp → Prop} {φ : List Addr} {S S1 : Sto} {ρ : Env} {x : Bool} (rel : Rel K φ S H) (re : RepE K φ H ρ σ) (ev : f ρ S = .ok x S1)
    (h : ∀ φ' H', Ext K φ H φ' H' → Rel K φ' S1 H' → RepE K φ' H' ρ σ → Q x H') : tB K f σ H Q :=
  ⟨φ, S, ρ, x, S1, rel, re, ev, fun φ' H' e r => h φ' H' e r (re.mono e)⟩
/-- a test whose answer is its value's truth -/
def Plain (e : Expr) : Bool := match e with
  | .UnaryOp .Not _ _ => false
  | .BoolOp _ _ _ => false
  | .IfExp _ _ _ _ => false
  | .Compare _ _ _ _ => false
  | _ => true
theorem plain_eq {e : Expr} (p : Plain e = true) (env : PySem.Env) (whole : Sem Value) : isTrue e env whole = (do let v ← whole; standAt e.pos; holding [v] (truthy v)) := by
  cases e <;> first | rfl | (cases p; done) | (rename_i op _ _; cases op <;> first | rfl | (cases p; done))
theorem pt_plain (he : PE X a (tE X.K f)) (p : Plain a = true) : PT X a (tB X.K (tru f)) := by
  refine PT.weak (pt_truth he (plain_eq p X.env)) fun σ H Q q => ?_
  obtain ⟨φ, S, ρ, x, S2, rel, re, ev, q⟩ := q
  obtain ⟨w, S1, e1, ev⟩ := R.bind_eq ev
  obtain ⟨e2, rfl⟩ := R.of_eq ev
  exact tE_step rel re e1 fun φ1 H1 x1 r1 re1 u hu => ⟨x, truth_ok r1 hu e2, q φ1 H1 x1 r1⟩

/-! ### names, constants -/
theorem e_var {i : Nat} {x : Str} (hN : X.N[i]? = some x) (hv : Vis X.env.scope x) (hd : (x == ("__debug__" : Str)) = false) (hcd : (x == ("__classdict__" : Str)) = false) :
    PE X (.Name x pos) (tE X.K fun ρ S => match ρ[i]? with | some (some x) => .ok (.v x) S | _ => .err) := by
  refine PE.weak (pe_var hN hv hd hcd) fun σ H Q q => ?_
  obtain ⟨φ, S, ρ, x, S2, rel, re, ev, q⟩ := q
  dsimp only at ev
  split at ev
  · rename_i y hy
    cases ev
    obtain ⟨w, h1, h2⟩ := re.at_ i y hy
    exact ⟨w, h1, q φ H (.refl _ _ _) rel w h2⟩
  · cases ev
theorem e_val {e : Expr} {x : TV} {w : V} (he : PE X e (tC w)) (r : ∀ φ H, RepV X.K φ H x w) : PE X e (tE X.K fun _ S => .ok (.v x) S) := by
  refine PE.weak he fun σ H Q q => ?_
  obtain ⟨φ, S, ρ, x, S2, rel, re, ev, q⟩ := q
  cases ev
  exact q φ H (.refl _ _ _) rel w (r φ H)

/-! ### operators -/
theorem e_bin (op : BOp) (ha : PE X a (tE X.K f)) (hb : PE X b (tE X.K g)) : PE X (.BinOp a (opOf op) b pos) (tE X.K fun ρ S => (f ρ S).bind fun x S => (g ρ S).bind fun y S => binop op x y S) :=
  PE.weak (pe_op (op_binE op) ha hb) fun _ _ _ q => tE_bin q
theorem e_neg (ha : PE X a (tE X.K f)) : PE X (.UnaryOp .USub a pos) (tE X.K fun ρ S => (f ρ S).bind fun x S => match x with | .v (.int i) => .ok (.v (.int (-i))) S | _ => .err) := by
  refine PE.weak (pe_un un_neg ha) fun σ H Q q => ?_
  obtain ⟨φ, S, ρ, x, S2, rel, re, ev, q⟩ := q
  obtain ⟨w, S1, e1, ev⟩ := R.bind_eq ev
  refine tE_step rel re e1 fun φ1 H1 x1 r1 re1 u hu => ?_
  split at ev
  · cases hu; cases ev
    exact ⟨_, rfl, q φ1 H1 x1 r1 _ (.int _)⟩
  · cases ev
theorem e_not (ha : PE X a (tE X.K f)) : PE X (.UnaryOp .Not a pos) (tE X.K fun ρ S => (f ρ S).bind fun x S => (R.of (truth S x) S).bind fun b S => .ok (.v (.bl (!b))) S) := by
  refine PE.weak (pe_notT ha) fun σ H Q q => ?_
  obtain ⟨φ, S, ρ, x, S2, rel, re, ev, q⟩ := q
  obtain ⟨w, S1, e1, ev⟩ := R.bind_eq ev
  obtain ⟨t, e2, ev⟩ := R.bind_of ev
  cases ev
  exact tE_step rel re e1 fun φ1 H1 x1 r1 re1 u hu => ⟨t, truth_ok r1 hu e2, q φ1 H1 x1 r1 _ (.bl _)⟩
theorem t_not (ha : PT X a (tB X.K (tru f))) : PT X (.UnaryOp .Not a pos) (tB X.K (tru fun ρ S => (f ρ S).bind fun x S => (R.of (truth S x) S).bind fun b S => .ok (.v (.bl (!b))) S)) := by
  refine PT.weak (pt_not ha) fun σ H Q q => ?_
  obtain ⟨φ, S, ρ, x, S2, rel, re, ev, q⟩ := q
  obtain ⟨w, S1, e1, ev⟩ := R.bind_eq ev
  obtain ⟨v, S3, e2, e3⟩ := R.bind_eq e1
  obtain ⟨t, e4, e5⟩ := R.bind_of e3
  cases e5
  obtain ⟨e6, rfl⟩ := R.of_eq ev
  cases e6
  exact tB_step rel re (show (f ρ S).bind _ = _ by rw [e2]; show R.of _ _ = _; rw [e4]; rfl) fun φ1 H1 x1 r1 re1 => q φ1 H1 x1 r1
/-- and, or: as values -/
abbrev andF (f g : Env → Sto → R TW) : Env → Sto → R TW := fun ρ S => (f ρ S).bind fun x S => (R.of (truth S x) S).bind fun t S => bif t then g ρ S else .ok x S
abbrev orF (f g : Env → Sto → R TW) : Env → Sto → R TW := fun ρ S => (f ρ S).bind fun x S => (R.of (truth S x) S).bind fun t S => bif t then .ok x S else g ρ S
theorem e_and {rest : List Expr} (ha : PE X a (tE X.K f)) (hb : PE X (.BoolOp .And (b :: rest) pos) (tE X.K g)) : PE X (.BoolOp .And (a :: b :: rest) pos) (tE X.K (andF f g)) := by
  refine PE.weak (pe_andT ha hb) fun σ H Q q => ?_
  obtain ⟨φ, S, ρ, x, S2, rel, re, ev, q⟩ := q
  obtain ⟨w, S1, e1, ev⟩ := R.bind_eq ev
  obtain ⟨t, e2, ev⟩ := R.bind_of ev
  refine tE_step rel re e1 fun φ1 H1 x1 r1 re1 u hu => ⟨t, truth_ok r1 hu e2, ?_⟩
  cases t with
  | true =>
    refine iteT (tE_step r1 re1 ev fun φ2 H2 x2 r2 re2 u2 hu2 => ?_)
    exact q φ2 H2 (x1.trans x2) r2 u2 (hu2.base x1.gone)
  | false =>
    cases ev
    exact iteF (q φ1 H1 x1 r1 u hu)
theorem e_or {rest : List Expr} (ha : PE X a (tE X.K f)) (hb : PE X (.BoolOp .Or (b :: rest) pos) (tE X.K g)) : PE X (.BoolOp .Or (a :: b :: rest) pos) (tE X.K (orF f g)) := by
  refine PE.weak (pe_orT ha hb) fun σ H Q q => ?_
  obtain ⟨φ, S, ρ, x, S2, rel, re, ev, q⟩ := q
  obtain ⟨w, S1, e1, ev⟩ := R.bind_eq ev
  obtain ⟨t, e2, ev⟩ := R.bind_of ev
  refine tE_step rel re e1 fun φ1 H1 x1 r1 re1 u hu => ⟨t, truth_ok r1 hu e2, ?_⟩
  cases t with
  | false =>
    refine iteF (tE_step r1 re1 ev fun φ2 H2 x2 r2 re2 u2 hu2 => ?_)
    exact q φ2 H2 (x1.trans x2) r2 u2 (hu2.base x1.gone)
  | true =>
    cases ev
    exact iteT (q φ1 H1 x1 r1 u hu)
theorem w_and {rest : List Expr} (ha : PT X a (tB X.K (tru f))) (hb : PW X (.BoolOp .And (b :: rest) pos) (tB X.K (tru g))) : PW X (.BoolOp .And (a :: b :: rest) pos) (tB X.K (tru (andF f g))) := by
  refine PW.weak (pw_and ha hb) fun σ H Q q => ?_
  obtain ⟨φ, S, ρ, x, S2, rel, re, ev, q⟩ := q
  obtain ⟨w, S1, e1, ev⟩ := R.bind_eq ev
  obtain ⟨v, S3, e2, e3⟩ := R.bind_eq e1
  obtain ⟨t, e4, e5⟩ := R.bind_of e3
  refine tB_step rel re (show (f ρ S).bind _ = .ok t S3 by rw [e2]; show R.of _ _ = _; rw [e4]; rfl) fun φ1 H1 x1 r1 re1 => ?_
  cases t with
  | true => exact iteT (tB_step r1 re1 (show (g ρ S3).bind _ = .ok x S2 by rw [show g ρ S3 = .ok w S1 from e5]; exact ev) fun φ2 H2 x2 r2 re2 => q φ2 H2 (x1.trans x2) r2)
  | false =>
    cases e5
    obtain ⟨e6, rfl⟩ := R.of_eq ev
    rw [e4] at e6
    cases e6
    exact iteF (q φ1 H1 x1 r1)
theorem w_or {rest : List Expr} (ha : PT X a (tB X.K (tru f))) (hb : PW X (.BoolOp .Or (b :: rest) pos) (tB X.K (tru g))) : PW X (.BoolOp .Or (a :: b :: rest) pos) (tB X.K (tru (orF f g))) := by
  refine PW.weak (pw_or ha hb) fun σ H Q q => ?_
  obtain ⟨φ, S, ρ, x, S2, rel, re, ev, q⟩ := q
  obtain ⟨w, S1, e1, ev⟩ := R.bind_eq ev
  obtain ⟨v, S3, e2, e3⟩ := R.bind_eq e1
  obtain ⟨t, e4, e5⟩ := R.bind_of e3
  refine tB_step rel re (show (f ρ S).bind _ = .ok t S3 by rw [e2]; show R.of _ _ = _; rw [e4]; rfl) fun φ1 H1 x1 r1 re1 => ?_
  cases t with
  | false => exact iteF (tB_step r1 re1 (show (g ρ S3).bind _ = .ok x S2 by rw [show g ρ S3 = .ok w S1 from e5]; exact ev) fun φ2 H2 x2 r2 re2 => q φ2 H2 (x1.trans x2) r2)
  | true =>
    cases e5
    obtain ⟨e6, rfl⟩ := R.of_eq ev
    rw [e4] at e6
    cases e6
    exact iteT (q φ1 H1 x1 r1)

/-! ### comparisons -/
abbrev cmpF (op : COp) (f g : Env → Sto → R TW) : Env → Sto → R TW := fun ρ S => (f ρ S).bind fun x S => (g ρ S).bind fun y S => (cmpop op x y S).bind fun t S => .ok (.v (.bl t)) S
theorem cmp_step {K : PySem.W.Frag} {op : COp} {σ : L2.St} {H : Hp} {Q : VK} (q : tE K (cmpF op f g) σ H Q) : tE K f σ H fun x H1 => tE K g σ H1 fun y H2 => rc K op x y H2 Q := by
  obtain ⟨φ, S, ρ, z, S4, rel, re, ev, q⟩ := q
  obtain ⟨x, S1, e1, ev⟩ := R.bind_eq ev
  obtain ⟨y, S2, e2, ev⟩ := R.bind_eq ev
  obtain ⟨t, S3, e3, ev⟩ := R.bind_eq ev
  cases ev
  refine tE_step rel re e1 fun φ1 H1 x1 r1 re1 w1 hw1 => ?_
  refine tE_step r1 re1 e2 fun φ2 H2 x2 r2 re2 w2 hw2 => ?_
  exact ⟨H, φ2, S2, x, y, t, _, ⟨r2, fun a n => x1.gone a (x2.gone a n)⟩, hw1.mono x2, hw2.base x1.gone, e3, fun φ' H' e r => q φ' H' ((x1.trans x2).trans e) r _ (.bl t)⟩
theorem e_cmp (hu : X.A.units + 64 < cLine) (op : COp) (ha : PE X a (tE X.K f)) (hb : PE X b (tE X.K g)) (hm : behindInMarks (copOf op) b = false) : PE X (.Compare a [copOf op] [b] pos) (tE X.K (cmpF op f g)) :=
  PE.weak (pe_cmpR (cmpE hu op) ha hb hm) fun _ _ _ q => cmp_step q
theorem tru_bl {f : Env → Sto → R Bool} {ρ : Env} {S : Sto} : (tru fun ρ S => (f ρ S).bind fun t S => .ok (.v (.bl t)) S) ρ S = f ρ S := by
  show ((f ρ S).bind _).bind _ = f ρ S
  cases f ρ S <;> rfl
theorem t_of_e {e : Expr} {f : Env → Sto → R Bool} (h : ∀ t : TE, PE X e t → PT X e (tTest t)) (he : PE X e (tE X.K fun ρ S => (f ρ S).bind fun t S => .ok (.v (.bl t)) S)) : PT X e (tB X.K (tru fun ρ S => (f ρ S).bind fun t S => .ok (.v (.bl t)) S)) := by
  refine PT.weak (h _ he) fun σ H Q q => ?_
  obtain ⟨φ, S, ρ, x, S2, rel, re, ev, q⟩ := q
  rw [tru_bl] at ev
  refine tE_step rel re (show (f ρ S).bind _ = .ok (.v (.bl x)) S2 by rw [ev]; rfl) fun φ1 H1 x1 r1 re1 u hu => ?_
  cases hu
  exact ⟨x, rfl, q φ1 H1 x1 r1⟩
theorem t_cmp (hu : X.A.units + 64 < cLine) (op : COp) (ha : PE X a (tE X.K f)) (hb : PE X b (tE X.K g)) (hm : behindInMarks (copOf op) b = false) : PT X (.Compare a [copOf op] [b] pos) (tB X.K (tru (cmpF op f g))) := by
  refine PT.weak (pt_cmpR (cmpE hu op) ha hb hm) fun σ H Q q => ?_
  obtain ⟨φ, S, ρ, t, S2, rel, re, ev, q⟩ := q
  obtain ⟨w, S1, e1, ev⟩ := R.bind_eq ev
  obtain ⟨e2, rfl⟩ := R.of_eq ev
  have k : ∃ b, w = .v (.bl b) := by
    obtain ⟨x, S1, _, e1⟩ := R.bind_eq e1
    obtain ⟨y, S2, _, e1⟩ := R.bind_eq e1
    obtain ⟨t, S3, _, e1⟩ := R.bind_eq e1
    cases e1
    exact ⟨t, rfl⟩
  obtain ⟨b, rfl⟩ := k
  cases e2
  exact cmp_step ⟨φ, S, ρ, _, _, rel, re, e1, fun φ' H' e r w hw => by cases hw; exact ⟨t, rfl, q φ' H' e r⟩⟩
abbrev chF (o1 o2 : COp) (f g h : Env → Sto → R TW) : Env → Sto → R TW := fun ρ S => (f ρ S).bind fun x S => (g ρ S).bind fun y S => (cmpop o1 x y S).bind fun t S =>
    bif t then (h ρ S).bind fun z S => (cmpop o2 y z S).bind fun t S => .ok (.v (.bl t)) S else .ok (.v (.bl false)) S
theorem chain_step {K : PySem.W.Frag} {o1 o2 : COp} {σ : L2.St} {H : Hp} {Q : VK} (q : tE K (chF o1 o2 f g h) σ H Q) : tChain (rc K o1) (rc K o2) (tE K f) (tE K g) (tE K h) σ H Q := by
  obtain ⟨φ, S, ρ, z, S4, rel, re, ev, q⟩ := q
  obtain ⟨x, S1, e1, ev⟩ := R.bind_eq ev
  obtain ⟨y, S2, e2, ev⟩ := R.bind_eq ev
  obtain ⟨t, S3, e3, ev⟩ := R.bind_eq ev
  refine tE_step rel re e1 fun φ1 H1 x1 r1 re1 w1 hw1 => ?_
  refine tE_step r1 re1 e2 fun φ2 H2 x2 r2 re2 w2 hw2 => ?_
  refine ⟨H, φ2, S2, x, y, t, S3, ⟨r2, fun a n => x1.gone a (x2.gone a n)⟩, hw1.mono x2, hw2.base x1.gone, e3, fun φ3 H3 x3 r3 => ⟨t, rfl, ?_⟩⟩
  cases t with
  | false =>
    cases ev
    exact iteF (q φ3 H3 ((x1.trans x2).trans x3) r3 _ (.bl false))
  | true =>
    obtain ⟨u, S5, e5, ev⟩ := R.bind_eq ev
    obtain ⟨t2, S6, e6, ev⟩ := R.bind_eq ev
    cases ev
    refine iteT (tE_step r3 (re2.mono x3) e5 fun φ4 H4 x4 r4 re4 w4 hw4 => ?_)
    have x24 := x3.trans x4
    exact ⟨H, φ4, S5, y, u, t2, _, ⟨r4, fun a n => x1.gone a (x2.gone a (x24.gone a n))⟩, (hw2.mono x24).base x1.gone, hw4.base fun a n => x1.gone a (x2.gone a (x3.gone a n)), e6, fun φ' H' e r => q φ' H' (((x1.trans x2).trans x24).trans e) r _ (.bl t2)⟩
end
end Ev

/-! Ev, part H: arguments, calls, displays, subscripts, methods. -/
namespace Ev
open PySem PySem.Spec PyProof.Rows L2
def NoStar (e : Expr) : Bool := match e with
  | .Starred _ _ => false
  | _ => true
theorem star_ok {e : Expr} {es : List Expr} {env : PySem.Env} (h : NoStar e = true) : starEach (e :: es) env = (false, eval e env) :: starEach es env := by
  cases e <;> first | rfl | cases h
theorem star_any {env : PySem.Env} {pos : Pos} : ∀ {es : List Expr}, es.all NoStar = true → (backTo pos (starEach es env)).any (·.1) = false
  | [], _ => rfl
  | e :: es, h => by
    rw [List.all_cons, Bool.and_eq_true] at h
    rw [star_ok h.1]
    show (false || _) = false
    exact star_any h.2
theorem star_len {env : PySem.Env} {pos : Pos} : ∀ {es : List Expr}, es.all NoStar = true → (backTo pos (starEach es env)).all (fun x => !x.1) = true
  | [], _ => rfl
  | e :: es, h => by
    rw [List.all_cons, Bool.and_eq_true] at h
    rw [star_ok h.1]
    show (true && _) = true
    exact star_len h.2

section
variable {X : Cx} {a b c e : Expr} {es : List Expr} {f g h : Env → Sto → R TW} {pos : Pos}
/-! ### if-expressions -/
theorem e_ite {t : Env → Sto → R TW} (hc : PT X c (tB X.K (tru t))) (ha : PE X a (tE X.K f)) (hb : PE X b (tE X.K g)) :
    PE X (.IfExp c a b pos) (tE X.K fun ρ S => (t ρ S).bind fun x S => (R.of (truth S x) S).bind fun t S => bif t then f ρ S else g ρ S) := by
  refine PE.weak (pe_ifExp hc ha hb) fun σ H Q q => ?_
  obtain ⟨φ, S, ρ, x, S2, rel, re, ev, q⟩ := q
  obtain ⟨w, S1, e1, ev⟩ := R.bind_eq ev
  obtain ⟨k, e2, ev⟩ := R.bind_of ev
  refine tB_step rel re (show (t ρ S).bind _ = .ok k S1 by rw [e1]; show R.of _ _ = _; rw [e2]; rfl) fun φ1 H1 x1 r1 re1 => ?_
  cases k with
  | true => exact iteT (tE_step r1 re1 ev fun φ2 H2 x2 r2 re2 u hu => q φ2 H2 (x1.trans x2) r2 u (hu.base x1.gone))
  | false => exact iteF (tE_step r1 re1 ev fun φ2 H2 x2 r2 re2 u hu => q φ2 H2 (x1.trans x2) r2 u (hu.base x1.gone))
theorem t_ite {t : Env → Sto → R TW} (hc : PT X c (tB X.K (tru t))) (ha : PT X a (tB X.K (tru f))) (hb : PT X b (tB X.K (tru g))) :
    PT X (.IfExp c a b pos) (tB X.K (tru fun ρ S => (t ρ S).bind fun x S => (R.of (truth S x) S).bind fun t S => bif t then f ρ S else g ρ S)) := by
  refine ⟨fun pins s σ H Q I q => ?_⟩
  obtain ⟨φ, S, ρ, x, S2, rel, re, ev, q⟩ := q
  obtain ⟨w, S1, e1, ev⟩ := R.bind_eq ev
  obtain ⟨v, S3, e2, e3⟩ := R.bind_eq e1
  obtain ⟨k, e4, e5⟩ := R.bind_of e3
  have hq : tB X.K (tru t) σ H fun d H1 => if d = true then tB X.K (tru f) σ H1 Q else tB X.K (tru g) σ H1 Q := by
    refine tB_step rel re (show (t ρ S).bind _ = .ok k S3 by rw [e2]; show R.of _ _ = _; rw [e4]; rfl) fun φ1 H1 x1 r1 re1 => ?_
    cases k with
    | true => exact iteT (tB_step r1 re1 (show (f ρ S3).bind _ = .ok x S2 by rw [show f ρ S3 = .ok w S1 from e5]; exact ev) fun φ2 H2 x2 r2 re2 => q φ2 H2 (x1.trans x2) r2)
    | false => exact iteF (tB_step r1 re1 (show (g ρ S3).bind _ = .ok x S2 by rw [show g ρ S3 = .ok w S1 from e5]; exact ev) fun φ2 H2 x2 r2 re2 => q φ2 H2 (x1.trans x2) r2)
  show wpAny _ _ (isTrue c X.env (eval c X.env) >>= fun k => if k = true then isTrue a X.env (eval a X.env) else isTrue b X.env (eval b X.env)) _ _ s
  refine wpAny_bind (thn (hc.run pins s σ H _ I hq) fun d s1 ⟨H1, I1, q1⟩ => ?_)
  cases d with
  | true => exact ha.run pins s1 σ H1 Q I1 q1
  | false => exact hb.run pins s1 σ H1 Q I1 q1

/-! ### arguments -/
theorem a_nil : PA X [] (tA X.K fun _ S => .ok [] S) := by
  refine PA.weak pa_nil fun σ H Q q => ?_
  obtain ⟨φ, S, ρ, x, S2, rel, re, ev, q⟩ := q
  cases ev
  exact q φ H (.refl _ _ _) rel _ .nil
theorem a_cons {k : Env → Sto → R (List TV)} (he : PE X e (tE X.K f)) (hr : PA X es (tA X.K k)) (hs : NoStar e = true) :
    PA X (e :: es) (tA X.K fun ρ S => (f ρ S).bind fun x S => (x.st S).bind fun x S => (k ρ S).bind fun xs S => .ok (x :: xs) S) := by
  refine PA.weak (pa_cons he hr (star_ok hs)) fun σ H Q q => ?_
  obtain ⟨φ, S, ρ, x, S4, rel, re, ev, q⟩ := q
  obtain ⟨w, S1, e1, ev⟩ := R.bind_eq ev
  obtain ⟨y, S2, e2, ev⟩ := R.bind_eq ev
  obtain ⟨ys, S3, e3, ev⟩ := R.bind_eq ev
  cases ev
  refine tE_step rel re e1 fun φ1 H1 x1 r1 re1 u hu => ?_
  obtain ⟨φ2, x2, r2, h2, _⟩ := stored x1 r1 hu e2
  exact ⟨φ2, S2, ρ, ys, _, r2, re.mono x2, e3, fun φ3 H3 x3 r3 ws hws => q φ3 H3 (x2.trans x3) r3 _ (.cons (h2.mono x3) hws)⟩
theorem l_nil : PA X [] (tW X.K fun _ S => .ok [] S) := by
  refine PA.weak pa_nil fun σ H Q q => ?_
  obtain ⟨φ, S, ρ, x, S2, rel, re, ev, q⟩ := q
  cases ev
  exact q φ H (.refl _ _ _) rel _ .nil
theorem l_cons {k : Env → Sto → R (List TW)} (he : PE X e (tE X.K f)) (hr : PA X es (tW X.K k)) (hs : NoStar e = true) :
    PA X (e :: es) (tW X.K fun ρ S => (f ρ S).bind fun x S => (k ρ S).bind fun xs S => .ok (x :: xs) S) := by
  refine PA.weak (pa_cons he hr (star_ok hs)) fun σ H Q q => ?_
  obtain ⟨φ, S, ρ, x, S4, rel, re, ev, q⟩ := q
  obtain ⟨w, S1, e1, ev⟩ := R.bind_eq ev
  obtain ⟨ys, S3, e3, ev⟩ := R.bind_eq ev
  cases ev
  refine tE_step rel re e1 fun φ1 H1 x1 r1 re1 u hu => ?_
  exact ⟨φ1, S1, ρ, ys, _, r1, re1, e3, fun φ3 H3 x3 r3 ws hws => q φ3 H3 (x1.trans x3) r3 _ (.cons (hu.mono x3) (hws.base x1.gone))⟩
/-- a tuple, a list -/
theorem e_tup {k : Env → Sto → R (List TV)} {x1 : Nat} (ha : PA X es (tA X.K k)) (hl : ∀ ρ S xs S', k ρ S = .ok xs S' → xs.length ≤ sizeLine) :
    PE X (.Tuple es x1 pos) (tE X.K fun ρ S => (k ρ S).bind fun xs S => .ok (.v (.tup xs)) S) := by
  refine PE.weak (pe_tup ha) fun σ H Q q => ?_
  obtain ⟨φ, S, ρ, x, S4, rel, re, ev, q⟩ := q
  obtain ⟨xs, S1, e1, ev⟩ := R.bind_eq ev
  cases ev
  refine ⟨φ, S, ρ, xs, _, rel, re, e1, fun φ1 H1 x1 r1 ws hws => ⟨by rw [← hws.length]; exact hl _ _ _ _ e1, fun p hp => ?_⟩⟩
  have x2 := Ext.new r1 (.tup ws) hp
  exact q φ1 _ (x1.trans x2) (r1.upd_new _ hp) _ (.tup (SqT.of upd_same) (hws.mono x2))
theorem e_lst {k : Env → Sto → R (List TV)} (ha : PA X es (tA X.K k)) (hl : ∀ ρ S xs S', k ρ S = .ok xs S' → xs.length ≤ sizeLine) :
    PE X (.List es pos) (tE X.K fun ρ S => (k ρ S).bind fun xs S => .ok (.fr xs) S) := by
  refine PE.weak (pe_lst ha) fun σ H Q q => ?_
  obtain ⟨φ, S, ρ, x, S4, rel, re, ev, q⟩ := q
  obtain ⟨xs, S1, e1, ev⟩ := R.bind_eq ev
  cases ev
  refine ⟨φ, S, ρ, xs, _, rel, re, e1, fun φ1 H1 x1 r1 ws hws => ⟨by rw [← hws.length]; exact hl _ _ _ _ e1, fun p hp => ?_⟩⟩
  have x2 := Ext.new r1 (.lst ws) hp
  exact q φ1 _ (x1.trans x2) (r1.upd_new _ hp) _ ⟨p, ws, rfl, x1.gone p hp, r1.new hp, upd_same, hws.mono x2⟩

/-! ### calls -/
/-- a def's promise, by the evaluator -/
def spOf (K : PySem.W.Frag) (C : Call) (i np : Nat) : Sp := fun vs H Q _ => ∃ φ S xs x S', Rel K φ S H ∧ RepVs K φ H xs vs ∧ vs.length = np ∧ C i xs S = .ok x S' ∧ After K φ H S' fun φ' H' => ∀ w, RepW K H φ' H' x w → Q w H'
theorem call_step {K : PySem.W.Frag} {C : Call} {i np : Nat} {k : Env → Sto → R (List TV)} {σ : L2.St} {H : Hp} {Q : VK} {E : XK} (hl : ∀ ρ S xs S', k ρ S = .ok xs S' → xs.length = np)
    (q : tE K (fun ρ S => (k ρ S).bind fun xs S => C i xs S) σ H Q) : tA K k σ H fun vs H1 => spOf K C i np (vs ++ []) H1 Q E := by
  obtain ⟨φ, S, ρ, x, S4, rel, re, ev, q⟩ := q
  obtain ⟨xs, S1, e1, ev⟩ := R.bind_eq ev
  refine ⟨φ, S, ρ, xs, _, rel, re, e1, fun φ1 H1 x1 r1 ws hws => ?_⟩
  show spOf K C i np (ws ++ []) H1 Q E
  rw [List.append_nil]
  exact ⟨φ1, S1, xs, x, S4, r1, hws, by rw [← hws.length]; exact hl _ _ _ _ e1, ev, fun φ' H' x' r' w hw => q φ' H' (x1.trans x') r' w (hw.base x1.gone)⟩
theorem e_call0 {C : Call} {i n : Nat} {fa : Addr} {fd : FuncData} {ps : List Str} {x : Str} {p : Pos} (F : FnOk X.prog X.w X.K X.mg X.base CX0 n fa fd ps (spOf X.K C i 0)) (hr : Room n X.A) (hg : Gl X x) (hm : X.mg x = some (.ref fa))
    (hk : PySem.W.keepIn X.K (.ref fa) = true) (hb : Binds X.K fd ps []) (hd : (x == ("__debug__" : Str)) = false) : PE X (.Call (.Name x p) [] [] pos) (tE X.K fun ρ S => C i [] S) := by
  refine PE.weak (pe_call0 F hr hg hm hk hb .nil pass0 hd) fun σ H Q q => ?_
  obtain ⟨φ, S, ρ, x, S4, rel, re, ev, q⟩ := q
  exact ⟨φ, S, [], x, S4, rel, .nil, rfl, ev, q⟩
theorem e_call {C : Call} {i np n : Nat} {fa : Addr} {fd : FuncData} {ps : List Str} {x : Str} {p : Pos} {k : Env → Sto → R (List TV)} (F : FnOk X.prog X.w X.K X.mg X.base CX0 n fa fd ps (spOf X.K C i np)) (hr : Room n X.A) (hg : Gl X x) (hm : X.mg x = some (.ref fa))
    (hk : PySem.W.keepIn X.K (.ref fa) = true) (hb : Binds X.K fd ps []) (hd : (x == ("__debug__" : Str)) = false) (ha : PA X (e :: es) (tA X.K k)) (hs : (e :: es).all NoStar = true) (hl : ∀ ρ S xs S', k ρ S = .ok xs S' → xs.length = np) :
    PE X (.Call (.Name x p) (e :: es) [] pos) (tE X.K fun ρ S => (k ρ S).bind fun xs S => C i xs S) := by
  rw [List.all_cons, Bool.and_eq_true] at hs
  exact PE.weak (pe_call F hr hg hm hk hb .nil pass0 ha hd (star_ok hs.1) (star_any hs.2)) fun σ H Q q => call_step hl q

/-! ### built-ins -/
def biName : BI → Str
  | .len => "len" | .abs => "abs" | .max2 => "max" | .min2 => "min" | .int => "int" | .divmod => "divmod" | .list => "list" | .tuple => "tuple" | .sorted => "sorted" | .sum => "sum" | .all => "all" | .any => "any" | .set => "set"
def biVal : BI → Value
  | .len => .builtin "len" | .abs => .builtin "abs" | .max2 => .builtin "max" | .min2 => .builtin "min" | .int => .type "int" | .divmod => .builtin "divmod" | .list => .type "list" | .tuple => .type "tuple"
  | .sorted => .builtin "sorted" | .sum => .builtin "sum" | .all => .builtin "all" | .any => .builtin "any" | .set => .type "set"
theorem bi_boot (b : BI) : bootBuiltins (biName b) = some (biVal b) := by
  cases b <;> decide +kernel
theorem bi_ne (b : BI) : biName b ≠ ("__name__" : Str) ∧ (biName b == ("__debug__" : Str)) = false := by
  cases b <;> exact ⟨by decide +kernel, by decide +kernel⟩
theorem rn_of1 {b : BI} (h : CallR X (biVal b) (rb1 X.K b)) (h2 : ∀ x y S, bif2 b x y S = .err) : CallR X (biVal b) (rn X.K (bifn b)) := by
  refine CallR.weak h fun xs H Q q => ?_
  obtain ⟨H0, φ, S, as, v, S', at_, rs, ev, q⟩ := q
  refine ⟨H0, φ, S, as, v, S', at_, rs, ?_, q⟩
  unfold bifn at ev
  split at ev
  · exact ev
  · rw [h2] at ev; cases ev
  · cases ev
theorem rn_of2 {b : BI} (h : CallR X (biVal b) (rb2 X.K b)) (h2 : ∀ x S, bif1 b x S = .err) : CallR X (biVal b) (rn X.K (bifn b)) := by
  refine CallR.weak h fun xs H Q q => ?_
  obtain ⟨H0, φ, S, as, v, S', at_, rs, ev, q⟩ := q
  refine ⟨H0, φ, S, as, v, S', at_, rs, ?_, q⟩
  unfold bifn at ev
  split at ev
  · rw [h2] at ev; cases ev
  · exact ev
  · cases ev
theorem bi_ok (hc : X.calm = true) (b : BI) : CallR X (biVal b) (rn X.K (bifn b)) := by
  cases b
  · exact rn_of1 b_len fun _ _ _ => rfl
  · exact rn_of1 b_abs fun _ _ _ => rfl
  · exact rn_of2 (b_max2 hc) fun _ _ => rfl
  · exact rn_of2 (b_min2 hc) fun _ _ => rfl
  · exact rn_of1 b_int fun _ _ _ => rfl
  · exact rn_of2 b_divmod fun _ _ => rfl
  · exact rn_of1 b_list fun _ _ _ => rfl
  · exact rn_of1 b_tuple fun _ _ _ => rfl
  · exact rn_of1 b_sorted fun _ _ _ => rfl
  · exact rn_of1 (b_sum hc) fun _ _ _ => rfl
  · exact rn_of1 (b_all hc) fun _ _ _ => rfl
  · exact rn_of1 (b_any hc) fun _ _ _ => rfl
  · intro pins s σ H xs us Q I r h
    obtain ⟨H0, φ, S, as, v, S', at_, rs, ev, q⟩ := h
    exact absurd (show bifn .set as S = .err by unfold bifn; split <;> rfl) (by rw [ev]; intro z; cases z)
theorem bi_step {K : PySem.W.Frag} {b : BI} {k : Env → Sto → R (List TW)} {σ : L2.St} {H : Hp} {Q : VK} (q : tE K (fun ρ S => (k ρ S).bind fun xs S => bifn b xs S) σ H Q) : tCB (rn K (bifn b)) (tW K k) σ H Q := by
  obtain ⟨φ, S, ρ, x, S4, rel, re, ev, q⟩ := q
  obtain ⟨xs, S1, e1, ev⟩ := R.bind_eq ev
  exact ⟨φ, S, ρ, xs, _, rel, re, e1, fun φ1 H1 x1 r1 ws hws => ⟨H, φ1, S1, xs, x, S4, ⟨r1, x1.gone⟩, hws, ev, fun φ' H' x' r' w hw => q φ' H' (x1.trans x') r' w hw⟩⟩
theorem e_bi (hc : X.calm = true) (b : BI) {p : Pos} {k : Env → Sto → R (List TW)} (hg : Gl X (biName b)) (hm : X.mg (biName b) = none) (ha : PA X (e :: es) (tW X.K k)) (hs : (e :: es).all NoStar = true) :
    PE X (.Call (.Name (biName b) p) (e :: es) [] pos) (tE X.K fun ρ S => (k ρ S).bind fun xs S => bifn b xs S) := by
  rw [List.all_cons, Bool.and_eq_true] at hs
  have hb := bi_boot b
  have ho := bi_ok hc b
  obtain ⟨h1, h2⟩ := bi_ne b
  have fin : PE X (.Call (.Name (biName b) p) (e :: es) [] pos) (tCB (rn X.K (bifn b)) (tW X.K k)) := by
    cases hv : biVal b with
    | builtin id => rw [hv] at hb ho; exact pe_callB ho hg hm hb ha h1 h2 (star_ok hs.1) (star_any hs.2)
    | type T => rw [hv] at hb ho; exact pe_callTy ho hg hm hb ha h1 h2 (star_ok hs.1) (star_any hs.2)
    | _ => cases b <;> cases hv
  exact PE.weak fin fun σ H Q q => bi_step q

/-! ### subscripts -/
def NoSlice (e : Expr) : Bool := match e with
  | .Slice _ _ _ _ => false
  | _ => true
theorem plainIx {e : Expr} (h : NoSlice e = true) : PlainIx e := by
  intro o i
  cases e <;> first | rfl | cases h
theorem atI_ok {α : Type} {xs : List α} {i : Int} {v : α} (h : Ev.atI xs i = some v) : L2.atI xs i = some v := by
  unfold Ev.atI at h
  unfold L2.atI L2.ixN
  by_cases h0 : 0 ≤ i
  · rw [if_pos h0] at h ⊢
    have hlt := (List.getElem?_eq_some_iff.mp h).1
    rw [if_pos (show i < (xs.length : Int) by omega)]
    exact h
  · rw [if_neg h0] at h ⊢
    by_cases h1 : -(xs.length : Int) ≤ i
    · rw [if_pos h1] at h ⊢
      exact h
    · rw [if_neg h1] at h; cases h
theorem item_ok : IxR X (r2 X.K item) := by
  intro value slice pins s σ H x y v u Q I rx ry h hs
  obtain ⟨H0, φ, S, a, b, z, S', at_, ra, rb, ev, q⟩ := h
  unfold item at ev
  split at ev
  · rename_i _ i0
    cases rb
    split at ev
    · split at ev
      · rename_i hz
        obtain ⟨c, e1, ev⟩ := R.bind_of ev
        cases ev; cases ra
        exact ix_str value slice pins s σ H _ _ v u Q I rx ry ⟨_, _, c, rfl, rfl, hz, atI_ok e1, fin0 at_ q (.str _)⟩ hs
      · cases ev
    · split at ev
      · rename_i l e1
        obtain ⟨c, e2, ev⟩ := R.bind_of ev
        cases ev
        obtain ⟨p, ws, rfl, hq, m⟩ := seq_of at_.rel ra e1
        have e3 := atI_ok e2
        obtain ⟨j, hj, hc, _⟩ := L2.atI_get e3
        obtain ⟨w, hw, rw⟩ := m.get hc
        have e4 : L2.atI ws i0 = some w := by
          unfold L2.atI at e3 ⊢
          rw [← m.length]
          obtain ⟨j', e5, e6⟩ := Option.bind_eq_some_iff.mp e3
          have e7 := (L2.ixN_seq e5).1
          rw [hj] at e7; cases e7
          rw [e5]
          exact hw
        rcases hq with hq | hq
        · exact ix_list value slice pins s σ H _ _ v u Q I rx ry ⟨p, ws, _, w, rfl, rfl, hq, e4, fin0 at_ q rw⟩ hs
        · exact ix_tup value slice pins s σ H _ _ v u Q I rx ry ⟨p, ws, _, w, rfl, rfl, hq, e4, fin0 at_ q rw⟩ hs
      · cases ev
  · cases ev
theorem e_ix (ha : PE X a (tE X.K f)) (hb : PE X b (tE X.K g)) (h : NoSlice b = true) : PE X (.Subscript a b pos) (tE X.K fun ρ S => (f ρ S).bind fun x S => (g ρ S).bind fun y S => item x y S) :=
  PE.weak (pe_ix item_ok ha hb (plainIx h)) fun _ _ _ q => tE_bin q
theorem clip_ok (n d : Nat) (o : Option Int) : clipI n d o = HT.sIx n d o := by
  cases o with
  | none => rfl
  | some v =>
    show (if v < 0 then max (v + (n : Int)) 0 else min v (n : Int)).toNat = _
    rw [HT.clip_eq v n d, Int.toNat_natCast]
theorem cut_ok {K : PySem.W.Frag} {φ : List Addr} {H : Hp} {l : List TV} {ws : List V} (m : RepVs K φ H l ws) (lo hi : Option Int) : RepVs K φ H (cut l lo hi) (cutV ws lo hi) := by
  unfold cut cutV
  rw [clip_ok, clip_ok, m.length]
  exact (m.drop _).take _
def rsl (K : PySem.W.Frag) : V → Option Int → Option Int → Hp → VK → Prop := fun x lo hi H Q => ∃ H0 φ S a v S', At K H0 φ S H ∧ RepW K H0 φ H a x ∧ slice a lo hi S = .ok v S' ∧ After K φ H S' fun φ' H' => ∀ w, RepW K H0 φ' H' v w → Q w H'
theorem slice_ok : SlR X (rsl X.K) := by
  intro pins s σ H x v vl vu lo hi sl Q I rx hs pl pu h
  obtain ⟨H0, φ, S, a, z, S', at_, ra, ev, q⟩ := h
  unfold slice at ev
  split at ev
  · cases ev
    cases ra with
    | tup h1 m =>
      have ml := m.length
      refine sl_tupA pins s σ H _ v vl vu lo hi sl Q I rx hs pl pu ⟨_, _, rfl, h1, fun e => ?_, fun e p hp => finT at_ q (cut_ok m lo hi) hp⟩
      refine fin0 at_ q ?_
      have e1 := cut_ok m lo hi
      unfold cutV at e1
      rw [e.1, e.2, List.drop_zero, Nat.sub_zero, List.take_length] at e1
      exact .tup h1 e1
  · split at ev
    · rename_i l e1
      cases ev
      obtain ⟨p, ws, rfl, hq, m⟩ := lst_of at_.rel ra e1
      exact sl_list pins s σ H _ v vl vu lo hi sl Q I rx hs pl pu ⟨p, ws, rfl, hq, fun p hp => finL at_ q (cut_ok m lo hi) hp⟩
    · cases ev
/-- a slice's part -/
def tO (K : PySem.W.Frag) (k : Env → Sto → R (Option Int)) : TO := fun σ H Q => ∃ φ S ρ x S', Rel K φ S H ∧ RepE K φ H ρ σ ∧ k ρ S = .ok x S' ∧ After K φ H S' fun φ' H' => Q x H'
theorem PO.weak {e : Option Expr} {t t' : TO} (h : PO X e t) (i : ∀ σ H Q, t' σ H Q → t σ H Q) : PO X e t' := ⟨fun pins s σ H Q I q => h.run pins s σ H Q I (i σ H Q q)⟩
theorem o_no : PO X none (tO X.K fun _ S => .ok none S) := by
  refine PO.weak po_none fun σ H Q q => ?_
  obtain ⟨φ, S, ρ, x, S4, rel, re, ev, q⟩ := q
  cases ev
  exact q φ H (.refl _ _ _) rel
theorem o_some (he : PE X e (tE X.K f)) : PO X (some e) (tO X.K fun ρ S => (f ρ S).bind fun x S => match x with | .v (.int i) => .ok (some i) S | _ => .err) := by
  refine PO.weak (po_some he) fun σ H Q q => ?_
  obtain ⟨φ, S, ρ, x, S4, rel, re, ev, q⟩ := q
  obtain ⟨w, S1, e1, ev⟩ := R.bind_eq ev
  refine tE_step rel re e1 fun φ1 H1 x1 r1 re1 u hu => ?_
  split at ev
  · cases hu; cases ev
    exact ⟨_, rfl, q φ1 H1 x1 r1⟩
  · cases ev
theorem e_sl {lo hi : Option Expr} {kl kh : Env → Sto → R (Option Int)} {p2 : Pos} (ha : PE X a (tE X.K f)) (hl : PO X lo (tO X.K kl)) (hh : PO X hi (tO X.K kh)) :
    PE X (.Subscript a (.Slice lo hi none p2) pos) (tE X.K fun ρ S => (f ρ S).bind fun x S => (kl ρ S).bind fun l S => (kh ρ S).bind fun h S => slice x l h S) := by
  refine PE.weak (pe_slice slice_ok ha hl hh) fun σ H Q q => ?_
  obtain ⟨φ, S, ρ, z, S4, rel, re, ev, q⟩ := q
  obtain ⟨x, S1, e1, ev⟩ := R.bind_eq ev
  obtain ⟨l, S2, e2, ev⟩ := R.bind_eq ev
  obtain ⟨h, S3, e3, ev⟩ := R.bind_eq ev
  refine tE_step rel re e1 fun φ1 H1 x1 r1 re1 u hu => ?_
  refine ⟨φ1, S1, ρ, l, S2, r1, re1, e2, fun φ2 H2 x2 r2 => ?_⟩
  refine ⟨φ2, S2, ρ, h, S3, r2, re1.mono x2, e3, fun φ3 H3 x3 r3 => ?_⟩
  exact ⟨H, φ3, S3, x, z, S4, ⟨r3, fun a n => x1.gone a (x2.gone a (x3.gone a n))⟩, (hu.mono x2).mono x3, ev, fun φ' H' x' r' w hw => q φ' H' (((x1.trans x2).trans x3).trans x') r' w hw⟩
theorem e_rev {k : Nat} {p1 p2 p3 : Pos} (ha : PE X a (tE X.K f)) : PE X (.Subscript a (.Slice none none (some (.UnaryOp .USub (.Constant (.int 1) k p1) p2)) p3) pos) (tE X.K fun ρ S => (f ρ S).bind fun x S => revd x S) := by
  refine PE.weak (pe_revL ha) fun σ H Q q => ?_
  obtain ⟨φ, S, ρ, z, S4, rel, re, ev, q⟩ := q
  obtain ⟨x, S1, e1, ev⟩ := R.bind_eq ev
  refine tE_step rel re e1 fun φ1 H1 x1 r1 re1 u hu => ?_
  unfold revd at ev
  split at ev
  · rename_i l e2
    cases ev
    obtain ⟨p, ws, rfl, hq, m⟩ := lst_of r1 hu e2
    exact ⟨p, ws, rfl, hq, fun p hp => finL (H0 := H) ⟨r1, x1.gone⟩ (fun φ' H' x' r' w hw => q φ' H' (x1.trans x') r' w hw) m.reverse hp⟩
  · cases ev
end
end Ev

/-! Ev, part I: isinstance, methods, list(range(..)), targets, comprehensions. -/
namespace Ev
open PySem PySem.Spec PyProof.Rows L2

/-! ### isinstance -/
def tyS : Ty → String
  | .int => "int" | .bool => "bool" | .str => "str" | .tuple => "tuple" | .list => "list"
theorem kit_all (t T : Ty) : kitB (tyS t) (tyS T) = some (tyIs t T) := by
  cases t <;> cases T <;> decide +kernel
theorem kit_non (T : Ty) : kitB "NoneType" (tyS T) = some false := by
  cases T <;> decide +kernel
theorem ty_boot (T : Ty) : bootBuiltins (tyS T) = some (.type (tyS T)) := by
  cases T <;> decide +kernel
theorem ty_ne (T : Ty) : ((tyS T : String) : Str) ≠ ("__name__" : Str) ∧ (((tyS T : String) : Str) == ("__debug__" : Str)) = false := by
  cases T <;> exact ⟨by decide +kernel, by decide +kernel⟩
section
variable {K : PySem.W.Frag} {φ : List Addr} {H H0 : Hp} {S : Sto}
theorem sqt_ty {a : Addr} {xs : List V} (h : SqT K H a xs) : TyX K H (.ref a) (.type "tuple") := by
  rcases h with (h | ⟨o, h⟩) | ⟨o, _, _, h, hc, _⟩
  · exact .base (.tup h)
  · exact .fTuple h
  · exact .kTuple h hc
theorem tyx {x : TW} {w : V} {t : Ty} (r : Rel K φ S H) (h : RepW K H0 φ H x w) (e : tyOne S x = some t) : TyX K H w (.type (tyS t)) := by
  cases x with
  | fr l =>
    cases e
    obtain ⟨p, ws, rfl, _, _, h4, _⟩ := h
    exact .base (.lst h4)
  | v x =>
    cases h with
    | non => cases e
    | bl b => cases e; exact .base (.bl b)
    | int i => cases e; exact .base (.int i)
    | str s => cases e; exact .base (.str s)
    | tup h1 _ => cases e; exact sqt_ty h1
    | fz h1 _ =>
      cases e
      rcases h1 with ⟨o, h⟩ | ⟨o, _, _, h, hc, _⟩
      · exact .base (.frz h)
      · exact .kList h hc
    | ref hn =>
      obtain ⟨o, g, q⟩ := r.obj _ _ hn
      simp only [tyOne, g] at e
      cases o with
      | lst l => cases e; obtain ⟨ws, q, _⟩ := q; exact .base (.lst q)
      | frz l => cases e; obtain ⟨ob, ws, q, _⟩ := q; exact .base (.frz q)
/-- the answer -/
theorem isTy_ok {ts : List Ty} {x : TW} {v : TW} {w : V} {S' : Sto} (r : Rel K φ S H) (h : RepW K H0 φ H x w) (e : isTy ts x S = .ok v S') :
    S' = S ∧ ∃ b T, v = .v (.bl b) ∧ TyX K H w (.type T) ∧ PySem.W.kitAny K (.type T) (ts.map fun t => .type (tyS t)) = some b ∧ ∀ t, ts = [t] → PySem.W.kitOne K (.type T) (.type (tyS t)) = some b := by
  have go : ∀ (T : String) (p : Ty → Bool), (∀ t, kitB T (tyS t) = some (p t)) → ∀ ts : List Ty, PySem.W.kitAny K (.type T) (ts.map fun t => .type (tyS t)) = some (ts.any p) := by
    intro T p hp ts
    induction ts with
    | nil => rfl
    | cons t ts ih =>
      rw [List.any_cons]
      refine kitAny_cons (kit_ty (hp t)) (fun e => ?_) (fun e => ?_)
      · rw [e, Bool.false_or]; exact ih
      · rw [e, Bool.true_or]
  unfold isTy at e
  split at e
  · cases h; cases e
    refine ⟨rfl, false, "NoneType", rfl, .base .non, ?_, fun t et => kit_ty (kit_non t)⟩
    have q := go "NoneType" (fun _ => false) kit_non ts
    rwa [show ts.any (fun _ => false) = false by simp] at q
  · split at e
    · rename_i t e1
      cases e
      refine ⟨rfl, ts.any (tyIs t), tyS t, rfl, tyx r h e1, go (tyS t) (tyIs t) (kit_all t) ts, fun u eu => ?_⟩
      subst eu
      rw [List.any_cons, List.any_nil, Bool.or_false]
      exact kit_ty (kit_all t u)
    · cases e
end
section
variable {X : Cx} {a b c e : Expr} {es : List Expr} {f g h : Env → Sto → R TW} {pos : Pos}
theorem e_is1 {p p2 : Pos} (T : Ty) (hg : Gl X "isinstance") (hm : X.mg "isinstance" = none) (hgT : Gl X (tyS T)) (hmT : X.mg (tyS T) = none) (ha : PE X a (tE X.K f)) (hs : NoStar a = true) :
    PE X (.Call (.Name "isinstance" p) [a, .Name (tyS T) p2] [] pos) (tE X.K fun ρ S => (f ρ S).bind fun x S => isTy [T] x S) := by
  have hT : PE X (.Name (tyS T) p2) (tC (.ty (tyS T))) := pe_bltn hgT hmT (ty_boot T) rfl (ty_ne T).1 (ty_ne T).2
  refine PE.weak (pe_callB call_isi hg hm boot_isinstance (pa_cons ha (pa_cons hT pa_nil (by rfl)) (star_ok hs)) (he := star_ok hs) (hpl := by rfl)) fun σ H Q q => ?_
  obtain ⟨φ, S, ρ, z, S4, rel, re, ev, q⟩ := q
  obtain ⟨x, S1, e1, ev⟩ := R.bind_eq ev
  refine tE_step rel re e1 fun φ1 H1 x1 r1 re1 u hu => ?_
  obtain ⟨rfl, k, N, rfl, tx, _, k1⟩ := isTy_ok r1 hu ev
  exact ⟨u, _, _, _, k, rfl, .ty _, tx, k1 T rfl, q φ1 H1 x1 r1 _ (.bl k)⟩
/-- the names of classes -/
def TyNames (X : Cx) : List Ty → List Expr → Prop
  | [], [] => True
  | t :: ts, e :: es => (∃ p, e = .Name (tyS t) p) ∧ Gl X (tyS t) ∧ X.mg (tyS t) = none ∧ TyNames X ts es
  | _, _ => False
theorem pa_tys : ∀ {ts : List Ty} {es : List Expr}, TyNames X ts es → PA X es (fun σ H Q => Q (ts.map fun t => V.ty (tyS t)) H)
  | [], [], _ => PA.weak pa_nil fun _ _ _ q => q
  | t :: ts, e :: es, h => by
    obtain ⟨⟨p, rfl⟩, hg, hm, h⟩ := h
    have hT : PE X (.Name (tyS t) p) (tC (.ty (tyS t))) := pe_bltn hg hm (ty_boot t) rfl (ty_ne t).1 (ty_ne t).2
    exact PA.weak (pa_cons hT (pa_tys h) (by rfl)) fun _ _ _ q => q
  | [], _ :: _, h => h.elim
  | _ :: _, [], h => h.elim
theorem clsv_all : ∀ ts : List Ty, Paired ClsV (ts.map fun t => V.ty (tyS t)) (ts.map fun t => Value.type (tyS t))
  | [] => .nil
  | _ :: ts => .cons (.ty _) (clsv_all ts)
theorem e_isN {p p2 : Pos} {k : Nat} {ts : List Ty} (hg : Gl X "isinstance") (hm : X.mg "isinstance" = none) (hn : TyNames X ts es) (hz : ts.length ≤ 1000) (ha : PE X a (tE X.K f)) (hs : NoStar a = true) :
    PE X (.Call (.Name "isinstance" p) [a, .Tuple es k p2] [] pos) (tE X.K fun ρ S => (f ρ S).bind fun x S => isTy ts x S) := by
  refine PE.weak (pe_callB call_isiT hg hm boot_isinstance (pa_cons ha (pa_cons (pe_tup (pa_tys hn)) pa_nil (by rfl)) (star_ok hs)) (he := star_ok hs) (hpl := by rfl)) fun σ H Q q => ?_
  obtain ⟨φ, S, ρ, z, S4, rel, re, ev, q⟩ := q
  obtain ⟨x, S1, e1, ev⟩ := R.bind_eq ev
  refine tE_step rel re e1 fun φ1 H1 x1 r1 re1 u hu => ?_
  refine ⟨by rw [List.length_map, sizeLine_eq]; omega, fun t ht => ?_⟩
  have x2 := Ext.new r1 (.tup (ts.map fun t => V.ty (tyS t))) ht
  have r2 := r1.upd_new (.tup (ts.map fun t => V.ty (tyS t))) ht
  obtain ⟨rfl, k, N, rfl, tx, k1, _⟩ := isTy_ok r2 (hu.mono x2) ev
  exact ⟨u, t, _, _, _, k, rfl, upd_same, clsv_all ts, tx, k1, q φ1 _ (x1.trans x2) r2 _ (.bl k)⟩

/-! ### methods -/
def NoSuper (e : Expr) : Bool := match e with
  | .Call (.Name _ _) [] [] _ => false
  | _ => true
theorem base_ok {o : Expr} {n : Str} {env : PySem.Env} {w : Sem Value} (h : NoSuper o = true) : attributeBase o n env w = w := by
  unfold attributeBase
  split
  · cases h
  · rfl
def mtName : Mt → Str
  | .append => "append" | .pop => "pop" | .popAt => "pop" | .extend => "extend" | .index => "index" | .count => "count"
theorem lst_ty {K : PySem.W.Frag} {φ : List Addr} {H H0 : Hp} {S : Sto} {m : Mt} {x : TW} {w : V} {z : Unit} (r : Rel K φ S H) (h : RepW K H0 φ H x w) (e : mtTy m x S = some z) : tyV K "list" w H := by
  obtain ⟨l, e1, _⟩ := Option.map_eq_some_iff.mp e
  obtain ⟨a, ws, rfl, q, _⟩ := lst_of r h e1
  exact .inl ⟨rfl, ws, q⟩
/-- a method by values: the object, the arguments that are kept -/
def rm (K : PySem.W.Frag) (m : Mt) : V → List V → Hp → VK → Prop := fun x xs H Q => ∃ H0 φ S a as v S', At K H0 φ S H ∧ RepW K H0 φ H a x ∧ RepVs K φ H as xs ∧ meth m a as S = .ok v S' ∧ After K φ H S' fun φ' H' => ∀ w, RepW K H0 φ' H' v w → Q w H'
theorem ixN_eq (n : Nat) (i : Int) : Ev.ixN n i = L2.ixN n i := rfl
theorem m_append : MtR X "list.append" (rm X.K .append) := by
  intro pins s σ H x xs v us Q I rx rs h
  obtain ⟨H0, φ, S, a, as, z, S', at_, ra, ms, ev, q⟩ := h
  unfold meth at ev
  split at ev <;> try contradiction
  split at ev
  · rename_i l g
    split at ev
    · rename_i hz
      cases ev
      cases ms with | cons m1 m2 =>
      cases m2
      obtain ⟨p, ws, rfl, hn, hp, m⟩ := get_of at_.rel ra g
      refine mt_append pins s σ H _ _ v us Q I rx rs ⟨p, ws, _, rfl, rfl, hp, by rw [← m.length]; exact hz, ?_⟩
      exact q φ _ (Ext.write at_.rel hn hp) (at_.rel.write hn hp (m.append (.cons m1 .nil))) _ .non
    · cases ev
  · cases ev
theorem m_popAt : MtR X "list.pop" (rm X.K .popAt) := by
  intro pins s σ H x xs v us Q I rx rs h
  obtain ⟨H0, φ, S, a, as, z, S', at_, ra, ms, ev, q⟩ := h
  unfold meth at ev
  split at ev <;> try contradiction
  split at ev
  · rename_i l g
    split at ev
    · rename_i hz
      split at ev
      · rename_i k hk
        split at ev
        · rename_i y hy
          cases ev
          cases ms with | cons m1 m2 =>
          cases m2
          cases m1
          obtain ⟨p, ws, rfl, hn, hp, m⟩ := get_of at_.rel ra g
          obtain ⟨w, hw, rw⟩ := m.get hy
          have e1 := (L2.ixN_seq (show L2.ixN l.length _ = some k from hk)).1
          refine mt_popAt pins s σ H _ _ v us Q I rx rs ⟨p, ws, _, k, w, rfl, rfl, hp, hz.1, hz.2, by rw [← m.length]; exact e1, hw, ?_⟩
          exact q φ _ (Ext.write at_.rel hn hp) (at_.rel.write hn hp (m.eraseIdx k)) _ (rw.mono (Ext.write at_.rel hn hp))
        · cases ev
      · cases ev
    · cases ev
  · cases ev
theorem m_pop : MtR X "list.pop" (rm X.K .pop) := by
  intro pins s σ H x xs v us Q I rx rs h
  obtain ⟨H0, φ, S, a, as, z, S', at_, ra, ms, ev, q⟩ := h
  unfold meth at ev
  split at ev <;> try contradiction
  split at ev
  · rename_i l g
    split at ev
    · rename_i y hy
      cases ev
      cases ms
      obtain ⟨p, ws, rfl, hn, hp, m⟩ := get_of at_.rel ra g
      rw [List.getLast?_eq_getElem?] at hy
      obtain ⟨w, hw, rw⟩ := m.get hy
      refine mt_pop pins s σ H _ _ v us Q I rx rs ⟨p, ws, w, rfl, rfl, hp, by rw [← m.length]; exact hw, ?_⟩
      exact q φ _ (Ext.write at_.rel hn hp) (at_.rel.write hn hp m.dropLast) _ (rw.mono (Ext.write at_.rel hn hp))
    · cases ev
  · cases ev
abbrev mtF (m : Mt) (f : Env → Sto → R TW) (k : Env → Sto → R (List TV)) : Env → Sto → R TW := fun ρ S => (f ρ S).bind fun x S => (R.of (mtTy m x S) S).bind fun _ S => (k ρ S).bind fun xs S => meth m x xs S
theorem mt_step {K : PySem.W.Frag} {m : Mt} {k : Env → Sto → R (List TV)} {σ : L2.St} {H : Hp} {Q : VK} (q : tE K (mtF m f k) σ H Q) : tBM K "list" (rm K m) (tE K f) (tA K k) σ H Q := by
  obtain ⟨φ, S, ρ, z, S4, rel, re, ev, q⟩ := q
  obtain ⟨x, S1, e1, ev⟩ := R.bind_eq ev
  obtain ⟨y, e2, ev⟩ := R.bind_of ev
  obtain ⟨xs, S2, e3, ev⟩ := R.bind_eq ev
  refine tE_step rel re e1 fun φ1 H1 x1 r1 re1 u hu => ⟨lst_ty r1 hu e2, ?_⟩
  refine ⟨φ1, S1, ρ, xs, S2, r1, re1, e3, fun φ2 H2 x2 r2 ws hws => ?_⟩
  exact ⟨H, φ2, S2, x, xs, z, S4, ⟨r2, fun a n => x1.gone a (x2.gone a n)⟩, hu.mono x2, hws, ev, fun φ' H' x' r' w hw => q φ' H' ((x1.trans x2).trans x') r' w hw⟩
theorem few_ok {env : PySem.Env} {pos : Pos} {es : List Expr} (hs : es.all NoStar = true) (hl : es.length < 20) :
    ((backTo pos (starEach es env)).all (fun x => !x.1) && (backToKw pos (keywordEach [] env)).all (fun x => x.1.isSome) && decide (es.length + ([] : List Keyword).length + (if ([] : List Keyword).isEmpty then 0 else 1) < 30)) = true := by
  rw [star_len hs]
  have : es.length + ([] : List Keyword).length + (if ([] : List Keyword).isEmpty then 0 else 1) < 30 := by
    show es.length + 0 + 0 < 30
    omega
  rw [decide_eq_true this]
  rfl
theorem e_append {k : Env → Sto → R (List TV)} {apos : Pos} (ho : PE X b (tE X.K f)) (ha : PA X (e :: es) (tA X.K k)) (hs : (e :: es).all NoStar = true) (hl : (e :: es).length < 20) (hb : NoSuper b = true) (hp : (apos.endLine == pos.line) = true) :
    PE X (.Call (.Attribute b "append" apos) (e :: es) [] pos) (tE X.K (mtF .append f k)) := by
  have h2 := hs
  rw [List.all_cons, Bool.and_eq_true] at h2
  exact PE.weak (pe_bm PySem.F.plainAttrs_list PySem.F.slot_list_append PySem.F.type_list_append m_append ho ha (base_ok hb) (few_ok hs hl) hp (star_ok h2.1) (star_any h2.2)) fun σ H Q q => mt_step q
theorem e_popAt {k : Env → Sto → R (List TV)} {apos : Pos} (ho : PE X b (tE X.K f)) (ha : PA X (e :: es) (tA X.K k)) (hs : (e :: es).all NoStar = true) (hl : (e :: es).length < 20) (hb : NoSuper b = true) (hp : (apos.endLine == pos.line) = true) :
    PE X (.Call (.Attribute b "pop" apos) (e :: es) [] pos) (tE X.K (mtF .popAt f k)) := by
  have h2 := hs
  rw [List.all_cons, Bool.and_eq_true] at h2
  exact PE.weak (pe_bm PySem.F.plainAttrs_list PySem.F.slot_list_pop PySem.F.type_list_pop m_popAt ho ha (base_ok hb) (few_ok hs hl) hp (star_ok h2.1) (star_any h2.2)) fun σ H Q q => mt_step q
theorem e_pop {apos : Pos} (ho : PE X b (tE X.K f)) (hb : NoSuper b = true) (hp : (apos.endLine == pos.line) = true) :
    PE X (.Call (.Attribute b "pop" apos) [] [] pos) (tE X.K (mtF .pop f fun _ S => .ok [] S)) := by
  refine PE.weak (pe_bm0 PySem.F.plainAttrs_list PySem.F.slot_list_pop PySem.F.type_list_pop m_pop ho (base_ok hb) hp) fun σ H Q q => ?_
  obtain ⟨φ, S, ρ, z, S4, rel, re, ev, q⟩ := q
  obtain ⟨x, S1, e1, ev⟩ := R.bind_eq ev
  obtain ⟨y, e2, ev⟩ := R.bind_of ev
  refine tE_step rel re e1 fun φ1 H1 x1 r1 re1 u hu => ⟨lst_ty r1 hu e2, ?_⟩
  exact ⟨H, φ1, S1, x, [], z, S4, ⟨r1, x1.gone⟩, hu, .nil, ev, fun φ' H' x' r' w hw => q φ' H' (x1.trans x') r' w hw⟩

/-! ### ranges -/
theorem rgV_rep {K : PySem.W.Frag} {φ : List Addr} {H : Hp} (a b : Int) (n : Nat) (h : (b - a).toNat = n) : RepVs K φ H (rngL a n) (rgV a b) := by
  unfold rngL rgV
  rw [h]
  generalize List.range n = l
  induction l with
  | nil => exact .nil
  | cons i l ih => exact .cons (.int _) ih
/-- list(range(..)), tuple(range(..)): what the evaluator makes of the range -/
abbrev rgF (f : BI) (k : Env → Sto → R (List TW)) : Env → Sto → R TW := fun ρ S => (k ρ S).bind fun xs S => rngRes f xs S
theorem rngOk_ok {a b : Int} (h : rngOk a b = true) : -(2 ^ 62) ≤ a ∧ a < 2 ^ 62 ∧ -(2 ^ 62) ≤ b ∧ b < 2 ^ 62 := by
  unfold rngOk at h
  rw [Bool.and_eq_true, Bool.and_eq_true, Bool.and_eq_true] at h
  exact ⟨of_decide_eq_true h.1.1.1, of_decide_eq_true h.1.1.2, of_decide_eq_true h.1.2, of_decide_eq_true h.2⟩
/-- a range's two ends -/
theorem rngOf_ok {K : PySem.W.Frag} {φ : List Addr} {H H0 : Hp} {xs : List TW} {ws : List V} {a : Int} {n : Nat} (h : RepWs K H0 φ H xs ws) (e : rngOf xs = some (.rng a 1 n)) :
    (∃ b, ws = [.int b] ∧ a = 0 ∧ n = b.toNat ∧ rngOk 0 b = true) ∨ ∃ b, ws = [.int a, .int b] ∧ n = (b - a).toNat ∧ rngOk a b = true := by
  unfold rngOf at e
  split at e
  · split at e
    · rename_i b hb
      cases e
      cases h with | cons h1 h2 =>
      cases h2; cases h1
      exact .inl ⟨_, rfl, rfl, rfl, hb⟩
    · cases e
  · split at e
    · rename_i b hb
      cases e
      cases h with | cons h1 h2 =>
      cases h2 with | cons h2 h3 =>
      cases h3; cases h1; cases h2
      exact .inr ⟨_, rfl, rfl, hb⟩
    · cases e
  · split at e
    · split at e <;> cases e
    · split at e
      · rename_i hb
        injection e with e
        injection e with e1 e2 e3
        exact absurd e2 hb.2.1
      · cases e
  · cases e
theorem e_rg {fb : BI} {k : Env → Sto → R (List TW)} {t : L2.St → Hp → (Int → Int → Hp → Prop) → Prop} {r : Expr} {p : Pos} (hc : X.calm = true) (hg : Gl X (biName fb)) (hm : X.mg (biName fb) = none) (hr : PRg X r t) (hs : NoStar r = true)
    (ht : ∀ σ H (Q : Int → Int → Hp → Prop), (∃ φ S ρ xs S', Rel X.K φ S H ∧ RepE X.K φ H ρ σ ∧ k ρ S = .ok xs S' ∧ After X.K φ H S' fun φ' H' => ∀ ws, RepWs X.K H φ' H' xs ws → (∃ b, ws = [.int b] ∧ Q 0 b H') ∨ ∃ a b, ws = [.int a, .int b] ∧ Q a b H') → t σ H Q) :
    PE X (.Call (.Name (biName fb) p) [r] [] pos) (tE X.K (rgF fb k)) := by
  have main : ∀ σ H Q, tE X.K (rgF fb k) σ H Q → (fb = .list ∧ tLstRg t σ H Q) ∨ (fb = .tuple ∧ tTupRg t σ H Q) := by
    intro σ H Q q
    obtain ⟨φ, S, ρ, z, S4, rel, re, ev, q⟩ := q
    obtain ⟨xs, S1, e1, ev⟩ := R.bind_eq ev
    unfold rngRes at ev
    split at ev
    · rename_i a n e2
      split at ev
      · rename_i hz
        have ends : ∀ {ws : List V} {φ1 : List Addr} {H1 : Hp} (P : Int → Int → Prop), RepWs X.K H φ1 H1 xs ws → (∀ b, (b - a).toNat = n → RgOk a b → P a b) → (∃ b, ws = [.int b] ∧ P 0 b) ∨ ∃ a b, ws = [.int a, .int b] ∧ P a b := by
          intro ws φ1 H1 P hw hP
          rcases rngOf_ok hw e2 with ⟨b, e3, rfl, rfl, ok⟩ | ⟨b, e3, rfl, ok⟩
          · obtain ⟨o1, o2, o3, o4⟩ := rngOk_ok ok
            exact .inl ⟨b, e3, hP b (by omega) ⟨o1, o2, o3, o4, by omega⟩⟩
          · obtain ⟨o1, o2, o3, o4⟩ := rngOk_ok ok
            exact .inr ⟨a, b, e3, hP b rfl ⟨o1, o2, o3, o4, hz⟩⟩
        split at ev
        · cases ev
          exact .inl ⟨rfl, ht σ H _ ⟨φ, S, ρ, xs, _, rel, re, e1, fun φ1 H1 x1 r1 ws hw => ends (fun a b => RgOk a b ∧ ∀ p, H1 p = none → Q (.ref p) (upd H1 p (.lst (rgV a b)))) hw fun b e5 ok =>
            ⟨ok, fun p hp => finL (H0 := H) ⟨r1, x1.gone⟩ (fun φ' H' x' r' w hw => q φ' H' (x1.trans x') r' w hw) (rgV_rep _ _ _ e5) hp⟩⟩⟩
        · cases ev
          exact .inr ⟨rfl, ht σ H _ ⟨φ, S, ρ, xs, _, rel, re, e1, fun φ1 H1 x1 r1 ws hw => ends (fun a b => RgOk a b ∧ ∀ p, H1 p = none → Q (.ref p) (upd H1 p (.tup (rgV a b)))) hw fun b e5 ok =>
            ⟨ok, fun p hp => finT (H0 := H) ⟨r1, x1.gone⟩ (fun φ' H' x' r' w hw => q φ' H' (x1.trans x') r' w hw) (rgV_rep _ _ _ e5) hp⟩⟩⟩
        · cases ev
      · cases ev
    · cases ev
  cases fb
  case list => exact PE.weak (pe_listRg hc hg hm hr (star_ok hs)) fun σ H Q q => (main σ H Q q).elim (fun z => z.2) fun z => nomatch z.1
  case tuple => exact PE.weak (pe_tupRg hc hg hm hr (star_ok hs)) fun σ H Q q => (main σ H Q q).elim (fun z => nomatch z.1) fun z => z.2
  all_goals exact ⟨fun pins s σ H Q I q => (main σ H Q q).elim (fun z => nomatch z.1) fun z => nomatch z.1⟩
theorem e_rg1 {fb : BI} {p p2 pos2 : Pos} (hc : X.calm = true) (hg : Gl X (biName fb)) (hm : X.mg (biName fb) = none) (hg2 : Gl X "range") (hm2 : X.mg "range" = none) (ha : PE X a (tE X.K f)) (hs : NoStar a = true) :
    PE X (.Call (.Name (biName fb) p) [.Call (.Name "range" p2) [a] [] pos2] [] pos) (tE X.K (rgF fb fun ρ S => (f ρ S).bind fun x S => .ok [x] S)) := by
  refine e_rg hc hg hm (prg_1 hg2 hm2 ha (star_ok hs)) rfl fun σ H Q q => ?_
  obtain ⟨φ, S, ρ, z, S4, rel, re, ev, q⟩ := q
  obtain ⟨x, S1, e1, ev⟩ := R.bind_eq ev
  cases ev
  refine tE_step rel re e1 fun φ1 H1 x1 r1 re1 u hu => ?_
  rcases q φ1 H1 x1 r1 [u] (.cons hu .nil) with ⟨b, eb, q⟩ | ⟨a, b, eb, q⟩
  · cases eb; exact ⟨b, rfl, q⟩
  · cases eb
theorem e_rg2 {fb : BI} {p p2 pos2 : Pos} (hc : X.calm = true) (hg : Gl X (biName fb)) (hm : X.mg (biName fb) = none) (hg2 : Gl X "range") (hm2 : X.mg "range" = none) (ha : PE X a (tE X.K f)) (hb : PE X b (tE X.K g)) (hs : NoStar a = true) (hs2 : NoStar b = true) :
    PE X (.Call (.Name (biName fb) p) [.Call (.Name "range" p2) [a, b] [] pos2] [] pos) (tE X.K (rgF fb fun ρ S => (f ρ S).bind fun x S => (g ρ S).bind fun y S => .ok [x, y] S)) := by
  refine e_rg hc hg hm (prg_2 hg2 hm2 ha hb (star_ok hs) (star_ok hs2) (hp := star_any (by simp [hs2]))) rfl fun σ H Q q => ?_
  obtain ⟨φ, S, ρ, z, S4, rel, re, ev, q⟩ := q
  obtain ⟨x, S1, e1, ev⟩ := R.bind_eq ev
  obtain ⟨y, S2, e2, ev⟩ := R.bind_eq ev
  cases ev
  refine tE_step rel re e1 fun φ1 H1 x1 r1 re1 u hu => ?_
  refine tE_step r1 re1 e2 fun φ2 H2 x2 r2 re2 w hw => ?_
  rcases q φ2 H2 (x1.trans x2) r2 [u, w] (.cons (hu.mono x2) (.cons (hw.base x1.gone) .nil)) with ⟨b, eb, q⟩ | ⟨a, b, eb, q⟩
  · cases eb
  · cases eb; exact ⟨a, b, rfl, rfl, q⟩

/-! ### targets -/
def tG (K : PySem.W.Frag) (sl : List Nat) (f : TV → Env → Sto → R Env) : TG := fun w σ H Q => ∃ φ S ρ x ρ' S', Rel K φ S H ∧ RepE K φ H ρ σ ∧ RepV K φ H x w ∧ f x ρ S = .ok ρ' S' ∧
  After K φ H S' fun φ' H' => ∀ σ', RepE K φ' H' ρ' σ' → σ'.length = σ.length → (∀ i, i ∉ sl → σ'[i]? = σ[i]?) → Q σ' H'
def tGs (K : PySem.W.Frag) (sl : List Nat) (f : List TV → Env → Sto → R Env) : TGs := fun ws σ H Q => ∃ φ S ρ xs ρ' S', Rel K φ S H ∧ RepE K φ H ρ σ ∧ RepVs K φ H xs ws ∧ f xs ρ S = .ok ρ' S' ∧
  After K φ H S' fun φ' H' => ∀ σ', RepE K φ' H' ρ' σ' → σ'.length = σ.length → (∀ i, i ∉ sl → σ'[i]? = σ[i]?) → Q σ' H'
theorem PG.weak {e : Expr} {t t' : TG} (h : PG X e t) (i : ∀ w σ H Q, t' w σ H Q → t w σ H Q) : PG X e t' := ⟨fun pins s σ H v u Q I r q => h.run pins s σ H v u Q I r (i v σ H Q q)⟩
theorem PGs.weak {e : List Expr} {t t' : TGs} (h : PGs X e t) (i : ∀ w σ H Q, t' w σ H Q → t w σ H Q) : PGs X e t' := ⟨fun pins s σ H v u Q I r q => h.run pins s σ H v u Q I r (i v σ H Q q)⟩
theorem g_var {i : Nat} {x : Str} (hN : X.N.Nodup) (hi : X.N[i]? = some x) (hx : Loc X.env.scope x) (hf : X.fn x = true ∨ X.env.scope.names.lookup x = some .local) : PG X (.Name x pos) (tG X.K [i] fun x ρ S => .ok (ρ.set i (some x)) S) := by
  refine PG.weak (pg_name hN hi hx hf) fun w σ H Q q => ?_
  obtain ⟨φ, S, ρ, y, ρ', S', rel, re, rv, ev, q⟩ := q
  cases ev
  exact q φ H (.refl _ _ _) rel _ (re.set i rv) (by simp) fun j hj => List.getElem?_set_ne (fun z => hj (by simp [z]))
theorem gs_nil : PGs X [] (tGs X.K [] fun xs ρ S => match xs with | [] => .ok ρ S | _ => .err) := by
  refine PGs.weak pgs_nil fun w σ H Q q => ?_
  obtain ⟨φ, S, ρ, y, ρ', S', rel, re, rv, ev, q⟩ := q
  dsimp only at ev
  split at ev
  · cases ev; cases rv
    exact ⟨rfl, q φ H (.refl _ _ _) rel _ re rfl fun _ _ => rfl⟩
  · cases ev
theorem assign_cons {e : Expr} {es : List Expr} {env : PySem.Env} (h : NoStar e = true) : (assignEach (e :: es) env).map (·.2) = assign e env :: (assignEach es env).map (·.2) := by
  cases e <;> first | rfl | cases h
theorem assign_len {env : PySem.Env} : ∀ {es : List Expr}, (assignEach es env).length = es.length
  | [] => rfl
  | e :: es => by
    have ih := assign_len (env := env) (es := es)
    cases e <;> exact congrArg (· + 1) ih
theorem assign_star {env : PySem.Env} : ∀ {es : List Expr}, es.all NoStar = true → (assignEach es env).findIdx? (·.1) = none
  | [], _ => rfl
  | e :: es, h => by
    rw [List.all_cons, Bool.and_eq_true] at h
    have ih := assign_star (env := env) h.2
    have e1 : ∃ t, assignEach (e :: es) env = (false, t) :: assignEach es env := by
      cases e <;> first | exact ⟨_, rfl⟩ | cases h.1
    obtain ⟨t, e1⟩ := e1
    rw [e1, List.findIdx?_cons]
    simp [ih]
theorem gs_cons {sl sl2 : List Nat} {k : TV → Env → Sto → R Env} {l : List TV → Env → Sto → R Env} (h1 : PG X e (tG X.K sl k)) (h2 : PGs X es (tGs X.K sl2 l)) (hs : NoStar e = true) :
    PGs X (e :: es) (tGs X.K (sl ++ sl2) fun xs ρ S => match xs with | x :: r => (k x ρ S).bind fun ρ S => l r ρ S | _ => .err) := by
  refine PGs.weak (pgs_cons h1 h2 (assign_cons hs)) fun w σ H Q q => ?_
  obtain ⟨φ, S, ρ, y, ρ', S', rel, re, rv, ev, q⟩ := q
  dsimp only at ev
  split at ev
  · rename_i x r
    cases rv with | cons rv rs =>
    obtain ⟨ρ1, S1, e1, ev⟩ := R.bind_eq ev
    refine ⟨_, _, rfl, φ, S, ρ, x, ρ1, S1, rel, re, rv, e1, fun φ1 H1 x1 r1 σ1 re1 ln1 fr1 => ?_⟩
    refine ⟨φ1, S1, ρ1, r, ρ', S', r1, re1, rs.mono x1, ev, fun φ2 H2 x2 r2 σ2 re2 ln2 fr2 => ?_⟩
    exact q φ2 H2 (x1.trans x2) r2 σ2 re2 (ln2.trans ln1) fun j hj => by
      rw [List.mem_append, not_or] at hj
      exact (fr2 j hj.2).trans (fr1 j hj.1)
  · cases ev
theorem g_tup {k : Nat} {sl : List Nat} {l : List TV → Env → Sto → R Env} (hc : X.calm = true) (h : PGs X es (tGs X.K sl l)) (hs : es.all NoStar = true) (hl : ∀ xs ρ S ρ' S', l xs ρ S = .ok ρ' S' → xs.length = es.length) :
    PG X (.Tuple es k pos) (tG X.K sl fun x ρ S => match x with | .tup xs => l xs ρ S | _ => .err) := by
  refine PG.weak (pg_tup (n := es.length) hc h assign_len (assign_star hs)) fun w σ H Q q => ?_
  obtain ⟨φ, S, ρ, y, ρ', S', rel, re, rv, ev, q⟩ := q
  dsimp only at ev
  split at ev
  · rename_i xs
    cases rv with | tup hq m =>
    exact ⟨_, _, rfl, hq, by rw [← m.length]; exact hl _ _ _ _ _ ev, φ, S, ρ, xs, ρ', S', rel, re, m, ev, q⟩
  · cases ev
theorem sub_assign {o i : Expr} {env : PySem.Env} (h : NoSlice i = true) (v : Value) : assign (.Subscript o i pos) env v = (do
      let ov ← holding [v] (eval o env)
      let iv ← holding [v, ov] (eval i env)
      standAt pos
      holding [v, ov, iv] (setItem ov iv v)
      release [v, ov, iv] []) := by
  cases i <;> first | rfl | cases h
/-- o[i] = v by values -/
def rset (K : PySem.W.Frag) : V → V → V → Hp → (Hp → Prop) → Prop := fun o i v H Q => ∃ H0 φ S a b x S', At K H0 φ S H ∧ RepW K H0 φ H a o ∧ RepW K H0 φ H b i ∧ RepV K φ H x v ∧ setIx a b x S = some S' ∧ After K φ H S' fun φ' H' => Q H'
theorem set_ok : PSet X (rset X.K) := by
  intro pins s σ H o i v ov iv u Q I ro ri rv h
  obtain ⟨H0, φ, S, a, b, x, S', at_, ra, rb, rx, ev, q⟩ := h
  unfold setIx at ev
  split at ev
  · rename_i n j
    split at ev
    · rename_i l g
      obtain ⟨k, hk, rfl⟩ := Option.map_eq_some_iff.mp ev
      cases rb
      obtain ⟨p, ws, rfl, hn, hp, m⟩ := get_of at_.rel ra g
      refine set_list pins s σ H _ _ v ov iv u Q I ro ri rv ⟨p, ws, j, k, rfl, rfl, hp, by rw [← m.length]; exact hk, ?_⟩
      exact q φ _ (Ext.write at_.rel hn hp) (at_.rel.write hn hp (m.set rx k))
    · cases ev
  · cases ev
theorem g_sub (ha : PE X a (tE X.K f)) (hb : PE X b (tE X.K g)) (h : NoSlice b = true) :
    PG X (.Subscript a b pos) (tG X.K [] fun x ρ S => (f ρ S).bind fun o S => (g ρ S).bind fun i S => match setIx o i x S with | some S => .ok ρ S | none => .err) := by
  refine PG.weak (pg_sub ha hb set_ok (sub_assign h)) fun w σ H Q q => ?_
  obtain ⟨φ, S, ρ, y, ρ', S', rel, re, rv, ev, q⟩ := q
  obtain ⟨o, S1, e1, ev⟩ := R.bind_eq ev
  obtain ⟨i, S2, e2, ev⟩ := R.bind_eq ev
  split at ev
  · rename_i S3 e3
    cases ev
    refine tE_step rel re e1 fun φ1 H1 x1 r1 re1 w1 hw1 => ?_
    refine tE_step r1 re1 e2 fun φ2 H2 x2 r2 re2 w2 hw2 => ?_
    exact ⟨H, φ2, S2, o, i, y, _, ⟨r2, fun a n => x1.gone a (x2.gone a n)⟩, hw1.mono x2, hw2.base x1.gone, (rv.mono x1).mono x2, e3, fun φ' H' x' r' => q φ' H' ((x1.trans x2).trans x') r' σ (re2.mono x') rfl fun _ _ => rfl⟩
  · cases ev
end
end Ev

/-! Ev, part J: comprehensions. -/
namespace Ev
open PySem PySem.Spec PyProof.Rows L2
section
variable {K : PySem.W.Frag} {φ : List Addr} {H : Hp} {ρ : Env} {σ : L2.St}
theorem RepE.clear (r : RepE K φ H ρ σ) (i : Nat) : RepE K φ H (ρ.set i none) (σ.set i none) := by
  refine ⟨by simp [r.len], fun j y e => ?_⟩
  by_cases hj : i = j
  · subst hj
    by_cases hi : i < ρ.length
    · rw [List.getElem?_set_self hi] at e; cases e
    · rw [List.getElem?_eq_none (by simpa using hi)] at e; cases e
  · rw [List.getElem?_set_ne hj] at e
    rw [List.getElem?_set_ne hj]
    exact r.at_ j y e
theorem RepE.wipe (r : RepE K φ H ρ σ) : ∀ vs : List Nat, RepE K φ H (Ev.wipe ρ vs) (L2.wipe σ vs)
  | [] => r
  | v :: vs => (RepE.wipe r vs).clear v
theorem wipe_at (σ : L2.St) : ∀ (vs : List Nat) (i : Nat), (L2.wipe σ vs)[i]? = if i ∈ vs then (if i < σ.length then some none else none) else σ[i]?
  | [], i => by simp [L2.wipe]
  | v :: vs, i => by
    unfold L2.wipe
    have ih := wipe_at σ vs i
    by_cases hi : v = i
    · subst hi
      rw [if_pos List.mem_cons_self]
      by_cases hl : v < σ.length
      · rw [if_pos hl, List.getElem?_set_self (by rw [L2.wipe_length]; exact hl)]
      · rw [if_neg hl, List.getElem?_eq_none (by simp [L2.wipe_length]; omega)]
    · rw [List.getElem?_set_ne hi, ih]
      by_cases hm : i ∈ vs
      · rw [if_pos hm, if_pos (List.mem_cons_of_mem _ hm)]
      · rw [if_neg hm, if_neg (by simp only [List.mem_cons, not_or]; exact ⟨fun e => hi e.symm, hm⟩)]
/-- what changed at the walk's own names alone -/
theorem wipe_same {σ σ' : L2.St} {sl vs : List Nat} (hl : σ'.length = σ.length) (h : ∀ i, i ∉ sl → σ'[i]? = σ[i]?) (hs : ∀ i ∈ sl, i ∈ vs) : L2.wipe σ' vs = L2.wipe σ vs := by
  refine List.ext_getElem? fun i => ?_
  rw [wipe_at, wipe_at, hl]
  by_cases hi : i ∈ vs
  · rw [if_pos hi, if_pos hi]
  · rw [if_neg hi, if_neg hi]
    exact h i fun m => hi (hs i m)
theorem wipe_wipe (σ : L2.St) (vs : List Nat) : L2.wipe (L2.wipe σ vs) vs = L2.wipe σ vs := by
  refine List.ext_getElem? fun i => ?_
  rw [wipe_at, wipe_at, L2.wipe_length]
  by_cases hi : i ∈ vs
  · rw [if_pos hi, if_pos hi]
  · rw [if_neg hi, if_neg hi]
end
abbrev elF (fe : Env → Sto → R TW) : Env → Sto → R TV := fun ρ S => (fe ρ S).bind fun x S => x.st S
abbrev compF (fi : Env → Sto → Ev.R Itb) (ft : TV → Env → Sto → R Env) (fc : Env → Sto → R Bool) (fe : Env → Sto → R TW) (vs : List Nat) : Env → Sto → R TW := fun ρ S =>
  (fi ρ S).bind fun b S => (compGo (fun x ρ S => ft x ρ S) (fun ρ S => fc ρ S) (elF fe) (Ev.wipe ρ vs) (b.many S + 1) b [] S).bind fun l S => .ok (.fr l) S
section
variable {K : PySem.W.Frag} {fi : Env → Sto → Ev.R Itb} {ft : TV → Env → Sto → R Env} {fc : Env → Sto → R Bool} {fe : Env → Sto → R TW} {sl vs : List Nat}
/-- the state between two turns: from φ0, H0 on; D holds what is made so far -/
structure CS (K : PySem.W.Frag) (φ0 : List Addr) (H0 B B1 : Hp) (ρ : Env) (σ : L2.St) (D : Addr) (φ : List Addr) (S : Sto) (H : Hp) (acc : List TV) (b : Itb) (J : L2.It) (i : Nat) : Prop where
  rel : Rel K φ S H
  ext : Ext K φ0 H0 φ H
  re : RepE K φ H ρ σ
  d0 : H0 D = none
  av : B D ≠ none ∨ B1 D = none
  dn : D ∉ φ
  dl : ∃ ws, H D = some (.lst ws) ∧ RepVs K φ H acc ws
  it : ItSt K B B1 φ H b J i
/-- the element is made and kept -/
theorem CS.grow {φ0 : List Addr} {H0 B B1 : Hp} {ρ : Env} {σ : L2.St} {D : Addr} {φ φ5 : List Addr} {S S4 S5 : Sto} {H H4 : Hp} {acc : List TV} {b : Itb} {J : L2.It} {i j : Nat} {y : TW} {x : TV} {w : V}
    (c : CS K φ0 H0 B B1 ρ σ D φ S H acc b J i) (e : Ext K φ H φ5 H4) (r : Rel K φ5 S4 H4) (hw : RepW K H φ5 H4 y w) (st : y.st S4 = .ok x S5) :
    ∃ φ6, (∃ vs, H4 D = some (.lst vs) ∧ vs.length = acc.length ∧ CS K φ0 H0 B B1 ρ σ D φ6 S5 (upd H4 D (.lst (vs ++ [w]))) (acc ++ [x]) b J i) := by
  obtain ⟨φ6, e6, r6, h6, _⟩ := stored e r hw st
  obtain ⟨us, hD, m⟩ := c.dl
  obtain ⟨hD4, dn6⟩ := e6.keep D _ c.dn hD
  refine ⟨φ6, us, hD4, m.length.symm, r6.upd_free dn6 hD4, (c.ext.trans e6).upd_free hD4 c.d0, ?_, c.d0, c.av, dn6, ⟨_, upd_same, ?_⟩, (c.it.mono e6).upd hD4 c.av⟩
  · have re := c.re.mono e6
    exact ⟨re.len, fun k z hz => let ⟨u, h1, h2⟩ := re.at_ k z hz; ⟨u, h1, rep_upd hD4 h2⟩⟩
  · exact reps_upd hD4 ((m.mono e6).append (.cons h6 .nil))
theorem comp_step {σ : L2.St} {H : Hp} {Q : VK} (hsub : ∀ i ∈ sl, i ∈ vs) (q : tE K (compF fi ft fc fe vs) σ H Q) : tLc (tI K fi) (tG K sl ft) (tB K fc) (tE K fe) vs σ H Q := by
  obtain ⟨φ, S, ρ, z, S4, rel, re, ev, q⟩ := q
  obtain ⟨b, S1, e1, ev⟩ := R.bind_eq ev
  obtain ⟨l, S2, e2, ev⟩ := R.bind_eq ev
  cases ev
  refine ⟨φ, S, ρ, b, S1, rel, re, e1, fun φ1 H1 x1 r1 J hJ D hD => ?_⟩
  have x2 := Ext.new r1 (.lst []) hD
  have d0 : H D = none := x1.gone D hD
  refine ⟨fun i m H' => ∃ φ' S' acc b', CS K φ H H H1 (Ev.wipe ρ vs) (L2.wipe σ vs) D φ' S' H' acc b' J i ∧ compGo (fun x ρ S => ft x ρ S) (fun ρ S => fc ρ S) (elF fe) (Ev.wipe ρ vs) m b' acc S' = .ok l S4,
    ⟨b.many S1 + 1, φ1, S1, [], b, ⟨r1.upd_new _ hD, x1.trans x2, (re.wipe vs).mono (x1.trans x2), d0, .inr hD, r1.new hD, ⟨[], upd_same, .nil⟩, hJ.mono x2⟩, e2⟩, fun i m H' w => ?_⟩
  obtain ⟨φ', S', acc, b', c, go⟩ := w
  cases m with
  | zero => cases go
  | succ k =>
    have st := it_step c.it c.rel
    unfold compGo at go
    split at go
    · cases go
    · rename_i en
      rw [en] at st
      cases go
      obtain ⟨us, hD', mm⟩ := c.dl
      exact .inl ⟨st, q φ' H' c.ext c.rel _ ⟨D, us, rfl, d0, c.dn, hD', mm⟩⟩
    · rename_i x b2 en
      rw [en] at st
      obtain ⟨jg, jy⟩ := st
      obtain ⟨ρ', S5, e5, go⟩ := R.bind_eq go
      obtain ⟨t, S6, e6, go⟩ := R.bind_eq go
      refine .inr ⟨jg, fun H'' => ∃ m', m' < k + 1 ∧ ∃ φ' S' acc b', CS K φ H H H1 (Ev.wipe ρ vs) (L2.wipe σ vs) D φ' S' H'' acc b' J (i + 1) ∧ compGo (fun x ρ S => ft x ρ S) (fun ρ S => fc ρ S) (elF fe) (Ev.wipe ρ vs) m' b' acc S' = .ok l S4, fun H'' z => z, fun w H2 y => ?_⟩
      obtain ⟨x3, r3, rv, it3⟩ := jy w H2 y
      refine ⟨φ', S', Ev.wipe ρ vs, x, ρ', S5, r3, c.re.mono x3, rv, e5, fun φ3 H3 x4 r4 σ3 re3 hl fr3 => ⟨?_, ?_⟩⟩
      · rw [wipe_same hl fr3 hsub, wipe_wipe]
      · refine tB_step r4 re3 e6 fun φ4 H4 x5 r5 re5 => ?_
        have x345 := (x3.trans x4).trans x5
        have c4 : CS K φ H H H1 (Ev.wipe ρ vs) (L2.wipe σ vs) D φ4 S6 H4 acc b2 J (i + 1) := by
          obtain ⟨us, hD', mm⟩ := c.dl
          obtain ⟨h1, h2⟩ := x345.keep D _ c.dn hD'
          exact ⟨r5, c.ext.trans x345, c.re.mono x345, c.d0, c.av, h2, ⟨us, h1, mm.mono x345⟩, it3.mono (x4.trans x5)⟩
        cases t with
        | false => exact iteF ⟨k, Nat.lt_succ_self k, φ4, S6, acc, b2, c4, go⟩
        | true =>
          simp only [cond_true] at go
          obtain ⟨yv, S7, e7, go⟩ := R.bind_eq go
          obtain ⟨yw, S8, e8, e9⟩ := R.bind_eq e7
          cases hz : acc.length.blt sizeLine with
          | false => rw [hz] at go; cases go
          | true =>
            rw [hz] at go
            refine iteT (tE_step r5 re5 e8 fun φ5 H5 x6 r6 re6 u hu => ?_)
            obtain ⟨φ6, us, hD5, hln, c6⟩ := CS.grow (j := 0) c4 x6 r6 hu e9
            exact ⟨us, hD5, by rw [hln]; exact Nat.le_of_ble_eq_true hz, k, Nat.lt_succ_self k, φ6, S7, acc ++ [yv], b2, c6, go⟩
/-- two clauses -/
abbrev compF2 (fi : Env → Sto → Ev.R Itb) (ft : TV → Env → Sto → R Env) (fc : Env → Sto → R Bool) (fi2 : Env → Sto → Ev.R Itb) (ft2 : TV → Env → Sto → R Env) (fc2 : Env → Sto → R Bool) (fe : Env → Sto → R TW) (vs vs2 : List Nat) : Env → Sto → R TW := fun ρ S =>
  (fi ρ S).bind fun b S => (compGo2 (fun x ρ S => ft x ρ S) (fun ρ S => fc ρ S) (fun ρ S => fi2 ρ S)
    (fun ρ => compGo (fun x ρ S => ft2 x ρ S) (fun ρ S => fc2 ρ S) (elF fe) (Ev.wipe ρ vs2)) (Ev.wipe ρ vs) (b.many S + 1) b [] S).bind fun l S => .ok (.fr l) S
theorem comp_step2 {fi2 : Env → Sto → Ev.R Itb} {ft2 : TV → Env → Sto → R Env} {fc2 : Env → Sto → R Bool} {sl2 vs2 : List Nat} {σ : L2.St} {H : Hp} {Q : VK} (hsub : ∀ i ∈ sl, i ∈ vs) (hsub2 : ∀ i ∈ sl2, i ∈ vs2)
    (q : tE K (compF2 fi ft fc fi2 ft2 fc2 fe vs vs2) σ H Q) : tLc2 (tI K fi) (tG K sl ft) (tB K fc) (tI K fi2) (tG K sl2 ft2) (tB K fc2) (tE K fe) vs vs2 σ H Q := by
  obtain ⟨φ, S, ρ, z, S4, rel, re, ev, q⟩ := q
  obtain ⟨b, S1, e1, ev⟩ := R.bind_eq ev
  obtain ⟨l, S2, e2, ev⟩ := R.bind_eq ev
  cases ev
  refine ⟨φ, S, ρ, b, S1, rel, re, e1, fun φ1 H1 x1 r1 J hJ D hD => ?_⟩
  have x2 := Ext.new r1 (.lst []) hD
  have d0 : H D = none := x1.gone D hD
  generalize hin : (fun ρ => compGo (fun x ρ S => ft2 x ρ S) (fun ρ S => fc2 ρ S) (elF fe) (Ev.wipe ρ vs2)) = inner at e2
  refine ⟨fun i m H' => ∃ φ' S' acc b', CS K φ H H H1 (Ev.wipe ρ vs) (L2.wipe σ vs) D φ' S' H' acc b' J i ∧ compGo2 (fun x ρ S => ft x ρ S) (fun ρ S => fc ρ S) (fun ρ S => fi2 ρ S) inner (Ev.wipe ρ vs) m b' acc S' = .ok l S4,
    ⟨b.many S1 + 1, φ1, S1, [], b, ⟨r1.upd_new _ hD, x1.trans x2, (re.wipe vs).mono (x1.trans x2), d0, .inr hD, r1.new hD, ⟨[], upd_same, .nil⟩, hJ.mono x2⟩, e2⟩, fun i m H' w => ?_⟩
  obtain ⟨φ', S', acc, b', c, go⟩ := w
  cases m with
  | zero => cases go
  | succ k =>
    have st := it_step c.it c.rel
    unfold compGo2 at go
    split at go
    · cases go
    · rename_i en
      rw [en] at st
      cases go
      obtain ⟨us, hD', mm⟩ := c.dl
      exact .inl ⟨st, q φ' H' c.ext c.rel _ ⟨D, us, rfl, d0, c.dn, hD', mm⟩⟩
    · rename_i x b2 en
      rw [en] at st
      obtain ⟨jg, jy⟩ := st
      obtain ⟨ρ', S5, e5, go⟩ := R.bind_eq go
      obtain ⟨t, S6, e6, go⟩ := R.bind_eq go
      refine .inr ⟨jg, fun H'' => ∃ m', m' < k + 1 ∧ ∃ φ' S' acc b', CS K φ H H H1 (Ev.wipe ρ vs) (L2.wipe σ vs) D φ' S' H'' acc b' J (i + 1) ∧ compGo2 (fun x ρ S => ft x ρ S) (fun ρ S => fc ρ S) (fun ρ S => fi2 ρ S) inner (Ev.wipe ρ vs) m' b' acc S' = .ok l S4, fun H'' z => z, fun w H2 y => ?_⟩
      obtain ⟨x3, r3, rv, it3⟩ := jy w H2 y
      refine ⟨φ', S', Ev.wipe ρ vs, x, ρ', S5, r3, c.re.mono x3, rv, e5, fun φ3 H3 x4 r4 σ3 re3 hl fr3 => ⟨?_, ?_⟩⟩
      · rw [wipe_same hl fr3 hsub, wipe_wipe]
      · refine tB_step r4 re3 e6 fun φ4 H4 x5 r5 re5 => ?_
        have x345 := (x3.trans x4).trans x5
        have c4 : CS K φ H H H1 (Ev.wipe ρ vs) (L2.wipe σ vs) D φ4 S6 H4 acc b2 J (i + 1) := by
          obtain ⟨us, hD', mm⟩ := c.dl
          obtain ⟨h1, h2⟩ := x345.keep D _ c.dn hD'
          exact ⟨r5, c.ext.trans x345, c.re.mono x345, c.d0, c.av, h2, ⟨us, h1, mm.mono x345⟩, it3.mono (x4.trans x5)⟩
        cases t with
        | false => exact iteF ⟨k, Nat.lt_succ_self k, φ4, S6, acc, b2, c4, go⟩
        | true =>
          simp only [cond_true] at go
          obtain ⟨jt, S7, e7, go⟩ := R.bind_eq go
          obtain ⟨acc2, S8, e8, go⟩ := R.bind_eq go
          subst hin
          refine iteT ⟨φ4, S6, ρ', jt, S7, r5, re5, e7, fun φ5 H5 x6 r6 J1 hJ1 => ?_⟩
          have hD4 : H4 D ≠ none := by
            obtain ⟨us, z, _⟩ := c4.dl
            rw [z]
            exact fun q => nomatch q
          obtain ⟨us4, hd4, mm4⟩ := c4.dl
          obtain ⟨hd5, dn5⟩ := x6.keep D _ c4.dn hd4
          -- the outer walk's state, carried through the inner one
          refine ⟨fun j m H' => ∃ φ' S' acc' b', CS K φ H H4 H5 (Ev.wipe ρ' vs2) (L2.wipe σ3 vs2) D φ' S' H' acc' b' J1 j ∧ RepE K φ' H' (Ev.wipe ρ vs) (L2.wipe σ vs) ∧ ItSt K H H1 φ' H' b2 J (i + 1) ∧ compGo (fun x ρ S => ft2 x ρ S) (fun ρ S => fc2 ρ S) (elF fe) (Ev.wipe ρ' vs2) m b' acc' S' = .ok acc2 S8,
            ⟨jt.many S7 + 1, φ5, S7, acc, jt, ⟨r6, c4.ext.trans x6, (re5.wipe vs2).mono x6, c4.d0, .inl hD4, dn5, ⟨us4, hd5, mm4.mono x6⟩, hJ1⟩, c4.re.mono x6, c4.it.mono x6, e8⟩, fun j m2 H' w => ?_⟩
          obtain ⟨φ', S', acc', b', c', reo, ito, go'⟩ := w
          cases m2 with
          | zero => cases go'
          | succ k2 =>
            have st' := it_step c'.it c'.rel
            unfold compGo at go'
            split at go'
            · cases go'
            · rename_i en'
              rw [en'] at st'
              cases go'
              exact .inl ⟨st', k, Nat.lt_succ_self k, φ', _, _, b2, ⟨c'.rel, c'.ext, reo, c'.d0, c4.av, c'.dn, c'.dl, ito⟩, go⟩
            · rename_i x' b2' en'
              rw [en'] at st'
              obtain ⟨jg', jy'⟩ := st'
              obtain ⟨ρ2, S9, e9, go'⟩ := R.bind_eq go'
              obtain ⟨t2, S10, e10, go'⟩ := R.bind_eq go'
              refine .inr ⟨jg', fun H'' => ∃ m', m' < k2 + 1 ∧ ∃ φ' S' acc' b', CS K φ H H4 H5 (Ev.wipe ρ' vs2) (L2.wipe σ3 vs2) D φ' S' H'' acc' b' J1 (j + 1) ∧ RepE K φ' H'' (Ev.wipe ρ vs) (L2.wipe σ vs) ∧ ItSt K H H1 φ' H'' b2 J (i + 1) ∧ compGo (fun x ρ S => ft2 x ρ S) (fun ρ S => fc2 ρ S) (elF fe) (Ev.wipe ρ' vs2) m' b' acc' S' = .ok acc2 S8, fun H'' z => z, fun w2 H6 y' => ?_⟩
              obtain ⟨x7, r7, rv', it7⟩ := jy' w2 H6 y'
              refine ⟨φ', S', Ev.wipe ρ' vs2, x', ρ2, S9, r7, c'.re.mono x7, rv', e9, fun φ7 H7 x8 r8 σ5 re7 hl' fr7 => ⟨?_, ?_⟩⟩
              · rw [wipe_same hl' fr7 hsub2, wipe_wipe]
              · refine tB_step r8 re7 e10 fun φ8 H8 x9 r9 re9 => ?_
                have x789 := (x7.trans x8).trans x9
                have c8 : CS K φ H H4 H5 (Ev.wipe ρ' vs2) (L2.wipe σ3 vs2) D φ8 S10 H8 acc' b2' J1 (j + 1) := by
                  obtain ⟨us, hD', mm⟩ := c'.dl
                  obtain ⟨h1, h2⟩ := x789.keep D _ c'.dn hD'
                  exact ⟨r9, c'.ext.trans x789, c'.re.mono x789, c'.d0, c'.av, h2, ⟨us, h1, mm.mono x789⟩, it7.mono (x8.trans x9)⟩
                cases t2 with
                | false => exact iteF ⟨k2, Nat.lt_succ_self k2, φ8, S10, acc', b2', c8, reo.mono x789, ito.mono x789, go'⟩
                | true =>
                  simp only [cond_true] at go'
                  obtain ⟨yv, S11, e11, go'⟩ := R.bind_eq go'
                  obtain ⟨yw, S12, e12, e13⟩ := R.bind_eq e11
                  cases hz : acc'.length.blt sizeLine with
                  | false => rw [hz] at go'; cases go'
                  | true =>
                    rw [hz] at go'
                    refine iteT (tE_step r9 re9 e12 fun φ9 H9 x10 r10 re10 u hu => ?_)
                    obtain ⟨φ10, e14, r14, h14, _⟩ := stored x10 r10 hu e13
                    obtain ⟨us8, hd8, mm8⟩ := c8.dl
                    obtain ⟨hd9, dn9⟩ := e14.keep D _ c8.dn hd8
                    have re14 := (reo.mono x789).mono e14
                    refine ⟨us8, hd9, by rw [← mm8.length]; exact Nat.le_of_ble_eq_true hz, k2, Nat.lt_succ_self k2, φ10, S11, acc' ++ [yv], b2', ⟨r14.upd_free dn9 hd9, (c8.ext.trans e14).upd_free hd9 c8.d0, ?_, c8.d0, c8.av, dn9, ⟨_, upd_same, reps_upd hd9 ((mm8.mono e14).append (.cons h14 .nil))⟩, (c8.it.mono e14).upd hd9 c8.av⟩, ?_, ((ito.mono x789).mono e14).upd hd9 c4.av, go'⟩
                    · have re := c8.re.mono e14
                      exact ⟨re.len, fun k z hz => let ⟨u, h1, h2⟩ := re.at_ k z hz; ⟨u, h1, rep_upd hd9 h2⟩⟩
                    · exact ⟨re14.len, fun k z hz => let ⟨u, h1, h2⟩ := re14.at_ k z hz; ⟨u, h1, rep_upd hd9 h2⟩⟩
end
end Ev

/-! Ev, part K: ranges walked, chains, comprehensions, statements. -/
namespace Ev
open PySem PySem.Spec PyProof.Rows L2

section
variable {X : Cx} {a b c e : Expr} {f g h : Env → Sto → R TW} {pos : Pos}
theorem e_chain (hu : X.A.units + 64 < cLine) (o1 o2 : COp) (ha : PE X a (tE X.K f)) (hb : PE X b (tE X.K g)) (hc : PE X c (tE X.K h)) (hm : lastMarks [copOf o1, copOf o2] [b, c] = false) : PE X (.Compare a [copOf o1, copOf o2] [b, c] pos) (tE X.K (chF o1 o2 f g h)) :=
  PE.weak (pe_chain (cmpE hu o1) (cmpE hu o2) ha hb hc hm) fun _ _ _ q => chain_step q
theorem t_chain (hu : X.A.units + 64 < cLine) (o1 o2 : COp) (ha : PE X a (tE X.K f)) (hb : PE X b (tE X.K g)) (hc : PE X c (tE X.K h)) (hm : lastMarks [copOf o1, copOf o2] [b, c] = false) : PT X (.Compare a [copOf o1, copOf o2] [b, c] pos) (tB X.K (tru (chF o1 o2 f g h))) := by
  refine PT.weak (pt_chain (cmpE hu o1) (cmpE hu o2) ha hb hc hm) fun σ H Q q => ?_
  obtain ⟨φ, S, ρ, t, S2, rel, re, ev, q⟩ := q
  obtain ⟨w, S1, e1, ev⟩ := R.bind_eq ev
  obtain ⟨e2, rfl⟩ := R.of_eq ev
  have k : ∃ b, w = .v (.bl b) := by
    obtain ⟨x, S1, _, e1⟩ := R.bind_eq e1
    obtain ⟨y, S2, _, e1⟩ := R.bind_eq e1
    obtain ⟨t, S3, _, e1⟩ := R.bind_eq e1
    cases t with
    | false => cases e1; exact ⟨_, rfl⟩
    | true =>
      obtain ⟨z, S4, _, e1⟩ := R.bind_eq e1
      obtain ⟨t2, S5, _, e1⟩ := R.bind_eq e1
      cases e1
      exact ⟨_, rfl⟩
  obtain ⟨b, rfl⟩ := k
  cases e2
  exact chain_step ⟨φ, S, ρ, _, _, rel, re, e1, fun φ' H' e r w hw => by cases hw; exact ⟨t, rfl, q φ' H' e r⟩⟩

/-! ### range walked -/
abbrev riF (k : Env → Sto → R (List TW)) : Env → Sto → R Itb := fun ρ S => (k ρ S).bind fun xs S => (R.of (rngOf xs) S).bind fun b S => .ok b S
theorem rngU0 {K : PySem.W.Frag} {B B1 : Hp} {φ : List Addr} {H : Hp} (a : Int) (n : Nat) : ItSt K B B1 φ H (.rng a 1 n) (Itr a n) 0 := by
  have q := ItSt.rngU (K := K) (B := B) (B1 := B1) (φ := φ) (H := H) a n 0 (Nat.zero_le _)
  simpa using q
theorem rngC0 {K : PySem.W.Frag} {B B1 : Hp} {φ : List Addr} {H : Hp} (a c : Int) (n : Nat) : ItSt K B B1 φ H (.rng a c n) (Itc a c n) 0 := by
  have q := ItSt.rng (K := K) (B := B) (B1 := B1) (φ := φ) (H := H) a c n 0 (Nat.zero_le _)
  simpa using q
theorem i_rng1 {tg : Expr} {p : Pos} (hg : Gl X "range") (hm : X.mg "range" = none) (ha : PE X a (tE X.K f)) (hs : NoStar a = true) :
    PI X tg (.Call (.Name "range" p) [a] [] pos) (tI X.K (riF fun ρ S => (f ρ S).bind fun x S => ((Ev.R.ok [] S).bind fun xs S => .ok (x :: xs) S : R (List TW)))) := by
  refine PI.weak (pi_range1 hg hm (l_cons ha l_nil hs) (star_ok hs)) fun σ H Rr q => ?_
  obtain ⟨φ, S, ρ, b, S2, rel, re, ev, q⟩ := q
  obtain ⟨xs, S1, e1, ev⟩ := Ev.R.bind_eq ev
  obtain ⟨it, e2, ev⟩ := Ev.R.bind_of ev
  cases ev
  refine ⟨φ, S, ρ, xs, _, rel, re, e1, fun φ1 H1 x1 r1 ws hws => ?_⟩
  obtain ⟨x, S3, e3, e1⟩ := Ev.R.bind_eq e1
  cases e1
  unfold rngOf at e2
  split at e2
  · rename_i j hj
    cases hj
    split at e2
    · rename_i ok
      cases e2
      cases hws with | cons h1 h2 =>
      cases h2; cases h1
      obtain ⟨_, _, k3, k4⟩ := rngOk_ok ok
      exact ⟨_, rfl, k3, k4, q φ1 H1 x1 r1 _ (rngU0 0 _)⟩
    · cases e2
  · rename_i hj; cases hj
  · rename_i hj; cases hj
  · cases e2
theorem i_rng2 {tg : Expr} {p : Pos} (hg : Gl X "range") (hm : X.mg "range" = none) (ha : PE X a (tE X.K f)) (hb : PE X b (tE X.K g)) (hs : NoStar a = true) (hs2 : NoStar b = true) :
    PI X tg (.Call (.Name "range" p) [a, b] [] pos) (tI X.K (riF fun ρ S => (f ρ S).bind fun x S => ((g ρ S).bind fun y S => ((Ev.R.ok [] S).bind fun xs S => .ok (y :: xs) S : R (List TW))).bind fun xs S => .ok (x :: xs) S)) := by
  refine PI.weak (pi_range2 hg hm (l_cons ha (l_cons hb l_nil hs2) hs) (by rw [star_ok hs, star_ok hs2]; rfl) (star_ok hs2)) fun σ H Rr q => ?_
  obtain ⟨φ, S, ρ, b, S2, rel, re, ev, q⟩ := q
  obtain ⟨xs, S1, e1, ev⟩ := Ev.R.bind_eq ev
  obtain ⟨it, e2, ev⟩ := Ev.R.bind_of ev
  cases ev
  refine ⟨φ, S, ρ, xs, _, rel, re, e1, fun φ1 H1 x1 r1 ws hws => ?_⟩
  obtain ⟨x, S3, e3, e1⟩ := Ev.R.bind_eq e1
  obtain ⟨ys, S4, e4, e1⟩ := Ev.R.bind_eq e1
  cases e1
  obtain ⟨y, S5, e5, e4⟩ := Ev.R.bind_eq e4
  cases e4
  unfold rngOf at e2
  split at e2
  · rename_i hj; cases hj
  · rename_i i j hj
    cases hj
    split at e2
    · rename_i ok
      cases e2
      cases hws with | cons h1 h2 =>
      cases h2 with | cons h2 h3 =>
      cases h3; cases h1; cases h2
      exact ⟨_, _, rfl, rngOk_ok ok, q φ1 H1 x1 r1 _ (rngU0 _ _)⟩
    · cases e2
  · rename_i hj; cases hj
  · cases e2
theorem i_rng3 {tg : Expr} {p : Pos} (hg : Gl X "range") (hm : X.mg "range" = none) (ha : PE X a (tE X.K f)) (hb : PE X b (tE X.K g)) (hc : PE X c (tE X.K h)) (hs : NoStar a = true) (hs2 : NoStar b = true) (hs3 : NoStar c = true) :
    PI X tg (.Call (.Name "range" p) [a, b, c] [] pos) (tI X.K (riF fun ρ S => (f ρ S).bind fun x S => ((g ρ S).bind fun y S => ((h ρ S).bind fun z S => ((Ev.R.ok [] S).bind fun xs S => .ok (z :: xs) S : R (List TW))).bind fun xs S => .ok (y :: xs) S).bind fun xs S => .ok (x :: xs) S)) := by
  refine PI.weak (pi_range3 hg hm (l_cons ha (l_cons hb (l_cons hc l_nil hs3) hs2) hs) (star_ok hs) (by rw [star_ok hs2, star_ok hs3]; rfl)) fun σ H Rr q => ?_
  obtain ⟨φ, S, ρ, b, S2, rel, re, ev, q⟩ := q
  obtain ⟨xs, S1, e1, ev⟩ := Ev.R.bind_eq ev
  obtain ⟨it, e2, ev⟩ := Ev.R.bind_of ev
  cases ev
  refine ⟨φ, S, ρ, xs, _, rel, re, e1, fun φ1 H1 x1 r1 ws hws => ?_⟩
  obtain ⟨x, S3, e3, e1⟩ := Ev.R.bind_eq e1
  obtain ⟨ys, S4, e4, e1⟩ := Ev.R.bind_eq e1
  cases e1
  obtain ⟨y, S5, e5, e4⟩ := Ev.R.bind_eq e4
  obtain ⟨zs, S6, e6, e4⟩ := Ev.R.bind_eq e4
  cases e4
  obtain ⟨z, S7, e7, e6⟩ := Ev.R.bind_eq e6
  cases e6
  unfold rngOf at e2
  split at e2
  · rename_i hj; cases hj
  · rename_i hj; cases hj
  · rename_i i j k hj
    cases hj
    cases hws with | cons h1 h2 =>
    cases h2 with | cons h2 h3 =>
    cases h3 with | cons h3 h4 =>
    cases h4; cases h1; cases h2; cases h3
    split at e2
    · rename_i hk
      subst hk
      split at e2
      · rename_i ok
        cases e2
        obtain ⟨k1, k2, k3, k4⟩ := rngOk_ok ok
        exact ⟨_, _, _, _, rfl, RgC.neg k1 k2 k3 k4, q φ1 H1 x1 r1 _ (rngC0 _ _ _)⟩
      · cases e2
    · split at e2
      · rename_i ok
        cases e2
        exact ⟨_, _, _, _, rfl, ⟨ok.1, ok.2.2.1, ok.2.2.2.1, ok.2.2.2.2⟩, q φ1 H1 x1 r1 _ (rngC0 _ _ _)⟩
      · cases e2
  · cases e2

/-! ### comprehensions -/
theorem c_nil : PTs X [] (tB X.K fun _ S => .ok true S) :=
  ⟨fun pins s σ H Q I q => pts_nil.run pins s σ H Q I (by
    obtain ⟨φ, S, ρ, x, S2, rel, re, ev, q⟩ := q
    cases ev
    exact q φ H (.refl _ _ _) rel)⟩
theorem c_one (hc : PT X c (tB X.K (tru f))) : PTs X [c] (tB X.K fun ρ S => (f ρ S).bind fun x S => (R.of (truth S x) S).bind fun t S => bif t then .ok true S else .ok false S) := by
  refine ⟨fun pins s σ H Q I q => (pts_one hc).run pins s σ H Q I ?_⟩
  obtain ⟨φ, S, ρ, x, S2, rel, re, ev, q⟩ := q
  obtain ⟨w, S1, e1, ev⟩ := R.bind_eq ev
  obtain ⟨t, e2, ev⟩ := R.bind_of ev
  refine tB_step rel re (show (f ρ S).bind _ = .ok t S1 by rw [e1]; show R.of _ _ = _; rw [e2]; rfl) fun φ1 H1 x1 r1 re1 => ?_
  cases t with
  | true => cases ev; exact q φ1 H1 x1 r1
  | false => cases ev; exact q φ1 H1 x1 r1
theorem e_comp {tg iter : Expr} {ifs : List Expr} {scope : Scope} {own : List (Str × Nat)} {fi : Env → Sto → R Itb} {ft : TV → Env → Sto → R Env} {fc : Env → Sto → R Bool} {fe : Env → Sto → R TW} {sl : List Nat} (hc : X.calm = true) (hN : X.N.Nodup) (hi : PI X tg iter (tI X.K fi)) (ok : BlkOk X.N X.env.scope scope own)
    (hg : ∀ (s : Shared) (H : Hp) (C : Addr) (cl : List (Str × Addr)) (fp : List Addr), PG (X.blk s H scope (compEnvC scope cl C X.env) fp) tg (tG X.K sl ft)) (ht : ∀ (s : Shared) (H : Hp) (C : Addr) (cl : List (Str × Addr)) (fp : List Addr), PTs (X.blk s H scope (compEnvC scope cl C X.env) fp) ifs (tB X.K fc))
    (he : ∀ (s : Shared) (H : Hp) (C : Addr) (cl : List (Str × Addr)) (fp : List Addr), PE (X.blk s H scope (compEnvC scope cl C X.env) fp) e (tE X.K fe)) (hsub : ∀ i ∈ sl, i ∈ own.map (·.2)) (hs : ∀ x, foldedSetIterable iter X.env x = pure x) :
    PE X (.ListComp e [⟨tg, iter, ifs, 0⟩] scope pos) (tE X.K (compF fi ft fc fe (own.map (·.2)))) :=
  PE.weak (pe_lc hc hN hi ok hg ht he hs) fun _ _ _ q => comp_step hsub q
theorem e_comp2 {tg iter tg1 iter1 : Expr} {ifs ifs1 : List Expr} {scope : Scope} {own : List (Str × Nat)} {vs1 : List Nat} {fi fi1 : Env → Sto → R Itb} {ft ft1 : TV → Env → Sto → R Env} {fc fc1 : Env → Sto → R Bool} {fe : Env → Sto → R TW} {sl sl1 : List Nat} (hc : X.calm = true) (hN : X.N.Nodup) (hi : PI X tg iter (tI X.K fi)) (ok : BlkOk X.N X.env.scope scope own)
    (hv : ∀ i ∈ vs1, i ∈ own.map (·.2))
    (hg : ∀ (s : Shared) (H : Hp) (C : Addr) (cl : List (Str × Addr)) (fp : List Addr), PG (X.blk s H scope (compEnvC scope cl C X.env) fp) tg (tG X.K sl ft)) (ht : ∀ (s : Shared) (H : Hp) (C : Addr) (cl : List (Str × Addr)) (fp : List Addr), PTs (X.blk s H scope (compEnvC scope cl C X.env) fp) ifs (tB X.K fc))
    (hi1 : ∀ (s : Shared) (H : Hp) (C : Addr) (cl : List (Str × Addr)) (fp : List Addr), PI (X.blk s H scope (compEnvC scope cl C X.env) fp) tg1 iter1 (tI X.K fi1))
    (hg1 : ∀ (s : Shared) (H : Hp) (C : Addr) (cl : List (Str × Addr)) (fp : List Addr), PG (X.blk s H scope (compEnvC scope cl C X.env) fp) tg1 (tG X.K sl1 ft1)) (ht1 : ∀ (s : Shared) (H : Hp) (C : Addr) (cl : List (Str × Addr)) (fp : List Addr), PTs (X.blk s H scope (compEnvC scope cl C X.env) fp) ifs1 (tB X.K fc1))
    (he : ∀ (s : Shared) (H : Hp) (C : Addr) (cl : List (Str × Addr)) (fp : List Addr), PE (X.blk s H scope (compEnvC scope cl C X.env) fp) e (tE X.K fe)) (hsub : ∀ i ∈ sl, i ∈ own.map (·.2)) (hsub1 : ∀ i ∈ sl1, i ∈ vs1) (hs : ∀ x, foldedSetIterable iter X.env x = pure x) (hs1 : ∀ env x, foldedSetIterable iter1 env x = pure x) :
    PE X (.ListComp e [⟨tg, iter, ifs, 0⟩, ⟨tg1, iter1, ifs1, 0⟩] scope pos) (tE X.K (compF2 fi ft fc fi1 ft1 fc1 fe (own.map (·.2)) vs1)) :=
  PE.weak (pe_lc2 hc hN hi ok hv hg ht hi1 hg1 ht1 he hs hs1) fun _ _ _ q => comp_step2 hsub hsub1 q
end

/-! ### sets of ints: sorted(set(t)), len(set(t)) -/
theorem insU_mem (x k : Int) : ∀ l : List Int, k ∈ insU x l ↔ k = x ∨ k ∈ l
  | [] => by simp [insU]
  | y :: r => by
    unfold insU
    cases h1 : decide (x < y) with
    | true => simp
    | false =>
      cases h2 : decide (x = y) with
      | true =>
        have := of_decide_eq_true h2
        subst this
        simp
      | false =>
        simp only [cond_false, List.mem_cons, insU_mem x k r]
        constructor
        · rintro (h | h | h) <;> simp [h]
        · rintro (h | h | h) <;> simp [h]
theorem insU_rise (x : Int) : ∀ l : List Int, l.Pairwise (· < ·) → (insU x l).Pairwise (· < ·)
  | [], _ => by simp [insU]
  | y :: r, h => by
    rw [List.pairwise_cons] at h
    unfold insU
    cases h1 : decide (x < y) with
    | true =>
      have h1 := of_decide_eq_true h1
      simp only [cond_true]
      rw [List.pairwise_cons, List.pairwise_cons]
      exact ⟨fun z hz => by
        rcases List.mem_cons.mp hz with e | e
        · rw [e]; exact h1
        · exact Int.lt_trans h1 (h.1 z e), h⟩
    | false =>
      have h1 : ¬ x < y := of_decide_eq_false h1
      cases h2 : decide (x = y) with
      | true => simp only [cond_false, cond_true]; rw [List.pairwise_cons]; exact h
      | false =>
        have h2 : ¬ x = y := of_decide_eq_false h2
        simp only [cond_false]
        rw [List.pairwise_cons]
        refine ⟨fun z hz => ?_, insU_rise x r h.2⟩
        rcases (insU_mem x z r).mp hz with e | e
        · rw [e]; omega
        · exact h.1 z e
theorem dedI_mem (k : Int) : ∀ l : List Int, k ∈ dedI l ↔ k ∈ l
  | [] => by simp [dedI]
  | x :: r => by rw [show dedI (x :: r) = insU x (dedI r) from rfl, insU_mem, dedI_mem k r, List.mem_cons]
theorem dedI_rise : ∀ l : List Int, (dedI l).Pairwise (· < ·)
  | [] => .nil
  | x :: r => insU_rise x _ (dedI_rise r)
theorem rise_one : ∀ {a b : List Int}, a.Pairwise (· < ·) → b.Pairwise (· < ·) → (∀ k, k ∈ a ↔ k ∈ b) → a = b
  | [], [], _, _, _ => rfl
  | [], y :: b, _, _, h => absurd ((h y).mpr List.mem_cons_self) (by simp)
  | x :: a, [], _, _, h => absurd ((h x).mp List.mem_cons_self) (by simp)
  | x :: a, y :: b, ha, hb, h => by
    rw [List.pairwise_cons] at ha hb
    have e : x = y := by
      rcases List.mem_cons.mp ((h x).mp List.mem_cons_self) with e | e
      · exact e
      · rcases List.mem_cons.mp ((h y).mpr List.mem_cons_self) with e' | e'
        · exact e'.symm
        · have := hb.1 x e
          have := ha.1 y e'
          omega
    subst e
    rw [rise_one ha.2 hb.2 fun k => ?_]
    constructor
    · intro hk
      rcases List.mem_cons.mp ((h k).mp (List.mem_cons_of_mem _ hk)) with e | e
      · have := ha.1 k hk
        omega
      · exact e
    · intro hk
      rcases List.mem_cons.mp ((h k).mpr (List.mem_cons_of_mem _ hk)) with e | e
      · have := hb.1 k hk
        omega
      · exact e
section
variable {X : Cx} {a : Expr} {f : Env → Sto → R TW} {p p2 q pos : Pos}
def rSetT (K : PySem.W.Frag) (w : World) : List V → Hp → VK → Prop := fun vs H Q => ∃ (t : Addr) (ns : List Int), vs = [.ref t] ∧ SqT K H t (ns.map V.int) ∧ ns.length < 64 ∧ ∀ a c, H a = none → c ≤ ns.length → (∀ l : List Int, l.Pairwise (· < ·) → (∀ k, k ∈ l ↔ k ∈ ns) → l.length = c) → Q (.ref a) (upd H a (SetO w a (fun j => decide (j ∈ ns)) c))
theorem card_of {S : List Int} {l : List Int} (h1 : l.Pairwise (· < ·)) (hS : S.Nodup) (h : ∀ k, k ∈ l ↔ k ∈ S) : l.length = S.length := by
  have n1 : l.Nodup := h1.imp fun hab e => by rw [e] at hab; exact absurd hab (Int.lt_irrefl _)
  have p : l.Perm S := (List.perm_ext_iff_of_nodup n1 hS).mpr h
  exact p.length_eq
theorem cr_setT (hc : X.calm = true) : CallR X (.type "set") (rSetT X.K X.w) := by
  intro pins s σ H vs us Q I r h
  obtain ⟨t, ns, rfl, ht, h64, qq⟩ := h
  rw [Vals.ref1 r]
  obtain ⟨its, rv, pt, hz⟩ := I.tuple ht
  refine call_set_tupI ns (I.ok.hd hc) (show s.heap.IsTuple t its.toArray from pt) (RZ.intsAre_vals (by simpa using rv)) (by unfold scanBound; omega) fun h' tk c R hcn k => ?_
  refine ⟨.ref _, _, I.laid (t' := tk) (fun b u e => k b u e) (Nat.le_refl _) (setO_new R), rfl, qq _ c (I.hok.fresh (Nat.le_refl _)) hcn fun l h1 h2 => ?_⟩
  obtain ⟨o, es, ep, tb, _, _, _, _, nd, hm, _, _, hn, _⟩ := R
  rw [card_of h1 nd fun k => by rw [h2 k, ← hm k, decide_eq_true_eq], ← hn]
  simp
def tSetT (K : PySem.W.Frag) (w : World) (f : Env → Sto → R TW) : TE := tCB (rSetT K w) (tCons (tE K f) tNil)
theorem pe_setT (hc : X.calm = true) (hg2 : Gl X "set") (hm2 : X.mg "set" = none) (ha : PE X a (tE X.K f)) (hs : NoStar a = true) : PE X (.Call (.Name "set" p2) [a] [] q) (tSetT X.K X.w f) :=
  pe_callTy (cr_setT hc) hg2 hm2 PyProof.Rows.boot_set (pa_cons ha pa_nil (star_ok hs)) (he := star_ok hs) (hpl := by rfl)
theorem tupI_of {K : PySem.W.Frag} {φ : List Addr} {H H0 : Hp} {x : TW} {w : V} {ns : List Int} (h : RepW K H0 φ H x w) (e : tupI x = some ns) : ∃ t, w = .ref t ∧ SqT K H t (ns.map V.int) := by
  unfold tupI at e
  split at e
  · cases h with
    | tup h1 m =>
      have := ints_ok e m
      subst this
      exact ⟨_, rfl, h1⟩
  · cases e
theorem e_sset (hc : X.calm = true) (hg : Gl X "sorted") (hm : X.mg "sorted" = none) (hg2 : Gl X "set") (hm2 : X.mg "set" = none) (ha : PE X a (tE X.K f)) (hs : NoStar a = true) :
    PE X (.Call (.Name "sorted" p) [.Call (.Name "set" p2) [a] [] q] [] pos) (tE X.K fun ρ S => (f ρ S).bind fun x S => match tupI x with
    | some ns => if ns.length < 64 then .ok (.fr ((dedI ns).map .int)) S else .err
    | none => .err) := by
  refine PE.weak (pe_callB (cr_sortedSet hc) hg hm (bi_boot .sorted) (pa_cons (pe_setT (p2 := p2) (q := q) hc hg2 hm2 ha hs) pa_nil (by rfl)) (he := by rfl) (hpl := by rfl)) fun σ H Q z => ?_
  obtain ⟨φ, S, ρ, y, S4, rel, re, ev, z⟩ := z
  obtain ⟨x, S1, e1, ev⟩ := R.bind_eq ev
  split at ev
  · rename_i ns e2
    split at ev
    · rename_i h64
      cases ev
      refine tE_step rel re e1 fun φ1 H1 x1 r1 re1 w hw => ?_
      obtain ⟨t, rfl, ht⟩ := tupI_of hw e2
      refine ⟨t, ns, rfl, ht, h64, fun a c ha hc2 hcard => ?_⟩
      have x2 := Ext.new r1 (SetO X.w a (fun j => decide (j ∈ ns)) c) ha
      have r2 := r1.upd_new (SetO X.w a (fun j => decide (j ∈ ns)) c) ha
      refine ⟨a, _, c, rfl, upd_same, by omega, fun l b h1 h2 h3 hb => ?_⟩
      have el : l = dedI ns := rise_one h1 (dedI_rise ns) fun k => by rw [h2 k, dedI_mem, decide_eq_true_eq]
      subst el
      exact finL (H0 := H) ⟨r2, fun b n => x1.gone b (x2.gone b n)⟩ (fun φ' H' x' r' w hw => z φ' H' ((x1.trans x2).trans x') r' w hw) (by
        generalize dedI ns = l
        induction l with
        | nil => exact .nil
        | cons i l ih => exact .cons (.int i) ih) hb
    · cases ev
  · cases ev
def rLenSet (w : World) : List V → Hp → VK → Prop := fun vs H Q => ∃ (a : Addr) (S : Int → Bool) (n : Nat), vs = [V.ref a] ∧ H a = some (SetO w a S n) ∧ n < 64 ∧ Q (.int n) H
theorem cr_lenSet : CallR X (.builtin "len") (rLenSet X.w) := by
  intro pins s σ H vs us Q I r h
  obtain ⟨a, S, n, rfl, ha, h64, q⟩ := h
  have R := setO_get I ha
  rw [Vals.ref1 r]
  obtain ⟨o, es, ep, t, ho, hex, hd, _, _, _, _, hf, hn, _⟩ := R
  exact call_len_set ho hex hd hf (by rw [hn] <;> omega) ⟨.int n, H, I.tok _, ⟨_, by rw [hn]⟩, q⟩
theorem e_lset (hc : X.calm = true) (hg : Gl X "len") (hm : X.mg "len" = none) (hg2 : Gl X "set") (hm2 : X.mg "set" = none) (ha : PE X a (tE X.K f)) (hs : NoStar a = true) :
    PE X (.Call (.Name "len" p) [.Call (.Name "set" p2) [a] [] q] [] pos) (tE X.K fun ρ S => (f ρ S).bind fun x S => match tupI x with
    | some ns => if ns.length < 64 then .ok (.v (.int (dedI ns).length)) S else .err
    | none => .err) := by
  refine PE.weak (pe_callB cr_lenSet hg hm (bi_boot .len) (pa_cons (pe_setT (p2 := p2) (q := q) hc hg2 hm2 ha hs) pa_nil (by rfl)) (he := by rfl) (hpl := by rfl)) fun σ H Q z => ?_
  obtain ⟨φ, S, ρ, y, S4, rel, re, ev, z⟩ := z
  obtain ⟨x, S1, e1, ev⟩ := R.bind_eq ev
  split at ev
  · rename_i ns e2
    split at ev
    · rename_i h64
      cases ev
      refine tE_step rel re e1 fun φ1 H1 x1 r1 re1 w hw => ?_
      obtain ⟨t, rfl, ht⟩ := tupI_of hw e2
      refine ⟨t, ns, rfl, ht, h64, fun a c ha hc2 hcard => ?_⟩
      have ec := hcard (dedI ns) (dedI_rise ns) fun k => dedI_mem k ns
      subst ec
      have x2 := Ext.new r1 (SetO X.w a (fun j => decide (j ∈ ns)) (dedI ns).length) ha
      have r2 := r1.upd_new (SetO X.w a (fun j => decide (j ∈ ns)) (dedI ns).length) ha
      refine ⟨a, _, _, rfl, upd_same, by omega, ?_⟩
      exact z φ1 _ (x1.trans x2) r2 _ (.int _)
    · cases ev
  · cases ev
end

/-! ### statements -/
def SEnd (K : PySem.W.Frag) (φ : List Addr) (H : Hp) (D : Ends) : SR → Prop
  | .nx ρ' S' => After K φ H S' fun φ' H' => ∀ σ', RepE K φ' H' ρ' σ' → D.nx σ' H'
  | .ret w S' => After K φ H S' fun φ' H' => ∀ v, RepW K H φ' H' w v → D.rt v H'
  | .brk ρ' S' => After K φ H S' fun φ' H' => ∀ σ', RepE K φ' H' ρ' σ' → D.bk σ' H'
  | .cnt ρ' S' => After K φ H S' fun φ' H' => ∀ σ', RepE K φ' H' ρ' σ' → D.ct σ' H'
  | .err => False
theorem SEnd.from {K : PySem.W.Frag} {φ φ1 : List Addr} {H H1 : Hp} {D : Ends} {r : SR} (x : Ext K φ H φ1 H1) (h : SEnd K φ H D r) : SEnd K φ1 H1 D r := by
  cases r with
  | nx ρ S => exact fun φ' H' e r => h φ' H' (x.trans e) r
  | brk ρ S => exact fun φ' H' e r => h φ' H' (x.trans e) r
  | cnt ρ S => exact fun φ' H' e r => h φ' H' (x.trans e) r
  | ret w S => exact fun φ' H' e r v hv => h φ' H' (x.trans e) r v (hv.base x.gone)
  | err => exact h
theorem SEnd.nx {K : PySem.W.Frag} {φ : List Addr} {H : Hp} {D : Ends} {ρ : Env} {S : Sto} {σ : L2.St} (h : SEnd K φ H D (.nx ρ S)) (r : Rel K φ S H) (re : RepE K φ H ρ σ) : D.nx σ H := h φ H (.refl _ _ _) r σ re
def tS (K : PySem.W.Frag) (f : Env → Sto → SR) : TS := fun D σ H => ∃ φ S ρ, Rel K φ S H ∧ RepE K φ H ρ σ ∧ SEnd K φ H D (f ρ S)
theorem PS.weak {X : Cx} {st : Stmt} {t t' : TS} (h : PS X st t) (i : ∀ D σ H, t' D σ H → t D σ H) : PS X st t' := ⟨fun pins s σ H D I q => h.run pins s σ H D I (i D σ H q)⟩
theorem PSs.weak {X : Cx} {st : List Stmt} {t t' : TS} (h : PSs X st t) (i : ∀ D σ H, t' D σ H → t D σ H) : PSs X st t' := ⟨fun pins s σ H D I q => h.run pins s σ H D I (i D σ H q)⟩
theorem PS.ofOk {X : Cx} {st : Stmt} {t : TS} (h : X.Ok → PS X st t) : PS X st t := ⟨fun pins s σ H D I q => (h I.ok).run pins s σ H D I q⟩
/-- a result, then statements -/
theorem sr_ok {α : Type} {K : PySem.W.Frag} {φ : List Addr} {H : Hp} {D : Ends} {r : R α} {f : α → Sto → SR} (h : SEnd K φ H D (r.sr f)) : ∃ x S, r = .ok x S ∧ SEnd K φ H D (f x S) := by
  cases r with
  | ok x S => exact ⟨x, S, rfl, h⟩
  | err => exact h.elim
section
variable {X : Cx} {e : Expr} {f g : Env → Sto → R TW} {u v : Env → Sto → SR} {st : Stmt} {rest : List Stmt} {pos : Pos}
theorem ss_nil : PSs X [] (tS X.K fun ρ S => .nx ρ S) := PSs.weak pss_nil fun D σ H ⟨φ, S, ρ, r, re, h⟩ => h.nx r re
theorem ss_cons (h1 : PS X st (tS X.K u)) (h2 : PSs X rest (tS X.K v)) : PSs X (st :: rest) (tS X.K fun ρ S => (u ρ S).then v) := by
  refine PSs.weak (pss_cons h1 h2) fun D σ H ⟨φ, S, ρ, r, re, h⟩ => ⟨φ, S, ρ, r, re, ?_⟩
  have h : SEnd X.K φ H D ((u ρ S).then v) := h
  cases e : u ρ S with
  | nx ρ' S' =>
    rw [e] at h
    exact fun φ' H' x r' σ' re' => ⟨φ', S', ρ', r', re', h.from x⟩
  | brk ρ' S' => rw [e] at h; exact h
  | cnt ρ' S' => rw [e] at h; exact h
  | ret w S' => rw [e] at h; exact h
  | err => rw [e] at h; exact h
theorem s_never : PS X st (tS X.K fun _ _ => .err) := PS.weak ps_never fun D σ H ⟨φ, S, ρ, r, re, h⟩ => h
theorem s_pass : PS X (.Pass pos) (tS X.K fun ρ S => .nx ρ S) := PS.weak ps_pass fun D σ H ⟨φ, S, ρ, r, re, h⟩ => h.nx r re
theorem s_brk : PS X (.Break pos) (tS X.K fun ρ S => .brk ρ S) := PS.weak ps_break fun D σ H ⟨φ, S, ρ, r, re, h⟩ => h φ H (.refl _ _ _) r σ re
theorem s_cnt : PS X (.Continue pos) (tS X.K fun ρ S => .cnt ρ S) := PS.weak ps_continue fun D σ H ⟨φ, S, ρ, r, re, h⟩ => h φ H (.refl _ _ _) r σ re
theorem s_ex (he : PE X e (tE X.K f)) (hs : swapsWith e none pos.line X.env = pure false) : PS X (.Expr e pos) (tS X.K fun ρ S => (f ρ S).sr fun _ S => .nx ρ S) := by
  refine PS.weak (ps_expr he hs) fun D σ H ⟨φ, S, ρ, r, re, h⟩ => ?_
  obtain ⟨x, S1, e1, h⟩ := sr_ok h
  exact tE_step r re e1 fun φ1 H1 x1 r1 re1 w hw => (h.from x1).nx r1 re1
theorem s_ret (he : PE X e (tE X.K f)) : PS X (.Return (some e) pos) (tS X.K fun ρ S => (f ρ S).sr fun x S => .ret x S) := by
  refine PS.weak (ps_ret he) fun D σ H ⟨φ, S, ρ, r, re, h⟩ => ?_
  obtain ⟨x, S1, e1, h⟩ := sr_ok h
  exact tE_step r re e1 fun φ1 H1 x1 r1 re1 w hw => h φ1 H1 x1 r1 w hw
theorem s_retN : PS X (.Return none pos) (tS X.K fun ρ S => .ret (.v .non) S) := by
  refine PS.weak ps_retN fun D σ H ⟨φ, S, ρ, r, re, h⟩ => h φ H (.refl _ _ _) r _ .non
theorem s_if {c : Expr} {a b : List Stmt} (hc : PT X c (tB X.K (tru f))) (ha : PSs X a (tS X.K u)) (hb : PSs X b (tS X.K v)) :
    PS X (.If c a b pos) (tS X.K fun ρ S => (f ρ S).sr fun x S => (R.of (truth S x) S).sr fun t S => bif t then u ρ S else v ρ S) := by
  refine PS.weak (ps_if hc ha hb) fun D σ H ⟨φ, S, ρ, r, re, h⟩ => ?_
  obtain ⟨x, S1, e1, h⟩ := sr_ok h
  obtain ⟨t, S2, e2, h⟩ := sr_ok h
  refine tB_step r re (show (f ρ S).bind _ = .ok t S2 by rw [e1]; exact e2) fun φ1 H1 x1 r1 re1 => ?_
  cases t with
  | true => exact iteT ⟨φ1, S2, ρ, r1, re1, h.from x1⟩
  | false => exact iteF ⟨φ1, S2, ρ, r1, re1, h.from x1⟩
/-- target = value -/
abbrev asgF (f : Env → Sto → R TW) (k : TV → Env → Sto → R Env) : Env → Sto → SR := fun ρ S => (f ρ S).sr fun x S => (x.st S).sr fun x S => (k x ρ S).sr fun ρ S => .nx ρ S
theorem asg_step {K : PySem.W.Frag} {sl : List Nat} {k : TV → Env → Sto → R Env} {D : Ends} {σ : L2.St} {H : Hp} (h : tS K (asgF f k) D σ H) : tAsg (tE K f) (tG K sl k) D σ H := by
  obtain ⟨φ, S, ρ, r, re, h⟩ := h
  obtain ⟨x, S1, e1, h⟩ := sr_ok h
  obtain ⟨y, S2, e2, h⟩ := sr_ok h
  obtain ⟨ρ', S3, e3, h⟩ := sr_ok h
  refine tE_step r re e1 fun φ1 H1 x1 r1 re1 w hw => ?_
  obtain ⟨φ2, x2, r2, h2, _⟩ := stored x1 r1 hw e2
  exact ⟨φ2, S2, ρ, y, ρ', S3, r2, re.mono x2, h2, e3, fun φ3 H3 x3 r3 σ3 re3 _ _ => (h.from (x2.trans x3)).nx r3 re3⟩
theorem s_asg {tg : Expr} {sl : List Nat} {k : TV → Env → Sto → R Env} (he : PE X e (tE X.K f)) (hg : PG X tg (tG X.K sl k)) (hs : swapsWithSole [tg] e pos.line X.env = pure false) (hw : swappedStores [tg] e X.env = pure none) (hst : NoStar tg = true) :
    PS X (.Assign [tg] e pos) (tS X.K (asgF f k)) :=
  PS.weak (ps_asg he hg hs hw (by rw [assign_cons hst]; rfl)) fun _ _ _ q => asg_step q
/-- name = value, for a name that no pair is made for -/
theorem asg_name {K : PySem.W.Frag} {i : Nat} {D : Ends} {σ : L2.St} {H : Hp} (h : tS K (asgF f fun x ρ S => .ok (ρ.set i (some x)) S) D σ H) : tE K f σ H fun x H1 => gName i x σ H1 D.nx := by
  obtain ⟨φ, S, ρ, r, re, h⟩ := h
  obtain ⟨x, S1, e1, h⟩ := sr_ok h
  obtain ⟨y, S2, e2, h⟩ := sr_ok h
  refine tE_step r re e1 fun φ1 H1 x1 r1 re1 w hw => ?_
  obtain ⟨φ2, x2, r2, h2, _⟩ := stored x1 r1 hw e2
  exact (SEnd.from x2 h).nx r2 ((re.mono x2).set i h2)
theorem s_comp {tg iter : Expr} {ifs : List Expr} {scope : Scope} {own : List (Str × Nat)} {fi : Env → Sto → R Itb} {ft : TV → Env → Sto → R Env} {fc : Env → Sto → R Bool} {fe : Env → Sto → R TW} {sl : List Nat} {i : Nat} {y : Str} {py spos : Pos} (hc : X.calm = true) (hN : X.N.Nodup) (hy : X.N[i]? = some y) (hyl : X.env.scope.names.lookup y = some .local)
    (hsw : swapsWith (.ListComp e [⟨tg, iter, ifs, 0⟩] scope pos) (some (.Name y py)) spos.line X.env = pure true) (hi : PI X tg iter (tI X.K fi)) (ok : BlkOk X.N X.env.scope scope own)
    (hg : ∀ (s : Shared) (H : Hp) (C : Addr) (cl : List (Str × Addr)) (fp : List Addr), PG (X.blk s H scope (compEnvC scope cl C X.env) fp) tg (tG X.K sl ft)) (ht : ∀ (s : Shared) (H : Hp) (C : Addr) (cl : List (Str × Addr)) (fp : List Addr), PTs (X.blk s H scope (compEnvC scope cl C X.env) fp) ifs (tB X.K fc))
    (he : ∀ (s : Shared) (H : Hp) (C : Addr) (cl : List (Str × Addr)) (fp : List Addr), PE (X.blk s H scope (compEnvC scope cl C X.env) fp) e (tE X.K fe)) (hsub : ∀ i ∈ sl, i ∈ own.map (·.2)) (hs : ∀ x, foldedSetIterable iter X.env x = pure x) :
    PS X (.Assign [.Name y py] (.ListComp e [⟨tg, iter, ifs, 0⟩] scope pos) spos) (tS X.K (asgF (compF fi ft fc fe (own.map (·.2))) fun x ρ S => .ok (ρ.set i (some x)) S)) :=
  PS.weak (ps_setLc hc hN hy hyl hsw hi ok hg ht he hs) fun _ _ _ q => comp_step hsub (asg_name q)
theorem s_comp2 {tg iter tg1 iter1 : Expr} {ifs ifs1 : List Expr} {scope : Scope} {own : List (Str × Nat)} {vs1 : List Nat} {fi fi1 : Env → Sto → R Itb} {ft ft1 : TV → Env → Sto → R Env} {fc fc1 : Env → Sto → R Bool} {fe : Env → Sto → R TW} {sl sl1 : List Nat} {i : Nat} {y : Str} {py spos : Pos} (hc : X.calm = true) (hN : X.N.Nodup) (hy : X.N[i]? = some y) (hyl : X.env.scope.names.lookup y = some .local)
    (hsw : swapsWith (.ListComp e [⟨tg, iter, ifs, 0⟩, ⟨tg1, iter1, ifs1, 0⟩] scope pos) (some (.Name y py)) spos.line X.env = pure true) (hi : PI X tg iter (tI X.K fi)) (ok : BlkOk X.N X.env.scope scope own)
    (hv : ∀ i ∈ vs1, i ∈ own.map (·.2))
    (hg : ∀ (s : Shared) (H : Hp) (C : Addr) (cl : List (Str × Addr)) (fp : List Addr), PG (X.blk s H scope (compEnvC scope cl C X.env) fp) tg (tG X.K sl ft)) (ht : ∀ (s : Shared) (H : Hp) (C : Addr) (cl : List (Str × Addr)) (fp : List Addr), PTs (X.blk s H scope (compEnvC scope cl C X.env) fp) ifs (tB X.K fc))
    (hi1 : ∀ (s : Shared) (H : Hp) (C : Addr) (cl : List (Str × Addr)) (fp : List Addr), PI (X.blk s H scope (compEnvC scope cl C X.env) fp) tg1 iter1 (tI X.K fi1))
    (hg1 : ∀ (s : Shared) (H : Hp) (C : Addr) (cl : List (Str × Addr)) (fp : List Addr), PG (X.blk s H scope (compEnvC scope cl C X.env) fp) tg1 (tG X.K sl1 ft1)) (ht1 : ∀ (s : Shared) (H : Hp) (C : Addr) (cl : List (Str × Addr)) (fp : List Addr), PTs (X.blk s H scope (compEnvC scope cl C X.env) fp) ifs1 (tB X.K fc1))
    (he : ∀ (s : Shared) (H : Hp) (C : Addr) (cl : List (Str × Addr)) (fp : List Addr), PE (X.blk s H scope (compEnvC scope cl C X.env) fp) e (tE X.K fe)) (hsub : ∀ i ∈ sl, i ∈ own.map (·.2)) (hsub1 : ∀ i ∈ sl1, i ∈ vs1) (hs : ∀ x, foldedSetIterable iter X.env x = pure x) (hs1 : ∀ env x, foldedSetIterable iter1 env x = pure x) :
    PS X (.Assign [.Name y py] (.ListComp e [⟨tg, iter, ifs, 0⟩, ⟨tg1, iter1, ifs1, 0⟩] scope pos) spos) (tS X.K (asgF (compF2 fi ft fc fi1 ft1 fc1 fe (own.map (·.2)) vs1) fun x ρ S => .ok (ρ.set i (some x)) S)) :=
  PS.weak (ps_setLc2 hc hN hy hyl hsw hi ok hv hg ht hi1 hg1 ht1 he hs hs1) fun _ _ _ q => comp_step2 hsub hsub1 (asg_name q)
/-- a, b = x, y of local names -/
theorem s_par2 {C : Call} {G : List TV} {i j : Nat} {x y : Str} {a b : Expr} {k : Env → Sto → R (List TV)} {px py pt : Pos} {kt k2 pt2} (hc : X.calm = true) (hN : X.N.Nodup) (hi : X.N[i]? = some x) (hj : X.N[j]? = some y) (hij : i ≠ j)
    (hx : X.env.scope.names.lookup x = some .local) (hy : X.env.scope.names.lookup y = some .local) (ha : PA X [a, b] (tA X.K k))
    (hw : swappedStores [.Tuple [.Name x px, .Name y py] kt pt] (.Tuple [a, b] k2 pt2) X.env = pure (some [x, y]))
    (hs : swapsWithSole [.Tuple [.Name x px, .Name y py] kt pt] (.Tuple [a, b] k2 pt2) pos.line X.env = pure false) :
    PS X (.Assign [.Tuple [.Name x px, .Name y py] kt pt] (.Tuple [a, b] k2 pt2) pos) (tS X.K (asgF (fun ρ S => (k ρ S).bind fun xs S => .ok (.v (.tup xs)) S) (asT C G (.tup (.cons (.var i) (.cons (.var j) .nil)))))) := by
  refine PS.weak (ps_par hc hN hi hj hij hx hy ha hw hs) fun D σ H ⟨φ, S, ρ, r, re, h⟩ => ?_
  obtain ⟨z, S1, e1, h⟩ := sr_ok h
  obtain ⟨xs, S2, e2, e1⟩ := R.bind_eq e1
  cases e1
  obtain ⟨z, S3, e3, h⟩ := sr_ok h
  cases e3
  obtain ⟨ρ', S4, e4, h⟩ := sr_ok h
  refine ⟨φ, S, ρ, xs, _, r, re, e2, fun φ1 H1 x1 r1 ws hws => ?_⟩
  simp only [asT] at e4
  cases hws with
  | nil => cases e4
  | cons h1 h2 =>
    cases h2 with
    | nil => cases e4
    | cons h2 h3 =>
      cases h3 with
      | cons _ _ => cases e4
      | nil =>
        cases e4
        exact ⟨_, _, rfl, (h.from x1).nx r1 (((re.mono x1).set i h1).set j h2)⟩
theorem s_par3 {C : Call} {G : List TV} {i j l : Nat} {x y z : Str} {a b c : Expr} {k : Env → Sto → R (List TV)} {px py pz pt : Pos} {kt k2 pt2} (hc : X.calm = true) (hN : X.N.Nodup) (hi : X.N[i]? = some x) (hj : X.N[j]? = some y) (hl : X.N[l]? = some z) (hij : i ≠ j) (hil : i ≠ l) (hjl : j ≠ l)
    (hx : X.env.scope.names.lookup x = some .local) (hy : X.env.scope.names.lookup y = some .local) (hz : X.env.scope.names.lookup z = some .local) (ha : PA X [a, b, c] (tA X.K k))
    (hw : swappedStores [.Tuple [.Name x px, .Name y py, .Name z pz] kt pt] (.Tuple [a, b, c] k2 pt2) X.env = pure (some [x, y, z]))
    (hs : swapsWithSole [.Tuple [.Name x px, .Name y py, .Name z pz] kt pt] (.Tuple [a, b, c] k2 pt2) pos.line X.env = pure false) :
    PS X (.Assign [.Tuple [.Name x px, .Name y py, .Name z pz] kt pt] (.Tuple [a, b, c] k2 pt2) pos) (tS X.K (asgF (fun ρ S => (k ρ S).bind fun xs S => .ok (.v (.tup xs)) S) (asT C G (.tup (.cons (.var i) (.cons (.var j) (.cons (.var l) .nil))))))) := by
  refine PS.weak (ps_par3 hc hN hi hj hl hij hil hjl hx hy hz ha hw hs) fun D σ H ⟨φ, S, ρ, r, re, h⟩ => ?_
  obtain ⟨z, S1, e1, h⟩ := sr_ok h
  obtain ⟨xs, S2, e2, e1⟩ := R.bind_eq e1
  cases e1
  obtain ⟨z, S3, e3, h⟩ := sr_ok h
  cases e3
  obtain ⟨ρ', S4, e4, h⟩ := sr_ok h
  refine ⟨φ, S, ρ, xs, _, r, re, e2, fun φ1 H1 x1 r1 ws hws => ?_⟩
  simp only [asT] at e4
  cases hws with
  | nil => cases e4
  | cons h1 h2 =>
    cases h2 with
    | nil => cases e4
    | cons h2 h3 =>
      cases h3 with
      | nil => cases e4
      | cons h3 h4 =>
        cases h4 with
        | cons _ _ => cases e4
        | nil =>
          cases e4
          exact ⟨_, _, _, rfl, (h.from x1).nx r1 ((((re.mono x1).set i h1).set j h2).set l h3)⟩
/-- name += .., name -= .. -/
def augF (op : BOp) (i : Nat) (f : Env → Sto → R TW) : Env → Sto → SR := fun ρ S => match ρ[i]? with
    | some (some x) => (f ρ S).sr fun y S => match x, y with
      | .int a, .v (.int b) => match op with
        | .add => .nx (ρ.set i (some (.int (a + b)))) S
        | .sub => .nx (ρ.set i (some (.int (a - b)))) S
        | _ => .err
      | _, _ => .err
    | _ => .err
theorem aug_step {K : PySem.W.Frag} {op : BOp} {F : Int → Int → Int} {i : Nat} {D : Ends} {σ : L2.St} {H : Hp} (hF : ∀ (a b : Int) (ρ : Env) (S : Sto), (match op with
        | .add => SR.nx (ρ.set i (some (.int (a + b)))) S
        | .sub => .nx (ρ.set i (some (.int (a - b)))) S
        | _ => .err) = .nx (ρ.set i (some (.int (F a b)))) S) (h : tS K (augF op i f) D σ H) : tAug i (tE K f) (ipI F) D σ H := by
  obtain ⟨φ, S, ρ, r, re, h⟩ := h
  unfold augF at h
  split at h
  · rename_i x hx
    obtain ⟨w, h1, h2⟩ := re.at_ i x hx
    obtain ⟨y, S1, e1, h⟩ := sr_ok h
    refine ⟨w, h1, tE_step r re e1 fun φ1 H1 x1 r1 re1 w1 hw1 => ?_⟩
    split at h
    · cases h2; cases hw1
      rw [hF] at h
      exact ⟨_, _, rfl, rfl, (h.from x1).nx r1 (re1.set i (.int _))⟩
    · exact h.elim
  · exact h.elim
theorem s_add {i : Nat} {x : Str} {pos' : Pos} (hN : X.N.Nodup) (hi : X.N[i]? = some x) (hx : Loc X.env.scope x) (he : PE X e (tE X.K f)) (hf : X.fn x = true ∨ X.env.scope.names.lookup x = some .local) : PS X (.AugAssign (.Name x pos') .Add e pos) (tS X.K (augF .add i f)) :=
  PS.weak (ps_aug hN hi hx he ip_add hf) fun _ _ _ q => aug_step (fun _ _ _ _ => rfl) q
theorem s_sub {i : Nat} {x : Str} {pos' : Pos} (hN : X.N.Nodup) (hi : X.N[i]? = some x) (hx : Loc X.env.scope x) (he : PE X e (tE X.K f)) (hf : X.fn x = true ∨ X.env.scope.names.lookup x = some .local) : PS X (.AugAssign (.Name x pos') .Sub e pos) (tS X.K (augF .sub i f)) :=
  PS.weak (ps_aug hN hi hx he ip_sub hf) fun _ _ _ q => aug_step (fun _ _ _ _ => rfl) q
theorem s_for {tg iter : Expr} {body : List Stmt} {fi : Env → Sto → R Itb} {ft : TV → Env → Sto → R Env} {sl : List Nat} (hp : PassesOwn (model X.prog X.w) X.A X.env X.xe) (hc : X.calm = true) (hi : PI X tg iter (tI X.K fi)) (hg : PG X tg (tG X.K sl ft)) (hb : PSs X body (tS X.K u))
    (hs : ∀ x, foldedSetIterable iter X.env x = pure x) : PS X (.For tg iter body [] pos) (tS X.K fun ρ S => (fi ρ S).sr fun j S => forGo ft u (j.many S + 1) j ρ S) := by
  refine PS.weak (ps_for hp hc hi hg hb hs) fun D σ H ⟨φ, S, ρ, r, re, h⟩ => ?_
  obtain ⟨b, S1, e1, h⟩ := sr_ok h
  refine ⟨φ, S, ρ, b, S1, r, re, e1, fun φ1 H1 x1 r1 J hJ => ?_⟩
  refine ⟨fun i m σ H' => ∃ φ' S' ρ' b', Rel X.K φ' S' H' ∧ RepE X.K φ' H' ρ' σ ∧ ItSt X.K H H1 φ' H' b' J i ∧ SEnd X.K φ' H' D (forGo ft u m b' ρ' S'),
    ⟨b.many S1 + 1, φ1, S1, ρ, b, r1, re.mono x1, hJ, h.from x1⟩, fun i m σ' H' w => ?_⟩
  obtain ⟨φ', S', ρ', b', r', re', it, go⟩ := w
  cases m with
  | zero => exact go.elim
  | succ k =>
    have st := it_step it r'
    unfold forGo at go
    split at go
    · exact go.elim
    · rename_i en
      rw [en] at st
      exact .inl ⟨st, go.nx r' re'⟩
    · rename_i x b2 en
      rw [en] at st
      obtain ⟨jg, jy⟩ := st
      split at go
      · exact go.elim
      · rename_i ρ2 S2 e2
        refine .inr ⟨jg, fun σ'' H'' => ∃ m', m' < k + 1 ∧ ∃ φ' S' ρ' b', Rel X.K φ' S' H'' ∧ RepE X.K φ' H'' ρ' σ'' ∧ ItSt X.K H H1 φ' H'' b' J (i + 1) ∧ SEnd X.K φ' H'' D (forGo ft u m' b' ρ' S'), fun _ _ z => z, fun w H2 y => ?_⟩
        obtain ⟨x3, r3, rv, it3⟩ := jy w H2 y
        refine ⟨φ', S', ρ', x, ρ2, S2, r3, re'.mono x3, rv, e2, fun φ4 H4 x4 r4 σ4 re4 _ _ => ⟨φ4, S2, ρ2, r4, re4, ?_⟩⟩
        cases eb : u ρ2 S2 with
        | nx ρ5 S5 =>
          rw [eb] at go
          exact fun φ5 H5 x5 r5 σ5 re5 => ⟨k, Nat.lt_succ_self k, φ5, S5, ρ5, b2, r5, re5, it3.mono (x4.trans x5), go.from ((x3.trans x4).trans x5)⟩
        | cnt ρ5 S5 =>
          rw [eb] at go
          exact fun φ5 H5 x5 r5 σ5 re5 => ⟨k, Nat.lt_succ_self k, φ5, S5, ρ5, b2, r5, re5, it3.mono (x4.trans x5), go.from ((x3.trans x4).trans x5)⟩
        | brk ρ5 S5 =>
          rw [eb] at go
          exact fun φ5 H5 x5 r5 σ5 re5 => (go.from ((x3.trans x4).trans x5)).nx r5 re5
        | ret w S5 =>
          rw [eb] at go
          exact SEnd.from (r := .ret w S5) (x3.trans x4) go
        | err => rw [eb] at go; exact go.elim
theorem s_while {c : Expr} {body : List Stmt} (n : Nat) (hp : PassesOwn (model X.prog X.w) X.A X.env X.xe) (hc : PT X c (tB X.K (tru f))) (hb : PSs X body (tS X.K u)) :
    PS X (.While c body [] pos) (tS X.K fun ρ S => whileGo (tru f) u n ρ S) := by
  refine PS.weak (ps_while hp hc hb) fun D σ H ⟨φ, S, ρ, r, re, h⟩ => ?_
  refine ⟨fun m σ' H' => ∃ φ' S' ρ', Rel X.K φ' S' H' ∧ RepE X.K φ' H' ρ' σ' ∧ SEnd X.K φ' H' D (whileGo (tru f) u m ρ' S'), ⟨n, φ, S, ρ, r, re, h⟩, fun m σ' H' w => ?_⟩
  obtain ⟨φ', S', ρ', r', re', go⟩ := w
  cases m with
  | zero => exact go.elim
  | succ k =>
    unfold whileGo at go
    split at go
    · exact go.elim
    · rename_i S2 e2
      refine tB_step r' re' e2 fun φ1 H1 x1 r1 re1 => ?_
      exact iteF ((go.from x1).nx r1 re1)
    · rename_i S2 e2
      refine tB_step r' re' e2 fun φ1 H1 x1 r1 re1 => ?_
      refine iteT ⟨fun σ'' H'' => ∃ m', m' < k + 1 ∧ ∃ φ' S' ρ', Rel X.K φ' S' H'' ∧ RepE X.K φ' H'' ρ' σ'' ∧ SEnd X.K φ' H'' D (whileGo (tru f) u m' ρ' S'), fun _ _ z => z, φ1, S2, ρ', r1, re1, ?_⟩
      cases eb : u ρ' S2 with
      | nx ρ5 S5 =>
        rw [eb] at go
        exact fun φ5 H5 x5 r5 σ5 re5 => ⟨k, Nat.lt_succ_self k, φ5, S5, ρ5, r5, re5, go.from (x1.trans x5)⟩
      | cnt ρ5 S5 =>
        rw [eb] at go
        exact fun φ5 H5 x5 r5 σ5 re5 => ⟨k, Nat.lt_succ_self k, φ5, S5, ρ5, r5, re5, go.from (x1.trans x5)⟩
      | brk ρ5 S5 =>
        rw [eb] at go
        exact fun φ5 H5 x5 r5 σ5 re5 => (go.from (x1.trans x5)).nx r5 re5
      | ret w S5 =>
        rw [eb] at go
        exact SEnd.from (r := .ret w S5) x1 go
      | err => rw [eb] at go; exact go.elim
end
/-! ### the swaps of a store, by the scope alone -/
def scE (sc : Scope) : PySem.Env := { (default : PySem.Env) with scope := sc }
theorem sw_scope (ts : List Expr) (v : Expr) (env : PySem.Env) : swappedStores ts v env = swappedStores ts v (scE env.scope) := rfl
theorem sw2_scope (e : Expr) (t : Option Expr) (l : Nat) (env : PySem.Env) : swapsWith e t l env = swapsWith e t l (scE env.scope) := rfl
def pureO (t : Sem (Option (List Str))) (r : Option (List Str)) : Bool := match t with
  | .pure x => decide (x = r)
  | _ => false
theorem pureO_eq {t : Sem (Option (List Str))} {r : Option (List Str)} (h : pureO t r = true) : t = pure r := by
  cases t with
  | pure x => rw [show x = r from of_decide_eq_true h]; rfl
  | _ => cases h
def pureB (t : Sem Bool) (r : Bool) : Bool := match t with
  | .pure x => x == r
  | _ => false
theorem pureB_eq {t : Sem Bool} {r : Bool} (h : pureB t r = true) : t = pure r := by
  cases t with
  | pure x => rw [show x = r from eq_of_beq h]; rfl
  | _ => cases h
def NotSet (e : Expr) : Bool := match e with
  | .Set _ _ _ => false
  | _ => true
theorem folded_ok {e : Expr} (h : NotSet e = true) (env : PySem.Env) (x : Value) : foldedSetIterable e env x = pure x := by
  cases e <;> first | rfl | cases h
end Ev

/-! Ev, part L: the look at a text, and what it gives. -/
namespace Ev
open PySem PySem.Spec PyProof.Rows L2

/-- the defs with their parameters' count; the constants -/
structure PC where
  fs : List (Str × Nat)
  gs : List Str
structure SC where
  N : List Str
  sc : Scope
  blk : Option Scope
def SC.fnb (c : SC) (x : Str) : Bool := match c.blk with
  | none => true
  | some s => s.names.lookup x == some .cell
def SC.inn (c : SC) (s : Scope) : SC := ⟨c.N, relS s c.sc, some s⟩
def SC.gl (c : SC) (x : Str) : Bool := decide (c.sc.names.lookup x = some .globalImplicit)
def SC.loc (c : SC) (x : Str) : Bool := decide (c.sc.names.lookup x = some .local) || decide (c.sc.names.lookup x = some .cell)
def SC.vis (c : SC) (x : Str) : Bool := c.loc x || decide (c.sc.names.lookup x = some .free)
def SC.st (c : SC) (x : Str) : Bool := c.loc x && (c.fnb x || decide (c.sc.names.lookup x = some .local))
def SC.own (c : SC) (o : List Nat) : List (Str × Nat) := o.map fun i => (c.N.getD i "", i)
def bltNames : List Str := ["len", "abs", "max", "min", "int", "divmod", "list", "tuple", "sorted", "sum", "all", "any", "set", "bool", "str", "isinstance", "range", "zip", "enumerate"]
def dbg (x : Str) : Bool := x == ("__debug__" : Str)
def kv : TV → Const → Bool
  | .non, .none => true
  | .bl a, .bool b => a == b
  | .int i, .int j => decide (i = j)
  | .str s, .str t => decide (s = t)
  | _, _ => false
def biOk : BI → Bool
  | .set => false
  | _ => true
def tyOk (c : SC) : List Ty → List Expr → Bool
  | [], [] => true
  | t :: ts, .Name n _ :: es => decide (n = ((tyS t : String) : Str)) && c.gl n && tyOk c ts es
  | _, _ => false
mutual
def tgV : Tg → List Nat
  | .var i => [i]
  | .tup ts => tgVs ts
  | .sub _ _ => []
def tgVs : Tgs → List Nat
  | .nil => []
  | .cons t r => tgV t ++ tgVs r
end
def Tgs.len : Tgs → Nat
  | .nil => 0
  | .cons _ r => r.len + 1
def Es.len : Es → Nat
  | .nil => 0
  | .cons _ r => r.len + 1
section
variable (p : PC)
mutual
def chkE : E → SC → Expr → Bool
  | .var i, c, x => match x with
    | .Name n _ => decide (c.N[i]? = some n) && c.vis n && !dbg n && !(n == ("__classdict__" : Str))
    | _ => false
  | .c v, _, x => match x with
    | .Constant k _ _ => kv v k
    | _ => false
  | .glob i, c, x => match x with
    | .Name n _ => decide (p.gs[i]? = some n) && c.gl n && !dbg n
    | _ => false
  | .bin op a b, c, x => match x with
    | .BinOp l o r _ => decide (opOf op = o) && chkE a c l && chkE b c r
    | _ => false
  | .neg a, c, x => match x with
    | .UnaryOp .USub y _ => chkE a c y
    | _ => false
  | .not a, c, x => match x with
    | .UnaryOp .Not y _ => chkE a c y
    | _ => false
  | .and a b, c, x => match x with
    | .BoolOp .And [y, z] _ => chkE a c y && chkE b c z
    | .BoolOp .And (y :: z :: w :: r) pos => chkE a c y && chkE b c (.BoolOp .And (z :: w :: r) pos)
    | _ => false
  | .or a b, c, x => match x with
    | .BoolOp .Or [y, z] _ => chkE a c y && chkE b c z
    | .BoolOp .Or (y :: z :: w :: r) pos => chkE a c y && chkE b c (.BoolOp .Or (z :: w :: r) pos)
    | _ => false
  | .cmp op a b, c, x => match x with
    | .Compare l [o] [r] _ => decide (copOf op = o) && chkE a c l && chkE b c r && !behindInMarks (copOf op) r
    | _ => false
  | .chain o1 o2 a b d, c, x => match x with
    | .Compare l [p1, p2] [r, s] _ => decide (copOf o1 = p1) && decide (copOf o2 = p2) && chkE a c l && chkE b c r && chkE d c s && !lastMarks [copOf o1, copOf o2] [r, s]
    | _ => false
  | .ite t a b, c, x => match x with
    | .IfExp y l r _ => chkE t c y && chkE a c l && chkE b c r
    | _ => false
  | .call f as, c, x => match x with
    | .Call (.Name n _) es [] _ => decide (p.fs[f]? = some (n, as.len)) && c.gl n && !dbg n && es.all NoStar && chkA as c es
    | _ => false
  | .bi b as, c, x => match x with
    | .Call (.Name n _) (e :: es) [] _ => decide (n = biName b) && biOk b && c.gl n && (e :: es).all NoStar && chkA as c (e :: es)
    | _ => false
  | .isI ts a, c, x => match x with
    | .Call (.Name n _) [y, z] [] _ => decide (n = ("isinstance" : Str)) && c.gl n && NoStar y && chkE a c y && (match z with
      | .Name m _ => (match ts with
        | [T] => decide (m = ((tyS T : String) : Str)) && c.gl m
        | _ => false)
      | .Tuple es _ _ => tyOk c ts es && decide (ts.length ≤ 1000)
      | _ => false)
    | _ => false
  | .meth m o as, c, x => match x with
    | .Call (.Attribute y n ap) es [] pos => chkE o c y && chkA as c es && es.all NoStar && decide (es.length < 20) && NoSuper y && (ap.endLine == pos.line) && (match m with
      | .append => decide (n = ("append" : Str)) && !es.isEmpty
      | .popAt => decide (n = ("pop" : Str)) && !es.isEmpty
      | .pop => decide (n = ("pop" : Str)) && es.isEmpty
      | _ => false)
    | _ => false
  | .tup es, c, x => match x with
    | .Tuple ys _ _ => chkA es c ys && ys.all NoStar && decide (es.len ≤ 1000)
    | _ => false
  | .lst es, c, x => match x with
    | .List ys _ => chkA es c ys && ys.all NoStar && decide (es.len ≤ 1000)
    | _ => false
  | .ix a b, c, x => match x with
    | .Subscript y z _ => chkE a c y && chkE b c z && NoSlice z
    | _ => false
  | .sl a lo hi, c, x => match x with
    | .Subscript y (.Slice l h none _) _ => chkE a c y && chkO lo c l && chkO hi c h
    | _ => false
  | .rev a, c, x => match x with
    | .Subscript y (.Slice none none (some (.UnaryOp .USub (.Constant (.int 1) _ _) _)) _) _ => chkE a c y
    | _ => false
  | .rng f as, c, x => match x with
    | .Call (.Name n _) [.Call (.Name m _) es [] _] [] _ => decide (n = biName f) && decide (m = ("range" : Str)) && c.gl n && c.gl m && es.all NoStar && decide (es.length = 1 ∨ es.length = 2) && chkA as c es
    | _ => false
  | .sset a, c, x => match x with
    | .Call (.Name n _) [.Call (.Name m _) [y] [] _] [] _ => decide (n = ("sorted" : Str)) && decide (m = ("set" : Str)) && c.gl n && c.gl m && NoStar y && chkE a c y
    | _ => false
  | .lset a, c, x => match x with
    | .Call (.Name n _) [.Call (.Name m _) [y] [] _] [] _ => decide (n = ("len" : Str)) && decide (m = ("set" : Str)) && c.gl n && c.gl m && NoStar y && chkE a c y
    | _ => false
  | .comp own tg it cs e, c, x => match x with
    | .ListComp y [⟨t, i, ifs, 0⟩] s _ => chkI it c t i && blkC c.N c.sc s (c.own own) && NotSet i && chkT tg (c.inn s) t && chkC cs (c.inn s) ifs && chkE e (c.inn s) y && (tgV tg).all (fun i => decide (i ∈ own))
    | _ => false
  | .comp2 own own2 tg it cs tg2 it2 cs2 e, c, x => match x with
    | .ListComp y [⟨t, i, ifs, 0⟩, ⟨t2, i2, ifs2, 0⟩] s _ => chkI it c t i && blkC c.N c.sc s (c.own own) && NotSet i && chkT tg (c.inn s) t && chkC cs (c.inn s) ifs && chkI it2 (c.inn s) t2 i2 && NotSet i2 && chkT tg2 (c.inn s) t2 && chkC cs2 (c.inn s) ifs2 && chkE e (c.inn s) y &&
      (tgV tg).all (fun i => decide (i ∈ own)) && (tgV tg2).all (fun i => decide (i ∈ own2)) && own2.all (fun i => decide (i ∈ own))
    | _ => false
  | .never, _, _ => false
def chkA : Es → SC → List Expr → Bool
  | .nil, _, es => match es with
    | [] => true
    | _ => false
  | .cons a r, c, es => match es with
    | e :: es => NoStar e && chkE a c e && chkA r c es
    | _ => false
def chkC : Es → SC → List Expr → Bool
  | .nil, _, es => match es with
    | [] => true
    | _ => false
  | .cons a r, c, es => match es with
    | [e] => chkE a c e && (match r with | .nil => true | _ => false)
    | _ => false
def chkO : Oe → SC → Option Expr → Bool
  | .no, _, x => match x with
    | none => true
    | _ => false
  | .some a, c, x => match x with
    | some e => chkE a c e
    | _ => false
def chkI : It → SC → Expr → Expr → Bool
  | .one a, c, _, x => chkE a c x
  | .zip es, c, t, x => match x with
    | .Call (.Name n _) [y, z] [] _ => decide (n = ("zip" : Str)) && c.gl n && chkA es c [y, z] && NoStar y && NoStar z && (match t with | .Tuple _ _ _ => true | _ => false)
    | _ => false
  | .enum a, c, t, x => match x with
    | .Call (.Name n _) [y] [] _ => decide (n = ("enumerate" : Str)) && c.gl n && chkE a c y && NoStar y && (match t with | .Tuple _ _ _ => true | _ => false)
    | _ => false
  | .rng es, c, _, x => match x with
    | .Call (.Name n _) ys [] _ => decide (n = ("range" : Str)) && c.gl n && chkA es c ys && ys.all NoStar && decide (ys.length = 1 ∨ ys.length = 2 ∨ ys.length = 3)
    | _ => false
def chkT : Tg → SC → Expr → Bool
  | .var i, c, x => match x with
    | .Name n _ => decide (c.N[i]? = some n) && c.st n
    | _ => false
  | .tup ts, c, x => match x with
    | .Tuple es _ _ => chkTs ts c es && es.all NoStar
    | _ => false
  | .sub o i, c, x => match x with
    | .Subscript y z _ => chkE o c y && chkE i c z && NoSlice z
    | _ => false
def chkTs : Tgs → SC → List Expr → Bool
  | .nil, _, es => match es with
    | [] => true
    | _ => false
  | .cons t r, c, es => match es with
    | e :: es => NoStar e && chkT t c e && chkTs r c es
    | _ => false
end
end

/-- a def that may be called -/
def FnAt (X : Cx) (n : Nat) (C : Call) (i np : Nat) (x : Str) : Prop :=
  ∃ (fa : Addr) (fd : FuncData) (ps : List Str), FnOk X.prog X.w X.K X.mg X.base CX0 n fa fd ps (spOf X.K C i np) ∧ X.mg x = some (.ref fa) ∧ PySem.W.keepIn X.K (.ref fa) = true ∧ Binds X.K fd ps []
structure GoodX (p : PC) (n : Nat) (C : Call) (G : List TV) (X : Cx) (c : SC) : Prop where
  N : X.N = c.N
  sc : X.env.scope = c.sc
  fn : ∀ x, X.fn x = c.fnb x
  calm : X.calm = true
  nd : X.N.Nodup
  room : Room n X.A
  xe : X.xe = fun _ _ => False
  fns : ∀ (i : Nat) (x : Str) (np : Nat), p.fs[i]? = some (x, np) → FnAt X n C i np x
  gls : ∀ (i : Nat) (x : Str) (v : TV), p.gs[i]? = some x → G[i]? = some v → ∃ u w, X.mg x = some u ∧ RelV w u ∧ ∀ φ H, RepV X.K φ H v w
  blt : ∀ x ∈ bltNames, X.mg x = none
section
variable {p : PC} {n : Nat} {C : Call} {G : List TV} {X : Cx} {c : SC}
theorem GoodX.inn (g : GoodX p n C G X c) (scope : Scope) (s : Shared) (H : Hp) (A : Addr) (cl : List (Str × Addr)) (fp : List Addr) : GoodX p n C G (X.blk s H scope (compEnvC scope cl A X.env) fp) (c.inn scope) :=
  ⟨g.N, by show relS scope X.env.scope = relS scope c.sc; rw [g.sc], fun x => rfl, g.calm, g.nd, g.room, rfl, g.fns, g.gls, g.blt⟩
theorem GoodX.hu (g : GoodX p n C G X c) : X.A.units + 64 < cLine := by have := g.room.un; omega
theorem GoodX.gl (g : GoodX p n C G X c) {x : Str} (h : c.gl x = true) : Gl X x := by
  show X.env.scope.names.lookup x = _
  rw [g.sc]
  exact of_decide_eq_true h
theorem GoodX.loc (g : GoodX p n C G X c) {x : Str} (h : c.loc x = true) : L2.Loc X.env.scope x := by
  unfold L2.Loc
  rw [g.sc]
  exact (Bool.or_eq_true _ _ ▸ h).elim (fun z => .inl (of_decide_eq_true z)) fun z => .inr (of_decide_eq_true z)
theorem GoodX.vis (g : GoodX p n C G X c) {x : Str} (h : c.vis x = true) : Vis X.env.scope x := by
  unfold SC.vis at h
  rw [Bool.or_eq_true] at h
  rcases h with h | h
  · rcases g.loc h with h | h
    · exact .inl h
    · exact .inr (.inl h)
  · exact .inr (.inr (by rw [g.sc]; exact of_decide_eq_true h))
theorem GoodX.at_ (g : GoodX p n C G X c) {i : Nat} {x : Str} (h : decide (c.N[i]? = some x) = true) : X.N[i]? = some x := by
  rw [g.N]
  exact of_decide_eq_true h
theorem GoodX.st (g : GoodX p n C G X c) {x : Str} (h : c.st x = true) : L2.Loc X.env.scope x ∧ (X.fn x = true ∨ X.env.scope.names.lookup x = some .local) := by
  unfold SC.st at h
  rw [Bool.and_eq_true, Bool.or_eq_true] at h
  refine ⟨g.loc h.1, ?_⟩
  rw [g.fn, g.sc]
  exact h.2.elim .inl fun z => .inr (of_decide_eq_true z)
theorem GoodX.nob (g : GoodX p n C G X c) {x : Str} (h : decide (x ∈ bltNames) = true) : X.mg x = none := g.blt x (of_decide_eq_true h)
theorem GoodX.blk (g : GoodX p n C G X c) {s : Scope} {own : List Nat} (h : blkC c.N c.sc s (c.own own) = true) : BlkOk X.N X.env.scope s (c.own own) := by
  rw [g.N, g.sc]
  exact blkOk_by h
theorem own_snd (own : List Nat) : (c.own own).map (·.2) = own := by
  unfold SC.own
  rw [List.map_map]
  exact List.map_id _
theorem biName_mem (b : BI) : decide (biName b ∈ bltNames) = true := by cases b <;> decide +kernel
theorem tyS_mem (T : Ty) : decide (((tyS T : String) : Str) ∈ bltNames) = true := by cases T <;> decide +kernel
theorem isi_mem : decide (("isinstance" : Str) ∈ bltNames) = true := by decide +kernel
theorem range_mem : decide (("range" : Str) ∈ bltNames) = true := by decide +kernel
theorem sorted_mem : decide (("sorted" : Str) ∈ bltNames) = true := by decide +kernel
theorem len_mem : decide (("len" : Str) ∈ bltNames) = true := by decide +kernel
theorem set_mem : decide (("set" : Str) ∈ bltNames) = true := by decide +kernel
theorem zip_mem : decide (("zip" : Str) ∈ bltNames) = true := by decide +kernel
theorem enum_mem : decide (("enumerate" : Str) ∈ bltNames) = true := by decide +kernel
theorem kv_ok {v : TV} {k : Const} {j : Nat} {pos : Pos} (h : kv v k = true) : PE X (.Constant k j pos) (tE X.K fun _ S => .ok (.v v) S) := by
  unfold kv at h
  split at h
  · exact e_val pe_non fun _ _ => .non
  · cases eq_of_beq h; exact e_val pe_bl fun _ _ => .bl _
  · cases of_decide_eq_true h; exact e_val pe_int fun _ _ => .int _
  · cases of_decide_eq_true h; exact e_val pe_str fun _ _ => .str _
  · cases h
theorem pe_no {e : Expr} : PE X e (tE X.K fun _ _ => .err) := ⟨fun pins s σ H Q I q => by
  obtain ⟨φ, S, ρ, x, S2, rel, re, ev, q⟩ := q
  cases ev⟩
theorem tyOk_ok (g : GoodX p n C G X c) : ∀ {ts : List Ty} {es : List Expr}, tyOk c ts es = true → TyNames X ts es
  | [], [], _ => trivial
  | t :: ts, e :: es, h => by
    unfold tyOk at h
    split at h
    · rename_i e1 e2; cases e1
    · rename_i e1 e2
      cases e1; cases e2
      rw [Bool.and_eq_true, Bool.and_eq_true] at h
      obtain ⟨⟨h1, h2⟩, h3⟩ := h
      cases of_decide_eq_true h1
      exact ⟨⟨_, rfl⟩, g.gl h2, g.nob (tyS_mem t), tyOk_ok g h3⟩
    · cases h
  | [], _ :: _, h => by cases h
  | _ :: _, [], h => by cases h
end
theorem evA_len {C : Call} {G : List TV} : ∀ (es : Es) (ρ : Env) (S : Sto) (xs : List TV) (S' : Sto), evA C G es ρ S = .ok xs S' → xs.length = es.len
  | .nil, ρ, S, xs, S', h => by
    rw [show evA C G .nil ρ S = .ok [] S from rfl] at h
    cases h; rfl
  | .cons e r, ρ, S, xs, S', h => by
    rw [show evA C G (.cons e r) ρ S = (evE C G e ρ S).bind fun x S => (x.st S).bind fun x S => (evA C G r ρ S).bind fun xs S => .ok (x :: xs) S from rfl] at h
    obtain ⟨x, S1, e1, h⟩ := R.bind_eq h
    obtain ⟨y, S2, e2, h⟩ := R.bind_eq h
    obtain ⟨ys, S3, e3, h⟩ := R.bind_eq h
    cases h
    exact congrArg (· + 1) (evA_len r _ _ _ _ e3)
theorem asTs_len {C : Call} {G : List TV} : ∀ (ts : Tgs) (xs : List TV) (ρ : Env) (S : Sto) (ρ' : Env) (S' : Sto), asTs C G ts xs ρ S = .ok ρ' S' → xs.length = ts.len
  | .nil, [], ρ, S, ρ', S', h => rfl
  | .nil, _ :: _, ρ, S, ρ', S', h => by cases h
  | .cons _ _, [], ρ, S, ρ', S', h => by cases h
  | .cons t r, x :: xs, ρ, S, ρ', S', h => by
    rw [show asTs C G (.cons t r) (x :: xs) ρ S = (asT C G t x ρ S).bind fun ρ S => asTs C G r xs ρ S from rfl] at h
    obtain ⟨ρ1, S1, e1, h⟩ := R.bind_eq h
    exact congrArg (· + 1) (asTs_len r _ _ _ _ _ h)
theorem chkA_len {p : PC} {c : SC} : ∀ {as : Es} {es : List Expr}, chkA p as c es = true → as.len = es.length
  | .nil, [], h => rfl
  | .nil, _ :: _, h => by cases h
  | .cons _ _, [], h => by cases h
  | .cons a r, e :: es, h => by
    rw [show chkA p (.cons a r) c (e :: es) = (NoStar e && chkE p a c e && chkA p r c es) from rfl, Bool.and_eq_true] at h
    exact congrArg (· + 1) (chkA_len h.2)
theorem chkTs_len {p : PC} {c : SC} : ∀ {as : Tgs} {es : List Expr}, chkTs p as c es = true → as.len = es.length
  | .nil, [], h => rfl
  | .nil, _ :: _, h => by cases h
  | .cons _ _, [], h => by cases h
  | .cons a r, e :: es, h => by
    rw [show chkTs p (.cons a r) c (e :: es) = (NoStar e && chkT p a c e && chkTs p r c es) from rfl, Bool.and_eq_true] at h
    exact congrArg (· + 1) (chkTs_len h.2)
end Ev

/-! Ev, part M: the look is sound: expressions. -/
namespace Ev
open PySem PySem.Spec PyProof.Rows L2
def IsBool (x : Expr) : Bool := match x with
  | .BoolOp _ _ _ => true
  | _ => false
/-- an expression's three readings -/
structure Ok3 (X : Cx) (x : Expr) (f : Env → Sto → R TW) : Prop where
  e : PE X x (tE X.K f)
  t : PT X x (tB X.K (tru f))
  w : IsBool x = true → PW X x (tB X.K (tru f))
section
variable {X : Cx} {x : Expr} {f g : Env → Sto → R TW}
theorem Ok3.plain (h : PE X x (tE X.K f)) (p : Plain x = true) (b : IsBool x = false) : Ok3 X x f := ⟨h, pt_plain h p, fun z => by rw [b] at z; cases z⟩
theorem Ok3.two (h : PE X x (tE X.K f)) (t : PT X x (tB X.K (tru f))) (b : IsBool x = false) : Ok3 X x f := ⟨h, t, fun z => by rw [b] at z; cases z⟩
theorem Ok3.no : Ok3 X x fun _ _ => .err := ⟨pe_no, ⟨fun pins s σ H Q I q => by obtain ⟨φ, S, ρ, x, S2, rel, re, ev, q⟩ := q; cases ev⟩, fun _ => ⟨fun wh pins s σ H Q I q => by obtain ⟨φ, S, ρ, x, S2, rel, re, ev, q⟩ := q; cases ev⟩⟩
end
variable {p : PC} {n : Nat} {C : Call} {G : List TV}
theorem chkA_cons {a : E} {r : Es} {c : SC} {e : Expr} {es : List Expr} (h : chkA p (.cons a r) c (e :: es) = true) : NoStar e = true ∧ chkE p a c e = true ∧ chkA p r c es = true := by
  rw [show chkA p (.cons a r) c (e :: es) = (NoStar e && chkE p a c e && chkA p r c es) from rfl, Bool.and_eq_true, Bool.and_eq_true] at h
  exact ⟨h.1.1, h.1.2, h.2⟩
theorem chkTs_cons {a : Tg} {r : Tgs} {c : SC} {e : Expr} {es : List Expr} (h : chkTs p (.cons a r) c (e :: es) = true) : NoStar e = true ∧ chkT p a c e = true ∧ chkTs p r c es = true := by
  rw [show chkTs p (.cons a r) c (e :: es) = (NoStar e && chkT p a c e && chkTs p r c es) from rfl, Bool.and_eq_true, Bool.and_eq_true] at h
  exact ⟨h.1.1, h.1.2, h.2⟩
mutual
theorem okE : ∀ (m : E) (X : Cx) (c : SC) (x : Expr), GoodX p n C G X c → chkE p m c x = true → Ok3 X x (evE C G m)
  | .var i, X, c, x, g, h => by
    unfold chkE at h
    split at h
    · rename_i y _
      simp only [Bool.and_eq_true, Bool.not_eq_true'] at h
      obtain ⟨⟨⟨h1, h2⟩, h3⟩, h4⟩ := h
      exact .plain (e_var (g.at_ h1) (g.vis h2) h3 h4) rfl rfl
    · cases h
  | .c v, X, c, x, g, h => by
    unfold chkE at h
    split at h
    · exact .plain (kv_ok h) rfl rfl
    · cases h
  | .glob i, X, c, x, g, h => by
    unfold chkE at h
    split at h
    · rename_i y _
      simp only [Bool.and_eq_true, Bool.not_eq_true'] at h
      obtain ⟨⟨h1, h2⟩, h3⟩ := h
      cases e : G[i]? with
      | none =>
        have : evE C G (.glob i) = fun _ _ => .err := by
          funext ρ S
          show (match G[i]? with | some x => R.ok (TW.v x) S | none => .err) = _
          rw [e]
        rw [this]
        exact .no
      | some v =>
        have : evE C G (.glob i) = fun _ S => .ok (.v v) S := by
          funext ρ S
          show (match G[i]? with | some x => R.ok (TW.v x) S | none => .err) = _
          rw [e]
        rw [this]
        obtain ⟨u, w, hm, r, hr⟩ := g.gls i _ v (of_decide_eq_true h1) e
        exact .plain (e_val (pe_glob (g.gl h2) hm r h3) hr) rfl rfl
    · cases h
  | .bin op a b, X, c, x, g, h => by
    unfold chkE at h
    split at h
    · simp only [Bool.and_eq_true] at h
      obtain ⟨⟨h1, h2⟩, h3⟩ := h
      cases of_decide_eq_true h1
      exact .plain (e_bin op (okE a X c _ g h2).e (okE b X c _ g h3).e) rfl rfl
    · cases h
  | .neg a, X, c, x, g, h => by
    unfold chkE at h
    split at h
    · exact .plain (e_neg (okE a X c _ g h).e) rfl rfl
    · cases h
  | .not a, X, c, x, g, h => by
    unfold chkE at h
    split at h
    · exact .two (e_not (okE a X c _ g h).e) (t_not (okE a X c _ g h).t) rfl
    · cases h
  | .and a b, X, c, x, g, h => by
    unfold chkE at h
    split at h
    · simp only [Bool.and_eq_true] at h
      have k1 := okE a X c _ g h.1
      have k2 := okE b X c _ g h.2
      have w := w_and (pos := by assumption) k1.t (pw_and1 k2.t)
      exact ⟨e_and k1.e (pe_one k2.e), w.pt, fun _ => w⟩
    · simp only [Bool.and_eq_true] at h
      have k1 := okE a X c _ g h.1
      have k2 := okE b X c _ g h.2
      have w := w_and k1.t (k2.w rfl)
      exact ⟨e_and k1.e k2.e, w.pt, fun _ => w⟩
    · cases h
  | .or a b, X, c, x, g, h => by
    unfold chkE at h
    split at h
    · simp only [Bool.and_eq_true] at h
      have k1 := okE a X c _ g h.1
      have k2 := okE b X c _ g h.2
      have w := w_or (pos := by assumption) k1.t (pw_or1 k2.t)
      exact ⟨e_or k1.e (pe_one k2.e), w.pt, fun _ => w⟩
    · simp only [Bool.and_eq_true] at h
      have k1 := okE a X c _ g h.1
      have k2 := okE b X c _ g h.2
      have w := w_or k1.t (k2.w rfl)
      exact ⟨e_or k1.e k2.e, w.pt, fun _ => w⟩
    · cases h
  | .cmp op a b, X, c, x, g, h => by
    unfold chkE at h
    split at h
    · simp only [Bool.and_eq_true, Bool.not_eq_true'] at h
      obtain ⟨⟨⟨h1, h2⟩, h3⟩, h4⟩ := h
      cases of_decide_eq_true h1
      have k1 := okE a X c _ g h2
      have k2 := okE b X c _ g h3
      exact .two (e_cmp g.hu op k1.e k2.e h4) (t_cmp g.hu op k1.e k2.e h4) rfl
    · cases h
  | .chain o1 o2 a b d, X, c, x, g, h => by
    unfold chkE at h
    split at h
    · simp only [Bool.and_eq_true, Bool.not_eq_true'] at h
      obtain ⟨⟨⟨⟨⟨h1, h2⟩, h3⟩, h4⟩, h5⟩, h6⟩ := h
      cases of_decide_eq_true h1
      cases of_decide_eq_true h2
      have k1 := okE a X c _ g h3
      have k2 := okE b X c _ g h4
      have k3 := okE d X c _ g h5
      exact .two (e_chain g.hu o1 o2 k1.e k2.e k3.e h6) (t_chain g.hu o1 o2 k1.e k2.e k3.e h6) rfl
    · cases h
  | .ite t a b, X, c, x, g, h => by
    unfold chkE at h
    split at h
    · simp only [Bool.and_eq_true] at h
      obtain ⟨⟨h1, h2⟩, h3⟩ := h
      have k1 := okE t X c _ g h1
      have k2 := okE a X c _ g h2
      have k3 := okE b X c _ g h3
      exact .two (e_ite k1.t k2.e k3.e) (t_ite k1.t k2.t k3.t) rfl
    · cases h
  | .call f as, X, c, x, g, h => by
    unfold chkE at h
    split at h
    · rename_i y _ es _
      simp only [Bool.and_eq_true, Bool.not_eq_true'] at h
      obtain ⟨⟨⟨⟨h1, h2⟩, h3⟩, h4⟩, h5⟩ := h
      obtain ⟨fa, fd, ps, F, hm, hk, hb⟩ := g.fns f _ _ (of_decide_eq_true h1)
      have ka := okA as X c es g h5
      cases es with
      | nil =>
        cases as with
        | nil => exact .plain (e_call0 F g.room (g.gl h2) hm hk hb h3) rfl rfl
        | cons _ _ => cases h5
      | cons e es => exact .plain (e_call F g.room (g.gl h2) hm hk hb h3 ka h4 fun ρ S xs S' z => evA_len as ρ S xs S' z) rfl rfl
    · cases h
  | .bi b as, X, c, x, g, h => by
    unfold chkE at h
    split at h
    · simp only [Bool.and_eq_true] at h
      obtain ⟨⟨⟨⟨h1, h2⟩, h3⟩, h4⟩, h5⟩ := h
      cases of_decide_eq_true h1
      exact .plain (e_bi g.calm b (g.gl h3) (g.nob (biName_mem b)) (okW as X c _ g h5) h4) rfl rfl
    · cases h
  | .isI ts a, X, c, x, g, h => by
    unfold chkE at h
    split at h
    · simp only [Bool.and_eq_true] at h
      obtain ⟨⟨⟨⟨h1, h2⟩, h3⟩, h4⟩, h5⟩ := h
      cases of_decide_eq_true h1
      have k1 := okE a X c _ g h4
      split at h5
      · split at h5
        · rw [Bool.and_eq_true] at h5
          cases of_decide_eq_true h5.1
          exact .plain (e_is1 _ (g.gl h2) (g.nob isi_mem) (g.gl h5.2) (g.nob (tyS_mem _)) k1.e h3) rfl rfl
        · cases h5
      · rw [Bool.and_eq_true] at h5
        exact .plain (e_isN (g.gl h2) (g.nob isi_mem) (tyOk_ok g h5.1) (of_decide_eq_true h5.2) k1.e h3) rfl rfl
      · cases h5
    · cases h
  | .meth m o as, X, c, x, g, h => by
    unfold chkE at h
    split at h
    · rename_i y nm ap es pos
      simp only [Bool.and_eq_true] at h
      obtain ⟨⟨⟨⟨⟨⟨h1, h2⟩, h3⟩, h4⟩, h5⟩, h6⟩, h7⟩ := h
      have k1 := okE o X c _ g h1
      have ka := okA as X c es g h2
      have hl : es.length < 20 := of_decide_eq_true h4
      cases es with
      | nil =>
        cases m <;> first
          | (cases h7; done)
          | (simp at h7; done)
          | (rw [Bool.and_eq_true] at h7
             cases of_decide_eq_true h7.1
             cases as with
             | nil => exact .plain (e_pop k1.e h5 h6) rfl rfl
             | cons _ _ => cases h2)
      | cons e es =>
        cases m with
        | append =>
          rw [Bool.and_eq_true] at h7
          cases of_decide_eq_true h7.1
          exact .plain (e_append k1.e ka h3 hl h5 h6) rfl rfl
        | popAt =>
          rw [Bool.and_eq_true] at h7
          cases of_decide_eq_true h7.1
          exact .plain (e_popAt k1.e ka h3 hl h5 h6) rfl rfl
        | pop => simp at h7
        | _ => cases h7
    · cases h
  | .tup es, X, c, x, g, h => by
    unfold chkE at h
    split at h
    · simp only [Bool.and_eq_true] at h
      have k := of_decide_eq_true h.2
      exact .plain (e_tup (okA es X c _ g h.1.1) fun ρ S xs S' z => by rw [evA_len es ρ S xs S' z, sizeLine_eq]; omega) rfl rfl
    · cases h
  | .lst es, X, c, x, g, h => by
    unfold chkE at h
    split at h
    · simp only [Bool.and_eq_true] at h
      have k := of_decide_eq_true h.2
      exact .plain (e_lst (okA es X c _ g h.1.1) fun ρ S xs S' z => by rw [evA_len es ρ S xs S' z, sizeLine_eq]; omega) rfl rfl
    · cases h
  | .ix a b, X, c, x, g, h => by
    unfold chkE at h
    split at h
    · simp only [Bool.and_eq_true] at h
      exact .plain (e_ix (okE a X c _ g h.1.1).e (okE b X c _ g h.1.2).e h.2) rfl rfl
    · cases h
  | .sl a lo hi, X, c, x, g, h => by
    unfold chkE at h
    split at h
    · simp only [Bool.and_eq_true] at h
      exact .plain (e_sl (okE a X c _ g h.1.1).e (okO lo X c _ g h.1.2) (okO hi X c _ g h.2)) rfl rfl
    · cases h
  | .rev a, X, c, x, g, h => by
    unfold chkE at h
    split at h
    · exact .plain (e_rev (okE a X c _ g h).e) rfl rfl
    · cases h
  | .rng f as, X, c, x, g, h => by
    unfold chkE at h
    split at h
    · rename_i es _ _
      simp only [Bool.and_eq_true] at h
      obtain ⟨⟨⟨⟨⟨⟨h1, h2⟩, h3⟩, h4⟩, h5⟩, h6⟩, h7⟩ := h
      cases of_decide_eq_true h1
      cases of_decide_eq_true h2
      have hl := of_decide_eq_true h6
      match as, es, h7, h5, hl with
      | .cons a .nil, [y], h7, h5, _ =>
        obtain ⟨k1, k2⟩ := chkA_cons h7
        exact .plain (e_rg1 g.calm (g.gl h3) (g.nob (biName_mem f)) (g.gl h4) (g.nob range_mem) (okE a X c _ g k2.1).e k1) rfl rfl
      | .cons a (.cons b .nil), [y, z], h7, h5, _ =>
        obtain ⟨k1, k2, k3⟩ := chkA_cons h7
        obtain ⟨k4, k5, _⟩ := chkA_cons k3
        refine .plain (PE.weak (e_rg2 (fb := f) g.calm (g.gl h3) (g.nob (biName_mem f)) (g.gl h4) (g.nob range_mem) (okE a X c _ g k2).e (okE b X c _ g k5).e k1 k4) fun σ H Q z => ?_) rfl rfl
        have ee : evE C G (.rng f (.cons a (.cons b .nil))) = rgF f fun ρ S => (evE C G a ρ S).bind fun x S => (evE C G b ρ S).bind fun y S => .ok [x, y] S := by
          funext ρ S
          show ((evE C G a ρ S).bind fun x S => ((evE C G b ρ S).bind fun y S => (R.ok [] S).bind fun xs S => .ok (y :: xs) S).bind fun xs S => .ok (x :: xs) S).bind _ = ((evE C G a ρ S).bind fun x S => (evE C G b ρ S).bind fun y S => .ok [x, y] S).bind _
          cases evE C G a ρ S with
          | err => rfl
          | ok x S1 =>
            show (((evE C G b ρ S1).bind _).bind _).bind _ = ((evE C G b ρ S1).bind _).bind _
            cases evE C G b ρ S1 <;> rfl
        rw [ee] at z
        exact z
      | _, [], _, _, hl => simp at hl
      | _, _ :: _ :: _ :: _, _, _, hl => simp at hl
      | .nil, _ :: _, h7, _, _ => cases h7
      | .cons _ .nil, _ :: _ :: _, h7, _, _ => cases (chkA_cons h7).2.2
      | .cons _ (.cons _ _), [_], h7, _, _ => cases (chkA_cons h7).2.2
      | .cons _ (.cons _ (.cons _ _)), [_, _], h7, _, _ => cases (chkA_cons (chkA_cons h7).2.2).2.2
    · cases h
  | .sset a, X, c, x, g, h => by
    unfold chkE at h
    split at h
    · simp only [Bool.and_eq_true] at h
      obtain ⟨⟨⟨⟨⟨h1, h2⟩, h3⟩, h4⟩, h5⟩, h6⟩ := h
      cases of_decide_eq_true h1
      cases of_decide_eq_true h2
      exact .plain (e_sset g.calm (g.gl h3) (g.nob sorted_mem) (g.gl h4) (g.nob set_mem) (okE a X c _ g h6).e h5) rfl rfl
    · cases h
  | .lset a, X, c, x, g, h => by
    unfold chkE at h
    split at h
    · simp only [Bool.and_eq_true] at h
      obtain ⟨⟨⟨⟨⟨h1, h2⟩, h3⟩, h4⟩, h5⟩, h6⟩ := h
      cases of_decide_eq_true h1
      cases of_decide_eq_true h2
      exact .plain (e_lset g.calm (g.gl h3) (g.nob len_mem) (g.gl h4) (g.nob set_mem) (okE a X c _ g h6).e h5) rfl rfl
    · cases h
  | .comp own tg it cs e, X, c, x, g, h => by
    unfold chkE at h
    split at h
    · rename_i y t i ifs s _
      simp only [Bool.and_eq_true, List.all_eq_true] at h
      obtain ⟨⟨⟨⟨⟨⟨h1, h2⟩, h3⟩, h4⟩, h5⟩, h6⟩, h7⟩ := h
      have q := e_comp (X := X) (pos := by assumption) g.calm g.nd (okI it X c t i g h1) (g.blk h2)
        (fun s1 H1 A cl fp => okT tg _ (c.inn s) t (g.inn s s1 H1 A cl fp) h4)
        (fun s1 H1 A cl fp => okC cs _ (c.inn s) ifs (g.inn s s1 H1 A cl fp) h5)
        (fun s1 H1 A cl fp => (okE e _ (c.inn s) y (g.inn s s1 H1 A cl fp) h6).e)
        (fun j hj => by rw [own_snd]; exact of_decide_eq_true (h7 j hj)) (folded_ok h3 X.env)
      rw [own_snd] at q
      exact .plain q rfl rfl
    · cases h
  | .comp2 own own2 tg it cs tg2 it2 cs2 e, X, c, x, g, h => by
    unfold chkE at h
    split at h
    · rename_i y t i ifs t2 i2 ifs2 s _
      simp only [Bool.and_eq_true, List.all_eq_true] at h
      obtain ⟨⟨⟨⟨⟨⟨⟨⟨⟨⟨⟨⟨h1, h2⟩, h3⟩, h4⟩, h5⟩, h6⟩, h7⟩, h8⟩, h9⟩, h10⟩, h11⟩, h12⟩, h13⟩ := h
      have q := e_comp2 (X := X) (pos := by assumption) (vs1 := own2) g.calm g.nd (okI it X c t i g h1) (g.blk h2) (fun j hj => by rw [own_snd]; exact of_decide_eq_true (h13 j hj))
        (fun s1 H1 A cl fp => okT tg _ (c.inn s) t (g.inn s s1 H1 A cl fp) h4)
        (fun s1 H1 A cl fp => okC cs _ (c.inn s) ifs (g.inn s s1 H1 A cl fp) h5)
        (fun s1 H1 A cl fp => okI it2 _ (c.inn s) t2 i2 (g.inn s s1 H1 A cl fp) h6)
        (fun s1 H1 A cl fp => okT tg2 _ (c.inn s) t2 (g.inn s s1 H1 A cl fp) h8)
        (fun s1 H1 A cl fp => okC cs2 _ (c.inn s) ifs2 (g.inn s s1 H1 A cl fp) h9)
        (fun s1 H1 A cl fp => (okE e _ (c.inn s) y (g.inn s s1 H1 A cl fp) h10).e)
        (fun j hj => by rw [own_snd]; exact of_decide_eq_true (h11 j hj)) (fun j hj => of_decide_eq_true (h12 j hj)) (folded_ok h3 X.env) (folded_ok h7)
      rw [own_snd] at q
      exact .plain q rfl rfl
    · cases h
  | .never, X, c, x, g, h => by cases h
theorem okA : ∀ (as : Es) (X : Cx) (c : SC) (es : List Expr), GoodX p n C G X c → chkA p as c es = true → PA X es (tA X.K (evA C G as))
  | .nil, X, c, [], g, h => a_nil
  | .nil, X, c, _ :: _, g, h => by cases h
  | .cons _ _, X, c, [], g, h => by cases h
  | .cons a r, X, c, e :: es, g, h => by
    obtain ⟨k1, k2, k3⟩ := chkA_cons h
    exact a_cons (okE a X c e g k2).e (okA r X c es g k3) k1
theorem okW : ∀ (as : Es) (X : Cx) (c : SC) (es : List Expr), GoodX p n C G X c → chkA p as c es = true → PA X es (tW X.K (evW C G as))
  | .nil, X, c, [], g, h => l_nil
  | .nil, X, c, _ :: _, g, h => by cases h
  | .cons _ _, X, c, [], g, h => by cases h
  | .cons a r, X, c, e :: es, g, h => by
    obtain ⟨k1, k2, k3⟩ := chkA_cons h
    exact l_cons (okE a X c e g k2).e (okW r X c es g k3) k1
theorem okC : ∀ (as : Es) (X : Cx) (c : SC) (es : List Expr), GoodX p n C G X c → chkC p as c es = true → PTs X es (tB X.K (evC C G as))
  | .nil, X, c, [], g, h => c_nil
  | .nil, X, c, _ :: _, g, h => by cases h
  | .cons a r, X, c, es, g, h => by
    unfold chkC at h
    split at h
    · rw [Bool.and_eq_true] at h
      cases r with
      | nil => exact c_one (okE a X c _ g h.1).t
      | cons _ _ => cases h.2
    · cases h
theorem okO : ∀ (o : Oe) (X : Cx) (c : SC) (x : Option Expr), GoodX p n C G X c → chkO p o c x = true → PO X x (tO X.K (evO C G o))
  | .no, X, c, none, g, h => o_no
  | .no, X, c, some _, g, h => by cases h
  | .some _, X, c, none, g, h => by cases h
  | .some a, X, c, some e, g, h => o_some (okE a X c e g h).e
theorem okI : ∀ (it : It) (X : Cx) (c : SC) (t x : Expr), GoodX p n C G X c → chkI p it c t x = true → PI X t x (tI X.K (evI C G it))
  | .one a, X, c, t, x, g, h => pi_oneE (okE a X c x g h).e
  | .zip es, X, c, t, x, g, h => by
    unfold chkI at h
    split at h
    · simp only [Bool.and_eq_true] at h
      obtain ⟨⟨⟨⟨⟨h1, h2⟩, h3⟩, h4⟩, h5⟩, h6⟩ := h
      cases of_decide_eq_true h1
      split at h6
      · match es, h3 with
        | .cons a (.cons b .nil), h3 =>
          obtain ⟨_, k2, k3⟩ := chkA_cons h3
          obtain ⟨_, k5, _⟩ := chkA_cons k3
          refine PI.weak (pi_zip2E (g.gl h2) (g.nob zip_mem) (okE a X c _ g k2).e (okE b X c _ g k5).e (star_ok h4) (star_ok h5)) fun σ H Q z => ?_
          have ee : evI C G (.zip (.cons a (.cons b .nil))) = fun ρ S => (evE C G a ρ S).bind fun x S => (evE C G b ρ S).bind fun y S => match srcOf S x, srcOf S y with
              | some a, some b => .ok (.zip2 a b) S
              | _, _ => .err := by
            funext ρ S
            show ((evE C G a ρ S).bind fun x S => ((evE C G b ρ S).bind fun y S => (R.ok [] S).bind fun xs S => .ok (y :: xs) S).bind fun xs S => .ok (x :: xs) S).bind _ = ((evE C G a ρ S).bind fun x S => (evE C G b ρ S).bind _)
            cases evE C G a ρ S with
            | err => rfl
            | ok x S1 =>
              show (((evE C G b ρ S1).bind _).bind _).bind _ = ((evE C G b ρ S1).bind _)
              cases evE C G b ρ S1 <;> rfl
          rw [ee] at z
          exact z
        | .nil, h3 => cases h3
        | .cons _ .nil, h3 => cases (chkA_cons h3).2.2
        | .cons _ (.cons _ (.cons _ _)), h3 => cases (chkA_cons (chkA_cons h3).2.2).2.2
      · cases h6
    · cases h
  | .enum a, X, c, t, x, g, h => by
    unfold chkI at h
    split at h
    · simp only [Bool.and_eq_true] at h
      obtain ⟨⟨⟨⟨h1, h2⟩, h3⟩, h4⟩, h5⟩ := h
      cases of_decide_eq_true h1
      split at h5
      · exact pi_enumE (g.gl h2) (g.nob enum_mem) (okE a X c _ g h3).e (star_ok h4)
      · cases h5
    · cases h
  | .rng es, X, c, t, x, g, h => by
    unfold chkI at h
    split at h
    · rename_i _ _ ys _
      simp only [Bool.and_eq_true] at h
      obtain ⟨⟨⟨⟨h1, h2⟩, h3⟩, h4⟩, h5⟩ := h
      cases of_decide_eq_true h1
      have hl := of_decide_eq_true h5
      match es, ys, h3, hl with
      | .cons a .nil, [y], h3, _ =>
        obtain ⟨k1, k2, _⟩ := chkA_cons h3
        exact i_rng1 (g.gl h2) (g.nob range_mem) (okE a X c _ g k2).e k1
      | .cons a (.cons b .nil), [y, z], h3, _ =>
        obtain ⟨k1, k2, k3⟩ := chkA_cons h3
        obtain ⟨k4, k5, _⟩ := chkA_cons k3
        exact i_rng2 (g.gl h2) (g.nob range_mem) (okE a X c _ g k2).e (okE b X c _ g k5).e k1 k4
      | .cons a (.cons b (.cons d .nil)), [y, z, w], h3, _ =>
        obtain ⟨k1, k2, k3⟩ := chkA_cons h3
        obtain ⟨k4, k5, k6⟩ := chkA_cons k3
        obtain ⟨k7, k8, _⟩ := chkA_cons k6
        exact i_rng3 (g.gl h2) (g.nob range_mem) (okE a X c _ g k2).e (okE b X c _ g k5).e (okE d X c _ g k8).e k1 k4 k7
      | _, [], _, hl => simp at hl
      | _, _ :: _ :: _ :: _ :: _, _, hl => simp at hl
      | .nil, _ :: _, h3, _ => cases h3
      | .cons _ .nil, _ :: _ :: _, h3, _ => cases (chkA_cons h3).2.2
      | .cons _ (.cons _ _), [_], h3, _ => cases (chkA_cons h3).2.2
      | .cons _ (.cons _ .nil), _ :: _ :: _ :: _, h3, _ => cases (chkA_cons (chkA_cons h3).2.2).2.2
      | .cons _ (.cons _ (.cons _ _)), [_, _], h3, _ => cases (chkA_cons (chkA_cons h3).2.2).2.2
      | .cons _ (.cons _ (.cons _ (.cons _ _))), [_, _, _], h3, _ => cases (chkA_cons (chkA_cons (chkA_cons h3).2.2).2.2).2.2
    · cases h
theorem okT : ∀ (tg : Tg) (X : Cx) (c : SC) (x : Expr), GoodX p n C G X c → chkT p tg c x = true → PG X x (tG X.K (tgV tg) (asT C G tg))
  | .var i, X, c, x, g, h => by
    unfold chkT at h
    split at h
    · rw [Bool.and_eq_true] at h
      exact g_var g.nd (g.at_ h.1) (g.st h.2).1 (g.st h.2).2
    · cases h
  | .tup ts, X, c, x, g, h => by
    unfold chkT at h
    split at h
    · rw [Bool.and_eq_true] at h
      exact g_tup g.calm (okTs ts X c _ g h.1) h.2 fun xs ρ S ρ' S' z => (asTs_len ts _ _ _ _ _ z).trans (chkTs_len h.1)
    · cases h
  | .sub o i, X, c, x, g, h => by
    unfold chkT at h
    split at h
    · simp only [Bool.and_eq_true] at h
      exact g_sub (okE o X c _ g h.1.1).e (okE i X c _ g h.1.2).e h.2
    · cases h
theorem okTs : ∀ (ts : Tgs) (X : Cx) (c : SC) (es : List Expr), GoodX p n C G X c → chkTs p ts c es = true → PGs X es (tGs X.K (tgVs ts) (asTs C G ts))
  | .nil, X, c, [], g, h => by
    have ee : asTs C G .nil = fun xs ρ S => match xs with | [] => .ok ρ S | _ => .err := by
      funext xs ρ S
      cases xs <;> rfl
    rw [ee]
    exact gs_nil
  | .nil, X, c, _ :: _, g, h => by cases h
  | .cons _ _, X, c, [], g, h => by cases h
  | .cons t r, X, c, e :: es, g, h => by
    obtain ⟨k1, k2, k3⟩ := chkTs_cons h
    have ee : asTs C G (.cons t r) = fun xs ρ S => match xs with | x :: l => (asT C G t x ρ S).bind fun ρ S => asTs C G r l ρ S | _ => .err := by
      funext xs ρ S
      cases xs <;> rfl
    rw [ee]
    exact gs_cons (okT t X c e g k2) (okTs r X c es g k3) k1
end
end Ev

/-! Ev, part N: statements looked at; defs all at once. -/
namespace Ev
open PySem PySem.Spec PyProof.Rows L2
def swapNo (c : SC) (t e : Expr) (l : Nat) : Bool := pureB (swapsWithSole [t] e l (scE c.sc)) false && pureO (swappedStores [t] e (scE c.sc)) none
section
variable (p : PC)
mutual
def chkS : Ev.St → SC → Stmt → Bool
  | .ex e, c, x => match x with
    | .Expr y pos => chkE p e c y && pureB (swapsWith y none pos.line (scE c.sc)) false
    | _ => false
  | .asg t e, c, x => match x with
    | .Assign [tg] y pos => chkE p e c y && (cond (swapNo c tg y pos.line) (NoStar tg && chkT p t c tg) (match t, e with
      | .var i, .comp _ _ _ _ _ => (match tg with
        | .Name n _ => decide (c.N[i]? = some n) && decide (c.sc.names.lookup n = some .local) && pureB (swapsWith y (some tg) pos.line (scE c.sc)) true
        | _ => false)
      | .var i, .comp2 _ _ _ _ _ _ _ _ _ => (match tg with
        | .Name n _ => decide (c.N[i]? = some n) && decide (c.sc.names.lookup n = some .local) && pureB (swapsWith y (some tg) pos.line (scE c.sc)) true
        | _ => false)
      | .tup (.cons (.var i) (.cons (.var j) .nil)), .tup (.cons _ (.cons _ .nil)) => (match tg, y with
        | .Tuple [.Name n _, .Name m _] _ _, .Tuple [_, _] _ _ => decide (c.N[i]? = some n) && decide (c.N[j]? = some m) && decide (i ≠ j) && decide (c.sc.names.lookup n = some .local) && decide (c.sc.names.lookup m = some .local) &&
          pureO (swappedStores [tg] y (scE c.sc)) (some [n, m]) && pureB (swapsWithSole [tg] y pos.line (scE c.sc)) false
        | _, _ => false)
      | .tup (.cons (.var i) (.cons (.var j) (.cons (.var k) .nil))), .tup (.cons _ (.cons _ (.cons _ .nil))) => (match tg, y with
        | .Tuple [.Name n _, .Name m _, .Name o _] _ _, .Tuple [_, _, _] _ _ => decide (c.N[i]? = some n) && decide (c.N[j]? = some m) && decide (c.N[k]? = some o) && decide (i ≠ j) && decide (i ≠ k) && decide (j ≠ k) && decide (c.sc.names.lookup n = some .local) && decide (c.sc.names.lookup m = some .local) && decide (c.sc.names.lookup o = some .local) &&
          pureO (swappedStores [tg] y (scE c.sc)) (some [n, m, o]) && pureB (swapsWithSole [tg] y pos.line (scE c.sc)) false
        | _, _ => false)
      | _, _ => false))
    | _ => false
  | .aug i op e, c, x => match x with
    | .AugAssign (.Name n _) o y _ => decide (c.N[i]? = some n) && c.st n && chkE p e c y && decide (opOf op = o) && (match op with | .add => true | .sub => true | _ => false)
    | _ => false
  | .ret e, c, x => match x with
    | .Return (some y) _ => chkE p e c y
    | _ => false
  | .retN, _, x => match x with
    | .Return none _ => true
    | _ => false
  | .iff t a b, c, x => match x with
    | .If y as bs _ => chkE p t c y && chkSs a c as && chkSs b c bs
    | _ => false
  | .forr t it b, c, x => match x with
    | .For tg i bs [] _ => chkI p it c tg i && NotSet i && chkT p t c tg && chkSs b c bs
    | _ => false
  | .whil t b, c, x => match x with
    | .While y bs [] _ => chkE p t c y && chkSs b c bs
    | _ => false
  | .pass, _, x => match x with
    | .Pass _ => true
    | .Expr (.Constant (.str _) _ _) _ => true
    | _ => false
  | .brk, _, x => match x with
    | .Break _ => true
    | _ => false
  | .cnt, _, x => match x with
    | .Continue _ => true
    | _ => false
  | .never, _, _ => true
def chkSs : Ss → SC → List Stmt → Bool
  | .nil, _, xs => match xs with
    | [] => true
    | _ => false
  | .cons s r, c, xs => match xs with
    | x :: xs => chkS s c x && chkSs r c xs
    | _ => false
end
end
variable {p : PC} {n : Nat} {C : Call} {G : List TV}
theorem evComp (own : List Nat) (tg : Tg) (it : It) (cs : Es) (e : E) : evE C G (.comp own tg it cs e) = compF (evI C G it) (asT C G tg) (evC C G cs) (evE C G e) own := rfl
theorem evComp2 (own own2 : List Nat) (tg : Tg) (it : It) (cs : Es) (tg2 : Tg) (it2 : It) (cs2 : Es) (e : E) : evE C G (.comp2 own own2 tg it cs tg2 it2 cs2 e) = compF2 (evI C G it) (asT C G tg) (evC C G cs) (evI C G it2) (asT C G tg2) (evC C G cs2) (evE C G e) own own2 := rfl
theorem GoodX.sw {X : Cx} {c : SC} (g : GoodX p n C G X c) {e : Expr} {t : Option Expr} {l : Nat} {b : Bool} (h : pureB (swapsWith e t l (scE c.sc)) b = true) : swapsWith e t l X.env = pure b := by
  rw [sw2_scope, g.sc]
  exact pureB_eq h
theorem GoodX.sw1 {X : Cx} {c : SC} (g : GoodX p n C G X c) {e t : Expr} {l : Nat} {b : Bool} (h : pureB (swapsWithSole [t] e l (scE c.sc)) b = true) : swapsWithSole [t] e l X.env = pure b := g.sw (t := some t) h
theorem GoodX.sw2 {X : Cx} {c : SC} (g : GoodX p n C G X c) {e t : Expr} {r : Option (List Str)} (h : pureO (swappedStores [t] e (scE c.sc)) r = true) : swappedStores [t] e X.env = pure r := by
  rw [sw_scope, g.sc]
  exact pureO_eq h
theorem GoodX.lo {X : Cx} {c : SC} (g : GoodX p n C G X c) {x : Str} (h : decide (c.sc.names.lookup x = some .local) = true) : X.env.scope.names.lookup x = some .local := by
  rw [g.sc]
  exact of_decide_eq_true h
theorem GoodX.pas {X : Cx} {c : SC} (g : GoodX p n C G X c) : PassesOwn (model X.prog X.w) X.A X.env X.xe := by
  rw [g.xe]
  exact PassesOwn.never
theorem s_doc {X : Cx} {x : Str} {j : Nat} {pos pos' : Pos} : PS X (.Expr (.Constant (.str x) j pos) pos') (tS X.K fun ρ S => .nx ρ S) := PS.weak ps_doc fun D σ H ⟨φ, S, ρ, r, re, h⟩ => h.nx r re
mutual
theorem okS : ∀ (m : Ev.St) (X : Cx) (c : SC) (x : Stmt), GoodX p n C G X c → chkS p m c x = true → PS X x (tS X.K (evS C G m))
  | .ex e, X, c, x, g, h => by
    unfold chkS at h
    split at h
    · rw [Bool.and_eq_true] at h
      exact s_ex (okE e X c _ g h.1).e (g.sw h.2)
    · cases h
  | .asg t e, X, c, x, g, h => by
    unfold chkS at h
    split at h
    · rename_i tg y pos
      rw [Bool.and_eq_true] at h
      obtain ⟨h1, h2⟩ := h
      cases hs : swapNo c tg y pos.line with
      | true =>
        rw [hs, cond_true, Bool.and_eq_true] at h2
        unfold swapNo at hs
        rw [Bool.and_eq_true] at hs
        exact s_asg (okE e X c _ g h1).e (okT t X c _ g h2.2) (g.sw1 hs.1) (g.sw2 hs.2) h2.1
      | false =>
        rw [hs, cond_false] at h2
        split at h2
        · rename_i i own tg it cs e
          split at h2
          · simp only [Bool.and_eq_true] at h2
            obtain ⟨⟨k1, k2⟩, k3⟩ := h2
            unfold chkE at h1
            split at h1
            · rename_i y t i ifs s _
              simp only [Bool.and_eq_true, List.all_eq_true] at h1
              obtain ⟨⟨⟨⟨⟨⟨h1, h2⟩, h3⟩, h4⟩, h5⟩, h6⟩, h7⟩ := h1
              have q := s_comp (X := X) g.calm g.nd (g.at_ k1) (g.lo k2) (g.sw k3) (okI it X c t i g h1) (g.blk h2)
                (fun s1 H1 A cl fp => okT tg _ (c.inn s) t (g.inn s s1 H1 A cl fp) h4)
                (fun s1 H1 A cl fp => okC cs _ (c.inn s) ifs (g.inn s s1 H1 A cl fp) h5)
                (fun s1 H1 A cl fp => (okE e _ (c.inn s) y (g.inn s s1 H1 A cl fp) h6).e)
                (fun j hj => by rw [own_snd]; exact of_decide_eq_true (h7 j hj)) (folded_ok h3 X.env)
              rw [own_snd] at q
              exact q
            · cases h1
          · cases h2
        · rename_i i own own2 tg it cs tg2 it2 cs2 e
          split at h2
          · simp only [Bool.and_eq_true] at h2
            obtain ⟨⟨k1, k2⟩, k3⟩ := h2
            unfold chkE at h1
            split at h1
            · rename_i y t i ifs t2 i2 ifs2 s _
              simp only [Bool.and_eq_true, List.all_eq_true] at h1
              obtain ⟨⟨⟨⟨⟨⟨⟨⟨⟨⟨⟨⟨h1, h2⟩, h3⟩, h4⟩, h5⟩, h6⟩, h7⟩, h8⟩, h9⟩, h10⟩, h11⟩, h12⟩, h13⟩ := h1
              have q := s_comp2 (X := X) (vs1 := own2) g.calm g.nd (g.at_ k1) (g.lo k2) (g.sw k3) (okI it X c t i g h1) (g.blk h2) (fun j hj => by rw [own_snd]; exact of_decide_eq_true (h13 j hj))
                (fun s1 H1 A cl fp => okT tg _ (c.inn s) t (g.inn s s1 H1 A cl fp) h4)
                (fun s1 H1 A cl fp => okC cs _ (c.inn s) ifs (g.inn s s1 H1 A cl fp) h5)
                (fun s1 H1 A cl fp => okI it2 _ (c.inn s) t2 i2 (g.inn s s1 H1 A cl fp) h6)
                (fun s1 H1 A cl fp => okT tg2 _ (c.inn s) t2 (g.inn s s1 H1 A cl fp) h8)
                (fun s1 H1 A cl fp => okC cs2 _ (c.inn s) ifs2 (g.inn s s1 H1 A cl fp) h9)
                (fun s1 H1 A cl fp => (okE e _ (c.inn s) y (g.inn s s1 H1 A cl fp) h10).e)
                (fun j hj => by rw [own_snd]; exact of_decide_eq_true (h11 j hj)) (fun j hj => of_decide_eq_true (h12 j hj)) (folded_ok h3 X.env) (folded_ok h7)
              rw [own_snd] at q
              exact q
            · cases h1
          · cases h2
        · split at h2
          · simp only [Bool.and_eq_true] at h2
            obtain ⟨⟨⟨⟨⟨⟨k1, k2⟩, k3⟩, k4⟩, k5⟩, k6⟩, k7⟩ := h2
            unfold chkE at h1
            simp only [Bool.and_eq_true] at h1
            exact s_par2 g.calm g.nd (g.at_ k1) (g.at_ k2) (of_decide_eq_true k3) (g.lo k4) (g.lo k5) (okA _ X c _ g h1.1.1) (g.sw2 k6) (g.sw1 k7)
          · cases h2
        · split at h2
          · simp only [Bool.and_eq_true] at h2
            obtain ⟨⟨⟨⟨⟨⟨⟨⟨⟨⟨k1, k2⟩, k3⟩, k4⟩, k5⟩, k6⟩, k7⟩, k8⟩, k9⟩, k10⟩, k11⟩ := h2
            unfold chkE at h1
            simp only [Bool.and_eq_true] at h1
            exact s_par3 g.calm g.nd (g.at_ k1) (g.at_ k2) (g.at_ k3) (of_decide_eq_true k4) (of_decide_eq_true k5) (of_decide_eq_true k6) (g.lo k7) (g.lo k8) (g.lo k9) (okA _ X c _ g h1.1.1) (g.sw2 k10) (g.sw1 k11)
          · cases h2
        · cases h2
    · cases h
  | .aug i op e, X, c, x, g, h => by
    unfold chkS at h
    split at h
    · simp only [Bool.and_eq_true] at h
      obtain ⟨⟨⟨⟨h1, h2⟩, h3⟩, h4⟩, h5⟩ := h
      cases of_decide_eq_true h4
      split at h5
      · exact s_add g.nd (g.at_ h1) (g.st h2).1 (okE e X c _ g h3).e (g.st h2).2
      · exact s_sub g.nd (g.at_ h1) (g.st h2).1 (okE e X c _ g h3).e (g.st h2).2
      · cases h5
    · cases h
  | .ret e, X, c, x, g, h => by
    unfold chkS at h
    split at h
    · exact s_ret (okE e X c _ g h).e
    · cases h
  | .retN, X, c, x, g, h => by
    unfold chkS at h
    split at h
    · exact s_retN
    · cases h
  | .iff t a b, X, c, x, g, h => by
    unfold chkS at h
    split at h
    · simp only [Bool.and_eq_true] at h
      exact s_if (okE t X c _ g h.1.1).t (okSs a X c _ g h.1.2) (okSs b X c _ g h.2)
    · cases h
  | .forr t it b, X, c, x, g, h => by
    unfold chkS at h
    split at h
    · simp only [Bool.and_eq_true] at h
      obtain ⟨⟨⟨h1, h2⟩, h3⟩, h4⟩ := h
      exact s_for g.pas g.calm (okI it X c _ _ g h1) (okT t X c _ g h3) (okSs b X c _ g h4) (folded_ok h2 X.env)
    · cases h
  | .whil t b, X, c, x, g, h => by
    unfold chkS at h
    split at h
    · simp only [Bool.and_eq_true] at h
      exact s_while 1000000000000 g.pas (okE t X c _ g h.1).t (okSs b X c _ g h.2)
    · cases h
  | .pass, X, c, x, g, h => by
    unfold chkS at h
    split at h
    · exact s_pass
    · exact s_doc
    · cases h
  | .brk, X, c, x, g, h => by
    unfold chkS at h
    split at h
    · exact s_brk
    · cases h
  | .cnt, X, c, x, g, h => by
    unfold chkS at h
    split at h
    · exact s_cnt
    · cases h
  | .never, X, c, x, g, h => s_never
theorem okSs : ∀ (m : Ss) (X : Cx) (c : SC) (xs : List Stmt), GoodX p n C G X c → chkSs p m c xs = true → PSs X xs (tS X.K (evSs C G m))
  | .nil, X, c, [], g, h => ss_nil
  | .nil, X, c, _ :: _, g, h => by cases h
  | .cons _ _, X, c, [], g, h => by cases h
  | .cons s r, X, c, x :: xs, g, h => by
    rw [show chkSs p (.cons s r) c (x :: xs) = (chkS p s c x && chkSs p r c xs) from rfl, Bool.and_eq_true] at h
    exact ss_cons (okS s X c x g h.1) (okSs r X c xs g h.2)
end
end Ev

/-! Ev, part O: all defs of a text at once; the law's end. -/
namespace Ev
open PySem PySem.Spec PyProof.Rows L2
/-- a def: its name, its parameters, all its slots, its body in the small language, the def itself -/
structure Df where
  x : Str
  ps : List Str
  N : List Str
  body : Ss
  st : Stmt
def Df.fn (d : Df) : Fn := ⟨d.N.length, d.ps.length, d.body⟩
def scC (N P : List Str) (sc : Scope) : Bool :=
  decide (sc.kind = .function) && !sc.isCoroutine && !sc.isGenerator && decide N.Nodup && decide (N.take P.length = P) && P.all (fun x => decide (sc.names.lookup x = some .local) || decide (sc.names.lookup x = some .cell)) && sc.names.all (fun y => !decide (y.2 = .free))
theorem scC_ok {N P : List Str} {sc : Scope} (h : scC N P sc = true) : FnScope N P sc := by
  unfold scC at h
  simp only [Bool.and_eq_true, Bool.not_eq_true', decide_eq_true_eq, List.all_eq_true, Bool.or_eq_true, decide_eq_false_iff_not] at h
  obtain ⟨⟨⟨⟨⟨⟨h1, h2⟩, h3⟩, h4⟩, h5⟩, h6⟩, h7⟩ := h
  exact ⟨h1, h2, h3, h4, h5, h6, h7⟩
def chkD (p : PC) (d : Df) : Bool := scC d.N d.ps (defScope d.st) && chkSs p d.body ⟨d.N, defScope d.st, none⟩ (defBody d.st)
def pcOf (P : List Df) (gs : List Str) : PC := ⟨P.map fun d => (d.x, d.ps.length), gs⟩
def chkP (P : List Df) (gs : List Str) : Bool := P.all (chkD (pcOf P gs))
/-- how a def's arguments bind -/
def Bnd (d : Df) : Prop := ∀ (kV doc pm : Value) (an : Option Addr) (cdv ct : Value) (us : List Value), us.length = d.ps.length → bindArgs (PySem.W.fnOf d.x d.x (defArgs d.st) (defBody d.st) (defScope d.st) .none kV doc pm an cdv ct) ⟨us, []⟩ = pure (d.ps.zip us)
def Bnds : List Df → Prop
  | [] => True
  | d :: r => Bnd d ∧ Bnds r
/-- a def as it stands behind the top -/
def FnK (K : PySem.W.Frag) (d : Df) : Prop := ∃ (f : Addr) (od an : Option Addr) (sl : Array (Option Value)) (oc kV doc pm cd ct : Value), PySem.W.nsIn K mainGlobals d.x = some (some (.ref f)) ∧
  K.lookup f = some ⟨oc, od, .func (PySem.W.fnOf d.x d.x (defArgs d.st) (defBody d.st) (defScope d.st) .none kV doc pm an cd ct), sl⟩ ∧ PySem.W.codeIn K cd d.x = true ∧ PySem.W.keepIn K (.ref f) = true
theorem fnk_mk {K : PySem.W.Frag} {d : Df} {f : Addr} {od an : Option Addr} {sl : Array (Option Value)} {oc kV doc pm cd ct : Value} (x : Str) (st : Stmt) (hx : d.x = x) (hs : d.st = st) (a : PySem.W.nsIn K mainGlobals x = some (some (.ref f)))
    (l : K.lookup f = some ⟨oc, od, .func (PySem.W.fnOf x x (defArgs st) (defBody st) (defScope st) .none kV doc pm an cd ct), sl⟩) (c : PySem.W.codeIn K cd x = true) (k : PySem.W.keepIn K (.ref f) = true) : FnK K d := by
  subst hx hs
  exact ⟨f, od, an, sl, oc, kV, doc, pm, cd, ct, a, l, c, k⟩
def FnKs (K : PySem.W.Frag) : List Df → Prop
  | [] => True
  | d :: r => FnK K d ∧ FnKs K r
def NoKs (K : PySem.W.Frag) : List Str → Prop
  | [] => True
  | x :: r => PySem.W.nsIn K mainGlobals x = some none ∧ NoKs K r
/-- the module's constants -/
def GlK (K : PySem.W.Frag) (x : Str) (v : TV) : Prop := ∃ u w, PySem.W.nsIn K mainGlobals x = some (some u) ∧ RelV w u ∧ ∀ φ H, RepV K φ H v w
theorem glk_int {K : PySem.W.Frag} {x : Str} {n : Int} {t : Tok} (a : PySem.W.nsIn K mainGlobals x = some (some (.int n t))) : GlK K x (.int n) := ⟨_, .int n, a, ⟨_, rfl⟩, fun _ _ => .int _⟩
theorem glk_str {K : PySem.W.Frag} {x : Str} {n : Str} {t : Tok} (a : PySem.W.nsIn K mainGlobals x = some (some (.str n t))) : GlK K x (.str n) := ⟨_, .str n, a, ⟨_, rfl⟩, fun _ _ => .str _⟩
def GlKs (K : PySem.W.Frag) : List Str → List TV → Prop
  | x :: xs, v :: vs => GlK K x v ∧ GlKs K xs vs
  | _, _ => True
theorem Bnds.at_ : ∀ {P : List Df} {i : Nat} {d : Df}, Bnds P → P[i]? = some d → Bnd d
  | [], _, _, _, e => by simp at e
  | _ :: _, 0, _, h, e => by simp at e; subst e; exact h.1
  | _ :: _, i + 1, _, h, e => Bnds.at_ (i := i) h.2 (by simpa using e)
section
variable {K : PySem.W.Frag}
theorem FnKs.at_ : ∀ {P : List Df} {i : Nat} {d : Df}, FnKs K P → P[i]? = some d → FnK K d
  | [], _, _, _, e => by simp at e
  | _ :: _, 0, _, h, e => by simp at e; subst e; exact h.1
  | _ :: _, i + 1, _, h, e => FnKs.at_ (i := i) h.2 (by simpa using e)
theorem NoKs.at_ : ∀ {l : List Str} {x : Str}, NoKs K l → x ∈ l → PySem.W.nsIn K mainGlobals x = some none
  | [], _, _, h => by cases h
  | y :: l, x, h, m => by
    rcases List.mem_cons.mp m with e | m
    · rw [e]; exact h.1
    · exact NoKs.at_ h.2 m
theorem GlKs.at_ : ∀ {xs : List Str} {vs : List TV} {i : Nat} {x : Str} {v : TV}, GlKs K xs vs → xs[i]? = some x → vs[i]? = some v → GlK K x v
  | [], _, _, _, _, _, e, _ => by simp at e
  | _ :: _, [], _, _, _, _, _, e => by simp at e
  | _ :: _, _ :: _, 0, _, _, h, e, e2 => by simp at e e2; subst e e2; exact h.1
  | _ :: _, _ :: _, i + 1, _, _, h, e, e2 => GlKs.at_ (i := i) h.2 (by simpa using e) (by simpa using e2)
end
/-- the facts of a text, at the heap behind the top -/
structure Facts (K : PySem.W.Frag) (mg : Str → Option Value) (P : List Df) (gs : List Str) (G : List TV) : Prop where
  fs : FnKs K P
  bn : Bnds P
  no : ∀ x ∈ bltNames, mg x = none
  gl : ∀ (i : Nat) (x : Str) (v : TV), gs[i]? = some x → G[i]? = some v → ∃ u w, mg x = some u ∧ RelV w u ∧ ∀ φ H, RepV K φ H v w
  mg : ∀ x u, PySem.W.nsIn K mainGlobals x = some (some u) → mg x = some u
theorem facts_mk {K : PySem.W.Frag} {h : Heap} {mg : Str → Option Value} {P : List Df} {gs : List Str} {G : List TV} (X : K.In h) (N : h.Ns mainGlobals mg) (fs : FnKs K P) (bn : Bnds P) (no : NoKs K bltNames) (gl : GlKs K gs G) : Facts K mg P gs G :=
  ⟨fs, bn, fun x m => PySem.W.mg_none_of X N (no.at_ m), fun i x v e1 e2 => by
    obtain ⟨u, w, h1, h2, h3⟩ := gl.at_ e1 e2
    exact ⟨u, w, PySem.W.mg_of X N h1, h2, h3⟩, fun x u e => PySem.W.mg_of X N e⟩
theorem rep_start {K : PySem.W.Frag} {φ : List Addr} {H : Hp} {xs : List TV} {vs : List V} (h : RepVs K φ H xs vs) (N : List Str) : RepE K φ H (startE N.length xs) (L2.start N vs) := by
  unfold startE L2.start
  refine ⟨by simp [h.length], fun i x e => ?_⟩
  by_cases hi : i < xs.length
  · rw [List.getElem?_append_left (by simpa using hi), List.getElem?_map] at e
    rw [List.getElem?_append_left (by rw [List.length_map, ← h.length]; exact hi), List.getElem?_map]
    cases g : xs[i]? with
    | none => rw [g] at e; cases e
    | some y =>
      rw [g] at e
      cases e
      obtain ⟨w, h1, h2⟩ := h.get g
      exact ⟨w, by rw [h1]; rfl, h2⟩
  · rw [List.getElem?_append_right (by simpa using hi), List.getElem?_replicate] at e
    split at e <;> cases e
section
variable {Pr : Program} {w : World} {K : PySem.W.Frag} {mg : Str → Option Value} {base : Heap} {P : List Df} {gs : List Str} {G : List TV}
/-- THE WALK: every def does what the evaluator does -/
theorem all_ok (F : Facts K mg P gs G) (ck : chkP P gs = true) : ∀ (n i : Nat) (d : Df), P[i]? = some d → ∀ (f : Addr) (od an : Option Addr) (sl : Array (Option Value)) (oc kV doc pm cd ct : Value),
    K.lookup f = some ⟨oc, od, .func (PySem.W.fnOf d.x d.x (defArgs d.st) (defBody d.st) (defScope d.st) .none kV doc pm an cd ct), sl⟩ → PySem.W.codeIn K cd d.x = true → PySem.W.keepIn K (.ref f) = true →
    FnOk Pr w K mg base CX0 n f (PySem.W.fnOf d.x d.x (defArgs d.st) (defBody d.st) (defScope d.st) .none kV doc pm an cd ct) d.ps (spOf K (callN (P.map Df.fn) G n) i d.ps.length)
  | n, i, d, hd, f, od, an, sl, oc, kV, doc, pm, cd, ct, h2, h3, h4 => by
    have Fn := fun_mk (st := d.st) h2 h3 h4
    have ckd : chkD (pcOf P gs) d = true := List.all_eq_true.mp ck d (List.mem_of_getElem? hd)
    unfold chkD at ckd
    rw [Bool.and_eq_true] at ckd
    have sc := scC_ok ckd.1
    cases n with
    | zero =>
      refine ⟨fun vs H Q E h => ?_, fun A outer s H args us vs Q E hr e0 hbd hv h => ?_⟩
      · obtain ⟨φ, S, xs, x, S', _, _, _, e, _⟩ := h
        cases e
      · obtain ⟨φ, S, xs, x, S', _, _, _, e, _⟩ := h
        cases e
    | succ n =>
      refine Fn.ok sc (fun vs H Q E h => ?_) fun cdv A outer s H vs Q E hr h => ?_
      · obtain ⟨φ, S, xs, x, S', _, _, l, _⟩ := h
        exact l
      · obtain ⟨φ, S, xs, x, S', rel, rv, hl, ev, q⟩ := h
        have good : GoodX (pcOf P gs) n (callN (P.map Df.fn) G n) G (cxOf CX0 Pr w K mg base d.N d.x (defScope d.st) f cdv A outer s H E).nox ⟨d.N, defScope d.st, none⟩ := by
          refine ⟨rfl, rfl, fun _ => rfl, rfl, sc.nd, hr, rfl, fun j y np e => ?_, F.gl, F.no⟩
          have e' : (P.map fun d => (d.x, d.ps.length))[j]? = some (y, np) := e
          rw [List.getElem?_map] at e'
          obtain ⟨d2, e1, e2⟩ := Option.map_eq_some_iff.mp e'
          cases e2
          obtain ⟨f2, od2, an2, sl2, oc2, kV2, doc2, pm2, cd2, ct2, k1, k2, k3, k4⟩ := F.fs.at_ e1
          exact ⟨f2, _, d2.ps, all_ok F ck n j d2 e1 f2 od2 an2 sl2 oc2 kV2 doc2 pm2 cd2 ct2 k2 k3 k4, F.mg _ _ k1, k4, (fun_mk (st := d2.st) k2 k3 k4).binds (F.bn.at_ e1)⟩
        refine ⟨_, okSs d.body _ _ _ good ckd.2, φ, S, startE d.N.length xs, rel, rep_start rv d.N, ?_⟩
        have ev : (match (P.map Df.fn)[i]? with | some d => runF (callN (P.map Df.fn) G n) G d xs S | none => .err) = R.ok x S' := ev
        rw [List.getElem?_map, hd] at ev
        have ev : (bif xs.length.beq d.ps.length then (evSs (callN (P.map Df.fn) G n) G d.body (startE d.N.length xs) S).out else .err) = R.ok x S' := ev
        rw [show xs.length.beq d.ps.length = true by rw [rv.length, hl]; exact Nat.beq_refl _, cond_true] at ev
        cases e : evSs (callN (P.map Df.fn) G n) G d.body (startE d.N.length xs) S with
        | nx ρ S2 =>
          rw [e] at ev
          cases ev
          exact fun φ' H' x' r' σ' _ => q φ' H' x' r' .non .non
        | ret y S2 =>
          rw [e] at ev
          cases ev
          exact fun φ' H' x' r' v hv => q φ' H' x' r' v hv
        | brk _ _ => rw [e] at ev; cases ev
        | cnt _ _ => rw [e] at ev; cases ev
        | err => rw [e] at ev; cases ev
  termination_by n => n
/-- what the law's def promises -/
def lawSp (K : PySem.W.Frag) (P : List Df) (G : List TV) (n i : Nat) : Sp := spOf K (callN (P.map Df.fn) G n) i 1
theorem law_mk {h : Heap} {l : PySem.W.OpenLaw} {fa : Addr} {d : Df} {x : Str} {n i : Nat} (X : K.In h) (N : h.Ns mainGlobals mg) (fs : FnKs K P) (bn : Bnds P) (no : NoKs K bltNames) (gl : GlKs K gs G) (ck : chkP P gs = true) (hd : P[i]? = some d) (hx : d.ps = [x]) (hfa : mg d.x = some (.ref fa)) :
    ∃ fd : FuncData, (∀ (s : Shared) (u : Value), BindsTo s fd ⟨[u], []⟩ [(x, u)]) ∧ ∀ base : Heap, K.In base → base.Ns mainGlobals mg → FnOk l.prog w K mg base CX0 n fa fd [x] (lawSp K P G n i) := by
  have F := facts_mk X N fs bn no gl
  obtain ⟨f, od, an, sl, oc, kV, doc, pm, cd, ct, h1, h2, h3, h4⟩ := F.fs.at_ hd
  have e := (F.mg _ _ h1).symm.trans hfa
  cases e
  refine ⟨PySem.W.fnOf d.x d.x (defArgs d.st) (defBody d.st) (defScope d.st) .none kV doc pm an cd ct, fun s v => .of_eq ?_, fun base _ _ => ?_⟩
  · have := F.bn.at_ hd kV doc pm an cd ct [v] (by rw [hx]; rfl)
    rw [hx] at this
    exact this
  · have q := all_ok (Pr := l.prog) (w := w) (base := base) F ck n i d hd fa od an sl oc kV doc pm cd ct h2 h3 h4
    rw [hx] at q
    exact q
theorem rep_ints {φ : List Addr} {H : Hp} : ∀ ns : List Int, RepVs K φ H (ns.map TV.int) (ns.map V.int)
  | [] => .nil
  | n :: ns => .cons (.int n) (rep_ints ns)
/-- the law's own list at its entry -/
theorem law_sp {n i : Nat} {H : Hp} {a : Addr} {ns : List Int} {S' : Sto} (hO : Only H) (hS : SqL K H a (ns.map V.int)) (ev : callN (P.map Df.fn) G n i [.fz (ns.map TV.int)] ⟨0, .nil⟩ = .ok (.v (.bl true)) S') :
    lawSp K P G n i [.ref a] H (fun v _ => v = .bl true) fun _ _ _ => False := by
  have fz : FzL K H a (ns.map V.int) := by
    rcases hS with (h | h) | h
    · rcases hO a with z | ⟨o, xs, z⟩
      · rw [h] at z; cases z
      · rw [h] at z; cases z
    · exact .inl h
    · exact .inr h
  refine ⟨[], ⟨0, .nil⟩, [.fz (ns.map TV.int)], _, S', ⟨rfl, fun i j a h => by simp at h, fun n a h => by simp at h⟩, .cons (.fz fz (rep_ints ns)) .nil, rfl, ev, fun φ' H' _ _ w hw => ?_⟩
  cases hw
  rfl
end
end Ev

/-! Pl: running the evaluator on values that are partly known. -/
namespace Ev
open PySem
/-- by a proof that simp takes as an equation (the checker must not unfold what stands behind) -/
theorem bok {α β : Type} (a : α) (S : Sto) (f : α → Sto → R β) : (R.ok a S).bind f = f a S := id rfl
theorem ofs {α : Type} (a : α) (S : Sto) : R.of (some a) S = .ok a S := id rfl
/-- a walk that yields these, the store as it stands -/
inductive Walks (S : Sto) : Itb → List TV → Prop
  | nil {b : Itb} : b.next S = some none → Walks S b []
  | cons {b b' : Itb} {x : TV} {xs : List TV} : b.next S = some (some (x, b')) → Walks S b' xs → Walks S b (x :: xs)
theorem walks_ts {S : Sto} : ∀ l : List TV, Walks S (.one (.ts l)) l
  | [] => .nil rfl
  | x :: l => .cons rfl (walks_ts l)
theorem li_next {S : Sto} {n i : Nat} {l : List TV} (h : S.get n = some (.lst l)) (hi : i ≤ l.length) : (Src.li n i).next S = some ((l[i]?).map fun x => (x, .li n (i + 1))) := by
  show (match S.get n with | some (.lst l) => (bif i.ble l.length then some ((l[i]?).map fun x => (x, Src.li n (i + 1))) else none) | some (.frz l) => _ | none => none) = _
  rw [h]
  show (bif i.ble l.length then _ else _) = _
  rw [show i.ble l.length = true from Nat.ble_eq_true_of_le hi]
  rfl
theorem walks_li {S : Sto} {n : Nat} {l : List TV} (h : S.get n = some (.lst l)) : ∀ (r : List TV) (i : Nat), l.drop i = r → i ≤ l.length → Walks S (.one (.li n i)) r
  | [], i, e, hi => .nil (by
      have : l.length ≤ i := List.drop_eq_nil_iff.mp e
      show ((Src.li n i).next S).map _ = _
      rw [li_next h hi, List.getElem?_eq_none this]
      rfl)
  | x :: r, i, e, hi => by
    have hlt : i < l.length := by
      apply Nat.lt_of_not_le
      intro q
      rw [List.drop_eq_nil_of_le q] at e
      cases e
    rw [List.drop_eq_getElem_cons hlt] at e
    injection e with e1 e2
    refine .cons (b' := .one (.li n (i + 1))) ?_ (walks_li h r (i + 1) e2 hlt)
    show ((Src.li n i).next S).map _ = _
    rw [li_next h hi, List.getElem?_eq_getElem hlt, e1]
    rfl
/-- what a value's walk yields -/
theorem srcOf_walks {S : Sto} {x : TW} {l : List TV} (h : seqS S x = some l) (hf : ∀ n k, x = .v (.ref n) → S.get n ≠ some (.frz k)) : ∃ s, srcOf S x = some s ∧ Walks S (.one s) l ∧ l.length ≤ s.many S := by
  unfold seqS at h
  split at h
  · cases h; exact ⟨_, rfl, walks_ts l, Nat.le_refl _⟩
  · cases h; exact ⟨_, rfl, walks_ts l, Nat.le_refl _⟩
  · cases h; exact ⟨_, rfl, walks_ts l, Nat.le_refl _⟩
  · rename_i n
    split at h
    · rename_i g
      cases h
      refine ⟨.li n 0, by simp only [srcOf, g], walks_li g l 0 (List.drop_zero) (Nat.zero_le _), ?_⟩
      simp only [Src.many, g]
      omega
    · rename_i g
      exact absurd g (hf n _ rfl)
    · cases h
  · cases h
theorem rngL_succ (a : Int) (n : Nat) : rngL a (n + 1) = .int a :: rngL (a + 1) n := by
  unfold rngL
  rw [List.range_succ_eq_map, List.map_cons, List.map_map]
  refine congr (congrArg List.cons (by simp)) (List.map_congr_left fun i _ => ?_)
  show TV.int (a + ((i + 1 : Nat) : Int)) = TV.int (a + 1 + (i : Int))
  congr 1
  omega
theorem walks_rng {S : Sto} : ∀ (n : Nat) (a : Int), Walks S (.rng a 1 n) (rngL a n)
  | 0, a => .nil rfl
  | n + 1, a => by
    rw [rngL_succ]
    exact .cons rfl (walks_rng n (a + 1))
theorem walks_zip {S : Sto} : ∀ {xs ys : List TV} {s t : Src}, Walks S (.one s) xs → Walks S (.one t) ys → Walks S (.zip2 s t) ((xs.zip ys).map fun p => .tup [p.1, p.2])
  | [], ys, s, t, h1, h2 => by
    cases h1 with | nil e =>
    refine .nil ?_
    have e : s.next S = some none := by
      show _ = _
      simp only [Itb.next] at e
      cases q : s.next S with
      | none => rw [q] at e; cases e
      | some o => rw [q] at e; cases o <;> first | rfl | cases e
    simp only [Itb.next, e, Option.bind_some]
    cases h2 with
    | nil e2 =>
      simp only [Itb.next] at e2
      cases q : t.next S with
      | none => rw [q] at e2; cases e2
      | some o => rfl
    | cons e2 _ =>
      simp only [Itb.next] at e2
      cases q : t.next S with
      | none => rw [q] at e2; cases e2
      | some o => rfl
  | x :: xs, [], s, t, h1, h2 => by
    cases h1 with | cons e _ =>
    cases h2 with | nil e2 =>
    refine .nil ?_
    simp only [Itb.next] at e e2 ⊢
    cases q : s.next S with
    | none => rw [q] at e; cases e
    | some o =>
      cases q2 : t.next S with
      | none => rw [q2] at e2; cases e2
      | some o2 =>
        rw [q2] at e2
        cases o2 with
        | none => cases o <;> rfl
        | some _ => cases e2
  | x :: xs, y :: ys, s, t, h1, h2 => by
    cases h1 with | cons e w1 =>
    cases h2 with | cons e2 w2 =>
    simp only [Itb.next] at e e2
    cases q : s.next S with
    | none => rw [q] at e; cases e
    | some o =>
      cases o with
      | none => rw [q] at e; cases e
      | some p =>
        rw [q] at e
        cases q2 : t.next S with
        | none => rw [q2] at e2; cases e2
        | some o2 =>
          cases o2 with
          | none => rw [q2] at e2; cases e2
          | some p2 =>
            rw [q2] at e2
            cases e; cases e2
            refine .cons (b' := .zip2 p.2 p2.2) ?_ (walks_zip w1 w2)
            simp only [Itb.next, q, q2, Option.bind_some, Option.map_some]
def enumL : Nat → List TV → List TV
  | _, [] => []
  | i, x :: r => .tup [.int i, x] :: enumL (i + 1) r
theorem walks_enum {S : Sto} : ∀ {xs : List TV} {s : Src} (i : Nat), Walks S (.one s) xs → Walks S (.enum i s) (enumL i xs)
  | [], s, i, h => by
    cases h with | nil e =>
    refine .nil ?_
    simp only [Itb.next] at e ⊢
    cases q : s.next S with
    | none => rw [q] at e; cases e
    | some o => rw [q] at e; cases o <;> first | rfl | cases e
  | x :: xs, s, i, h => by
    cases h with | cons e w =>
    simp only [Itb.next] at e
    cases q : s.next S with
    | none => rw [q] at e; cases e
    | some o =>
      cases o with
      | none => rw [q] at e; cases e
      | some p =>
        rw [q] at e
        cases e
        refine .cons (b' := .enum (i + 1) p.2) ?_ (walks_enum (i + 1) w)
        simp only [Itb.next, q, Option.map_some]
/-- a comprehension that touches no store -/
theorem compGo_pure {tg : TV → Env → Sto → R Env} {cs : Env → Sto → R Bool} {el : Env → Sto → R TV} {ρ : Env} {S : Sto} {c : TV → Bool} {y : TV → TV} : ∀ {xs : List TV} {b : Itb} (k : Nat) (acc : List TV), Walks S b xs → xs.length < k → acc.length + xs.length ≤ sizeLine →
    (∀ x ∈ xs, ∃ ρ', tg x ρ S = .ok ρ' S ∧ cs ρ' S = .ok (c x) S ∧ (c x = true → el ρ' S = .ok (y x) S)) → compGo tg cs el ρ k b acc S = .ok (acc ++ (xs.filter c).map y) S
  | [], b, 0, acc, _, hk, _, _ => by cases hk
  | [], b, k + 1, acc, w, _, _, _ => by
    cases w with | nil e =>
    unfold compGo
    rw [e]
    simp
  | x :: xs, b, 0, acc, _, hk, _, _ => by cases hk
  | x :: xs, b, k + 1, acc, w, hk, hz, h => by
    cases w with | cons e w =>
    obtain ⟨ρ', h1, h2, h3⟩ := h x List.mem_cons_self
    unfold compGo
    rw [e]
    simp only [h1, R.bind_ok, h2]
    have hk' : xs.length < k := by simpa using hk
    rw [List.length_cons] at hz
    cases hc : c x with
    | false =>
      rw [cond_false, compGo_pure k acc w hk' (by omega) fun z hz => h z (List.mem_cons_of_mem _ hz), List.filter_cons_of_neg (by rw [hc]; exact Bool.false_ne_true)]
    | true =>
      rw [cond_true, h3 hc]
      have : acc.length.blt sizeLine = true := Nat.ble_eq_true_of_le (by omega)
      rw [R.bind_ok, this, cond_true, compGo_pure k (acc ++ [y x]) w hk' (by simp; omega) fun z hz => h z (List.mem_cons_of_mem _ hz), List.filter_cons_of_pos hc]
      simp
theorem bls_map {α : Type} (f : α → Bool) : ∀ l : List α, bls? (l.map fun x => TV.bl (f x)) = some (l.map f)
  | [] => rfl
  | x :: l => by
    show (bls? (l.map fun x => TV.bl (f x))).map (f x :: ·) = _
    rw [bls_map f l]
    rfl
section
variable {C : Call} {G : List TV} {ρ : Env} {S S' : Sto}
theorem comp_eq {own : List Nat} {tg : Tg} {it : It} {cs : Es} {e : E} {b : Itb} {xs : List TV} (c : TV → Bool) (y : TV → TV) (hi : evI C G it ρ S = .ok b S) (w : Walks S b xs) (hm : xs.length ≤ b.many S) (hz : xs.length ≤ sizeLine)
    (h : ∀ x ∈ xs, ∃ ρ', asT C G tg x (wipe ρ own) S = .ok ρ' S ∧ evC C G cs ρ' S = .ok (c x) S ∧ (c x = true → evE C G e ρ' S = .ok (.v (y x)) S)) :
    evE C G (.comp own tg it cs e) ρ S = .ok (.fr ((xs.filter c).map y)) S := by
  show (evI C G it ρ S).bind _ = _
  rw [hi]
  show (compGo _ _ _ (wipe ρ own) (b.many S + 1) b [] S).bind _ = _
  rw [compGo_pure (c := c) (y := y) (b.many S + 1) [] w (by omega) (by simpa using hz) fun x hx => ?_]
  · rfl
  · obtain ⟨ρ', h1, h2, h3⟩ := h x hx
    refine ⟨ρ', h1, h2, fun hc => ?_⟩
    show (evE C G e ρ' S).bind _ = _
    rw [h3 hc]
    rfl
end
/-- a value that is no dangling place -/
def OkV (S : Sto) (x : TV) : Prop := ∀ n, x = .ref n → ∃ l, S.get n = some (.lst l)
def isI : TV → Bool
  | .int _ => true
  | _ => false
def isB : TV → Bool
  | .bl _ => true
  | _ => false
def isTup : TV → Bool
  | .tup _ => true
  | _ => false
theorem ty_int {S : Sto} {x : TV} (h : OkV S x) : isTy [.int] (.v x) S = .ok (.v (.bl (isI x || isB x))) S := by
  cases x <;> first | rfl | skip
  obtain ⟨l, e⟩ := h _ rfl
  simp only [isTy, tyOne, e, List.any_cons, List.any_nil, tyIs]
  rfl
theorem ty_bool {S : Sto} {x : TV} (h : OkV S x) : isTy [.bool] (.v x) S = .ok (.v (.bl (isB x))) S := by
  cases x <;> first | rfl | skip
  obtain ⟨l, e⟩ := h _ rfl
  simp only [isTy, tyOne, e, List.any_cons, List.any_nil, tyIs]
  rfl
theorem ty_tup {S : Sto} {x : TV} (h : OkV S x) : isTy [.tuple] (.v x) S = .ok (.v (.bl (isTup x))) S := by
  cases x <;> first | rfl | skip
  obtain ⟨l, e⟩ := h _ rfl
  simp only [isTy, tyOne, e, List.any_cons, List.any_nil, tyIs]
  rfl
theorem eq_int {S : Sto} (i j : Int) : cmpop .eq (.v (.int i)) (.v (.int j)) S = .ok (decide (i = j)) S := rfl
theorem ne_int {S : Sto} (i j : Int) : cmpop .ne (.v (.int i)) (.v (.int j)) S = .ok (!decide (i = j)) S := rfl
theorem eq_bl {S : Sto} (i j : Bool) : cmpop .eq (.v (.bl i)) (.v (.bl j)) S = .ok (decide (i = j)) S := by
  cases i <;> cases j <;> rfl
theorem ne_bl {S : Sto} (i j : Bool) : cmpop .ne (.v (.bl i)) (.v (.bl j)) S = .ok (!decide (i = j)) S := by
  cases i <;> cases j <;> rfl
/-! ### walks that no store changes; loops with a store -/
inductive WalkA : Itb → List TV → Prop
  | nil {b : Itb} : (∀ S, b.next S = some none) → WalkA b []
  | cons {b b' : Itb} {x : TV} {xs : List TV} : (∀ S, b.next S = some (some (x, b'))) → WalkA b' xs → WalkA b (x :: xs)
theorem walkA_ts : ∀ l : List TV, WalkA (.one (.ts l)) l
  | [] => .nil fun _ => rfl
  | x :: l => .cons (fun _ => rfl) (walkA_ts l)
theorem walkA_enum : ∀ (l : List TV) (i : Nat), WalkA (.enum i (.ts l)) (enumL i l)
  | [], _ => .nil fun _ => rfl
  | x :: l, i => .cons (fun _ => rfl) (walkA_enum l (i + 1))
theorem walkA_rng : ∀ (n : Nat) (a : Int), WalkA (.rng a 1 n) (rngL a n)
  | 0, a => .nil fun _ => rfl
  | n + 1, a => by
    rw [rngL_succ]
    exact .cons (fun _ => rfl) (walkA_rng n (a + 1))
theorem walkA_zip : ∀ xs ys : List TV, WalkA (.zip2 (.ts xs) (.ts ys)) ((xs.zip ys).map fun p => .tup [p.1, p.2])
  | [], [] => .nil fun _ => rfl
  | [], _ :: _ => .nil fun _ => rfl
  | _ :: _, [] => .nil fun _ => rfl
  | x :: xs, y :: ys => .cons (fun _ => rfl) (walkA_zip xs ys)
theorem enumL_len : ∀ (l : List TV) (i : Nat), (enumL i l).length = l.length
  | [], _ => rfl
  | _ :: l, i => congrArg (· + 1) (enumL_len l (i + 1))
theorem rngL_len (a : Int) (n : Nat) : (rngL a n).length = n := by simp [rngL]
def RS (r : SR) (N : Env → Sto → Prop) (T : TW → Sto → Prop) : Prop := match r with
  | .nx ρ S => N ρ S
  | .ret w S => T w S
  | _ => False
theorem for_run {tg : TV → Env → Sto → R Env} {bd : Env → Sto → SR} {N : Env → Sto → Prop} {T : TW → Sto → Prop} (I : List TV → Env → Sto → Prop)
    (hs : ∀ x r ρ S, I (x :: r) ρ S → ∃ ρ' S', tg x ρ S = .ok ρ' S' ∧ RS (bd ρ' S') (fun ρ S => I r ρ S) T) (he : ∀ ρ S, I [] ρ S → N ρ S) :
    ∀ {xs : List TV} {b : Itb} {k : Nat} {ρ : Env} {S : Sto}, WalkA b xs → xs.length < k → I xs ρ S → RS (forGo tg bd k b ρ S) N T
  | [], b, 0, ρ, S, _, hk, _ => by cases hk
  | [], b, k + 1, ρ, S, w, _, h => by
    cases w with | nil e =>
    unfold forGo
    rw [e]
    exact he ρ S h
  | x :: xs, b, 0, ρ, S, _, hk, _ => by cases hk
  | x :: xs, b, k + 1, ρ, S, w, hk, h => by
    cases w with | cons e w =>
    obtain ⟨ρ', S', e1, h1⟩ := hs x xs ρ S h
    unfold forGo
    rw [e]
    simp only [e1]
    cases eb : bd ρ' S' with
    | nx ρ2 S2 => rw [eb] at h1; exact for_run I hs he w (by simpa using hk) h1
    | ret w2 S2 => rw [eb] at h1; exact h1
    | brk _ _ => rw [eb] at h1; exact h1.elim
    | cnt _ _ => rw [eb] at h1; exact h1.elim
    | err => rw [eb] at h1; exact h1.elim
theorem comp_run {tg : TV → Env → Sto → R Env} {cs : Env → Sto → R Bool} {el : Env → Sto → R TV} {ρ : Env} (I : List TV → List TV → Sto → Prop)
    (hs : ∀ x r acc S, I (x :: r) acc S → ∃ ρ' S1 t S2, tg x ρ S = .ok ρ' S1 ∧ cs ρ' S1 = .ok t S2 ∧ (t = false → I r acc S2) ∧ (t = true → ∃ y S3, el ρ' S2 = .ok y S3 ∧ I r (acc ++ [y]) S3)) :
    ∀ {xs : List TV} {b : Itb} {k : Nat} {acc : List TV} {S : Sto}, WalkA b xs → xs.length < k → acc.length + xs.length ≤ sizeLine → I xs acc S → ∃ l S', compGo tg cs el ρ k b acc S = .ok l S' ∧ I [] l S'
  | [], b, 0, acc, S, _, hk, _, _ => by cases hk
  | [], b, k + 1, acc, S, w, _, _, h => by
    cases w with | nil e =>
    unfold compGo
    rw [e]
    exact ⟨acc, S, rfl, h⟩
  | x :: xs, b, 0, acc, S, _, hk, _, _ => by cases hk
  | x :: xs, b, k + 1, acc, S, w, hk, hz, h => by
    cases w with | cons e w =>
    obtain ⟨ρ', S1, t, S2, e1, e2, h1, h2⟩ := hs x xs acc S h
    rw [List.length_cons] at hz hk
    unfold compGo
    rw [e]
    simp only [e1, R.bind_ok, e2]
    cases t with
    | false =>
      rw [cond_false]
      exact comp_run I hs w (by omega) (by omega) (h1 rfl)
    | true =>
      obtain ⟨y, S3, e3, h3⟩ := h2 rfl
      have : acc.length.blt sizeLine = true := Nat.ble_eq_true_of_le (by omega)
      rw [cond_true, e3, R.bind_ok, this, cond_true]
      exact comp_run I hs w (by omega) (by simp; omega) h3
theorem OkV.of {S : Sto} {x : TV} (h : ∀ n, x ≠ .ref n) : OkV S x := fun n e => absurd e (h n)
theorem okv_int {S : Sto} {i : Int} : OkV S (.int i) := .of fun _ z => nomatch z
theorem okv_tup {S : Sto} {l : List TV} : OkV S (.tup l) := .of fun _ z => nomatch z
theorem asT_var {C : Call} {G : List TV} (i : Nat) (x : TV) (ρ : Env) (S : Sto) : asT C G (.var i) x ρ S = .ok (ρ.set i (some x)) S := rfl
theorem asT_tup {C : Call} {G : List TV} (ts : Tgs) (l : List TV) (ρ : Env) (S : Sto) : asT C G (.tup ts) (.tup l) ρ S = asTs C G ts l ρ S := rfl
theorem asTs_nil {C : Call} {G : List TV} (ρ : Env) (S : Sto) : asTs C G .nil [] ρ S = .ok ρ S := rfl
theorem asTs_cons {C : Call} {G : List TV} (t : Tg) (r : Tgs) (x : TV) (l : List TV) (ρ : Env) (S : Sto) : asTs C G (.cons t r) (x :: l) ρ S = (asT C G t x ρ S).bind fun ρ S => asTs C G r l ρ S := rfl
theorem asT_sub {C : Call} {G : List TV} (o i : E) (x : TV) (ρ : Env) (S : Sto) : asT C G (.sub o i) x ρ S = (evE C G o ρ S).bind fun a S => (evE C G i ρ S).bind fun b S => match setIx a b x S with | some S => .ok ρ S | none => .err := rfl
/-! ### what stands often -/
theorem comp_map {C : Call} {G : List TV} {ρ : Env} {S : Sto} {own : List Nat} {tg : Tg} {it : It} {e : E} {b : Itb} {xs : List TV} (y : TV → TV) (hi : evI C G it ρ S = .ok b S) (w : Walks S b xs) (hm : xs.length ≤ b.many S) (hz : xs.length ≤ sizeLine)
    (h : ∀ x ∈ xs, ∃ ρ', asT C G tg x (wipe ρ own) S = .ok ρ' S ∧ evE C G e ρ' S = .ok (.v (y x)) S) :
    evE C G (.comp own tg it .nil e) ρ S = .ok (.fr (xs.map y)) S := by
  have q := comp_eq (own := own) (tg := tg) (cs := .nil) (e := e) (fun _ => true) y hi w hm hz fun x hx => by
    obtain ⟨ρ', h1, h2⟩ := h x hx
    exact ⟨ρ', h1, rfl, fun _ => h2⟩
  rw [q, List.filter_eq_self.mpr fun _ _ => rfl]
theorem all_eq {S : Sto} (f : TV → Bool) (xs : List TV) : bifn .all [.fr (xs.map fun x => .bl (f x))] S = .ok (.v (.bl (xs.all f))) S := by
  show (match (lstS S (.fr (xs.map fun x => TV.bl (f x)))).bind bls? with | some l => R.ok (TW.v (.bl (l.all id))) S | none => .err) = _
  simp only [lstS, Option.bind_some, bls_map, List.all_map]
  rfl
theorem mapO_ints (k : Nat) (S : Sto) : ∀ a : List Int, mapO (fun x => den k S x) (a.map .int) = some (a.map PyData.int)
  | [] => rfl
  | i :: a => by
    show (den k S (.int i)).bind (fun y => (mapO (fun x => den k S x) (a.map .int)).map (y :: ·)) = _
    rw [mapO_ints k S a]
    cases k <;> rfl
theorem eqvAll_ints : ∀ a b : List Int, PyData.eqvAll (a.map .int) (b.map .int) = decide (a = b)
  | [], [] => rfl
  | [], _ :: _ => rfl
  | _ :: _, [] => rfl
  | x :: a, y :: b => by
    show ((x == y) && PyData.eqvAll (a.map .int) (b.map .int)) = _
    rw [eqvAll_ints a b]
    by_cases h : x = y
    · subst h
      by_cases h2 : a = b
      · subst h2; simp
      · simp [h2]
    · simp [h]
theorem eq_frI {S : Sto} (a b : List Int) : cmpop .eq (.fr (a.map .int)) (.fr (b.map .int)) S = .ok (decide (a = b)) S := by
  show (match denW S (.fr (a.map .int)), denW S (.fr (b.map .int)) with | some d, some e => R.ok (PyData.eqv d e) S | _, _ => .err) = _
  simp only [denW, mapO_ints, Option.map_some]
  show R.ok (PyData.eqvAll _ _) S = _
  rw [eqvAll_ints]
theorem ints_map : ∀ a : List Int, ints? (a.map .int) = some a
  | [] => rfl
  | i :: a => by
    show (ints? (a.map .int)).map (i :: ·) = _
    rw [ints_map a]
    rfl
def rngZ (n : Nat) : List Int := (List.range n).map fun (i : Nat) => (0 : Int) + (i : Int)
theorem rngL_Z (n : Nat) : rngL 0 n = (rngZ n).map .int := by simp [rngL, rngZ]
def zp (xs ys : List TV) : List TV := (xs.zip ys).map fun p => .tup [p.1, p.2]
theorem zp_cons (x y : TV) (xs ys : List TV) : zp (x :: xs) (y :: ys) = .tup [x, y] :: zp xs ys := rfl
theorem zp_nil (ys : List TV) : zp [] ys = [] := by simp [zp]
theorem zp_nil2 (xs : List TV) : zp xs [] = [] := by simp [zp]
theorem zp_len (xs ys : List TV) : (zp xs ys).length ≤ xs.length := by simp [zp]; exact Nat.min_le_left _ _
theorem zp_mem : ∀ {xs ys : List TV} {p : TV}, p ∈ zp xs ys → ∃ x y, p = .tup [x, y] ∧ x ∈ xs ∧ y ∈ ys
  | [], ys, p, h => by rw [zp_nil] at h; cases h
  | _ :: _, [], p, h => by rw [zp_nil2] at h; cases h
  | x :: xs, y :: ys, p, h => by
    rw [zp_cons] at h
    rcases List.mem_cons.mp h with e | e
    · exact ⟨x, y, e, List.mem_cons_self, List.mem_cons_self⟩
    · obtain ⟨a, b, h1, h2, h3⟩ := zp_mem e
      exact ⟨a, b, h1, List.mem_cons_of_mem _ h2, List.mem_cons_of_mem _ h3⟩
theorem walks_A {S : Sto} {b : Itb} {xs : List TV} (w : WalkA b xs) : Walks S b xs := by
  induction w with
  | nil h => exact .nil (h S)
  | cons h _ ih => exact .cons (h S) ih
def intsOf : List TV → List Int
  | [] => []
  | .int i :: r => i :: intsOf r
  | _ :: r => intsOf r
theorem ints_of : ∀ {l : List TV}, l.all isI = true → l = (intsOf l).map .int
  | [], _ => rfl
  | x :: r, h => by
    rw [List.all_cons, Bool.and_eq_true] at h
    cases x with
    | int i => exact congrArg (TV.int i :: ·) (ints_of h.2)
    | _ => cases h.1
theorem ints_no : ∀ {l : List TV}, l.all isI = false → ints? l = none
  | [], h => by cases h
  | x :: r, h => by
    cases x with
    | int i =>
      rw [List.all_cons, show isI (.int i) = true from rfl, Bool.true_and] at h
      show (ints? r).map (i :: ·) = none
      rw [ints_no h]
      rfl
    | _ => rfl
theorem small_sz {n : Nat} (h : n ≤ 1000) : n ≤ sizeLine := Nat.le_trans h (by decide)
theorem all_eq1 {S : Sto} (f : TV → Bool) (xs : List TV) : bif1 .all (.fr (xs.map fun x => .bl (f x))) S = .ok (.v (.bl (xs.all f))) S := all_eq f xs
theorem len_tup {S : Sto} (l : List TV) : bifn .len [.v (.tup l)] S = .ok (.v (.int l.length)) S := rfl
theorem len_fr {S : Sto} (l : List TV) : bifn .len [.fr l] S = .ok (.v (.int l.length)) S := rfl
theorem len_ref {S : Sto} {m : Nat} {l : List TV} (h : S.get m = some (.lst l)) : bifn .len [.v (.ref m)] S = .ok (.v (.int l.length)) S := by
  simp only [bifn, bif1, seqS, h]
theorem tuple_fr {S : Sto} (l : List TV) : bifn .tuple [.fr l] S = .ok (.v (.tup l)) S := rfl
theorem tuple_ref {S : Sto} {m : Nat} {l : List TV} (h : S.get m = some (.lst l)) : bifn .tuple [.v (.ref m)] S = .ok (.v (.tup l)) S := by
  simp only [bifn, bif1, seqS, h]
theorem list_tup {S : Sto} (l : List TV) : bifn .list [.v (.tup l)] S = .ok (.fr l) S := rfl
theorem list_ref {S : Sto} {m : Nat} {l : List TV} (h : S.get m = some (.lst l)) : bifn .list [.v (.ref m)] S = .ok (.fr l) S := by
  simp only [bifn, bif1, seqS, h]
theorem int_int {S : Sto} (i : Int) : bifn .int [.v (.int i)] S = .ok (.v (.int i)) S := rfl
theorem abs_int {S : Sto} (i : Int) : bifn .abs [.v (.int i)] S = .ok (.v (.int (if i < 0 then -i else i))) S := rfl
theorem max_int {S : Sto} (i j : Int) : bifn .max2 [.v (.int i), .v (.int j)] S = .ok (.v (.int (if j > i then j else i))) S := rfl
theorem add_int {S : Sto} (i j : Int) : binop .add (.v (.int i)) (.v (.int j)) S = .ok (.v (.int (i + j))) S := rfl
theorem sub_int {S : Sto} (i j : Int) : binop .sub (.v (.int i)) (.v (.int j)) S = .ok (.v (.int (i - j))) S := rfl
theorem lt_int {S : Sto} (i j : Int) : cmpop .lt (.v (.int i)) (.v (.int j)) S = .ok (decide (i < j)) S := rfl
theorem le_int {S : Sto} (i j : Int) : cmpop .le (.v (.int i)) (.v (.int j)) S = .ok (decide (i ≤ j)) S := rfl
theorem gt_int {S : Sto} (i j : Int) : cmpop .gt (.v (.int i)) (.v (.int j)) S = .ok (decide (j < i)) S := rfl
theorem ge_int {S : Sto} (i j : Int) : cmpop .ge (.v (.int i)) (.v (.int j)) S = .ok (decide (j ≤ i)) S := rfl
theorem is_non {S : Sto} (x : TV) : cmpop .is (.v x) (.v .non) S = .ok (isN x) S := by cases x <;> rfl
theorem isn_non {S : Sto} (x : TV) : cmpop .isn (.v x) (.v .non) S = .ok (!isN x) S := by cases x <;> rfl
theorem is_bl {S : Sto} (a b : Bool) : cmpop .is (.v (.bl a)) (.v (.bl b)) S = .ok (decide (a = b)) S := rfl
theorem isn_bl {S : Sto} (a b : Bool) : cmpop .isn (.v (.bl a)) (.v (.bl b)) S = .ok (!decide (a = b)) S := rfl
theorem mod_int {S : Sto} {i j : Int} (h : 0 < j) : binop .mod (.v (.int i)) (.v (.int j)) S = .ok (.v (.int (i % j))) S := if_pos h
theorem fdiv_int {S : Sto} {i j : Int} (h : 0 < j ∧ j < 1073741824) : binop .fdiv (.v (.int i)) (.v (.int j)) S = .ok (.v (.int (i / j))) S := if_pos h
theorem divmod_int {S : Sto} {i j : Int} (h : 0 < j ∧ j < 1073741824) : bifn .divmod [.v (.int i), .v (.int j)] S = .ok (.v (.tup [.int (i / j), .int (i % j)])) S := if_pos h
theorem mul_r {S : Sto} {i j : Int} (h : -(2 ^ 64) < j ∧ j < 2 ^ 64) : binop .mul (.v (.int i)) (.v (.int j)) S = .ok (.v (.int (i * j))) S := by
  show (if (small64 i || small64 j) = true then _ else _) = _
  rw [show small64 j = true by unfold small64; rw [decide_eq_true h.1, decide_eq_true h.2]; rfl, Bool.or_true, if_pos rfl]
theorem mul_l {S : Sto} {i j : Int} (h : -(2 ^ 64) < i ∧ i < 2 ^ 64) : binop .mul (.v (.int i)) (.v (.int j)) S = .ok (.v (.int (i * j))) S := by
  show (if (small64 i || small64 j) = true then _ else _) = _
  rw [show small64 i = true by unfold small64; rw [decide_eq_true h.1, decide_eq_true h.2]; rfl, Bool.true_or, if_pos rfl]
theorem rngOf_1 {m : Nat} (hm : m ≤ 1000000) : rngOf [.v (.int m)] = some (.rng 0 1 m) := by
  have k : rngOk 0 (m : Int) = true := by
    unfold rngOk
    rw [decide_eq_true (show -(2 ^ 62) ≤ (0 : Int) by decide), decide_eq_true (show (0 : Int) < 2 ^ 62 by decide), decide_eq_true (show -(2 ^ 62) ≤ (m : Int) by omega), decide_eq_true (show (m : Int) < 2 ^ 62 by omega)]
    rfl
  unfold rngOf
  dsimp only
  rw [if_pos k, Int.toNat_natCast]
theorem rng_res {m : Nat} {S : Sto} {xs : List TW} (h : rngOf xs = some (.rng 0 1 m)) (hm : m ≤ 16777216) : rngRes .list xs S = R.ok (TW.fr (rngL 0 m)) S := by
  simp only [rngRes, h, hm, if_true]
theorem rng_list {S : Sto} {m : Nat} (hm : m ≤ 1000000) : rngRes .list [.v (.int m)] S = .ok (.fr ((rngZ m).map .int)) S := by
  rw [rng_res (rngOf_1 hm) (by omega), rngL_Z]
theorem clip_nat (n d k : Nat) : clipI n d (some (k : Int)) = min k n := by
  show (if (k : Int) < 0 then max ((k : Int) + (n : Int)) 0 else min (k : Int) (n : Int)).toNat = _
  rw [if_neg (by omega)]
  omega
theorem cut_lo {α : Type} (l : List α) (k : Nat) : cut l (some (k : Int)) none = l.drop k := by
  unfold cut
  rw [clip_nat]
  show List.take (l.length - min k l.length) (List.drop (min k l.length) l) = _
  by_cases h : k ≤ l.length
  · rw [Nat.min_eq_left h]
    exact List.take_of_length_le (by simp)
  · rw [Nat.min_eq_right (by omega), List.drop_length, List.drop_eq_nil_of_le (by omega)]
    simp
theorem cut_hi {α : Type} (l : List α) (k : Nat) : cut l none (some (k : Int)) = l.take k := by
  unfold cut
  rw [clip_nat]
  show List.take (min k l.length - 0) (List.drop 0 l) = _
  rw [Nat.sub_zero, List.drop_zero]
  by_cases h : k ≤ l.length
  · rw [Nat.min_eq_left h]
  · rw [Nat.min_eq_right (by omega), List.take_length, List.take_of_length_le (by omega)]
/-! ### the store moves on; the law's pot of digits stands at p -/
def Pot (S : Sto) (p : Nat) : Prop := ∃ a b, S.get p = some (.lst [.int a, .int b])
structure Adv (p : Nat) (S S' : Sto) : Prop where
  nx : S.nx ≤ S'.nx
  old : ∀ m, m < S.nx → m ≠ p → S'.get m = S.get m
  pot : Pot S' p
section
variable {p : Nat} {S S1 S2 : Sto}
theorem Pot.lt (h : Pot S p) : p < S.nx := by
  obtain ⟨a, b, e⟩ := h
  exact Sto.lt_of_get e
theorem Adv.refl (h : Pot S p) : Adv p S S := ⟨Nat.le_refl _, fun _ _ _ => rfl, h⟩
theorem Adv.trans (a : Adv p S S1) (b : Adv p S1 S2) : Adv p S S2 := ⟨Nat.le_trans a.nx b.nx, fun m h n => (b.old m (Nat.lt_of_lt_of_le h a.nx) n).trans (a.old m h n), b.pot⟩
theorem Adv.push (h : Pot S p) (o : SO) : Adv p S (S.push o) := ⟨Nat.le_succ _, fun m hm _ => Sto.get_push_lt hm, by
  obtain ⟨a, b, e⟩ := h
  exact ⟨a, b, by rw [Sto.get_push_lt (Sto.lt_of_get e)]; exact e⟩⟩
theorem Adv.get (a : Adv p S S1) {m : Nat} {o : SO} (h : S.get m = some o) (n : m ≠ p) : S1.get m = some o := by rw [a.old m (Sto.lt_of_get h) n]; exact h
/-- a list made since is written -/
theorem Adv.put (a : Adv p S S1) {m : Nat} (h : S.nx ≤ m) (hm : m < S1.nx) (n : m ≠ p) (o : SO) : Adv p S (S1.set m o) := ⟨a.nx, fun k hk hn => by
  rw [Sto.get_set_ne (by omega)]
  exact a.old k hk hn, by
  obtain ⟨x, y, e⟩ := a.pot
  exact ⟨x, y, by rw [Sto.get_set_ne (fun q => n q.symm)]; exact e⟩⟩
theorem item_ref {S : Sto} {m : Nat} {l : List TV} {i : Int} {x : TV} (h : S.get m = some (.lst l)) (e : Ev.atI l i = some x) : item (.v (.ref m)) (.v (.int i)) S = .ok (.v x) S := by
  simp only [item, seqS, h, e, ofs, bok]
theorem atI_nat {α : Type} {l : List α} {i : Int} {x : α} (h0 : 0 ≤ i) (h : l[i.toNat]? = some x) : Ev.atI l i = some x := by
  unfold Ev.atI
  rw [if_pos h0]
  exact h
theorem item_tup {S : Sto} {l : List TV} {i : Int} {x : TV} (e : Ev.atI l i = some x) : item (.v (.tup l)) (.v (.int i)) S = .ok (.v x) S := by
  simp only [item, seqS, e, ofs, bok]
theorem setIx_ref {S : Sto} {m j : Nat} {l : List TV} {i : Int} {x : TV} (h : S.get m = some (.lst l)) (e : Ev.ixN l.length i = some j) : setIx (.v (.ref m)) (.v (.int i)) x S = some (S.set m (.lst (l.set j x))) := by
  simp only [setIx, h, e, Option.map_some]
theorem while_run {tst : Env → Sto → R Bool} {bd : Env → Sto → SR} {N : Env → Sto → Prop} {T : TW → Sto → Prop} (I : Nat → Env → Sto → Prop)
    (hs : ∀ k ρ S, I k ρ S → ∃ t S', tst ρ S = .ok t S' ∧ (t = false → N ρ S') ∧ (t = true → RS (bd ρ S') (fun ρ S => ∃ j, j < k ∧ I j ρ S) T)) :
    ∀ (f k : Nat) {ρ : Env} {S : Sto}, k < f → I k ρ S → RS (whileGo tst bd f ρ S) N T
  | 0, k, ρ, S, hk, _ => by cases hk
  | f + 1, k, ρ, S, hk, h => by
    obtain ⟨t, S', e, h1, h2⟩ := hs k ρ S h
    unfold whileGo
    rw [e]
    cases t with
    | false => exact h1 rfl
    | true =>
      have q := h2 rfl
      show RS (match bd ρ S' with | .nx ρ S => whileGo tst bd f ρ S | .cnt ρ S => whileGo tst bd f ρ S | .brk ρ S => .nx ρ S | .ret w S => .ret w S | .err => .err) N T
      cases eb : bd ρ S' with
      | nx ρ2 S2 =>
        rw [eb] at q
        obtain ⟨j, hj, hi⟩ := q
        exact while_run I hs f j (by omega) hi
      | ret w2 S2 => rw [eb] at q; exact q
      | brk _ _ => rw [eb] at q; exact q.elim
      | cnt _ _ => rw [eb] at q; exact q.elim
      | err => rw [eb] at q; exact q.elim
end
theorem add_fr {a b : List TV} (h : a.length + b.length ≤ 1000) (S : Sto) : binop .add (.fr a) (.fr b) S = .ok (.fr (a ++ b)) S := by
  show (match lstM S (.fr a), lstM S (.fr b) with | some a, some b => if a.length + b.length ≤ sizeLine then R.ok (TW.fr (a ++ b)) S else .err | _, _ => .err) = _
  simp only [lstM]
  rw [if_pos (small_sz h)]
theorem add_tup {a b : List TV} (h : a.length + b.length ≤ 1000) (S : Sto) : binop .add (.v (.tup a)) (.v (.tup b)) S = .ok (.v (.tup (a ++ b))) S := if_pos (small_sz h)
theorem add_ref_fr {a b : List TV} {S : Sto} {m : Nat} (g : S.get m = some (.lst a)) (h : a.length + b.length ≤ 1000) : binop .add (.v (.ref m)) (.fr b) S = .ok (.fr (a ++ b)) S := by
  show (match lstM S (.v (.ref m)), lstM S (.fr b) with | some a, some b => if a.length + b.length ≤ sizeLine then R.ok (TW.fr (a ++ b)) S else .err | _, _ => .err) = _
  simp only [lstM, g]
  rw [if_pos (small_sz h)]
theorem mul_fr {a : List TV} {k : Nat} (h : a.length * k ≤ 1000) (hk : k ≤ 1000) (S : Sto) : binop .mul (.fr a) (.v (.int k)) S = .ok (.fr (rep a k)) S := by
  show (match lstM S (.fr a) with | some a => if -(2 ^ 63) ≤ (k : Int) ∧ (k : Int) < 2 ^ 63 ∧ a.length * (k : Int).toNat ≤ sizeLine then R.ok (TW.fr (rep a (k : Int).toNat)) S else .err | none => .err) = _
  simp only [lstM]
  rw [Int.toNat_natCast, if_pos ⟨by omega, by omega, small_sz h⟩]
theorem slice_ref {S : Sto} {m : Nat} {l : List TV} {lo hi : Option Int} (g : S.get m = some (.lst l)) : slice (.v (.ref m)) lo hi S = .ok (.fr (cut l lo hi)) S := by
  simp only [slice, lstS, g]
theorem slice_tup {S : Sto} {l : List TV} {lo hi : Option Int} : slice (.v (.tup l)) lo hi S = .ok (.v (.tup (cut l lo hi))) S := rfl
theorem revd_ref {S : Sto} {m : Nat} {l : List TV} (g : S.get m = some (.lst l)) : revd (.v (.ref m)) S = .ok (.fr l.reverse) S := by
  simp only [revd, lstS, g]
theorem Pot.push {S : Sto} {p : Nat} (h : Pot S p) (o : SO) : Pot (S.push o) p := (Adv.push h o).pot
theorem Sto.push_keep {S : Sto} {m : Nat} {o o' : SO} (h : S.get m = some o) : (S.push o').get m = some o := by rw [Sto.get_push_lt (Sto.lt_of_get h)]; exact h
theorem evI_rng1 {C : Call} {G : List TV} {ρ : Env} {S S' : Sto} {a : E} {m : Nat} (h : evE C G a ρ S = .ok (.v (.int m)) S') (hm : m ≤ 1000000) : evI C G (.rng (.cons a .nil)) ρ S = .ok (.rng 0 1 m) S' := by
  have e : evW C G (.cons a .nil) ρ S = .ok [.v (.int m)] S' := by
    show (evE C G a ρ S).bind _ = _
    rw [h]
    rfl
  have k : evI C G (.rng (.cons a .nil)) ρ S = (evW C G (.cons a .nil) ρ S).bind fun xs S => (R.of (rngOf xs) S).bind fun b S => .ok b S := rfl
  rw [k, e, bok, rngOf_1 hm, ofs, bok]
end Ev

namespace K10
open Ev PySem
def top (i : Nat) : PySem.Stmt := PySem.Challenge.pw_fewcellseach_k10_any_value_as_sizes_fill.main.body.getD i (.Pass ⟨0, 0, 0, 0⟩)
/-- is_integer ['value'] -/
def b0 : Ss := (.cons (.ret (.and (.isI [.int] (.var 0)) (.not (.isI [.bool] (.var 0))))) .nil)
def d0 : Df := ⟨"is_integer", ["value"], ["value"], b0, top 8⟩
/-- is_within ['value', 'low', 'high'] -/
def b1 : Ss := (.cons (.ret (.and (.call 0 (.cons (.var 0) .nil)) (.chain .le .le (.var 1) (.var 0) (.var 2)))) .nil)
def d1 : Df := ⟨"is_within", ["value", "low", "high"], ["value", "low", "high"], b1, top 9⟩
/-- is_tuple ['value', 'many'] -/
def b2 : Ss := (.cons (.ret (.and (.isI [.tuple] (.var 0)) (.cmp .eq (.bi .len (.cons (.var 0) .nil)) (.var 1)))) .nil)
def d2 : Df := ⟨"is_tuple", ["value", "many"], ["value", "many"], b2, top 10⟩
/-- is_list ['value'] -/
def b3 : Ss := (.cons (.ret (.isI [.list, .tuple] (.var 0))) .nil)
def d3 : Df := ⟨"is_list", ["value"], ["value"], b3, top 11⟩
def b4c0 : E := (.comp [1, 2] (.tup (.cons (.var 1) (.cons (.var 2) .nil))) (.zip (.cons (.var 0) (.cons (.sl (.var 0) (.some (.c (.int 1))) .no) .nil))) .nil (.cmp .lt (.var 1) (.var 2)))
/-- are_rising ['row', 'one', 'other'] -/
def b4 : Ss := (.cons (.ret (.bi .all (.cons b4c0 .nil))) .nil)
def d4 : Df := ⟨"are_rising", ["row"], ["row", "one", "other"], b4, top 12⟩
def b5c0 : E := (.comp [2] (.var 2) (.one (.var 0)) .nil (.call 1 (.cons (.var 2) (.cons (.c (.int 0)) (.cons (.bin .sub (.var 1) (.c (.int 1))) .nil)))))
/-- is_order ['value', 'many', 'one'] -/
def b5 : Ss := (.cons (.iff (.or (.not (.call 3 (.cons (.var 0) .nil))) (.or (.cmp .ne (.bi .len (.cons (.var 0) .nil)) (.var 1)) (.not (.bi .all (.cons b5c0 .nil))))) (.cons (.ret (.c (.bl false))) .nil) .nil) (.cons (.ret (.cmp .eq (.bi .sorted (.cons (.var 0) .nil)) (.rng .list (.cons (.var 1) .nil)))) .nil))
def d5 : Df := ⟨"is_order", ["value", "many"], ["value", "many", "one"], b5, top 13⟩
def b6l0 : Ss := (.cons (.asg (.var 1) (.bin .mul (.var 1) (.var 2))) .nil)
/-- multiplied ['row', 'found', 'one'] -/
def b6 : Ss := (.cons (.asg (.var 1) (.c (.int 1))) (.cons (.forr (.var 2) (.one (.var 0)) b6l0) (.cons (.ret (.var 1)) .nil)))
def d6 : Df := ⟨"multiplied", ["row"], ["row", "found", "one"], b6, top 14⟩
def b7l0 : Ss := (.cons (.iff (.not (.call 1 (.cons (.var 2) (.cons (.glob 1) (.cons (.glob 2) .nil))))) (.cons (.ret (.tup (.cons (.c (.str "size")) (.cons (.var 1) .nil)))) .nil) .nil) .nil)
/-- flaw_of ['value', 'cell', 'size'] -/
def b7 : Ss := (.cons (.iff (.not (.isI [.tuple] (.var 0))) (.cons (.ret (.tup (.cons (.c (.str "form")) .nil))) .nil) .nil) (.cons (.iff (.not (.chain .le .le (.c (.int 1)) (.bi .len (.cons (.var 0) .nil)) (.glob 0))) (.cons (.ret (.tup (.cons (.c (.str "many")) .nil))) .nil) .nil) (.cons (.forr (.tup (.cons (.var 1) (.cons (.var 2) .nil))) (.enum (.var 0)) b7l0) (.cons (.ret (.ite (.cmp .gt (.call 6 (.cons (.var 0) .nil)) (.glob 3)) (.tup (.cons (.c (.str "fillings")) .nil)) (.c .non))) .nil))))
def d7 : Df := ⟨"flaw_of", ["value"], ["value", "cell", "size"], b7, top 16⟩
/-- want_sizes ['sizes'] -/
def b8 : Ss := (.cons (.iff (.cmp .isn (.call 7 (.cons (.var 0) .nil)) (.c .non)) (.cons .never .nil) .nil) .nil)
def d8 : Df := ⟨"want_sizes", ["sizes"], ["sizes"], b8, top 17⟩
def b9c0 : E := (.comp [2] (.var 2) (.one (.var 1)) .nil (.call 0 (.cons (.var 2) .nil)))
def b9c1 : E := (.comp [2, 3] (.tup (.cons (.var 2) (.cons (.var 3) .nil))) (.zip (.cons (.var 1) (.cons (.var 0) .nil))) .nil (.chain .le .lt (.c (.int 0)) (.var 2) (.var 3)))
/-- is_filling_of ['sizes', 'value', 'letter', 'size'] -/
def b9 : Ss := (.cons (.iff (.or (.not (.call 2 (.cons (.var 1) (.cons (.bi .len (.cons (.var 0) .nil)) .nil)))) (.not (.bi .all (.cons b9c0 .nil)))) (.cons (.ret (.c (.bl false))) .nil) .nil) (.cons (.ret (.bi .all (.cons b9c1 .nil))) .nil))
def d9 : Df := ⟨"is_filling_of", ["sizes", "value"], ["sizes", "value", "letter", "size"], b9, top 18⟩
/-- are_sizes ['value'] -/
def b10 : Ss := (.cons (.ret (.cmp .is (.call 7 (.cons (.var 0) .nil)) (.c .non))) .nil)
def d10 : Df := ⟨"are_sizes", ["value"], ["value"], b10, top 19⟩
/-- sizes_flaw ['value'] -/
def b11 : Ss := (.cons (.ret (.call 7 (.cons (.var 0) .nil))) .nil)
def d11 : Df := ⟨"sizes_flaw", ["value"], ["value"], b11, top 20⟩
/-- is_filling ['sizes', 'value'] -/
def b12 : Ss := (.cons (.ex (.call 8 (.cons (.var 0) .nil))) (.cons (.ret (.call 9 (.cons (.var 0) (.cons (.var 1) .nil)))) .nil))
def d12 : Df := ⟨"is_filling", ["sizes", "value"], ["sizes", "value"], b12, top 21⟩
def b13c0 : E := (.comp [2] (.var 2) (.one (.var 1)) .nil (.call 1 (.cons (.var 2) (.cons (.c (.int 0)) (.cons (.bin .sub (.bi .len (.cons (.var 0) .nil)) (.c (.int 1))) .nil)))))
/-- is_lot_of ['sizes', 'value', 'cell'] -/
def b13 : Ss := (.cons (.iff (.or (.not (.isI [.tuple] (.var 1))) (.cmp .eq (.bi .len (.cons (.var 1) .nil)) (.c (.int 0)))) (.cons (.ret (.c (.bl false))) .nil) .nil) (.cons (.ret (.and (.bi .all (.cons b13c0 .nil)) (.call 4 (.cons (.var 1) .nil)))) .nil))
def d13 : Df := ⟨"is_lot_of", ["sizes", "value"], ["sizes", "value", "cell"], b13, top 23⟩
def b14c0 : E := (.comp [2, 3] (.tup (.cons (.var 2) (.cons (.var 3) .nil))) (.zip (.cons (.var 0) (.cons (.var 1) .nil))) .nil (.call 15 (.cons (.var 2) (.cons (.var 3) .nil))))
/-- are_letters_of ['sizes', 'value', 'size', 'row'] -/
def b14 : Ss := (.cons (.ret (.and (.call 2 (.cons (.var 1) (.cons (.bi .len (.cons (.var 0) .nil)) .nil))) (.bi .all (.cons b14c0 .nil)))) .nil)
def d14 : Df := ⟨"are_letters_of", ["sizes", "value"], ["sizes", "value", "size", "row"], b14, top 24⟩
/-- is_spelling ['size', 'value'] -/
def b15 : Ss := (.cons (.ret (.and (.isI [.tuple] (.var 1)) (.call 5 (.cons (.var 1) (.cons (.var 0) .nil))))) .nil)
def d15 : Df := ⟨"is_spelling", ["size", "value"], ["size", "value"], b15, top 25⟩
/-- is_lot ['sizes', 'value'] -/
def b16 : Ss := (.cons (.ex (.call 8 (.cons (.var 0) .nil))) (.cons (.ret (.call 13 (.cons (.var 0) (.cons (.var 1) .nil)))) .nil))
def d16 : Df := ⟨"is_lot", ["sizes", "value"], ["sizes", "value"], b16, top 26⟩
/-- are_letters ['sizes', 'value'] -/
def b17 : Ss := (.cons (.ex (.call 8 (.cons (.var 0) .nil))) (.cons (.ret (.call 14 (.cons (.var 0) (.cons (.var 1) .nil)))) .nil))
def d17 : Df := ⟨"are_letters", ["sizes", "value"], ["sizes", "value"], b17, top 27⟩
/-- is_table_of ['many', 'value'] -/
def b18 : Ss := (.cons (.ret (.and (.isI [.tuple] (.var 1)) (.call 5 (.cons (.var 1) (.cons (.var 0) .nil))))) .nil)
def d18 : Df := ⟨"is_table_of", ["many", "value"], ["many", "value"], b18, top 29⟩
/-- is_table ['sizes', 'value'] -/
def b19 : Ss := (.cons (.ex (.call 8 (.cons (.var 0) .nil))) (.cons (.ret (.call 18 (.cons (.call 6 (.cons (.var 0) .nil)) (.cons (.var 1) .nil)))) .nil))
def d19 : Df := ⟨"is_table", ["sizes", "value"], ["sizes", "value"], b19, top 30⟩
/-- _law_pot ['script', 'k', 'cell'] -/
def b20 : Ss := (.cons (.asg (.var 2) (.ite (.cmp .lt (.var 1) (.bi .len (.cons (.var 0) .nil))) (.bi .abs (.cons (.ix (.var 0) (.var 1)) .nil)) (.bin .add (.bin .mul (.c (.int 10177)) (.var 1)) (.c (.int 14714))))) (.cons (.ret (.lst (.cons (.bi .max2 (.cons (.c (.int 0)) (.cons (.bin .sub (.var 2) (.bin .pow (.c (.int 10)) (.c (.int 18)))) .nil))) (.cons (.bin .add (.bin .mod (.bi .int (.cons (.bin .add (.bin .add (.bin .mul (.bin .mod (.bi .int (.cons (.var 2) .nil)) (.c (.int 2147483563))) (.c (.int 64325))) (.bin .mul (.c (.int 10177)) (.var 1))) (.c (.int 6096))) .nil)) (.c (.int 2147483587))) (.c (.int 1))) .nil)))) .nil))
def d20 : Df := ⟨"_law_pot", ["script", "k"], ["script", "k", "cell"], b20, top 32⟩
/-- _law_draw ['pot', 'many', 'digit'] -/
def b21 : Ss := (.cons (.iff (.cmp .gt (.ix (.var 0) (.c (.int 0))) (.c (.int 0))) (.cons (.asg (.tup (.cons (.sub (.var 0) (.c (.int 0))) (.cons (.var 2) .nil))) (.bi .divmod (.cons (.ix (.var 0) (.c (.int 0))) (.cons (.var 1) .nil)))) (.cons (.ret (.var 2)) .nil)) .nil) (.cons (.asg (.sub (.var 0) (.c (.int 1))) (.bin .mod (.bi .int (.cons (.bin .add (.bin .mul (.ix (.var 0) (.c (.int 1))) (.c (.int 64325))) (.c (.int 6096))) .nil)) (.c (.int 2147483587)))) (.cons (.ret (.bin .mod (.bi .int (.cons (.bin .fdiv (.bin .mod (.bi .int (.cons (.bin .mul (.ix (.var 0) (.c (.int 1))) (.ix (.var 0) (.c (.int 1)))) .nil)) (.c (.int 2147483579))) (.c (.int 19))) .nil)) (.var 1))) .nil)))
def d21 : Df := ⟨"_law_draw", ["pot", "many"], ["pot", "many", "digit"], b21, top 33⟩
/-- _law_pick ['pot', 'some'] -/
def b22 : Ss := (.cons (.ret (.ix (.var 1) (.call 21 (.cons (.var 0) (.cons (.bi .len (.cons (.var 1) .nil)) .nil))))) .nil)
def d22 : Df := ⟨"_law_pick", ["pot", "some"], ["pot", "some"], b22, top 34⟩
def b23l0 : Ss := (.cons (.ex (.meth .append (.var 3) (.cons (.meth .popAt (.var 2) (.cons (.call 21 (.cons (.var 0) (.cons (.bi .len (.cons (.var 2) .nil)) .nil))) .nil)) .nil))) .nil)
/-- _law_mixed ['pot', 'some', 'left', 'found'] -/
def b23 : Ss := (.cons (.asg (.tup (.cons (.var 2) (.cons (.var 3) .nil))) (.tup (.cons (.bi .list (.cons (.var 1) .nil)) (.cons (.lst .nil) .nil)))) (.cons (.whil (.cmp .ne (.var 2) (.lst .nil)) b23l0) (.cons (.ret (.var 3)) .nil)))
def d23 : Df := ⟨"_law_mixed", ["pot", "some"], ["pot", "some", "left", "found"], b23, top 35⟩
def b24l0 : Ss := (.cons (.asg (.var 1) (.bin .mul (.var 1) (.var 2))) .nil)
/-- _law_times ['row', 'found', 'one'] -/
def b24 : Ss := (.cons (.asg (.var 1) (.c (.int 1))) (.cons (.forr (.var 2) (.one (.var 0)) b24l0) (.cons (.ret (.var 1)) .nil)))
def d24 : Df := ⟨"_law_times", ["row"], ["row", "found", "one"], b24, top 36⟩
/-- _law_is_whole ['value'] -/
def b25 : Ss := (.cons (.ret (.and (.isI [.int] (.var 0)) (.not (.isI [.bool] (.var 0))))) .nil)
def d25 : Df := ⟨"_law_is_whole", ["value"], ["value"], b25, top 37⟩
def b26l0 : Ss := (.cons (.iff (.or (.not (.call 25 (.cons (.var 2) .nil))) (.not (.chain .le .le (.c (.int 2)) (.var 2) (.c (.int 9))))) (.cons (.ret (.tup (.cons (.c (.str "size")) (.cons (.var 1) .nil)))) .nil) .nil) .nil)
/-- _law_flaw ['value', 'cell', 'size'] -/
def b26 : Ss := (.cons (.iff (.not (.isI [.tuple] (.var 0))) (.cons (.ret (.tup (.cons (.c (.str "form")) .nil))) .nil) .nil) (.cons (.iff (.not (.chain .le .le (.c (.int 1)) (.bi .len (.cons (.var 0) .nil)) (.c (.int 6)))) (.cons (.ret (.tup (.cons (.c (.str "many")) .nil))) .nil) .nil) (.cons (.forr (.tup (.cons (.var 1) (.cons (.var 2) .nil))) (.enum (.var 0)) b26l0) (.cons (.ret (.ite (.cmp .gt (.call 24 (.cons (.var 0) .nil)) (.c (.int 1000))) (.tup (.cons (.c (.str "fillings")) .nil)) (.c .non))) .nil))))
def d26 : Df := ⟨"_law_flaw", ["value"], ["value", "cell", "size"], b26, top 38⟩
def b27c0 : E := (.comp [1] (.var 1) (.rng (.cons (.bin .add (.c (.int 1)) (.call 21 (.cons (.var 0) (.cons (.c (.int 7)) .nil)))) .nil)) .nil (.call 22 (.cons (.var 0) (.cons (.lst (.cons (.c (.int 2)) (.cons (.c (.int 2)) (.cons (.c (.int 2)) (.cons (.c (.int 3)) (.cons (.c (.int 3)) (.cons (.c (.int 4)) (.cons (.c (.int 5)) (.cons (.c (.int 9)) .nil))))))))) .nil))))
/-- _law_sizes ['pot', 'cell'] -/
def b27 : Ss := (.cons (.ret (.bi .tuple (.cons b27c0 .nil))) .nil)
def d27 : Df := ⟨"_law_sizes", ["pot"], ["pot", "cell"], b27, top 39⟩
/-- _law_bent ['pot', 'value', 'late', 'at', 'odd', 'some', 'told'] -/
def b28 : Ss := (.cons (.asg (.var 2) (.bi .list (.cons (.var 1) .nil))) (.cons (.asg (.var 3) (.call 21 (.cons (.var 0) (.cons (.bin .add (.bi .len (.cons (.var 2) .nil)) (.c (.int 1))) .nil)))) (.cons (.asg (.var 4) (.call 22 (.cons (.var 0) (.cons (.lst (.cons (.c (.int 0)) (.cons (.c (.int 1)) (.cons (.c (.int 2)) (.cons (.c (.int 9)) (.cons (.c (.int 10)) (.cons (.neg (.c (.int 1))) (.cons (.c (.bl true)) (.cons (.c .non) (.cons (.c (.str "2")) (.cons (.tup (.cons (.c (.int 2)) .nil)) (.cons (.c (.int 3)) .nil)))))))))))) .nil)))) (.cons (.asg (.var 5) (.lst (.cons (.bin .add (.bin .add (.sl (.var 2) .no (.some (.var 3))) (.lst (.cons (.var 4) .nil))) (.sl (.var 2) (.some (.var 3)) .no)) (.cons (.bin .add (.sl (.var 2) .no (.some (.var 3))) (.sl (.var 2) (.some (.bin .add (.var 3) (.c (.int 1)))) .no)) (.cons (.bin .add (.bin .add (.sl (.var 2) .no (.some (.var 3))) (.lst (.cons (.var 4) .nil))) (.sl (.var 2) (.some (.bin .add (.var 3) (.c (.int 1)))) .no)) (.cons (.rev (.var 2)) (.cons (.bin .add (.var 2) (.sl (.var 2) .no (.some (.c (.int 1))))) .nil))))))) (.cons (.asg (.var 6) (.call 22 (.cons (.var 0) (.cons (.var 5) .nil)))) (.cons (.ret (.call 22 (.cons (.var 0) (.cons (.bin .add (.bin .mul (.lst (.cons (.bi .tuple (.cons (.var 6) .nil)) .nil)) (.c (.int 7))) (.lst (.cons (.var 6) (.cons (.c .non) (.cons (.c (.int 0)) .nil))))) .nil)))) .nil))))))
def d28 : Df := ⟨"_law_bent", ["pot", "value"], ["pot", "value", "late", "at", "odd", "some", "told"], b28, top 40⟩
def b29c0 : E := (.comp [2, 3] (.tup (.cons (.var 2) (.cons (.var 3) .nil))) (.zip (.cons (.var 1) (.cons (.var 0) .nil))) .nil (.and (.call 25 (.cons (.var 2) .nil)) (.chain .le .lt (.c (.int 0)) (.var 2) (.var 3))))
/-- _law_is_filling ['sizes', 'value', 'one', 'size'] -/
def b29 : Ss := (.cons (.ret (.and (.isI [.tuple] (.var 1)) (.and (.cmp .eq (.bi .len (.cons (.var 1) .nil)) (.bi .len (.cons (.var 0) .nil))) (.bi .all (.cons b29c0 .nil))))) .nil)
def d29 : Df := ⟨"_law_is_filling", ["sizes", "value"], ["sizes", "value", "one", "size"], b29, top 41⟩
def b30c0 : E := (.comp [2] (.var 2) (.one (.var 1)) .nil (.call 25 (.cons (.var 2) .nil)))
/-- _law_is_lot ['sizes', 'value', 'one'] -/
def b30 : Ss := (.cons (.iff (.or (.not (.isI [.tuple] (.var 1))) (.or (.cmp .eq (.var 1) (.tup .nil)) (.not (.bi .all (.cons b30c0 .nil))))) (.cons (.ret (.c (.bl false))) .nil) .nil) (.cons (.ret (.and (.cmp .eq (.bi .list (.cons (.var 1) .nil)) (.sset (.var 1))) (.and (.cmp .le (.c (.int 0)) (.ix (.var 1) (.c (.int 0)))) (.cmp .lt (.ix (.var 1) (.neg (.c (.int 1)))) (.bi .len (.cons (.var 0) .nil)))))) .nil))
def d30 : Df := ⟨"_law_is_lot", ["sizes", "value"], ["sizes", "value", "one"], b30, top 42⟩
def b31c0 : E := (.comp [2] (.var 2) (.one (.var 1)) .nil (.call 25 (.cons (.var 2) .nil)))
/-- _law_is_spelling ['size', 'value', 'one'] -/
def b31 : Ss := (.cons (.ret (.and (.isI [.tuple] (.var 1)) (.and (.bi .all (.cons b31c0 .nil)) (.cmp .eq (.bi .sorted (.cons (.var 1) .nil)) (.rng .list (.cons (.var 0) .nil)))))) .nil)
def d31 : Df := ⟨"_law_is_spelling", ["size", "value"], ["size", "value", "one"], b31, top 43⟩
def b32s0 : Ev.St := (.asg (.var 2) (.ite (.cmp .eq (.call 21 (.cons (.var 0) (.cons (.c (.int 2)) .nil))) (.c (.int 0))) (.call 28 (.cons (.var 0) (.cons (.call 27 (.cons (.var 0) .nil)) .nil))) (.call 27 (.cons (.var 0) .nil))))
def b32s1 : Ev.St := (.iff (.or (.cmp .ne (.call 11 (.cons (.var 2) .nil)) (.call 26 (.cons (.var 2) .nil))) (.cmp .ne (.call 10 (.cons (.var 2) .nil)) (.cmp .is (.call 26 (.cons (.var 2) .nil)) (.c .non)))) (.cons (.ret (.c (.bl false))) .nil) .nil)
def b32s2 : Ev.St := (.asg (.var 3) (.call 22 (.cons (.var 0) (.cons (.lst (.cons (.tup (.cons (.c (.int 2)) (.cons (.c (.int 3)) .nil))) (.cons (.tup (.cons (.c (.int 2)) (.cons (.c (.int 2)) (.cons (.c (.int 2)) .nil)))) (.cons (.tup (.cons (.c (.int 4)) .nil)) (.cons (.tup (.cons (.c (.int 3)) (.cons (.c (.int 2)) (.cons (.c (.int 5)) .nil)))) .nil))))) .nil))))
def b32c0 : E := (.comp [13] (.var 13) (.one (.var 3)) .nil (.call 21 (.cons (.var 0) (.cons (.var 13) .nil))))
def b32s3 : Ev.St := (.asg (.var 4) (.bi .tuple (.cons b32c0 .nil)))
def b32c1 : E := (.comp [14] (.var 14) (.rng (.cons (.bi .len (.cons (.var 3) .nil)) .nil)) (.cons (.cmp .eq (.call 21 (.cons (.var 0) (.cons (.c (.int 2)) .nil))) (.c (.int 0))) .nil) (.var 14))
def b32s4 : Ev.St := (.asg (.var 5) (.bi .tuple (.cons b32c1 .nil)))
def b32l0 : Ss := (.cons (.iff (.cmp .ne (.call 12 (.cons (.var 3) (.cons (.var 6) .nil))) (.call 29 (.cons (.var 3) (.cons (.var 6) .nil)))) (.cons (.ret (.c (.bl false))) .nil) .nil) .nil)
def b32s5 : Ev.St := (.forr (.var 6) (.one (.tup (.cons (.var 4) (.cons (.call 28 (.cons (.var 0) (.cons (.var 4) .nil))) .nil)))) b32l0)
def b32l1 : Ss := (.cons (.iff (.cmp .ne (.call 16 (.cons (.var 3) (.cons (.var 6) .nil))) (.call 30 (.cons (.var 3) (.cons (.var 6) .nil)))) (.cons (.ret (.c (.bl false))) .nil) .nil) .nil)
def b32s6 : Ev.St := (.forr (.var 6) (.one (.tup (.cons (.var 5) (.cons (.call 28 (.cons (.var 0) (.cons (.var 5) .nil))) .nil)))) b32l1)
def b32c2 : E := (.comp [13] (.var 13) (.one (.var 3)) .nil (.bi .tuple (.cons (.call 23 (.cons (.var 0) (.cons (.rng .list (.cons (.var 13) .nil)) .nil))) .nil)))
def b32s7 : Ev.St := (.asg (.var 7) (.bi .tuple (.cons b32c2 .nil)))
def b32s8 : Ev.St := (.asg (.var 8) (.call 21 (.cons (.var 0) (.cons (.bi .len (.cons (.var 3) .nil)) .nil))))
def b32s9 : Ev.St := (.asg (.var 9) (.bin .add (.bin .add (.sl (.var 7) .no (.some (.var 8))) (.tup (.cons (.call 28 (.cons (.var 0) (.cons (.ix (.var 7) (.var 8)) .nil))) .nil))) (.sl (.var 7) (.some (.bin .add (.var 8) (.c (.int 1)))) .no)))
def b32s10 : Ev.St := (.iff (.or (.cmp .isn (.call 17 (.cons (.var 3) (.cons (.var 7) .nil))) (.c (.bl true))) (.cmp .ne (.call 17 (.cons (.var 3) (.cons (.var 9) .nil))) (.call 31 (.cons (.ix (.var 3) (.var 8)) (.cons (.ix (.var 9) (.var 8)) .nil))))) (.cons (.ret (.c (.bl false))) .nil) .nil)
def b32s11 : Ev.St := (.iff (.or (.cmp .isn (.call 17 (.cons (.var 3) (.cons (.sl (.var 7) (.some (.c (.int 1))) .no) .nil))) (.c (.bl false))) (.cmp .isn (.call 17 (.cons (.var 3) (.cons (.bi .list (.cons (.var 7) .nil)) .nil))) (.c (.bl false)))) (.cons (.ret (.c (.bl false))) .nil) .nil)
def b32s12 : Ev.St := (.asg (.var 10) (.bi .tuple (.cons (.call 23 (.cons (.var 0) (.cons (.rng .list (.cons (.c (.int 6)) .nil)) .nil))) .nil)))
def b32s13 : Ev.St := (.asg (.var 11) (.call 28 (.cons (.var 0) (.cons (.var 10) .nil))))
def b32s14 : Ev.St := (.iff (.or (.cmp .isn (.call 19 (.cons (.tup (.cons (.c (.int 2)) (.cons (.c (.int 3)) .nil))) (.cons (.var 10) .nil))) (.c (.bl true))) (.cmp .ne (.call 19 (.cons (.tup (.cons (.c (.int 2)) (.cons (.c (.int 3)) .nil))) (.cons (.var 11) .nil))) (.call 31 (.cons (.c (.int 6)) (.cons (.var 11) .nil))))) (.cons (.ret (.c (.bl false))) .nil) .nil)
def b32l2 : Ss := (.cons b32s0 (.cons b32s1 (.cons b32s2 (.cons b32s3 (.cons b32s4 (.cons b32s5 (.cons b32s6 (.cons b32s7 (.cons b32s8 (.cons b32s9 (.cons b32s10 (.cons b32s11 (.cons b32s12 (.cons b32s13 (.cons b32s14 .nil)))))))))))))))
def b32c3 : E := (.comp [2] (.var 2) (.one (.tup (.cons (.bin .mul (.tup (.cons (.c (.int 2)) .nil)) (.c (.int 6))) (.cons (.bin .mul (.tup (.cons (.c (.int 2)) .nil)) (.c (.int 7))) (.cons (.tup .nil) (.cons (.tup (.cons (.c (.int 9)) (.cons (.c (.int 9)) (.cons (.c (.int 9)) .nil)))) (.cons (.tup (.cons (.c (.int 2)) (.cons (.c (.int 5)) (.cons (.c (.int 5)) (.cons (.c (.int 5)) (.cons (.c (.int 4)) .nil)))))) (.cons (.tup (.cons (.c (.int 2)) (.cons (.c (.int 2)) (.cons (.c (.int 2)) (.cons (.c (.int 5)) (.cons (.c (.int 5)) (.cons (.c (.int 5)) .nil))))))) (.cons (.tup (.cons (.c (.int 4)) (.cons (.c (.int 4)) (.cons (.c (.int 4)) (.cons (.c (.int 4)) (.cons (.c (.int 4)) .nil)))))) (.cons (.tup (.cons (.c (.int 9)) (.cons (.c (.int 10)) .nil))) .nil)))))))))) .nil (.call 11 (.cons (.var 2) .nil)))
/-- _law_right ['pot', 'turn', 'value', 'sizes', 'filling', 'lot', 'one', 'letters', 'at', 'bent', 'small', 'late', 'told', 'size', 'cell'] -/
def b32 : Ss := (.cons (.forr (.var 1) (.rng (.cons (.c (.int 30)) .nil)) b32l2) (.cons (.asg (.var 12) b32c3) (.cons (.iff (.cmp .ne (.var 12) (.lst (.cons (.c .non) (.cons (.tup (.cons (.c (.str "many")) .nil)) (.cons (.tup (.cons (.c (.str "many")) .nil)) (.cons (.c .non) (.cons (.c .non) (.cons (.c .non) (.cons (.tup (.cons (.c (.str "fillings")) .nil)) (.cons (.tup (.cons (.c (.str "size")) (.cons (.c (.int 1)) .nil))) .nil)))))))))) (.cons (.ret (.c (.bl false))) .nil) .nil) (.cons (.ret (.and (.cmp .is (.call 16 (.cons (.tup (.cons (.c (.int 2)) (.cons (.c (.int 2)) .nil))) (.cons (.tup .nil) .nil))) (.c (.bl false))) (.and (.cmp .is (.call 12 (.cons (.tup (.cons (.c (.int 2)) .nil)) (.cons (.tup (.cons (.c (.int 0)) .nil)) .nil))) (.c (.bl true))) (.and (.cmp .is (.call 19 (.cons (.tup (.cons (.c (.int 2)) .nil)) (.cons (.tup (.cons (.c (.int 1)) (.cons (.c (.int 0)) .nil))) .nil))) (.c (.bl true))) (.cmp .is (.call 19 (.cons (.tup (.cons (.c (.int 2)) .nil)) (.cons (.tup (.cons (.c (.int 1)) (.cons (.c (.bl true)) .nil))) .nil))) (.c (.bl false))))))) .nil))))
def d32 : Df := ⟨"_law_right", ["pot"], ["pot", "turn", "value", "sizes", "filling", "lot", "one", "letters", "at", "bent", "small", "late", "told", "size", "cell"], b32, top 44⟩
def b33c0 : E := (.comp [1] (.var 1) (.rng (.cons (.c (.int 2)) .nil)) .nil (.call 32 (.cons (.call 20 (.cons (.var 0) (.cons (.var 1) .nil))) .nil)))
/-- law ['script', 'k'] -/
def b33 : Ss := (.cons (.ret (.bi .all (.cons b33c0 .nil))) .nil)
def d33 : Df := ⟨"law", ["script"], ["script", "k"], b33, top 45⟩
def P : List Df := [d0, d1, d2, d3, d4, d5, d6, d7, d8, d9, d10, d11, d12, d13, d14, d15, d16, d17, d18, d19, d20, d21, d22, d23, d24, d25, d26, d27, d28, d29, d30, d31, d32, d33]
def gs : List Str := ["MOST_CELLS", "LEAST_SIZE", "MOST_SIZE", "MOST_FILLINGS"]
def G : List TV := [(.int 6), (.int 2), (.int 9), (.int 1000)]
theorem ck : chkP P gs = true := by decide +kernel
theorem bn : Bnds P := ⟨fun _ _ _ _ _ _ us hl => match us, hl with | [_], _ => rfl, fun _ _ _ _ _ _ us hl => match us, hl with | [_, _, _], _ => rfl, fun _ _ _ _ _ _ us hl => match us, hl with | [_, _], _ => rfl, fun _ _ _ _ _ _ us hl => match us, hl with | [_], _ => rfl, fun _ _ _ _ _ _ us hl => match us, hl with | [_], _ => rfl, fun _ _ _ _ _ _ us hl => match us, hl with | [_, _], _ => rfl, fun _ _ _ _ _ _ us hl => match us, hl with | [_], _ => rfl, fun _ _ _ _ _ _ us hl => match us, hl with | [_], _ => rfl, fun _ _ _ _ _ _ us hl => match us, hl with | [_], _ => rfl, fun _ _ _ _ _ _ us hl => match us, hl with | [_, _], _ => rfl, fun _ _ _ _ _ _ us hl => match us, hl with | [_], _ => rfl, fun _ _ _ _ _ _ us hl => match us, hl with | [_], _ => rfl, fun _ _ _ _ _ _ us hl => match us, hl with | [_, _], _ => rfl, fun _ _ _ _ _ _ us hl => match us, hl with | [_, _], _ => rfl, fun _ _ _ _ _ _ us hl => match us, hl with | [_, _], _ => rfl, fun _ _ _ _ _ _ us hl => match us, hl with | [_, _], _ => rfl, fun _ _ _ _ _ _ us hl => match us, hl with | [_, _], _ => rfl, fun _ _ _ _ _ _ us hl => match us, hl with | [_, _], _ => rfl, fun _ _ _ _ _ _ us hl => match us, hl with | [_, _], _ => rfl, fun _ _ _ _ _ _ us hl => match us, hl with | [_, _], _ => rfl, fun _ _ _ _ _ _ us hl => match us, hl with | [_, _], _ => rfl, fun _ _ _ _ _ _ us hl => match us, hl with | [_, _], _ => rfl, fun _ _ _ _ _ _ us hl => match us, hl with | [_, _], _ => rfl, fun _ _ _ _ _ _ us hl => match us, hl with | [_, _], _ => rfl, fun _ _ _ _ _ _ us hl => match us, hl with | [_], _ => rfl, fun _ _ _ _ _ _ us hl => match us, hl with | [_], _ => rfl, fun _ _ _ _ _ _ us hl => match us, hl with | [_], _ => rfl, fun _ _ _ _ _ _ us hl => match us, hl with | [_], _ => rfl, fun _ _ _ _ _ _ us hl => match us, hl with | [_, _], _ => rfl, fun _ _ _ _ _ _ us hl => match us, hl with | [_, _], _ => rfl, fun _ _ _ _ _ _ us hl => match us, hl with | [_, _], _ => rfl, fun _ _ _ _ _ _ us hl => match us, hl with | [_, _], _ => rfl, fun _ _ _ _ _ _ us hl => match us, hl with | [_], _ => rfl, fun _ _ _ _ _ _ us hl => match us, hl with | [_], _ => rfl, trivial⟩
end K10

namespace K10
open Ev PySem
abbrev Q : List Fn := P.map Df.fn
abbrev cl (n i : Nat) (xs : List TV) (S : Sto) : R TW := callN Q G n i xs S
def wi (lo hi : Int) : TV → Bool
  | .int i => decide (lo ≤ i) && decide (i ≤ hi)
  | _ => false
theorem c_isint {n : Nat} {S : Sto} {x : TV} (h : OkV S x) : cl (n + 1) 0 [x] S = .ok (.v (.bl (isI x))) S := by
  show (evSs (callN Q G n) G b0 [some x] S).out = _
  unfold b0
  simp only [evSs, evS, evE, evA, evW, evC, evI, evO, List.getElem?_cons_zero, List.getElem?_cons_succ, bok, R.bind_err, TW.st, truth, ofs, R.sr, SR.then, SR.out, cond_true, cond_false, asT_var, asT_tup, asTs_nil, asTs_cons, asT_sub, List.set_cons_succ, List.set_cons_zero, len_tup, len_fr, all_eq, tuple_fr, list_tup, int_int, abs_int, max_int, add_int, sub_int, lt_int, le_int, gt_int, ge_int, is_non, isn_non, is_bl, isn_bl, eq_int, ne_int, eq_bl, ne_bl, ty_int h, ty_bool h]
  cases x <;> rfl
theorem c_whole {n : Nat} {S : Sto} {x : TV} (h : OkV S x) : cl (n + 1) 25 [x] S = .ok (.v (.bl (isI x))) S := by
  show (evSs (callN Q G n) G b25 [some x] S).out = _
  unfold b25
  simp only [evSs, evS, evE, evA, evW, evC, evI, evO, List.getElem?_cons_zero, List.getElem?_cons_succ, bok, R.bind_err, TW.st, truth, ofs, R.sr, SR.then, SR.out, cond_true, cond_false, asT_var, asT_tup, asTs_nil, asTs_cons, asT_sub, List.set_cons_succ, List.set_cons_zero, len_tup, len_fr, all_eq, tuple_fr, list_tup, int_int, abs_int, max_int, add_int, sub_int, lt_int, le_int, gt_int, ge_int, is_non, isn_non, is_bl, isn_bl, eq_int, ne_int, eq_bl, ne_bl, ty_int h, ty_bool h]
  cases x <;> rfl
theorem c_within {n : Nat} {S : Sto} {x : TV} {lo hi : Int} (h : OkV S x) : cl (n + 2) 1 [x, .int lo, .int hi] S = .ok (.v (.bl (wi lo hi x))) S := by
  show (evSs (callN Q G (n + 1)) G b1 [some x, some (.int lo), some (.int hi)] S).out = _
  have e0 : callN Q G (n + 1) 0 [x] S = _ := c_isint h
  unfold b1
  simp only [evSs, evS, evE, evA, evW, evC, evI, evO, List.getElem?_cons_zero, List.getElem?_cons_succ, bok, R.bind_err, TW.st, truth, ofs, R.sr, SR.then, SR.out, cond_true, cond_false, asT_var, asT_tup, asTs_nil, asTs_cons, asT_sub, List.set_cons_succ, List.set_cons_zero, len_tup, len_fr, all_eq, tuple_fr, list_tup, int_int, abs_int, max_int, add_int, sub_int, lt_int, le_int, gt_int, ge_int, is_non, isn_non, is_bl, isn_bl, eq_int, ne_int, eq_bl, ne_bl, e0]
  cases x <;> try rfl
  rename_i i
  simp only [isI, cond_true, cmpop, R.bind_ok, wi]
  cases decide (lo ≤ i) <;> rfl
def tl (m : Int) : TV → Bool
  | .tup l => decide ((l.length : Int) = m)
  | _ => false
theorem c_tuple {n : Nat} {S : Sto} {x : TV} {m : Int} (h : OkV S x) : cl (n + 1) 2 [x, .int m] S = .ok (.v (.bl (tl m x))) S := by
  show (evSs (callN Q G n) G b2 [some x, some (.int m)] S).out = _
  unfold b2
  simp only [evSs, evS, evE, evA, evW, evC, evI, evO, List.getElem?_cons_zero, List.getElem?_cons_succ, bok, R.bind_err, TW.st, truth, ofs, R.sr, SR.then, SR.out, cond_true, cond_false, asT_var, asT_tup, asTs_nil, asTs_cons, asT_sub, List.set_cons_succ, List.set_cons_zero, len_tup, len_fr, all_eq, tuple_fr, list_tup, int_int, abs_int, max_int, add_int, sub_int, lt_int, le_int, gt_int, ge_int, is_non, isn_non, is_bl, isn_bl, eq_int, ne_int, eq_bl, ne_bl, ty_tup h]
  cases x <;> rfl
/-! ### multiplied -/
def prod : List Int → Int → Int
  | [], a => a
  | x :: r, a => prod r (a * x)
theorem sm {i : Int} (h : -(2 ^ 64) < i ∧ i < 2 ^ 64) : small64 i = true := by
  unfold small64
  rw [decide_eq_true h.1, decide_eq_true h.2]
  rfl
theorem mul_ok {a b : Int} {S : Sto} (h : -(2 ^ 64) < b ∧ b < 2 ^ 64) : binop .mul (.v (.int a)) (.v (.int b)) S = .ok (.v (.int (a * b))) S := by
  show (if (small64 a || small64 b) = true then _ else _) = _
  rw [sm h, Bool.or_true, if_pos rfl]
theorem mul_run {C : Call} {x : TV} {S : Sto} {ns : List Int} {b : Ss} (hb : b = (.cons (.asg (.var 1) (.bin .mul (.var 1) (.var 2))) .nil)) (hs : ∀ i ∈ ns, -(2 ^ 64) < i ∧ i < 2 ^ 64) : ∃ o, forGo (asT C G (.var 2)) (fun ρ S => evSs C G b ρ S) (ns.length + 1) (.one (.ts (ns.map TV.int))) [some x, some (.int 1), none] S = .nx [some x, some (.int (prod ns 1)), o] S := by
  subst hb
  have r : RS (forGo (asT C G (.var 2)) (fun ρ S => evSs C G (.cons (.asg (.var 1) (.bin .mul (.var 1) (.var 2))) .nil) ρ S) (ns.length + 1) (.one (.ts (ns.map TV.int))) [some x, some (.int 1), none] S)
      (fun ρ S' => S' = S ∧ ∃ o, ρ = [some x, some (.int (prod ns 1)), o]) fun _ _ => False := by
    refine for_run (fun r ρ S' => S' = S ∧ ∃ ms a o, r = ms.map TV.int ∧ (∀ i ∈ ms, -(2 ^ 64) < i ∧ i < 2 ^ 64) ∧ ρ = [some x, some (.int a), o] ∧ prod ms a = prod ns 1) (fun y r ρ S' h => ?_) (fun ρ S' h => ?_) (walkA_ts _) (by simp) ⟨rfl, ns, 1, none, rfl, hs, rfl, rfl⟩
    · obtain ⟨rfl, ms, a, o, e, hm, rfl, hp⟩ := h
      cases ms with
      | nil => cases e
      | cons m ms =>
        cases e
        refine ⟨_, _, rfl, ?_⟩
        simp only [evSs, evS, evE, evA, evW, evC, evI, evO, List.getElem?_cons_zero, List.getElem?_cons_succ, bok, R.bind_err, TW.st, truth, ofs, R.sr, SR.then, SR.out, cond_true, cond_false, asT_var, asT_tup, asTs_nil, asTs_cons, asT_sub, List.set_cons_succ, List.set_cons_zero, len_tup, len_fr, all_eq, tuple_fr, list_tup, int_int, abs_int, max_int, add_int, sub_int, lt_int, le_int, gt_int, ge_int, is_non, isn_non, is_bl, isn_bl, eq_int, ne_int, eq_bl, ne_bl, mul_ok (hm m List.mem_cons_self)]
        exact ⟨rfl, ms, a * m, _, rfl, fun i hi => hm i (List.mem_cons_of_mem _ hi), rfl, hp⟩
    · obtain ⟨rfl, ms, a, o, e, hm, rfl, hp⟩ := h
      cases ms with
      | nil => exact ⟨rfl, o, by rw [← hp]; rfl⟩
      | cons _ _ => cases e
  revert r
  cases forGo (asT C G (.var 2)) (fun ρ S => evSs C G (.cons (.asg (.var 1) (.bin .mul (.var 1) (.var 2))) .nil) ρ S) (ns.length + 1) (.one (.ts (ns.map TV.int))) [some x, some (.int 1), none] S with
  | nx ρ S' => rintro ⟨rfl, o, rfl⟩; exact ⟨o, rfl⟩
  | ret _ _ => exact fun z => z.elim
  | brk _ _ => exact fun z => z.elim
  | cnt _ _ => exact fun z => z.elim
  | err => exact fun z => z.elim
theorem c_mult {n : Nat} {S : Sto} {ns : List Int} (hs : ∀ i ∈ ns, -(2 ^ 64) < i ∧ i < 2 ^ 64) : cl (n + 1) 6 [.tup (ns.map .int)] S = .ok (.v (.int (prod ns 1))) S := by
  show (evSs (callN Q G n) G b6 [some (.tup (ns.map .int)), none, none] S).out = _
  obtain ⟨o', e⟩ := mul_run (C := callN Q G n) (x := .tup (ns.map .int)) (S := S) (b := b6l0) rfl hs
  unfold b6
  simp only [evSs, evS, evE, evA, evW, evC, evI, evO, List.getElem?_cons_zero, List.getElem?_cons_succ, bok, R.bind_err, TW.st, truth, ofs, R.sr, SR.then, SR.out, cond_true, cond_false, asT_var, asT_tup, asTs_nil, asTs_cons, asT_sub, List.set_cons_succ, List.set_cons_zero, len_tup, len_fr, all_eq, tuple_fr, list_tup, int_int, abs_int, max_int, add_int, sub_int, lt_int, le_int, gt_int, ge_int, is_non, isn_non, is_bl, isn_bl, eq_int, ne_int, eq_bl, ne_bl, srcOf, Itb.many, Src.many, List.length_map, e]
theorem c_times {n : Nat} {S : Sto} {ns : List Int} (hs : ∀ i ∈ ns, -(2 ^ 64) < i ∧ i < 2 ^ 64) : cl (n + 1) 24 [.tup (ns.map .int)] S = .ok (.v (.int (prod ns 1))) S := by
  show (evSs (callN Q G n) G b24 [some (.tup (ns.map .int)), none, none] S).out = _
  obtain ⟨o', e⟩ := mul_run (C := callN Q G n) (x := .tup (ns.map .int)) (S := S) (b := b24l0) rfl hs
  unfold b24
  simp only [evSs, evS, evE, evA, evW, evC, evI, evO, List.getElem?_cons_zero, List.getElem?_cons_succ, bok, R.bind_err, TW.st, truth, ofs, R.sr, SR.then, SR.out, cond_true, cond_false, asT_var, asT_tup, asTs_nil, asTs_cons, asT_sub, List.set_cons_succ, List.set_cons_zero, len_tup, len_fr, all_eq, tuple_fr, list_tup, int_int, abs_int, max_int, add_int, sub_int, lt_int, le_int, gt_int, ge_int, is_non, isn_non, is_bl, isn_bl, eq_int, ne_int, eq_bl, ne_bl, srcOf, Itb.many, Src.many, List.length_map, e]
/-! ### the flaw -/
def flawG : Nat → List TV → Option TV
  | _, [] => none
  | i, x :: r => bif wi 2 9 x then flawG (i + 1) r else some (.tup [.str "size", .int i])
def flawL (l : List TV) : TV := bif decide ((1 : Int) ≤ l.length) && decide ((l.length : Int) ≤ 6) then (match flawG 0 l with
  | some t => t
  | none => bif decide ((1000 : Int) < prod (intsOf l) 1) then .tup [.str "fillings"] else .non) else .tup [.str "many"]
def flawV : TV → TV
  | .tup l => flawL l
  | _ => .tup [.str "form"]
theorem flawG_none : ∀ (l : List TV) (i : Nat), flawG i l = none → l = (intsOf l).map .int ∧ ∀ i ∈ intsOf l, -(2 ^ 64) < i ∧ i < 2 ^ 64
  | [], _, _ => ⟨rfl, fun _ h => nomatch h⟩
  | x :: r, i, h => by
    unfold flawG at h
    cases hw : wi 2 9 x with
    | false => rw [hw] at h; cases h
    | true =>
      rw [hw, cond_true] at h
      obtain ⟨h1, h2⟩ := flawG_none r (i + 1) h
      unfold wi at hw
      split at hw
      · rw [Bool.and_eq_true, decide_eq_true_eq, decide_eq_true_eq] at hw
        refine ⟨congrArg (TV.int _ :: ·) h1, fun j hj => ?_⟩
        rcases List.mem_cons.mp hj with e | e
        · subst e; omega
        · exact h2 j e
      · cases hw
theorem flaw_run {C : Call} {l : List TV} {S : Sto} {b : Ss} (ho : ∀ x ∈ l, OkV S x)
    (hb : ∀ (x : TV) (i : Nat), OkV S x → evSs C G b [some (.tup l), some (.int i), some x] S = bif wi 2 9 x then .nx [some (.tup l), some (.int i), some x] S else .ret (.v (.tup [.str "size", .int i])) S) :
    RS (forGo (asT C G (.tup (.cons (.var 1) (.cons (.var 2) .nil)))) (fun ρ S => evSs C G b ρ S) (l.length + 1) (.enum 0 (.ts l)) [some (.tup l), none, none] S)
      (fun ρ S' => S' = S ∧ flawG 0 l = none ∧ ∃ o1 o2, ρ = [some (.tup l), o1, o2]) fun w S' => S' = S ∧ ∃ t, flawG 0 l = some t ∧ w = .v t := by
  refine for_run (fun r ρ S' => S' = S ∧ ∃ i k o1 o2, r = enumL i k ∧ (∀ x ∈ k, OkV S x) ∧ ρ = [some (.tup l), o1, o2] ∧ flawG 0 l = flawG i k) (fun y r ρ S' h => ?_) (fun ρ S' h => ?_) (walkA_enum _ _) (by rw [enumL_len]; omega) ⟨rfl, 0, l, none, none, rfl, ho, rfl, rfl⟩
  · obtain ⟨rfl, i, k, o1, o2, e, hk, rfl, hp⟩ := h
    cases k with
    | nil => cases e
    | cons x k =>
      cases e
      refine ⟨_, _, rfl, ?_⟩
      show RS (evSs C G b [some (.tup l), some (.int i), some x] S') _ _
      rw [hb x i (hk x List.mem_cons_self)]
      rw [show flawG i (x :: k) = bif wi 2 9 x then flawG (i + 1) k else some (.tup [.str "size", .int i]) from rfl] at hp
      cases hw : wi 2 9 x with
      | true =>
        rw [hw, cond_true] at hp
        exact ⟨rfl, i + 1, k, _, _, rfl, fun z hz => hk z (List.mem_cons_of_mem _ hz), rfl, hp⟩
      | false =>
        rw [hw, cond_false] at hp
        exact ⟨rfl, _, hp, rfl⟩
  · obtain ⟨rfl, i, k, o1, o2, e, hk, rfl, hp⟩ := h
    cases k with
    | nil => exact ⟨rfl, hp, o1, o2, rfl⟩
    | cons _ _ => cases e
theorem flaw_body {n : Nat} {S : Sto} {x : TV} {l : List TV} {i : Nat} (h : OkV S x) : evSs (callN Q G (n + 2)) G b7l0 [some (.tup l), some (.int i), some x] S = bif wi 2 9 x then .nx [some (.tup l), some (.int i), some x] S else .ret (.v (.tup [.str "size", .int i])) S := by
  have e : callN Q G (n + 2) 1 [x, .int 2, .int 9] S = _ := c_within h
  have g1 : G[1]? = some (.int 2) := rfl
  have g2 : G[2]? = some (.int 9) := rfl
  unfold b7l0
  simp only [evSs, evS, evE, evA, evW, evC, evI, evO, List.getElem?_cons_zero, List.getElem?_cons_succ, bok, R.bind_err, TW.st, truth, ofs, R.sr, SR.then, SR.out, cond_true, cond_false, asT_var, asT_tup, asTs_nil, asTs_cons, asT_sub, List.set_cons_succ, List.set_cons_zero, len_tup, len_fr, all_eq, tuple_fr, list_tup, int_int, abs_int, max_int, add_int, sub_int, lt_int, le_int, gt_int, ge_int, is_non, isn_non, is_bl, isn_bl, eq_int, ne_int, eq_bl, ne_bl, g1, g2, e]
  cases wi 2 9 x <;> rfl
theorem flaw_body2 {n : Nat} {S : Sto} {x : TV} {l : List TV} {i : Nat} (h : OkV S x) : evSs (callN Q G (n + 1)) G b26l0 [some (.tup l), some (.int i), some x] S = bif wi 2 9 x then .nx [some (.tup l), some (.int i), some x] S else .ret (.v (.tup [.str "size", .int i])) S := by
  have e : callN Q G (n + 1) 25 [x] S = _ := c_whole h
  unfold b26l0
  simp only [evSs, evS, evE, evA, evW, evC, evI, evO, List.getElem?_cons_zero, List.getElem?_cons_succ, bok, R.bind_err, TW.st, truth, ofs, R.sr, SR.then, SR.out, cond_true, cond_false, asT_var, asT_tup, asTs_nil, asTs_cons, asT_sub, List.set_cons_succ, List.set_cons_zero, len_tup, len_fr, all_eq, tuple_fr, list_tup, int_int, abs_int, max_int, add_int, sub_int, lt_int, le_int, gt_int, ge_int, is_non, isn_non, is_bl, isn_bl, eq_int, ne_int, eq_bl, ne_bl, e]
  cases x <;> try rfl
  rename_i j
  simp only [isI, evSs, evS, evE, evA, evW, evC, evI, evO, List.getElem?_cons_zero, List.getElem?_cons_succ, bok, R.bind_err, TW.st, truth, ofs, R.sr, SR.then, SR.out, cond_true, cond_false, asT_var, asT_tup, asTs_nil, asTs_cons, asT_sub, List.set_cons_succ, List.set_cons_zero, len_tup, len_fr, all_eq, tuple_fr, list_tup, int_int, abs_int, max_int, add_int, sub_int, lt_int, le_int, gt_int, ge_int, is_non, isn_non, is_bl, isn_bl, eq_int, ne_int, eq_bl, ne_bl, cmpop, wi, Bool.not_true, Bool.not_false]
  cases decide (2 ≤ j) <;> (try cases decide (j ≤ 9)) <;> rfl
theorem c_flaw {n : Nat} {S : Sto} {v : TV} (h : OkV S v) (he : ∀ l, v = .tup l → ∀ x ∈ l, OkV S x) : cl (n + 3) 7 [v] S = .ok (.v (flawV v)) S := by
  show (evSs (callN Q G (n + 2)) G b7 [some v, none, none] S).out = _
  unfold b7
  cases v with
  | tup l =>
    have g0 : G[0]? = some (.int 6) := rfl
    have g3 : G[3]? = some (.int 1000) := rfl
    have r := flaw_run (C := callN Q G (n + 2)) (he l rfl) fun x i hx => flaw_body (l := l) hx
    simp only [evSs, evS, evE, evA, evW, evC, evI, evO, List.getElem?_cons_zero, List.getElem?_cons_succ, bok, R.bind_err, TW.st, truth, ofs, R.sr, SR.then, SR.out, cond_true, cond_false, asT_var, asT_tup, asTs_nil, asTs_cons, asT_sub, List.set_cons_succ, List.set_cons_zero, len_tup, len_fr, all_eq, tuple_fr, list_tup, int_int, abs_int, max_int, add_int, sub_int, lt_int, le_int, gt_int, ge_int, is_non, isn_non, is_bl, isn_bl, eq_int, ne_int, eq_bl, ne_bl, ty_tup h, isTup, Bool.not_true, bifn, bif1, seqS, g0, cmpop, flawV, flawL]
    cases decide ((1 : Int) ≤ l.length) with
    | false => rfl
    | true =>
      cases decide ((l.length : Int) ≤ 6) with
      | false => rfl
      | true =>
        simp only [evSs, evS, evE, evA, evW, evC, evI, evO, List.getElem?_cons_zero, List.getElem?_cons_succ, bok, R.bind_err, TW.st, truth, ofs, R.sr, SR.then, SR.out, cond_true, cond_false, asT_var, asT_tup, asTs_nil, asTs_cons, asT_sub, List.set_cons_succ, List.set_cons_zero, len_tup, len_fr, all_eq, tuple_fr, list_tup, int_int, abs_int, max_int, add_int, sub_int, lt_int, le_int, gt_int, ge_int, is_non, isn_non, is_bl, isn_bl, eq_int, ne_int, eq_bl, ne_bl, Bool.not_true, srcOf, Itb.many, Src.many, Bool.and_true]
        revert r
        generalize forGo (asT (callN Q G (n + 2)) G (.tup (.cons (.var 1) (.cons (.var 2) .nil)))) (fun ρ S => evSs (callN Q G (n + 2)) G b7l0 ρ S) (l.length + 1) (.enum 0 (.ts l)) [some (.tup l), none, none] S = q
        intro r
        cases q with
        | nx ρ S' =>
          obtain ⟨rfl, e1, o1, o2, rfl⟩ := r
          obtain ⟨k1, k2⟩ := flawG_none l 0 e1
          have em : callN Q G (n + 2) 6 [.tup l] S' = .ok (.v (.int (prod (intsOf l) 1))) S' := by
            have := c_mult (n := n + 1) (S := S') k2
            rw [← k1] at this
            exact this
          simp only [evSs, evS, evE, evA, evW, evC, evI, evO, List.getElem?_cons_zero, List.getElem?_cons_succ, bok, R.bind_err, TW.st, truth, ofs, R.sr, SR.then, SR.out, cond_true, cond_false, asT_var, asT_tup, asTs_nil, asTs_cons, asT_sub, List.set_cons_succ, List.set_cons_zero, len_tup, len_fr, all_eq, tuple_fr, list_tup, int_int, abs_int, max_int, add_int, sub_int, lt_int, le_int, gt_int, ge_int, is_non, isn_non, is_bl, isn_bl, eq_int, ne_int, eq_bl, ne_bl, em, g3, cmpop, e1]
          cases decide ((1000 : Int) < prod (intsOf l) 1) <;> rfl
        | ret w S' =>
          obtain ⟨rfl, t, e1, rfl⟩ := r
          simp only [evSs, evS, evE, evA, evW, evC, evI, evO, List.getElem?_cons_zero, List.getElem?_cons_succ, bok, R.bind_err, TW.st, truth, ofs, R.sr, SR.then, SR.out, cond_true, cond_false, asT_var, asT_tup, asTs_nil, asTs_cons, asT_sub, List.set_cons_succ, List.set_cons_zero, len_tup, len_fr, all_eq, tuple_fr, list_tup, int_int, abs_int, max_int, add_int, sub_int, lt_int, le_int, gt_int, ge_int, is_non, isn_non, is_bl, isn_bl, eq_int, ne_int, eq_bl, ne_bl, e1]
        | brk _ _ => exact r.elim
        | cnt _ _ => exact r.elim
        | err => exact r.elim
  | ref m =>
    simp only [evSs, evS, evE, evA, evW, evC, evI, evO, List.getElem?_cons_zero, List.getElem?_cons_succ, bok, R.bind_err, TW.st, truth, ofs, R.sr, SR.then, SR.out, cond_true, cond_false, asT_var, asT_tup, asTs_nil, asTs_cons, asT_sub, List.set_cons_succ, List.set_cons_zero, len_tup, len_fr, all_eq, tuple_fr, list_tup, int_int, abs_int, max_int, add_int, sub_int, lt_int, le_int, gt_int, ge_int, is_non, isn_non, is_bl, isn_bl, eq_int, ne_int, eq_bl, ne_bl, ty_tup h, isTup, Bool.not_false, flawV]
  | _ => rfl
theorem c_flaw2 {n : Nat} {S : Sto} {v : TV} (h : OkV S v) (he : ∀ l, v = .tup l → ∀ x ∈ l, OkV S x) : cl (n + 2) 26 [v] S = .ok (.v (flawV v)) S := by
  show (evSs (callN Q G (n + 1)) G b26 [some v, none, none] S).out = _
  unfold b26
  cases v with
  | tup l =>
    have r := flaw_run (C := callN Q G (n + 1)) (he l rfl) fun x i hx => flaw_body2 (l := l) hx
    simp only [evSs, evS, evE, evA, evW, evC, evI, evO, List.getElem?_cons_zero, List.getElem?_cons_succ, bok, R.bind_err, TW.st, truth, ofs, R.sr, SR.then, SR.out, cond_true, cond_false, asT_var, asT_tup, asTs_nil, asTs_cons, asT_sub, List.set_cons_succ, List.set_cons_zero, len_tup, len_fr, all_eq, tuple_fr, list_tup, int_int, abs_int, max_int, add_int, sub_int, lt_int, le_int, gt_int, ge_int, is_non, isn_non, is_bl, isn_bl, eq_int, ne_int, eq_bl, ne_bl, ty_tup h, isTup, Bool.not_true, bifn, bif1, seqS, cmpop, flawV, flawL]
    cases decide ((1 : Int) ≤ l.length) with
    | false => rfl
    | true =>
      cases decide ((l.length : Int) ≤ 6) with
      | false => rfl
      | true =>
        simp only [evSs, evS, evE, evA, evW, evC, evI, evO, List.getElem?_cons_zero, List.getElem?_cons_succ, bok, R.bind_err, TW.st, truth, ofs, R.sr, SR.then, SR.out, cond_true, cond_false, asT_var, asT_tup, asTs_nil, asTs_cons, asT_sub, List.set_cons_succ, List.set_cons_zero, len_tup, len_fr, all_eq, tuple_fr, list_tup, int_int, abs_int, max_int, add_int, sub_int, lt_int, le_int, gt_int, ge_int, is_non, isn_non, is_bl, isn_bl, eq_int, ne_int, eq_bl, ne_bl, Bool.not_true, srcOf, Itb.many, Src.many, Bool.and_true]
        revert r
        generalize forGo (asT (callN Q G (n + 1)) G (.tup (.cons (.var 1) (.cons (.var 2) .nil)))) (fun ρ S => evSs (callN Q G (n + 1)) G b26l0 ρ S) (l.length + 1) (.enum 0 (.ts l)) [some (.tup l), none, none] S = q
        intro r
        cases q with
        | nx ρ S' =>
          obtain ⟨rfl, e1, o1, o2, rfl⟩ := r
          obtain ⟨k1, k2⟩ := flawG_none l 0 e1
          have em : callN Q G (n + 1) 24 [.tup l] S' = .ok (.v (.int (prod (intsOf l) 1))) S' := by
            have := c_times (n := n) (S := S') k2
            rw [← k1] at this
            exact this
          simp only [evSs, evS, evE, evA, evW, evC, evI, evO, List.getElem?_cons_zero, List.getElem?_cons_succ, bok, R.bind_err, TW.st, truth, ofs, R.sr, SR.then, SR.out, cond_true, cond_false, asT_var, asT_tup, asTs_nil, asTs_cons, asT_sub, List.set_cons_succ, List.set_cons_zero, len_tup, len_fr, all_eq, tuple_fr, list_tup, int_int, abs_int, max_int, add_int, sub_int, lt_int, le_int, gt_int, ge_int, is_non, isn_non, is_bl, isn_bl, eq_int, ne_int, eq_bl, ne_bl, em, cmpop, e1]
          cases decide ((1000 : Int) < prod (intsOf l) 1) <;> rfl
        | ret w S' =>
          obtain ⟨rfl, t, e1, rfl⟩ := r
          simp only [evSs, evS, evE, evA, evW, evC, evI, evO, List.getElem?_cons_zero, List.getElem?_cons_succ, bok, R.bind_err, TW.st, truth, ofs, R.sr, SR.then, SR.out, cond_true, cond_false, asT_var, asT_tup, asTs_nil, asTs_cons, asT_sub, List.set_cons_succ, List.set_cons_zero, len_tup, len_fr, all_eq, tuple_fr, list_tup, int_int, abs_int, max_int, add_int, sub_int, lt_int, le_int, gt_int, ge_int, is_non, isn_non, is_bl, isn_bl, eq_int, ne_int, eq_bl, ne_bl, e1]
        | brk _ _ => exact r.elim
        | cnt _ _ => exact r.elim
        | err => exact r.elim
  | ref m =>
    simp only [evSs, evS, evE, evA, evW, evC, evI, evO, List.getElem?_cons_zero, List.getElem?_cons_succ, bok, R.bind_err, TW.st, truth, ofs, R.sr, SR.then, SR.out, cond_true, cond_false, asT_var, asT_tup, asTs_nil, asTs_cons, asT_sub, List.set_cons_succ, List.set_cons_zero, len_tup, len_fr, all_eq, tuple_fr, list_tup, int_int, abs_int, max_int, add_int, sub_int, lt_int, le_int, gt_int, ge_int, is_non, isn_non, is_bl, isn_bl, eq_int, ne_int, eq_bl, ne_bl, ty_tup h, isTup, Bool.not_false, flawV]
  | _ => rfl
end K10

namespace K10
open Ev PySem
theorem c_want {n : Nat} {S : Sto} {v : TV} (h : OkV S v) (he : ∀ l, v = .tup l → ∀ x ∈ l, OkV S x) (hf : flawV v = .non) : cl (n + 4) 8 [v] S = .ok (.v .non) S := by
  show (evSs (callN Q G (n + 3)) G b8 [some v] S).out = _
  have e : callN Q G (n + 3) 7 [v] S = _ := c_flaw h he
  unfold b8
  simp only [evSs, evS, evE, evA, evW, evC, evI, evO, List.getElem?_cons_zero, List.getElem?_cons_succ, bok, R.bind_err, TW.st, truth, ofs, R.sr, SR.then, SR.out, cond_true, cond_false, asT_var, asT_tup, asTs_nil, asTs_cons, asT_sub, List.set_cons_succ, List.set_cons_zero, len_tup, len_fr, all_eq, tuple_fr, list_tup, int_int, abs_int, max_int, add_int, sub_int, lt_int, le_int, gt_int, ge_int, is_non, isn_non, is_bl, isn_bl, eq_int, ne_int, eq_bl, ne_bl, e, hf, cmpop, isN, Bool.not_true]
theorem c_aresizes {n : Nat} {S : Sto} {v : TV} (h : OkV S v) (he : ∀ l, v = .tup l → ∀ x ∈ l, OkV S x) : cl (n + 4) 10 [v] S = .ok (.v (.bl (isN (flawV v)))) S := by
  show (evSs (callN Q G (n + 3)) G b10 [some v] S).out = _
  have e : callN Q G (n + 3) 7 [v] S = _ := c_flaw h he
  unfold b10
  simp only [evSs, evS, evE, evA, evW, evC, evI, evO, List.getElem?_cons_zero, List.getElem?_cons_succ, bok, R.bind_err, TW.st, truth, ofs, R.sr, SR.then, SR.out, cond_true, cond_false, asT_var, asT_tup, asTs_nil, asTs_cons, asT_sub, List.set_cons_succ, List.set_cons_zero, len_tup, len_fr, all_eq, tuple_fr, list_tup, int_int, abs_int, max_int, add_int, sub_int, lt_int, le_int, gt_int, ge_int, is_non, isn_non, is_bl, isn_bl, eq_int, ne_int, eq_bl, ne_bl, e, cmpop]
theorem c_szflaw {n : Nat} {S : Sto} {v : TV} (h : OkV S v) (he : ∀ l, v = .tup l → ∀ x ∈ l, OkV S x) : cl (n + 4) 11 [v] S = .ok (.v (flawV v)) S := by
  show (evSs (callN Q G (n + 3)) G b11 [some v] S).out = _
  have e : callN Q G (n + 3) 7 [v] S = _ := c_flaw h he
  unfold b11
  simp only [evSs, evS, evE, evA, evW, evC, evI, evO, List.getElem?_cons_zero, List.getElem?_cons_succ, bok, R.bind_err, TW.st, truth, ofs, R.sr, SR.then, SR.out, cond_true, cond_false, asT_var, asT_tup, asTs_nil, asTs_cons, asT_sub, List.set_cons_succ, List.set_cons_zero, len_tup, len_fr, all_eq, tuple_fr, list_tup, int_int, abs_int, max_int, add_int, sub_int, lt_int, le_int, gt_int, ge_int, is_non, isn_non, is_bl, isn_bl, eq_int, ne_int, eq_bl, ne_bl, e]
/-! ### fillings -/
def inn : TV → Bool
  | .tup [.int a, .int b] => decide (0 ≤ a) && decide (a < b)
  | _ => false
def fillB (ss : List Int) : TV → Bool
  | .tup l => decide ((l.length : Int) = ss.length) && (zp l (ss.map .int)).all inn
  | _ => false
theorem inn_isI : ∀ {l : List TV} {ss : List Int}, l.length = ss.length → (zp l (ss.map .int)).all inn = true → l.all isI = true
  | [], _, _, _ => rfl
  | x :: l, [], h, _ => by cases h
  | x :: l, s :: ss, h, a => by
    rw [List.map_cons, zp_cons, List.all_cons, Bool.and_eq_true] at a
    rw [List.all_cons, inn_isI (by simpa using h) a.2, Bool.and_true]
    cases x <;> first | rfl | cases a.1
theorem c_fillof {n : Nat} {S : Sto} {v : TV} {ss : List Int} (h : OkV S v) (he : ∀ l, v = .tup l → ∀ x ∈ l, OkV S x) (hz : ∀ l, v = .tup l → l.length ≤ 1000) : cl (n + 3) 9 [.tup (ss.map .int), v] S = .ok (.v (.bl (fillB ss v))) S := by
  show (evSs (callN Q G (n + 2)) G b9 [some (.tup (ss.map .int)), some v, none, none] S).out = _
  have e1 : callN Q G (n + 2) 2 [v, .int ((ss.map TV.int).length : Nat)] S = _ := c_tuple h
  unfold b9
  simp only [evSs, evS, evE, evA, evW, evC, evI, evO, List.getElem?_cons_zero, List.getElem?_cons_succ, bok, R.bind_err, TW.st, truth, ofs, R.sr, SR.then, SR.out, cond_true, cond_false, asT_var, asT_tup, asTs_nil, asTs_cons, asT_sub, List.set_cons_succ, List.set_cons_zero, len_tup, len_fr, all_eq, tuple_fr, list_tup, int_int, abs_int, max_int, add_int, sub_int, lt_int, le_int, gt_int, ge_int, is_non, isn_non, is_bl, isn_bl, eq_int, ne_int, eq_bl, ne_bl, e1]
  cases v with
  | tup l =>
    have hl := hz l rfl
    have hsz : l.length ≤ sizeLine := small_sz hl
    simp only [tl, List.length_map, fillB]
    by_cases hd : (l.length : Int) = ss.length
    · rw [decide_eq_true hd]
      have k0 : evE (callN Q G (n + 2)) G b9c0 [some (.tup (ss.map .int)), some (.tup l), none, none] S = .ok (.fr (l.map fun x => .bl (isI x))) S := by
        refine comp_map (b := .one (.ts l)) _ rfl (walks_ts l) (Nat.le_refl _) hsz fun x hx => ⟨_, rfl, ?_⟩
        have e0 : callN Q G (n + 2) 0 [x] S = _ := c_isint (he l rfl x hx)
        simp only [evSs, evS, evE, evA, evW, evC, evI, evO, List.getElem?_cons_zero, List.getElem?_cons_succ, bok, R.bind_err, TW.st, truth, ofs, R.sr, SR.then, SR.out, cond_true, cond_false, asT_var, asT_tup, asTs_nil, asTs_cons, asT_sub, List.set_cons_succ, List.set_cons_zero, len_tup, len_fr, all_eq, tuple_fr, list_tup, int_int, abs_int, max_int, add_int, sub_int, lt_int, le_int, gt_int, ge_int, is_non, isn_non, is_bl, isn_bl, eq_int, ne_int, eq_bl, ne_bl, wipe, e0]
      simp only [k0, evSs, evS, evE, evA, evW, evC, evI, evO, List.getElem?_cons_zero, List.getElem?_cons_succ, bok, R.bind_err, TW.st, truth, ofs, R.sr, SR.then, SR.out, cond_true, cond_false, asT_var, asT_tup, asTs_nil, asTs_cons, asT_sub, List.set_cons_succ, List.set_cons_zero, len_tup, len_fr, all_eq, tuple_fr, list_tup, int_int, abs_int, max_int, add_int, sub_int, lt_int, le_int, gt_int, ge_int, is_non, isn_non, is_bl, isn_bl, eq_int, ne_int, eq_bl, ne_bl, Bool.not_true]
      cases hI : l.all isI with
      | false =>
        cases hq : (zp l (ss.map .int)).all inn with
        | false => rfl
        | true =>
          have := inn_isI (by omega) hq
          rw [hI] at this
          cases this
      | true =>
        have k1 : evE (callN Q G (n + 2)) G b9c1 [some (.tup (ss.map .int)), some (.tup l), none, none] S = .ok (.fr ((zp l (ss.map .int)).map fun x => .bl (inn x))) S := by
          refine comp_map (b := .zip2 (.ts l) (.ts (ss.map .int))) _ rfl (walks_A (walkA_zip _ _)) (zp_len _ _) (Nat.le_trans (zp_len _ _) hsz) fun x hx => ?_
          obtain ⟨a, b, rfl, ha, hb⟩ := zp_mem hx
          obtain ⟨s, _, rfl⟩ := List.mem_map.mp hb
          have hi := List.all_eq_true.mp hI a ha
          cases a with
          | int i =>
            refine ⟨_, rfl, ?_⟩
            simp only [evSs, evS, evE, evA, evW, evC, evI, evO, List.getElem?_cons_zero, List.getElem?_cons_succ, bok, R.bind_err, TW.st, truth, ofs, R.sr, SR.then, SR.out, cond_true, cond_false, asT_var, asT_tup, asTs_nil, asTs_cons, asT_sub, List.set_cons_succ, List.set_cons_zero, len_tup, len_fr, all_eq, tuple_fr, list_tup, int_int, abs_int, max_int, add_int, sub_int, lt_int, le_int, gt_int, ge_int, is_non, isn_non, is_bl, isn_bl, eq_int, ne_int, eq_bl, ne_bl, wipe, inn]
            cases decide ((0 : Int) ≤ i) <;> rfl
          | _ => cases hi
        simp only [k1, evSs, evS, evE, evA, evW, evC, evI, evO, List.getElem?_cons_zero, List.getElem?_cons_succ, bok, R.bind_err, TW.st, truth, ofs, R.sr, SR.then, SR.out, cond_true, cond_false, asT_var, asT_tup, asTs_nil, asTs_cons, asT_sub, List.set_cons_succ, List.set_cons_zero, len_tup, len_fr, all_eq, tuple_fr, list_tup, int_int, abs_int, max_int, add_int, sub_int, lt_int, le_int, gt_int, ge_int, is_non, isn_non, is_bl, isn_bl, eq_int, ne_int, eq_bl, ne_bl, Bool.not_true, Bool.true_and]
    · rw [decide_eq_false hd]
      rfl
  | _ => rfl
theorem c_fill {n : Nat} {S : Sto} {v : TV} {ss : List Int} (hf : flawL (ss.map .int) = .non) (h : OkV S v) (he : ∀ l, v = .tup l → ∀ x ∈ l, OkV S x) (hz : ∀ l, v = .tup l → l.length ≤ 1000) : cl (n + 5) 12 [.tup (ss.map .int), v] S = .ok (.v (.bl (fillB ss v))) S := by
  show (evSs (callN Q G (n + 4)) G b12 [some (.tup (ss.map .int)), some v] S).out = _
  have e1 : callN Q G (n + 4) 8 [.tup (ss.map .int)] S = _ := c_want okv_tup (fun l e x hx => by
    cases e
    obtain ⟨i, _, rfl⟩ := List.mem_map.mp hx
    exact okv_int) hf
  have e2 : callN Q G (n + 4) 9 [.tup (ss.map .int), v] S = _ := c_fillof h he hz
  unfold b12
  simp only [evSs, evS, evE, evA, evW, evC, evI, evO, List.getElem?_cons_zero, List.getElem?_cons_succ, bok, R.bind_err, TW.st, truth, ofs, R.sr, SR.then, SR.out, cond_true, cond_false, asT_var, asT_tup, asTs_nil, asTs_cons, asT_sub, List.set_cons_succ, List.set_cons_zero, len_tup, len_fr, all_eq, tuple_fr, list_tup, int_int, abs_int, max_int, add_int, sub_int, lt_int, le_int, gt_int, ge_int, is_non, isn_non, is_bl, isn_bl, eq_int, ne_int, eq_bl, ne_bl, e1, e2]
theorem c_lfill {n : Nat} {S : Sto} {v : TV} {ss : List Int} (h : OkV S v) (he : ∀ l, v = .tup l → ∀ x ∈ l, OkV S x) (hz : ∀ l, v = .tup l → l.length ≤ 1000) : cl (n + 2) 29 [.tup (ss.map .int), v] S = .ok (.v (.bl (fillB ss v))) S := by
  show (evSs (callN Q G (n + 1)) G b29 [some (.tup (ss.map .int)), some v, none, none] S).out = _
  unfold b29
  cases v with
  | tup l =>
    have hl := hz l rfl
    have hsz : l.length ≤ sizeLine := small_sz hl
    simp only [evSs, evS, evE, evA, evW, evC, evI, evO, List.getElem?_cons_zero, List.getElem?_cons_succ, bok, R.bind_err, TW.st, truth, ofs, R.sr, SR.then, SR.out, cond_true, cond_false, asT_var, asT_tup, asTs_nil, asTs_cons, asT_sub, List.set_cons_succ, List.set_cons_zero, len_tup, len_fr, all_eq, tuple_fr, list_tup, int_int, abs_int, max_int, add_int, sub_int, lt_int, le_int, gt_int, ge_int, is_non, isn_non, is_bl, isn_bl, eq_int, ne_int, eq_bl, ne_bl, ty_tup h, isTup, List.length_map, fillB]
    by_cases hd : (l.length : Int) = ss.length
    · rw [decide_eq_true hd]
      have k1 : evE (callN Q G (n + 1)) G b29c0 [some (.tup (ss.map .int)), some (.tup l), none, none] S = .ok (.fr ((zp l (ss.map .int)).map fun x => .bl (inn x))) S := by
        refine comp_map (b := .zip2 (.ts l) (.ts (ss.map .int))) _ rfl (walks_A (walkA_zip _ _)) (zp_len _ _) (Nat.le_trans (zp_len _ _) hsz) fun x hx => ?_
        obtain ⟨a, b, rfl, ha, hb⟩ := zp_mem hx
        obtain ⟨s, _, rfl⟩ := List.mem_map.mp hb
        have e0 : callN Q G (n + 1) 25 [a] S = _ := c_whole (he l rfl a ha)
        refine ⟨_, rfl, ?_⟩
        simp only [evSs, evS, evE, evA, evW, evC, evI, evO, List.getElem?_cons_zero, List.getElem?_cons_succ, bok, R.bind_err, TW.st, truth, ofs, R.sr, SR.then, SR.out, cond_true, cond_false, asT_var, asT_tup, asTs_nil, asTs_cons, asT_sub, List.set_cons_succ, List.set_cons_zero, len_tup, len_fr, all_eq, tuple_fr, list_tup, int_int, abs_int, max_int, add_int, sub_int, lt_int, le_int, gt_int, ge_int, is_non, isn_non, is_bl, isn_bl, eq_int, ne_int, eq_bl, ne_bl, wipe, e0]
        cases a <;> try rfl
        rename_i i
        simp only [evSs, evS, evE, evA, evW, evC, evI, evO, List.getElem?_cons_zero, List.getElem?_cons_succ, bok, R.bind_err, TW.st, truth, ofs, R.sr, SR.then, SR.out, cond_true, cond_false, asT_var, asT_tup, asTs_nil, asTs_cons, asT_sub, List.set_cons_succ, List.set_cons_zero, len_tup, len_fr, all_eq, tuple_fr, list_tup, int_int, abs_int, max_int, add_int, sub_int, lt_int, le_int, gt_int, ge_int, is_non, isn_non, is_bl, isn_bl, eq_int, ne_int, eq_bl, ne_bl, isI, inn]
        cases decide ((0 : Int) ≤ i) <;> rfl
      simp only [k1, evSs, evS, evE, evA, evW, evC, evI, evO, List.getElem?_cons_zero, List.getElem?_cons_succ, bok, R.bind_err, TW.st, truth, ofs, R.sr, SR.then, SR.out, cond_true, cond_false, asT_var, asT_tup, asTs_nil, asTs_cons, asT_sub, List.set_cons_succ, List.set_cons_zero, len_tup, len_fr, all_eq, tuple_fr, list_tup, int_int, abs_int, max_int, add_int, sub_int, lt_int, le_int, gt_int, ge_int, is_non, isn_non, is_bl, isn_bl, eq_int, ne_int, eq_bl, ne_bl, Bool.true_and]
    · rw [decide_eq_false hd]
      rfl
  | ref m => simp only [evSs, evS, evE, evA, evW, evC, evI, evO, List.getElem?_cons_zero, List.getElem?_cons_succ, bok, R.bind_err, TW.st, truth, ofs, R.sr, SR.then, SR.out, cond_true, cond_false, asT_var, asT_tup, asTs_nil, asTs_cons, asT_sub, List.set_cons_succ, List.set_cons_zero, len_tup, len_fr, all_eq, tuple_fr, list_tup, int_int, abs_int, max_int, add_int, sub_int, lt_int, le_int, gt_int, ge_int, is_non, isn_non, is_bl, isn_bl, eq_int, ne_int, eq_bl, ne_bl, ty_tup h, isTup, fillB]
  | _ => rfl
end K10

namespace K10
open Ev PySem
/-- a value that the predicates may look at -/
structure GV (S : Sto) (v : TV) : Prop where
  ok : OkV S v
  el : ∀ l, v = .tup l → ∀ x ∈ l, OkV S x
  sz : ∀ l, v = .tup l → l.length ≤ 1000
def spell (m : Nat) : TV → Bool
  | .tup l => l.all isI && decide (sortI (intsOf l) = rngZ m)
  | _ => false
theorem rngZ_len (m : Nat) : (rngZ m).length = m := by simp [rngZ]
theorem rngZ_mem {m : Nat} {i : Int} : i ∈ rngZ m ↔ 0 ≤ i ∧ i < m := by
  simp only [rngZ, List.mem_map, List.mem_range]
  constructor
  · rintro ⟨k, hk, rfl⟩; omega
  · intro h; exact ⟨i.toNat, by omega, by omega⟩
theorem intsOf_len {l : List TV} (h : l.all isI = true) : (intsOf l).length = l.length := by
  have := congrArg List.length (ints_of h)
  simpa using this.symm
theorem spell_len {m : Nat} {l : List TV} (h : spell m (.tup l) = true) : l.length = m := by
  unfold spell at h
  rw [Bool.and_eq_true, decide_eq_true_eq] at h
  rw [← intsOf_len h.1, ← (sortI_perm (intsOf l)).length_eq, h.2, rngZ_len]
theorem spell_wi {m : Nat} {l : List TV} (h : spell m (.tup l) = true) : l.all (wi 0 ((m : Int) - 1)) = true := by
  unfold spell at h
  rw [Bool.and_eq_true, decide_eq_true_eq] at h
  rw [List.all_eq_true]
  intro x hx
  rw [ints_of h.1] at hx
  obtain ⟨i, hi, rfl⟩ := List.mem_map.mp hx
  have := (sortI_perm (intsOf l)).mem_iff.mpr hi
  rw [h.2, rngZ_mem] at this
  unfold wi
  rw [Bool.and_eq_true, decide_eq_true_eq, decide_eq_true_eq]
  omega
theorem wi_isI {lo hi : Int} {l : List TV} (h : l.all (wi lo hi) = true) : l.all isI = true := by
  rw [List.all_eq_true] at h ⊢
  intro x hx
  have := h x hx
  cases x <;> first | rfl | cases this
theorem sorted_tup {S : Sto} {l : List TV} (h : l.all isI = true) : bifn .sorted [.v (.tup l)] S = .ok (.fr ((sortI (intsOf l)).map .int)) S := by
  have e : ints? l = some (intsOf l) := by
    have q := ints_map (intsOf l)
    rw [← ints_of h] at q
    exact q
  show (match (seqS S (.v (.tup l))).bind ints? with | some l => R.ok (TW.fr ((sortI l).map .int)) S | none => .err) = _
  simp only [seqS, Option.bind_some, e]
theorem c_islist {n : Nat} {S : Sto} {l : List TV} : cl (n + 1) 3 [.tup l] S = .ok (.v (.bl true)) S := rfl
theorem c_order {n : Nat} {S : Sto} {l : List TV} {m : Nat} (g : GV S (.tup l)) (hm : m ≤ 1000) : cl (n + 3) 5 [.tup l, .int m] S = .ok (.v (.bl (spell m (.tup l)))) S := by
  show (evSs (callN Q G (n + 2)) G b5 [some (.tup l), some (.int m), none] S).out = _
  have e3 : callN Q G (n + 2) 3 [.tup l] S = _ := c_islist
  have hsz : l.length ≤ sizeLine := small_sz (g.sz l rfl)
  unfold b5
  simp only [evSs, evS, evE, evA, evW, evC, evI, evO, List.getElem?_cons_zero, List.getElem?_cons_succ, bok, R.bind_err, TW.st, truth, ofs, R.sr, SR.then, SR.out, cond_true, cond_false, asT_var, asT_tup, asTs_nil, asTs_cons, asT_sub, List.set_cons_succ, List.set_cons_zero, len_tup, len_fr, all_eq, tuple_fr, list_tup, int_int, abs_int, max_int, add_int, sub_int, lt_int, le_int, gt_int, ge_int, is_non, isn_non, is_bl, isn_bl, eq_int, ne_int, eq_bl, ne_bl, e3, Bool.not_true, Bool.not_false]
  by_cases hd : (l.length : Int) = m
  · have k0 : evE (callN Q G (n + 2)) G b5c0 [some (.tup l), some (.int m), none] S = .ok (.fr (l.map fun x => .bl (wi 0 ((m : Int) - 1) x))) S := by
      refine comp_map (b := .one (.ts l)) _ rfl (walks_ts l) (Nat.le_refl _) hsz fun x hx => ⟨_, rfl, ?_⟩
      have e0 : callN Q G (n + 2) 1 [x, .int 0, .int ((m : Int) - 1)] S = _ := c_within (g.el l rfl x hx)
      simp only [evSs, evS, evE, evA, evW, evC, evI, evO, List.getElem?_cons_zero, List.getElem?_cons_succ, bok, R.bind_err, TW.st, truth, ofs, R.sr, SR.then, SR.out, cond_true, cond_false, asT_var, asT_tup, asTs_nil, asTs_cons, asT_sub, List.set_cons_succ, List.set_cons_zero, len_tup, len_fr, all_eq, tuple_fr, list_tup, int_int, abs_int, max_int, add_int, sub_int, lt_int, le_int, gt_int, ge_int, is_non, isn_non, is_bl, isn_bl, eq_int, ne_int, eq_bl, ne_bl, wipe, e0]
    rw [decide_eq_true hd]
    simp only [evSs, evS, evE, evA, evW, evC, evI, evO, List.getElem?_cons_zero, List.getElem?_cons_succ, bok, R.bind_err, TW.st, truth, ofs, R.sr, SR.then, SR.out, cond_true, cond_false, asT_var, asT_tup, asTs_nil, asTs_cons, asT_sub, List.set_cons_succ, List.set_cons_zero, len_tup, len_fr, all_eq, tuple_fr, list_tup, int_int, abs_int, max_int, add_int, sub_int, lt_int, le_int, gt_int, ge_int, is_non, isn_non, is_bl, isn_bl, eq_int, ne_int, eq_bl, ne_bl, k0, Bool.not_true]
    cases hw : l.all (wi 0 ((m : Int) - 1)) with
    | false =>
      cases hs : spell m (.tup l) with
      | false => rfl
      | true => rw [spell_wi hs] at hw; cases hw
    | true =>
      have hI := wi_isI hw
      simp only [evSs, evS, evE, evA, evW, evC, evI, evO, List.getElem?_cons_zero, List.getElem?_cons_succ, bok, R.bind_err, TW.st, truth, ofs, R.sr, SR.then, SR.out, cond_true, cond_false, asT_var, asT_tup, asTs_nil, asTs_cons, asT_sub, List.set_cons_succ, List.set_cons_zero, len_tup, len_fr, all_eq, tuple_fr, list_tup, int_int, abs_int, max_int, add_int, sub_int, lt_int, le_int, gt_int, ge_int, is_non, isn_non, is_bl, isn_bl, eq_int, ne_int, eq_bl, ne_bl, Bool.not_true, sorted_tup hI, rng_list (show m ≤ 1000000 by omega), eq_frI, spell, hI, Bool.true_and]
  · rw [decide_eq_false hd]
    have : spell m (.tup l) = false := by
      cases hs : spell m (.tup l) with
      | false => rfl
      | true => exact absurd (by rw [spell_len hs]) hd
    rw [this]
    rfl
theorem c_spell {n : Nat} {S : Sto} {v : TV} {m : Nat} (g : GV S v) (hm : m ≤ 1000) : cl (n + 4) 15 [.int m, v] S = .ok (.v (.bl (spell m v))) S := by
  show (evSs (callN Q G (n + 3)) G b15 [some (.int m), some v] S).out = _
  unfold b15
  simp only [evSs, evS, evE, evA, evW, evC, evI, evO, List.getElem?_cons_zero, List.getElem?_cons_succ, bok, R.bind_err, TW.st, truth, ofs, R.sr, SR.then, SR.out, cond_true, cond_false, asT_var, asT_tup, asTs_nil, asTs_cons, asT_sub, List.set_cons_succ, List.set_cons_zero, len_tup, len_fr, all_eq, tuple_fr, list_tup, int_int, abs_int, max_int, add_int, sub_int, lt_int, le_int, gt_int, ge_int, is_non, isn_non, is_bl, isn_bl, eq_int, ne_int, eq_bl, ne_bl, ty_tup g.ok]
  cases v with
  | tup l =>
    have e : callN Q G (n + 3) 5 [.tup l, .int m] S = _ := c_order g hm
    simp only [evSs, evS, evE, evA, evW, evC, evI, evO, List.getElem?_cons_zero, List.getElem?_cons_succ, bok, R.bind_err, TW.st, truth, ofs, R.sr, SR.then, SR.out, cond_true, cond_false, asT_var, asT_tup, asTs_nil, asTs_cons, asT_sub, List.set_cons_succ, List.set_cons_zero, len_tup, len_fr, all_eq, tuple_fr, list_tup, int_int, abs_int, max_int, add_int, sub_int, lt_int, le_int, gt_int, ge_int, is_non, isn_non, is_bl, isn_bl, eq_int, ne_int, eq_bl, ne_bl, isTup, e]
  | _ => rfl
theorem c_tableof {n : Nat} {S : Sto} {v : TV} {m : Nat} (g : GV S v) (hm : m ≤ 1000) : cl (n + 4) 18 [.int m, v] S = .ok (.v (.bl (spell m v))) S := by
  show (evSs (callN Q G (n + 3)) G b18 [some (.int m), some v] S).out = _
  unfold b18
  simp only [evSs, evS, evE, evA, evW, evC, evI, evO, List.getElem?_cons_zero, List.getElem?_cons_succ, bok, R.bind_err, TW.st, truth, ofs, R.sr, SR.then, SR.out, cond_true, cond_false, asT_var, asT_tup, asTs_nil, asTs_cons, asT_sub, List.set_cons_succ, List.set_cons_zero, len_tup, len_fr, all_eq, tuple_fr, list_tup, int_int, abs_int, max_int, add_int, sub_int, lt_int, le_int, gt_int, ge_int, is_non, isn_non, is_bl, isn_bl, eq_int, ne_int, eq_bl, ne_bl, ty_tup g.ok]
  cases v with
  | tup l =>
    have e : callN Q G (n + 3) 5 [.tup l, .int m] S = _ := c_order g hm
    simp only [evSs, evS, evE, evA, evW, evC, evI, evO, List.getElem?_cons_zero, List.getElem?_cons_succ, bok, R.bind_err, TW.st, truth, ofs, R.sr, SR.then, SR.out, cond_true, cond_false, asT_var, asT_tup, asTs_nil, asTs_cons, asT_sub, List.set_cons_succ, List.set_cons_zero, len_tup, len_fr, all_eq, tuple_fr, list_tup, int_int, abs_int, max_int, add_int, sub_int, lt_int, le_int, gt_int, ge_int, is_non, isn_non, is_bl, isn_bl, eq_int, ne_int, eq_bl, ne_bl, isTup, e]
  | _ => rfl
theorem gv_ints {S : Sto} {ss : List Int} (h : ss.length ≤ 1000) : GV S (.tup (ss.map .int)) := ⟨okv_tup, fun l e x hx => by
    cases e
    obtain ⟨i, _, rfl⟩ := List.mem_map.mp hx
    exact okv_int, fun l e => by cases e; simpa using h⟩
theorem c_want2 {n : Nat} {S : Sto} {ss : List Int} (h : ss.length ≤ 1000) (hf : flawL (ss.map .int) = .non) : cl (n + 4) 8 [.tup (ss.map .int)] S = .ok (.v .non) S := c_want (gv_ints h).ok (gv_ints h).el hf
theorem c_table {n : Nat} {S : Sto} {v : TV} {ss : List Int} {m : Nat} (g : GV S v) (h : ss.length ≤ 1000) (hf : flawL (ss.map .int) = .non) (hs : ∀ i ∈ ss, -(2 ^ 64) < i ∧ i < 2 ^ 64) (hp : prod ss 1 = m) (hm : m ≤ 1000) : cl (n + 5) 19 [.tup (ss.map .int), v] S = .ok (.v (.bl (spell m v))) S := by
  show (evSs (callN Q G (n + 4)) G b19 [some (.tup (ss.map .int)), some v] S).out = _
  have e1 : callN Q G (n + 4) 8 [.tup (ss.map .int)] S = _ := c_want2 h hf
  have e2 : callN Q G (n + 4) 6 [.tup (ss.map .int)] S = _ := c_mult hs
  have e3 : callN Q G (n + 4) 18 [.int m, v] S = _ := c_tableof g hm
  unfold b19
  simp only [evSs, evS, evE, evA, evW, evC, evI, evO, List.getElem?_cons_zero, List.getElem?_cons_succ, bok, R.bind_err, TW.st, truth, ofs, R.sr, SR.then, SR.out, cond_true, cond_false, asT_var, asT_tup, asTs_nil, asTs_cons, asT_sub, List.set_cons_succ, List.set_cons_zero, len_tup, len_fr, all_eq, tuple_fr, list_tup, int_int, abs_int, max_int, add_int, sub_int, lt_int, le_int, gt_int, ge_int, is_non, isn_non, is_bl, isn_bl, eq_int, ne_int, eq_bl, ne_bl, e1, e2, hp, e3]
theorem c_lspell {n : Nat} {S : Sto} {v : TV} {m : Nat} (g : GV S v) (hm : m ≤ 1000) : cl (n + 2) 31 [.int m, v] S = .ok (.v (.bl (spell m v))) S := by
  show (evSs (callN Q G (n + 1)) G b31 [some (.int m), some v, none] S).out = _
  unfold b31
  simp only [evSs, evS, evE, evA, evW, evC, evI, evO, List.getElem?_cons_zero, List.getElem?_cons_succ, bok, R.bind_err, TW.st, truth, ofs, R.sr, SR.then, SR.out, cond_true, cond_false, asT_var, asT_tup, asTs_nil, asTs_cons, asT_sub, List.set_cons_succ, List.set_cons_zero, len_tup, len_fr, all_eq, tuple_fr, list_tup, int_int, abs_int, max_int, add_int, sub_int, lt_int, le_int, gt_int, ge_int, is_non, isn_non, is_bl, isn_bl, eq_int, ne_int, eq_bl, ne_bl, ty_tup g.ok]
  cases v with
  | tup l =>
    have hsz : l.length ≤ sizeLine := small_sz (g.sz l rfl)
    have k0 : evE (callN Q G (n + 1)) G b31c0 [some (.int m), some (.tup l), none] S = .ok (.fr (l.map fun x => .bl (isI x))) S := by
      refine comp_map (b := .one (.ts l)) _ rfl (walks_ts l) (Nat.le_refl _) hsz fun x hx => ⟨_, rfl, ?_⟩
      have e0 : callN Q G (n + 1) 25 [x] S = _ := c_whole (g.el l rfl x hx)
      simp only [evSs, evS, evE, evA, evW, evC, evI, evO, List.getElem?_cons_zero, List.getElem?_cons_succ, bok, R.bind_err, TW.st, truth, ofs, R.sr, SR.then, SR.out, cond_true, cond_false, asT_var, asT_tup, asTs_nil, asTs_cons, asT_sub, List.set_cons_succ, List.set_cons_zero, len_tup, len_fr, all_eq, tuple_fr, list_tup, int_int, abs_int, max_int, add_int, sub_int, lt_int, le_int, gt_int, ge_int, is_non, isn_non, is_bl, isn_bl, eq_int, ne_int, eq_bl, ne_bl, wipe, e0]
    simp only [evSs, evS, evE, evA, evW, evC, evI, evO, List.getElem?_cons_zero, List.getElem?_cons_succ, bok, R.bind_err, TW.st, truth, ofs, R.sr, SR.then, SR.out, cond_true, cond_false, asT_var, asT_tup, asTs_nil, asTs_cons, asT_sub, List.set_cons_succ, List.set_cons_zero, len_tup, len_fr, all_eq, tuple_fr, list_tup, int_int, abs_int, max_int, add_int, sub_int, lt_int, le_int, gt_int, ge_int, is_non, isn_non, is_bl, isn_bl, eq_int, ne_int, eq_bl, ne_bl, isTup, k0]
    cases hI : l.all isI with
    | false => simp only [evSs, evS, evE, evA, evW, evC, evI, evO, List.getElem?_cons_zero, List.getElem?_cons_succ, bok, R.bind_err, TW.st, truth, ofs, R.sr, SR.then, SR.out, cond_true, cond_false, asT_var, asT_tup, asTs_nil, asTs_cons, asT_sub, List.set_cons_succ, List.set_cons_zero, len_tup, len_fr, all_eq, tuple_fr, list_tup, int_int, abs_int, max_int, add_int, sub_int, lt_int, le_int, gt_int, ge_int, is_non, isn_non, is_bl, isn_bl, eq_int, ne_int, eq_bl, ne_bl, spell, hI, Bool.false_and]
    | true =>
      simp only [evSs, evS, evE, evA, evW, evC, evI, evO, List.getElem?_cons_zero, List.getElem?_cons_succ, bok, R.bind_err, TW.st, truth, ofs, R.sr, SR.then, SR.out, cond_true, cond_false, asT_var, asT_tup, asTs_nil, asTs_cons, asT_sub, List.set_cons_succ, List.set_cons_zero, len_tup, len_fr, all_eq, tuple_fr, list_tup, int_int, abs_int, max_int, add_int, sub_int, lt_int, le_int, gt_int, ge_int, is_non, isn_non, is_bl, isn_bl, eq_int, ne_int, eq_bl, ne_bl, sorted_tup hI, rng_list (show m ≤ 1000000 by omega), eq_frI, spell, hI, Bool.true_and]
  | _ => rfl
end K10

namespace K10
open Ev PySem
/-! ### letters -/
def sp : TV → Bool
  | .tup [.int s, row] => spell s.toNat row
  | _ => false
def lettB (ss : List Int) : TV → Bool
  | .tup l => decide ((l.length : Int) = ss.length) && (zp (ss.map .int) l).all sp
  | _ => false
theorem c_lettof {n : Nat} {S : Sto} {v : TV} {ss : List Int} (g : OkV S v) (hv : ∀ l, v = .tup l → ∀ x ∈ l, GV S x) (h : ss.length ≤ 1000) (hs : ∀ s ∈ ss, 0 ≤ s ∧ s ≤ 1000) : cl (n + 5) 14 [.tup (ss.map .int), v] S = .ok (.v (.bl (lettB ss v))) S := by
  show (evSs (callN Q G (n + 4)) G b14 [some (.tup (ss.map .int)), some v, none, none] S).out = _
  have e1 : callN Q G (n + 4) 2 [v, .int ((ss.map TV.int).length : Nat)] S = _ := c_tuple g
  unfold b14
  simp only [evSs, evS, evE, evA, evW, evC, evI, evO, List.getElem?_cons_zero, List.getElem?_cons_succ, bok, R.bind_err, TW.st, truth, ofs, R.sr, SR.then, SR.out, cond_true, cond_false, asT_var, asT_tup, asTs_nil, asTs_cons, asT_sub, List.set_cons_succ, List.set_cons_zero, len_tup, len_fr, all_eq, tuple_fr, list_tup, int_int, abs_int, max_int, add_int, sub_int, lt_int, le_int, gt_int, ge_int, is_non, isn_non, is_bl, isn_bl, eq_int, ne_int, eq_bl, ne_bl, e1]
  cases v with
  | tup l =>
    simp only [tl, List.length_map, lettB]
    cases decide ((l.length : Int) = ss.length) with
    | false => rfl
    | true =>
      have hsz : (ss.map TV.int).length ≤ sizeLine := by rw [List.length_map]; exact small_sz h
      have k1 : evE (callN Q G (n + 4)) G b14c0 [some (.tup (ss.map .int)), some (.tup l), none, none] S = .ok (.fr ((zp (ss.map .int) l).map fun x => .bl (sp x))) S := by
        refine comp_map (b := .zip2 (.ts (ss.map .int)) (.ts l)) _ rfl (walks_A (walkA_zip _ _)) (zp_len _ _) (Nat.le_trans (zp_len _ _) hsz) fun x hx => ?_
        obtain ⟨a, b, rfl, ha, hb⟩ := zp_mem hx
        obtain ⟨s, hs1, rfl⟩ := List.mem_map.mp ha
        obtain ⟨h0, h1⟩ := hs s hs1
        refine ⟨_, rfl, ?_⟩
        obtain ⟨m, rfl⟩ : ∃ m : Nat, s = m := ⟨s.toNat, by omega⟩
        have e0 : callN Q G (n + 4) 15 [.int m, b] S = _ := c_spell (hv l rfl b hb) (by omega)
        simp only [evSs, evS, evE, evA, evW, evC, evI, evO, List.getElem?_cons_zero, List.getElem?_cons_succ, bok, R.bind_err, TW.st, truth, ofs, R.sr, SR.then, SR.out, cond_true, cond_false, asT_var, asT_tup, asTs_nil, asTs_cons, asT_sub, List.set_cons_succ, List.set_cons_zero, len_tup, len_fr, all_eq, tuple_fr, list_tup, int_int, abs_int, max_int, add_int, sub_int, lt_int, le_int, gt_int, ge_int, is_non, isn_non, is_bl, isn_bl, eq_int, ne_int, eq_bl, ne_bl, wipe, e0, sp, Int.toNat_natCast]
      simp only [k1, evSs, evS, evE, evA, evW, evC, evI, evO, List.getElem?_cons_zero, List.getElem?_cons_succ, bok, R.bind_err, TW.st, truth, ofs, R.sr, SR.then, SR.out, cond_true, cond_false, asT_var, asT_tup, asTs_nil, asTs_cons, asT_sub, List.set_cons_succ, List.set_cons_zero, len_tup, len_fr, all_eq, tuple_fr, list_tup, int_int, abs_int, max_int, add_int, sub_int, lt_int, le_int, gt_int, ge_int, is_non, isn_non, is_bl, isn_bl, eq_int, ne_int, eq_bl, ne_bl, Bool.true_and]
  | _ => rfl
theorem c_lett {n : Nat} {S : Sto} {v : TV} {ss : List Int} (hf : flawL (ss.map .int) = .non) (g : OkV S v) (hv : ∀ l, v = .tup l → ∀ x ∈ l, GV S x) (h : ss.length ≤ 1000) (hs : ∀ s ∈ ss, 0 ≤ s ∧ s ≤ 1000) : cl (n + 6) 17 [.tup (ss.map .int), v] S = .ok (.v (.bl (lettB ss v))) S := by
  show (evSs (callN Q G (n + 5)) G b17 [some (.tup (ss.map .int)), some v] S).out = _
  have e1 : callN Q G (n + 5) 8 [.tup (ss.map .int)] S = _ := c_want2 h hf
  have e2 : callN Q G (n + 5) 14 [.tup (ss.map .int), v] S = _ := c_lettof g hv h hs
  unfold b17
  simp only [evSs, evS, evE, evA, evW, evC, evI, evO, List.getElem?_cons_zero, List.getElem?_cons_succ, bok, R.bind_err, TW.st, truth, ofs, R.sr, SR.then, SR.out, cond_true, cond_false, asT_var, asT_tup, asTs_nil, asTs_cons, asT_sub, List.set_cons_succ, List.set_cons_zero, len_tup, len_fr, all_eq, tuple_fr, list_tup, int_int, abs_int, max_int, add_int, sub_int, lt_int, le_int, gt_int, ge_int, is_non, isn_non, is_bl, isn_bl, eq_int, ne_int, eq_bl, ne_bl, e1, e2]
/-! ### lots -/
def ltp : TV → Bool
  | .tup [.int a, .int b] => decide (a < b)
  | _ => false
def rise (ns : List Int) : Bool := (zp (ns.map .int) ((ns.map .int).drop 1)).all ltp
theorem rise_iff : ∀ ns : List Int, rise ns = true ↔ ns.Pairwise (· < ·)
  | [] => by simp [rise, zp]
  | [a] => by simp [rise, zp]
  | a :: b :: r => by
    have ih := rise_iff (b :: r)
    have e : rise (a :: b :: r) = (decide (a < b) && rise (b :: r)) := rfl
    rw [e, Bool.and_eq_true, ih, decide_eq_true_eq, List.pairwise_cons (a := a)]
    constructor
    · rintro ⟨h1, h2⟩
      refine ⟨fun c hc => ?_, h2⟩
      rcases List.mem_cons.mp hc with e | e
      · rw [e]; exact h1
      · exact Int.lt_trans h1 ((List.pairwise_cons.mp h2).1 c e)
    · rintro ⟨h1, h2⟩
      exact ⟨h1 b List.mem_cons_self, h2⟩
theorem cut_1 {α : Type} (l : List α) : cut l (some 1) none = l.drop 1 := cut_lo l 1
theorem c_rising {n : Nat} {S : Sto} {ns : List Int} (h : ns.length ≤ 1000) : cl (n + 1) 4 [.tup (ns.map .int)] S = .ok (.v (.bl (rise ns))) S := by
  show (evSs (callN Q G n) G b4 [some (.tup (ns.map .int)), none, none] S).out = _
  have hsz : (ns.map TV.int).length ≤ sizeLine := by rw [List.length_map]; exact small_sz h
  have ei : evI (callN Q G n) G (.zip (.cons (.var 0) (.cons (.sl (.var 0) (.some (.c (.int 1))) .no) .nil))) [some (.tup (ns.map .int)), none, none] S = .ok (.zip2 (.ts (ns.map .int)) (.ts ((ns.map .int).drop 1))) S := by
    simp only [evSs, evS, evE, evA, evW, evC, evI, evO, List.getElem?_cons_zero, List.getElem?_cons_succ, bok, R.bind_err, TW.st, truth, ofs, R.sr, SR.then, SR.out, cond_true, cond_false, asT_var, asT_tup, asTs_nil, asTs_cons, asT_sub, List.set_cons_succ, List.set_cons_zero, len_tup, len_fr, all_eq, tuple_fr, list_tup, int_int, abs_int, max_int, add_int, sub_int, lt_int, le_int, gt_int, ge_int, is_non, isn_non, is_bl, isn_bl, eq_int, ne_int, eq_bl, ne_bl, slice, cut_1, srcOf]
  have k1 : evE (callN Q G n) G b4c0 [some (.tup (ns.map .int)), none, none] S = .ok (.fr ((zp (ns.map .int) ((ns.map .int).drop 1)).map fun x => .bl (ltp x))) S := by
    refine comp_map _ ei (walks_A (walkA_zip _ _)) (zp_len _ _) (Nat.le_trans (zp_len _ _) hsz) fun x hx => ?_
    obtain ⟨a, b, rfl, ha, hb⟩ := zp_mem hx
    obtain ⟨i, _, rfl⟩ := List.mem_map.mp ha
    obtain ⟨j, _, rfl⟩ := List.mem_map.mp (List.mem_of_mem_drop hb)
    exact ⟨_, rfl, by simp only [evSs, evS, evE, evA, evW, evC, evI, evO, List.getElem?_cons_zero, List.getElem?_cons_succ, bok, R.bind_err, TW.st, truth, ofs, R.sr, SR.then, SR.out, cond_true, cond_false, asT_var, asT_tup, asTs_nil, asTs_cons, asT_sub, List.set_cons_succ, List.set_cons_zero, len_tup, len_fr, all_eq, tuple_fr, list_tup, int_int, abs_int, max_int, add_int, sub_int, lt_int, le_int, gt_int, ge_int, is_non, isn_non, is_bl, isn_bl, eq_int, ne_int, eq_bl, ne_bl, wipe, ltp]⟩
  unfold b4
  simp only [evSs, evS, evE, evA, evW, evC, evI, evO, List.getElem?_cons_zero, List.getElem?_cons_succ, bok, R.bind_err, TW.st, truth, ofs, R.sr, SR.then, SR.out, cond_true, cond_false, asT_var, asT_tup, asTs_nil, asTs_cons, asT_sub, List.set_cons_succ, List.set_cons_zero, len_tup, len_fr, all_eq, tuple_fr, list_tup, int_int, abs_int, max_int, add_int, sub_int, lt_int, le_int, gt_int, ge_int, is_non, isn_non, is_bl, isn_bl, eq_int, ne_int, eq_bl, ne_bl, k1, rise]
def lotB (m : Int) : TV → Bool
  | .tup l => !l.isEmpty && (l.all (wi 0 (m - 1)) && rise (intsOf l))
  | _ => false
theorem c_lotof {n : Nat} {S : Sto} {v : TV} {ss : List Int} (g : GV S v) : cl (n + 3) 13 [.tup (ss.map .int), v] S = .ok (.v (.bl (lotB ss.length v))) S := by
  show (evSs (callN Q G (n + 2)) G b13 [some (.tup (ss.map .int)), some v, none] S).out = _
  unfold b13
  simp only [evSs, evS, evE, evA, evW, evC, evI, evO, List.getElem?_cons_zero, List.getElem?_cons_succ, bok, R.bind_err, TW.st, truth, ofs, R.sr, SR.then, SR.out, cond_true, cond_false, asT_var, asT_tup, asTs_nil, asTs_cons, asT_sub, List.set_cons_succ, List.set_cons_zero, len_tup, len_fr, all_eq, tuple_fr, list_tup, int_int, abs_int, max_int, add_int, sub_int, lt_int, le_int, gt_int, ge_int, is_non, isn_non, is_bl, isn_bl, eq_int, ne_int, eq_bl, ne_bl, ty_tup g.ok]
  cases v with
  | tup l =>
    have hsz : l.length ≤ sizeLine := small_sz (g.sz l rfl)
    have k0 : evE (callN Q G (n + 2)) G b13c0 [some (.tup (ss.map .int)), some (.tup l), none] S = .ok (.fr (l.map fun x => .bl (wi 0 ((ss.length : Int) - 1) x))) S := by
      refine comp_map (b := .one (.ts l)) _ rfl (walks_ts l) (Nat.le_refl _) hsz fun x hx => ⟨_, rfl, ?_⟩
      have e0 : callN Q G (n + 2) 1 [x, .int 0, .int ((ss.length : Int) - 1)] S = _ := c_within (g.el l rfl x hx)
      simp only [evSs, evS, evE, evA, evW, evC, evI, evO, List.getElem?_cons_zero, List.getElem?_cons_succ, bok, R.bind_err, TW.st, truth, ofs, R.sr, SR.then, SR.out, cond_true, cond_false, asT_var, asT_tup, asTs_nil, asTs_cons, asT_sub, List.set_cons_succ, List.set_cons_zero, len_tup, len_fr, all_eq, tuple_fr, list_tup, int_int, abs_int, max_int, add_int, sub_int, lt_int, le_int, gt_int, ge_int, is_non, isn_non, is_bl, isn_bl, eq_int, ne_int, eq_bl, ne_bl, wipe, List.length_map, e0]
    simp only [evSs, evS, evE, evA, evW, evC, evI, evO, List.getElem?_cons_zero, List.getElem?_cons_succ, bok, R.bind_err, TW.st, truth, ofs, R.sr, SR.then, SR.out, cond_true, cond_false, asT_var, asT_tup, asTs_nil, asTs_cons, asT_sub, List.set_cons_succ, List.set_cons_zero, len_tup, len_fr, all_eq, tuple_fr, list_tup, int_int, abs_int, max_int, add_int, sub_int, lt_int, le_int, gt_int, ge_int, is_non, isn_non, is_bl, isn_bl, eq_int, ne_int, eq_bl, ne_bl, isTup, Bool.not_true, k0, lotB]
    cases l with
    | nil => rfl
    | cons x r =>
      have hne : decide (((x :: r).length : Int) = 0) = false := decide_eq_false (by rw [List.length_cons]; omega)
      simp only [hne, evSs, evS, evE, evA, evW, evC, evI, evO, List.getElem?_cons_zero, List.getElem?_cons_succ, bok, R.bind_err, TW.st, truth, ofs, R.sr, SR.then, SR.out, cond_true, cond_false, asT_var, asT_tup, asTs_nil, asTs_cons, asT_sub, List.set_cons_succ, List.set_cons_zero, len_tup, len_fr, all_eq, tuple_fr, list_tup, int_int, abs_int, max_int, add_int, sub_int, lt_int, le_int, gt_int, ge_int, is_non, isn_non, is_bl, isn_bl, eq_int, ne_int, eq_bl, ne_bl, k0, List.isEmpty_cons, Bool.not_false, Bool.true_and]
      cases hw : (x :: r).all (wi 0 ((ss.length : Int) - 1)) with
      | false => rfl
      | true =>
        have hI := wi_isI hw
        have e4 : callN Q G (n + 2) 4 [.tup (x :: r)] S = .ok (.v (.bl (rise (intsOf (x :: r))))) S := by
          have q := c_rising (n := n + 1) (S := S) (ns := intsOf (x :: r)) (by rw [intsOf_len hI]; exact g.sz _ rfl)
          rw [← ints_of hI] at q
          exact q
        simp only [evSs, evS, evE, evA, evW, evC, evI, evO, List.getElem?_cons_zero, List.getElem?_cons_succ, bok, R.bind_err, TW.st, truth, ofs, R.sr, SR.then, SR.out, cond_true, cond_false, asT_var, asT_tup, asTs_nil, asTs_cons, asT_sub, List.set_cons_succ, List.set_cons_zero, len_tup, len_fr, all_eq, tuple_fr, list_tup, int_int, abs_int, max_int, add_int, sub_int, lt_int, le_int, gt_int, ge_int, is_non, isn_non, is_bl, isn_bl, eq_int, ne_int, eq_bl, ne_bl, e4, Bool.true_and]
  | _ => rfl
theorem c_lot {n : Nat} {S : Sto} {v : TV} {ss : List Int} (hf : flawL (ss.map .int) = .non) (h : ss.length ≤ 1000) (g : GV S v) : cl (n + 5) 16 [.tup (ss.map .int), v] S = .ok (.v (.bl (lotB ss.length v))) S := by
  show (evSs (callN Q G (n + 4)) G b16 [some (.tup (ss.map .int)), some v] S).out = _
  have e1 : callN Q G (n + 4) 8 [.tup (ss.map .int)] S = _ := c_want2 h hf
  have e2 : callN Q G (n + 4) 13 [.tup (ss.map .int), v] S = _ := c_lotof g
  unfold b16
  simp only [evSs, evS, evE, evA, evW, evC, evI, evO, List.getElem?_cons_zero, List.getElem?_cons_succ, bok, R.bind_err, TW.st, truth, ofs, R.sr, SR.then, SR.out, cond_true, cond_false, asT_var, asT_tup, asTs_nil, asTs_cons, asT_sub, List.set_cons_succ, List.set_cons_zero, len_tup, len_fr, all_eq, tuple_fr, list_tup, int_int, abs_int, max_int, add_int, sub_int, lt_int, le_int, gt_int, ge_int, is_non, isn_non, is_bl, isn_bl, eq_int, ne_int, eq_bl, ne_bl, e1, e2]
theorem eq_tup0 {S : Sto} {l : List TV} {ds : List PyData} (h : mapO (fun x => den 29 S x) l = some ds) : cmpop .eq (.v (.tup l)) (.v (.tup [])) S = .ok l.isEmpty S := by
  show (match (mapO (fun x => den 29 S x) l).map PyData.tuple, some (PyData.tuple []) with | some d, some e => R.ok (PyData.eqv d e) S | _, _ => .err) = _
  rw [h]
  cases l with
  | nil => cases h; rfl
  | cons x r =>
    obtain ⟨y, t, _, _, rfl⟩ := mapO_cons h
    rfl
theorem sset_eq {S : Sto} {C : Call} {ρ : Ev.Env} {a : E} {l : List TV} (h : evE C G a ρ S = .ok (.v (.tup l)) S) (hI : l.all isI = true) (hz : l.length < 64) : evE C G (.sset a) ρ S = .ok (.fr ((dedI (intsOf l)).map .int)) S := by
  have e : ints? l = some (intsOf l) := by
    have q := ints_map (intsOf l)
    rw [← ints_of hI] at q
    exact q
  have hz2 : (intsOf l).length < 64 := by rw [intsOf_len hI]; exact hz
  simp only [evE, h, bok, tupI, e, hz2, if_true]
theorem item_last {S : Sto} (a : Int) (t : List Int) : item (.v (.tup (.int a :: t.map .int))) (.v (.int (-1))) S = .ok (.v (.int ((a :: t).getLast (List.cons_ne_nil _ _)))) S := by
  have e : Ev.atI (TV.int a :: t.map .int) (-1) = some (.int ((a :: t).getLast (List.cons_ne_nil _ _))) := by
    unfold Ev.atI
    rw [if_neg (by decide), if_pos (by rw [List.length_cons]; omega)]
    have h1 : (-1 + (((TV.int a :: t.map .int).length : Nat) : Int)).toNat = (a :: t).length - 1 := by
      rw [List.length_cons, List.length_map, List.length_cons]; omega
    rw [h1, show TV.int a :: t.map .int = (a :: t).map .int from rfl, List.getElem?_map, List.getLast_eq_getElem, List.getElem?_eq_getElem]
    rfl
  show (match seqS S (.v (.tup (.int a :: t.map .int))) with | some l => (R.of (Ev.atI l (-1)) S).bind fun v S => R.ok (TW.v v) S | none => .err) = _
  simp only [seqS, e]
  rfl
theorem wi_ends (a : Int) (t : List Int) (m : Int) (pw : (a :: t).Pairwise (· < ·)) : (TV.int a :: t.map .int).all (wi 0 (m - 1)) = (decide (0 ≤ a) && decide ((a :: t).getLast (List.cons_ne_nil _ _) < m)) := by
  have hl : ∀ k ∈ a :: t, k ≤ (a :: t).getLast (List.cons_ne_nil _ _) := by
    intro k hk
    have := List.dropLast_concat_getLast (List.cons_ne_nil a t)
    rw [← this] at hk
    rcases List.mem_append.mp hk with e | e
    · rw [← this] at pw
      exact Int.le_of_lt ((List.pairwise_append.mp pw).2.2 k e _ (by simp))
    · simp at e; rw [e]; exact Int.le_refl _
  have ha : ∀ k ∈ a :: t, a ≤ k := by
    intro k hk
    rcases List.mem_cons.mp hk with e | e
    · rw [e]; exact Int.le_refl _
    · exact Int.le_of_lt ((List.pairwise_cons.mp pw).1 k e)
  rw [Bool.eq_iff_iff, List.all_eq_true, Bool.and_eq_true, decide_eq_true_eq, decide_eq_true_eq]
  have wk : ∀ k : Int, wi 0 (m - 1) (.int k) = true ↔ 0 ≤ k ∧ k ≤ m - 1 := fun k => by
    unfold wi
    rw [Bool.and_eq_true, decide_eq_true_eq, decide_eq_true_eq]
  constructor
  · intro h
    have h0 := (wk a).mp (h _ List.mem_cons_self)
    have h1 : TV.int ((a :: t).getLast (List.cons_ne_nil _ _)) ∈ TV.int a :: t.map .int := List.mem_map_of_mem (f := TV.int) (List.getLast_mem (List.cons_ne_nil a t))
    have h2 := (wk _).mp (h _ h1)
    omega
  · rintro ⟨h0, h1⟩ x hx
    have hx : x ∈ (a :: t).map TV.int := hx
    obtain ⟨k, hk, rfl⟩ := List.mem_map.mp hx
    have := hl k hk
    have := ha k hk
    exact (wk k).mpr (by omega)
theorem c_llot {n : Nat} {S : Sto} {v : TV} {ss : List Int} (g : GV S v) (hd : ∀ l, v = .tup l → ∃ ds, mapO (fun x => den 29 S x) l = some ds) (hz : ∀ l, v = .tup l → l.length < 64) : cl (n + 2) 30 [.tup (ss.map .int), v] S = .ok (.v (.bl (lotB ss.length v))) S := by
  show (evSs (callN Q G (n + 1)) G b30 [some (.tup (ss.map .int)), some v, none] S).out = _
  unfold b30
  cases v with
  | tup l =>
    have hsz : l.length ≤ sizeLine := small_sz (g.sz l rfl)
    obtain ⟨ds, hds⟩ := hd l rfl
    have k0 : evE (callN Q G (n + 1)) G b30c0 [some (.tup (ss.map .int)), some (.tup l), none] S = .ok (.fr (l.map fun x => .bl (isI x))) S := by
      refine comp_map (b := .one (.ts l)) _ rfl (walks_ts l) (Nat.le_refl _) hsz fun x hx => ⟨_, rfl, ?_⟩
      have e0 : callN Q G (n + 1) 25 [x] S = _ := c_whole (g.el l rfl x hx)
      simp only [evSs, evS, evE, evA, evW, evC, evI, evO, List.getElem?_cons_zero, List.getElem?_cons_succ, bok, R.bind_err, TW.st, truth, ofs, R.sr, SR.then, SR.out, cond_true, cond_false, asT_var, asT_tup, asTs_nil, asTs_cons, asT_sub, List.set_cons_succ, List.set_cons_zero, len_tup, len_fr, all_eq, tuple_fr, list_tup, int_int, abs_int, max_int, add_int, sub_int, lt_int, le_int, gt_int, ge_int, is_non, isn_non, is_bl, isn_bl, eq_int, ne_int, eq_bl, ne_bl, wipe, e0]
    have ks := fun hI => sset_eq (S := S) (C := callN Q G (n + 1)) (ρ := [some (.tup (ss.map .int)), some (.tup l), none]) (a := .var 1) (l := l) rfl hI (hz l rfl)
    generalize hss : E.sset (.var 1) = esset at ks ⊢
    simp only [evSs, evS, evE, evA, evW, evC, evI, evO, List.getElem?_cons_zero, List.getElem?_cons_succ, bok, R.bind_err, TW.st, truth, ofs, R.sr, SR.then, SR.out, cond_true, cond_false, asT_var, asT_tup, asTs_nil, asTs_cons, asT_sub, List.set_cons_succ, List.set_cons_zero, len_tup, len_fr, all_eq, tuple_fr, list_tup, int_int, abs_int, max_int, add_int, sub_int, lt_int, le_int, gt_int, ge_int, is_non, isn_non, is_bl, isn_bl, eq_int, ne_int, eq_bl, ne_bl, ty_tup g.ok, isTup, Bool.not_true, eq_tup0 hds, k0, lotB]
    cases l with
    | nil => rfl
    | cons x r =>
      simp only [List.isEmpty_cons, evSs, evS, evE, evA, evW, evC, evI, evO, List.getElem?_cons_zero, List.getElem?_cons_succ, bok, R.bind_err, TW.st, truth, ofs, R.sr, SR.then, SR.out, cond_true, cond_false, asT_var, asT_tup, asTs_nil, asTs_cons, asT_sub, List.set_cons_succ, List.set_cons_zero, len_tup, len_fr, all_eq, tuple_fr, list_tup, int_int, abs_int, max_int, add_int, sub_int, lt_int, le_int, gt_int, ge_int, is_non, isn_non, is_bl, isn_bl, eq_int, ne_int, eq_bl, ne_bl, k0, Bool.not_false, Bool.true_and]
      cases hI : (x :: r).all isI with
      | false =>
        have : (x :: r).all (wi 0 ((ss.length : Int) - 1)) = false := by
          cases q : (x :: r).all (wi 0 ((ss.length : Int) - 1)) with
          | false => rfl
          | true => rw [wi_isI q] at hI; cases hI
        rw [this]
        rfl
      | true =>
        have el : x :: r = (intsOf (x :: r)).map .int := ints_of hI
        simp only [ks hI, evSs, evS, evE, evA, evW, evC, evI, evO, List.getElem?_cons_zero, List.getElem?_cons_succ, bok, R.bind_err, TW.st, truth, ofs, R.sr, SR.then, SR.out, cond_true, cond_false, asT_var, asT_tup, asTs_nil, asTs_cons, asT_sub, List.set_cons_succ, List.set_cons_zero, len_tup, len_fr, all_eq, tuple_fr, list_tup, int_int, abs_int, max_int, add_int, sub_int, lt_int, le_int, gt_int, ge_int, is_non, isn_non, is_bl, isn_bl, eq_int, ne_int, eq_bl, ne_bl, Bool.not_true]
        clear hds k0 ks hsz hd hz
        cases x with
        | int a =>
          have er : r = (intsOf r).map .int := by
            rw [List.all_cons, Bool.and_eq_true] at hI
            exact ints_of hI.2
          rw [show intsOf (.int a :: r) = a :: intsOf r from rfl]
          generalize intsOf r = t at er ⊢
          subst er
          have e1 : cmpop .eq (.fr (.int a :: t.map .int)) (.fr ((dedI (a :: t)).map .int)) S = .ok (decide (a :: t = dedI (a :: t))) S := eq_frI (a :: t) _
          have e2 : item (.v (.tup (.int a :: t.map .int))) (.v (.int 0)) S = .ok (.v (.int a)) S := rfl
          have e3 : item (.v (.tup (.int a :: t.map .int))) (.v (.int (-1))) S = .ok (.v (.int ((a :: t).getLast (List.cons_ne_nil _ _)))) S := item_last a t
          have e4 : ∀ t : Bool, (R.of (some t) S : R Bool) = .ok t S := fun _ => rfl
          simp only [e1, evSs, evS, evE, evA, evW, evC, evI, evO, List.getElem?_cons_zero, List.getElem?_cons_succ, bok, R.bind_err, TW.st, truth, ofs, R.sr, SR.then, SR.out, cond_true, cond_false, asT_var, asT_tup, asTs_nil, asTs_cons, asT_sub, List.set_cons_succ, List.set_cons_zero, len_tup, len_fr, all_eq, tuple_fr, list_tup, int_int, abs_int, max_int, add_int, sub_int, lt_int, le_int, gt_int, ge_int, is_non, isn_non, is_bl, isn_bl, eq_int, ne_int, eq_bl, ne_bl]
          by_cases hp : a :: t = dedI (a :: t)
          · have pw : (a :: t).Pairwise (· < ·) := by rw [hp]; exact dedI_rise _
            have hr : rise (a :: t) = true := (rise_iff _).mpr pw
            have hw : (TV.int a :: t.map .int).all (wi 0 ((ss.length : Int) - 1)) = (decide (0 ≤ a) && decide ((a :: t).getLast (List.cons_ne_nil _ _) < (ss.length : Int))) := wi_ends a t _ pw
            rw [decide_eq_true hp, hr, hw, Bool.and_true]
            simp only [evSs, evS, evE, evA, evW, evC, evI, evO, List.getElem?_cons_zero, List.getElem?_cons_succ, bok, R.bind_err, TW.st, truth, ofs, R.sr, SR.then, SR.out, cond_true, cond_false, asT_var, asT_tup, asTs_nil, asTs_cons, asT_sub, List.set_cons_succ, List.set_cons_zero, len_tup, len_fr, all_eq, tuple_fr, list_tup, int_int, abs_int, max_int, add_int, sub_int, lt_int, le_int, gt_int, ge_int, is_non, isn_non, is_bl, isn_bl, eq_int, ne_int, eq_bl, ne_bl, e2, e3, List.length_map]
            cases decide ((0 : Int) ≤ a) <;> rfl
          · have hr : rise (a :: t) = false := by
              cases q : rise (a :: t) with
              | false => rfl
              | true => exact absurd (rise_one ((rise_iff _).mp q) (dedI_rise _) fun k => (dedI_mem k _).symm) hp
            rw [decide_eq_false hp, hr, Bool.and_false]
            rfl
        | _ =>
          rw [List.all_cons, Bool.and_eq_true] at hI
          cases hI.1
  | ref m => simp only [evSs, evS, evE, evA, evW, evC, evI, evO, List.getElem?_cons_zero, List.getElem?_cons_succ, bok, R.bind_err, TW.st, truth, ofs, R.sr, SR.then, SR.out, cond_true, cond_false, asT_var, asT_tup, asTs_nil, asTs_cons, asT_sub, List.set_cons_succ, List.set_cons_zero, len_tup, len_fr, all_eq, tuple_fr, list_tup, int_int, abs_int, max_int, add_int, sub_int, lt_int, le_int, gt_int, ge_int, is_non, isn_non, is_bl, isn_bl, eq_int, ne_int, eq_bl, ne_bl, ty_tup g.ok, isTup, Bool.not_false, lotB]
  | _ => rfl
end K10

namespace K10
open Ev PySem
theorem draw_ok {n p : Nat} {S : Sto} {many : Int} (hp : Pot S p) (h0 : 0 < many) (h1 : many < 1073741824) : ∃ d S', cl (n + 1) 21 [.ref p, .int many] S = .ok (.v (.int d)) S' ∧ 0 ≤ d ∧ d < many ∧ Adv p S S' ∧ S'.nx = S.nx := by
  have hlt := hp.lt
  obtain ⟨a, b, e⟩ := hp
  have i0 : item (.v (.ref p)) (.v (.int 0)) S = .ok (.v (.int a)) S := item_ref e rfl
  have i1 : item (.v (.ref p)) (.v (.int 1)) S = .ok (.v (.int b)) S := item_ref e rfl
  by_cases ha : 0 < a
  · refine ⟨a % many, S.set p (.lst [.int (a / many), .int b]), ?_, Int.emod_nonneg _ (by omega), Int.emod_lt_of_pos _ h0, ⟨Nat.le_refl _, fun m hm hn => Sto.get_set_ne hn, ⟨_, _, Sto.get_set_same hlt⟩⟩, rfl⟩
    show (evSs (callN Q G n) G b21 [some (.ref p), some (.int many), none] S).out = _
    have s0 : setIx (.v (.ref p)) (.v (.int 0)) (.int (a / many)) S = some (S.set p (.lst [.int (a / many), .int b])) := setIx_ref (j := 0) e rfl
    unfold b21
    simp only [evSs, evS, evE, evA, evW, evC, evI, evO, List.getElem?_cons_zero, List.getElem?_cons_succ, bok, R.bind_err, TW.st, truth, ofs, R.sr, SR.then, SR.out, cond_true, cond_false, asT_var, asT_tup, asTs_nil, asTs_cons, asT_sub, List.set_cons_succ, List.set_cons_zero, len_tup, len_fr, all_eq, tuple_fr, list_tup, int_int, abs_int, max_int, add_int, sub_int, lt_int, le_int, gt_int, ge_int, is_non, isn_non, is_bl, isn_bl, eq_int, ne_int, eq_bl, ne_bl, i0, decide_eq_true ha, divmod_int ⟨h0, h1⟩, s0]
  · have hb : ∀ x : Int, 0 ≤ x % 2147483587 ∧ x % 2147483587 < 2147483587 := fun x => ⟨Int.emod_nonneg _ (by decide), Int.emod_lt_of_pos _ (by decide)⟩
    obtain ⟨b', hb'⟩ : ∃ b', b' = (b * 64325 + 6096) % 2147483587 := ⟨_, rfl⟩
    have hbb : 0 ≤ b' ∧ b' < 2147483587 := by rw [hb']; exact hb _
    have s1 : setIx (.v (.ref p)) (.v (.int 1)) (.int b') S = some (S.set p (.lst [.int a, .int b'])) := setIx_ref (j := 1) e rfl
    have e2 : (S.set p (.lst [.int a, .int b'])).get p = some (.lst [.int a, .int b']) := Sto.get_set_same hlt
    have j1 : item (.v (.ref p)) (.v (.int 1)) (S.set p (.lst [.int a, .int b'])) = .ok (.v (.int b')) _ := item_ref e2 rfl
    refine ⟨(b' * b' % 2147483579 / 19) % many, S.set p (.lst [.int a, .int b']), ?_, Int.emod_nonneg _ (by omega), Int.emod_lt_of_pos _ h0, ⟨Nat.le_refl _, fun m hm hn => Sto.get_set_ne hn, ⟨_, _, e2⟩⟩, rfl⟩
    show (evSs (callN Q G n) G b21 [some (.ref p), some (.int many), none] S).out = _
    unfold b21
    simp only [evSs, evS, evE, evA, evW, evC, evI, evO, List.getElem?_cons_zero, List.getElem?_cons_succ, bok, R.bind_err, TW.st, truth, ofs, R.sr, SR.then, SR.out, cond_true, cond_false, asT_var, asT_tup, asTs_nil, asTs_cons, asT_sub, List.set_cons_succ, List.set_cons_zero, len_tup, len_fr, all_eq, tuple_fr, list_tup, int_int, abs_int, max_int, add_int, sub_int, lt_int, le_int, gt_int, ge_int, is_non, isn_non, is_bl, isn_bl, eq_int, ne_int, eq_bl, ne_bl, i0, i1, decide_eq_false ha, mul_r (show -(2 ^ 64) < (64325 : Int) ∧ (64325 : Int) < 2 ^ 64 by decide), mod_int (show (0 : Int) < 2147483587 by decide), ← hb', s1, j1, mul_r (show -(2 ^ 64) < b' ∧ b' < 2 ^ 64 by omega), mod_int (show (0 : Int) < 2147483579 by decide), fdiv_int (show (0 : Int) < 19 ∧ (19 : Int) < 1073741824 by decide), mod_int h0]
theorem pick_ok {n p q : Nat} {S : Sto} {l : List TV} (hp : Pot S p) (hq : S.get q = some (.lst l)) (hpq : q ≠ p) (hl : 0 < l.length) (hl2 : l.length ≤ 1000) : ∃ y S', y ∈ l ∧ cl (n + 2) 22 [.ref p, .ref q] S = .ok (.v y) S' ∧ Adv p S S' ∧ S'.nx = S.nx := by
  obtain ⟨d, S', e, d0, d1, ad, nx⟩ := draw_ok (n := n) (many := (l.length : Int)) hp (by omega) (by omega)
  have hq' := ad.get hq hpq
  have hd : d.toNat < l.length := by omega
  refine ⟨l[d.toNat], S', List.getElem_mem hd, ?_, ad, nx⟩
  have e' : callN Q G (n + 1) 21 [.ref p, .int (l.length : Nat)] S = _ := e
  have i0 : item (.v (.ref q)) (.v (.int d)) S' = .ok (.v l[d.toNat]) S' := item_ref hq' (atI_nat d0 (List.getElem?_eq_getElem hd))
  show (evSs (callN Q G (n + 1)) G b22 [some (.ref p), some (.ref q)] S).out = _
  unfold b22
  simp only [evSs, evS, evE, evA, evW, evC, evI, evO, List.getElem?_cons_zero, List.getElem?_cons_succ, bok, R.bind_err, TW.st, truth, ofs, R.sr, SR.then, SR.out, cond_true, cond_false, asT_var, asT_tup, asTs_nil, asTs_cons, asT_sub, List.set_cons_succ, List.set_cons_zero, len_tup, len_fr, all_eq, tuple_fr, list_tup, int_int, abs_int, max_int, add_int, sub_int, lt_int, le_int, gt_int, ge_int, is_non, isn_non, is_bl, isn_bl, eq_int, ne_int, eq_bl, ne_bl, len_ref hq, e', i0]
/-! ### mixed -/
theorem ne_nil_ref {S : Sto} {m : Nat} {ns : List Int} (h : S.get m = some (.lst (ns.map .int))) : cmpop .ne (.v (.ref m)) (.fr []) S = .ok (!ns.isEmpty) S := by
  have e : denW S (.v (.ref m)) = some (.list (ns.map .int)) := by
    show (match S.get m with | some (.lst l) => (mapO (fun x => den 29 S x) l).map PyData.list | some (.frz l) => _ | none => none) = _
    rw [h]
    simp only [mapO_ints, Option.map_some]
  show (match denW S (.v (.ref m)), some (PyData.list []) with | some d, some e => R.ok (!PyData.eqv d e) S | _, _ => .err) = _
  rw [e]
  cases ns <;> rfl
theorem map_erase : ∀ (l : List Int) (k : Nat), (l.map TV.int).eraseIdx k = (l.eraseIdx k).map .int
  | [], _ => rfl
  | _ :: _, 0 => rfl
  | x :: l, k + 1 => congrArg (TV.int x :: ·) (map_erase l k)
theorem erase_perm : ∀ (l : List Int) (k : Nat) (h : k < l.length), ([l[k]] ++ l.eraseIdx k).Perm l
  | x :: l, 0, _ => List.Perm.refl _
  | x :: l, k + 1, h => (List.Perm.swap x _ _).trans ((erase_perm l k (by simpa using h)).cons x)
theorem mixed_ok {n p q : Nat} {S : Sto} {ns : List Int} (hp : Pot S p) (hq : S.get q = some (.lst (ns.map .int))) (hl : ns.length ≤ 1000) :
    ∃ (r : Nat) (S' : Sto) (ms : List Int), cl (n + 2) 23 [.ref p, .ref q] S = .ok (.v (.ref r)) S' ∧ S'.get r = some (.lst (ms.map .int)) ∧ ms.Perm ns ∧ Adv p S S' := by
  have hlt := hp.lt
  obtain ⟨L, hL⟩ : ∃ L, L = S.nx := ⟨_, rfl⟩
  obtain ⟨S1, hS1⟩ : ∃ S1, S1 = (S.push (.lst (ns.map .int))).push (.lst []) := ⟨_, rfl⟩
  have gL : S1.get L = some (.lst (ns.map .int)) := by rw [hS1, hL, Sto.get_push_lt (Nat.lt_succ_self _)]; exact Sto.get_push_same
  have gF : S1.get (L + 1) = some (.lst ([].map TV.int)) := by rw [hS1, hL]; exact Sto.get_push_same
  have a1 : Adv p S S1 := by rw [hS1]; exact (Adv.push hp _).trans (Adv.push (Adv.push hp _).pot _)
  have run : RS (whileGo (fun ρ S => (evE (callN Q G (n + 1)) G (.cmp .ne (.var 2) (.lst .nil)) ρ S).bind fun x S => R.of (truth S x) S) (fun ρ S => evSs (callN Q G (n + 1)) G b23l0 ρ S) 1000000000000 [some (.ref p), some (.ref q), some (.ref L), some (.ref (L + 1))] S1)
      (fun ρ S' => ρ = [some (.ref p), some (.ref q), some (.ref L), some (.ref (L + 1))] ∧ Adv p S S' ∧ ∃ ms : List Int, S'.get (L + 1) = some (.lst (ms.map .int)) ∧ ms.Perm ns) (fun _ _ => False) := by
    refine while_run (fun k ρ S' => ρ = [some (.ref p), some (.ref q), some (.ref L), some (.ref (L + 1))] ∧ Adv p S S' ∧ ∃ ls ms : List Int, ls.length = k ∧ S'.get L = some (.lst (ls.map .int)) ∧ S'.get (L + 1) = some (.lst (ms.map .int)) ∧ (ms ++ ls).Perm ns) (fun k ρ S' h => ?_) _ ns.length (Nat.lt_of_le_of_lt hl (by decide)) ⟨rfl, a1, ns, [], rfl, gL, gF, List.Perm.refl _⟩
    obtain ⟨rfl, ad, ls, ms, hk, g1, g2, pm⟩ := h
    refine ⟨!ls.isEmpty, S', ?_, fun h => ?_, fun h => ?_⟩
    · simp only [evSs, evS, evE, evA, evW, evC, evI, evO, List.getElem?_cons_zero, List.getElem?_cons_succ, bok, R.bind_err, TW.st, truth, ofs, R.sr, SR.then, SR.out, cond_true, cond_false, asT_var, asT_tup, asTs_nil, asTs_cons, asT_sub, List.set_cons_succ, List.set_cons_zero, len_tup, len_fr, all_eq, tuple_fr, list_tup, int_int, abs_int, max_int, add_int, sub_int, lt_int, le_int, gt_int, ge_int, is_non, isn_non, is_bl, isn_bl, eq_int, ne_int, eq_bl, ne_bl, ne_nil_ref g1]
    · cases ls with
      | nil => exact ⟨rfl, ad, ms, g2, by simpa using pm⟩
      | cons _ _ => cases h
    · have hne : 0 < ls.length := by cases ls with | nil => cases h | cons _ _ => simp
      have hlen : (ms ++ ls).length = ns.length := pm.length_eq
      rw [List.length_append] at hlen
      obtain ⟨d, S2, e, d0, d1, ad2, nx2⟩ := draw_ok (n := n) (many := (ls.length : Int)) ad.pot (by omega) (by omega)
      have hd : d.toNat < ls.length := by omega
      have hLp : L ≠ p := by omega
      have hFp : L + 1 ≠ p := by omega
      have g1' := ad2.get g1 hLp
      have g2' := ad2.get g2 hFp
      have lL : L < S2.nx := Sto.lt_of_get g1'
      have lF : L + 1 < S2.nx := Sto.lt_of_get g2'
      have e' : callN Q G (n + 1) 21 [.ref p, .int ((ls.map TV.int).length : Nat)] S' = .ok (.v (.int d)) S2 := by rw [List.length_map]; exact e
      have t1 : mtTy .append (.v (.ref (L + 1))) S' = some () := by simp only [mtTy, lstS, g2, Option.map_some]
      have t2 : mtTy .popAt (.v (.ref L)) S' = some () := by simp only [mtTy, lstS, g1, Option.map_some]
      obtain ⟨S3, hS3⟩ : ∃ S3, S3 = S2.set L (.lst ((ls.eraseIdx d.toNat).map .int)) := ⟨_, rfl⟩
      have m1 : meth .popAt (.v (.ref L)) [.int d] S2 = .ok (.v (.int ls[d.toNat])) S3 := by
        have ix : Ev.ixN (ls.map TV.int).length d = some d.toNat := by
          unfold Ev.ixN
          rw [if_pos d0, if_pos (by rw [List.length_map]; exact d1)]
        have gl : (ls.map TV.int)[d.toNat]? = some (.int ls[d.toNat]) := by rw [List.getElem?_map, List.getElem?_eq_getElem hd]; rfl
        have er : (ls.map TV.int).eraseIdx d.toNat = (ls.eraseIdx d.toNat).map .int := map_erase ls d.toNat
        have bd : -(2 ^ 63) ≤ d ∧ d < 2 ^ 63 := by omega
        simp only [meth, g1', bd, and_self, if_true, ix, gl, er, hS3]
      have g3 : S3.get (L + 1) = some (.lst (ms.map .int)) := by rw [hS3, Sto.get_set_ne (by omega)]; exact g2'
      have m2 : meth .append (.v (.ref (L + 1))) [.int ls[d.toNat]] S3 = .ok (.v .non) (S3.set (L + 1) (.lst ((ms ++ [ls[d.toNat]]).map .int))) := by
        have hz : (ms.map TV.int).length < sizeLine := by rw [List.length_map]; exact Nat.lt_of_le_of_lt (show ms.length ≤ 1000 by omega) (by decide)
        have em : ms.map TV.int ++ [.int ls[d.toNat]] = (ms ++ [ls[d.toNat]]).map .int := by simp
        simp only [meth, g3, hz, if_true, em]
      have body : evSs (callN Q G (n + 1)) G b23l0 [some (.ref p), some (.ref q), some (.ref L), some (.ref (L + 1))] S' = .nx [some (.ref p), some (.ref q), some (.ref L), some (.ref (L + 1))] (S3.set (L + 1) (.lst ((ms ++ [ls[d.toNat]]).map .int))) := by
        unfold b23l0
        simp only [evSs, evS, evE, evA, evW, evC, evI, evO, List.getElem?_cons_zero, List.getElem?_cons_succ, bok, R.bind_err, TW.st, truth, ofs, R.sr, SR.then, SR.out, cond_true, cond_false, asT_var, asT_tup, asTs_nil, asTs_cons, asT_sub, List.set_cons_succ, List.set_cons_zero, len_tup, len_fr, all_eq, tuple_fr, list_tup, int_int, abs_int, max_int, add_int, sub_int, lt_int, le_int, gt_int, ge_int, is_non, isn_non, is_bl, isn_bl, eq_int, ne_int, eq_bl, ne_bl, t1, t2, len_ref g1, e', m1, m2]
      rw [body]
      refine ⟨(ls.eraseIdx d.toNat).length, by rw [List.length_eraseIdx_of_lt hd]; omega, rfl, ?_, ls.eraseIdx d.toNat, ms ++ [ls[d.toNat]], rfl, ?_, ?_, ?_⟩
      · have a3 : Adv p S S3 := by rw [hS3]; exact (ad.trans ad2).put (by omega) lL hLp _
        exact a3.put (by omega) (by rw [hS3]; exact lF) hFp _
      · rw [Sto.get_set_ne (by omega), hS3]; exact Sto.get_set_same lL
      · exact Sto.get_set_same (by rw [hS3]; exact lF)
      · refine List.Perm.trans ?_ pm
        rw [List.append_assoc]
        exact List.Perm.append_left ms (erase_perm ls d.toNat hd)
  revert run
  generalize hw : whileGo (fun ρ S => (evE (callN Q G (n + 1)) G (.cmp .ne (.var 2) (.lst .nil)) ρ S).bind fun x S => R.of (truth S x) S) (fun ρ S => evSs (callN Q G (n + 1)) G b23l0 ρ S) 1000000000000 [some (.ref p), some (.ref q), some (.ref L), some (.ref (L + 1))] S1 = res
  intro run
  cases res with
  | nx ρ S' =>
    obtain ⟨rfl, ad, ms, g, pm⟩ := run
    refine ⟨L + 1, S', ms, ?_, g, pm, ad⟩
    show (evSs (callN Q G (n + 1)) G b23 [some (.ref p), some (.ref q), none, none] S).out = _
    have ws : evS (callN Q G (n + 1)) G (.whil (.cmp .ne (.var 2) (.lst .nil)) b23l0) [some (.ref p), some (.ref q), some (.ref L), some (.ref (L + 1))] S1 = .nx [some (.ref p), some (.ref q), some (.ref L), some (.ref (L + 1))] S' := hw
    unfold b23
    generalize Ev.St.whil (.cmp .ne (.var 2) (.lst .nil)) b23l0 = wst at ws ⊢
    simp only [evSs, evS, evE, evA, evW, evC, evI, evO, List.getElem?_cons_zero, List.getElem?_cons_succ, bok, R.bind_err, TW.st, truth, ofs, R.sr, SR.then, SR.out, cond_true, cond_false, asT_var, asT_tup, asTs_nil, asTs_cons, asT_sub, List.set_cons_succ, List.set_cons_zero, len_tup, len_fr, all_eq, tuple_fr, list_tup, int_int, abs_int, max_int, add_int, sub_int, lt_int, le_int, gt_int, ge_int, is_non, isn_non, is_bl, isn_bl, eq_int, ne_int, eq_bl, ne_bl, list_ref hq, TW.st_fr, Sto.push_nx]
    rw [← hS1, ← hL, ws]
    rfl
  | ret _ _ => exact run.elim
  | brk _ _ => exact run.elim
  | cnt _ _ => exact run.elim
  | err => exact run.elim
end K10

namespace K10
open Ev PySem
/-- picking from a list that is just written -/
theorem pick_new {n p : Nat} {S : Sto} {l : List TV} (hp : Pot S p) (hl : 0 < l.length) (hl2 : l.length ≤ 1000) : ∃ y S', y ∈ l ∧ cl (n + 2) 22 [.ref p, .ref S.nx] (S.push (.lst l)) = .ok (.v y) S' ∧ Adv p S S' ∧ Adv p (S.push (.lst l)) S' ∧ S'.nx = S.nx + 1 := by
  have hlt := hp.lt
  obtain ⟨y, S', h1, h2, h3, h4⟩ := pick_ok (n := n) (q := S.nx) (hp.push (.lst l)) Sto.get_push_same (by omega) hl hl2
  exact ⟨y, S', h1, h2, (Adv.push hp _).trans h3, h3, h4⟩
theorem sizes_ok {n p : Nat} {S : Sto} (hp : Pot S p) : ∃ (ns : List Int) (S' : Sto), cl (n + 3) 27 [.ref p] S = .ok (.v (.tup (ns.map .int))) S' ∧ ns.length ≤ 7 ∧ Adv p S S' := by
  obtain ⟨d, S1, e, d0, d1, ad, _⟩ := draw_ok (n := n + 1) (many := 7) hp (by decide) (by decide)
  obtain ⟨k, hk⟩ : ∃ k : Nat, 1 + d = (k : Int) := ⟨(1 + d).toNat, by omega⟩
  have e' : callN Q G (n + 2) 21 [.ref p, .int 7] S = _ := e
  have ei : evI (callN Q G (n + 2)) G (.rng (.cons (.bin .add (.c (.int 1)) (.call 21 (.cons (.var 0) (.cons (.c (.int 7)) .nil)))) .nil)) [some (.ref p), none] S = .ok (.rng 0 1 k) S1 := by
    simp only [evSs, evS, evE, evA, evW, evC, evI, evO, List.getElem?_cons_zero, List.getElem?_cons_succ, bok, R.bind_err, TW.st, truth, ofs, R.sr, SR.then, SR.out, cond_true, cond_false, asT_var, asT_tup, asTs_nil, asTs_cons, asT_sub, List.set_cons_succ, List.set_cons_zero, len_tup, len_fr, all_eq, tuple_fr, list_tup, int_int, abs_int, max_int, add_int, sub_int, lt_int, le_int, gt_int, ge_int, is_non, isn_non, is_bl, isn_bl, eq_int, ne_int, eq_bl, ne_bl, e', hk, rngOf_1 (show k ≤ 1000000 by omega)]
  have run := comp_run (tg := asT (callN Q G (n + 2)) G (.var 1)) (cs := fun ρ S => evC (callN Q G (n + 2)) G .nil ρ S)
    (el := fun ρ S => (evE (callN Q G (n + 2)) G (.call 22 (.cons (.var 0) (.cons (.lst (.cons (.c (.int 2)) (.cons (.c (.int 2)) (.cons (.c (.int 2)) (.cons (.c (.int 3)) (.cons (.c (.int 3)) (.cons (.c (.int 4)) (.cons (.c (.int 5)) (.cons (.c (.int 9)) .nil))))))))) .nil))) ρ S).bind fun x S => x.st S)
    (ρ := [some (.ref p), none]) (fun r acc S' => Adv p S S' ∧ (∃ ns : List Int, acc = ns.map .int) ∧ acc.length + r.length = k) (fun x r acc S' h => ?_) (walkA_rng k 0) (k := k + 1) (by rw [rngL_len]; omega) (acc := []) (S := S1) (by rw [rngL_len]; exact small_sz (by show 0 + k ≤ 1000; omega)) ⟨ad, ⟨[], rfl⟩, by rw [rngL_len]; simp⟩
  · obtain ⟨l, S', e2, a2, ⟨ns, rfl⟩, hl⟩ := run
    refine ⟨ns, S', ?_, by simp at hl; omega, a2⟩
    show (evSs (callN Q G (n + 2)) G b27 [some (.ref p), none] S).out = _
    have kc : evE (callN Q G (n + 2)) G b27c0 [some (.ref p), none] S = .ok (.fr (ns.map .int)) S' := by
      show (evI _ _ _ _ _).bind _ = _
      rw [ei, bok]
      show (compGo _ _ _ _ (k + 1) _ _ _).bind _ = _
      rw [show wipe [some (.ref p), none] [1] = [some (TV.ref p), none] from rfl, e2]
      rfl
    unfold b27
    simp only [evSs, evS, evE, evA, evW, evC, evI, evO, List.getElem?_cons_zero, List.getElem?_cons_succ, bok, R.bind_err, TW.st, truth, ofs, R.sr, SR.then, SR.out, cond_true, cond_false, asT_var, asT_tup, asTs_nil, asTs_cons, asT_sub, List.set_cons_succ, List.set_cons_zero, len_tup, len_fr, all_eq, tuple_fr, list_tup, int_int, abs_int, max_int, add_int, sub_int, lt_int, le_int, gt_int, ge_int, is_non, isn_non, is_bl, isn_bl, eq_int, ne_int, eq_bl, ne_bl, kc]
  · obtain ⟨ad, ⟨ns, rfl⟩, hlen⟩ := h
    refine ⟨_, S', true, S', rfl, rfl, (fun z => nomatch z), fun _ => ?_⟩
    obtain ⟨y, S2, h1, h2, h3, _⟩ := pick_new (n := n) (l := [.int 2, .int 2, .int 2, .int 3, .int 3, .int 4, .int 5, .int 9]) ad.pot (by decide) (by decide)
    have h2' : callN Q G (n + 2) 22 [.ref p, .ref S'.nx] (S'.push (.lst [.int 2, .int 2, .int 2, .int 3, .int 3, .int 4, .int 5, .int 9])) = _ := h2
    obtain ⟨i, rfl⟩ : ∃ i, y = .int i := by
      simp only [List.mem_cons, List.not_mem_nil, or_false] at h1
      rcases h1 with h | h | h | h | h | h | h | h <;> exact ⟨_, h⟩
    refine ⟨.int i, S2, ?_, ad.trans h3, ⟨ns ++ [i], by simp⟩, by rw [List.length_append]; simp at hlen ⊢; omega⟩
    simp only [evSs, evS, evE, evA, evW, evC, evI, evO, List.getElem?_cons_zero, List.getElem?_cons_succ, bok, R.bind_err, TW.st, truth, ofs, R.sr, SR.then, SR.out, cond_true, cond_false, asT_var, asT_tup, asTs_nil, asTs_cons, asT_sub, List.set_cons_succ, List.set_cons_zero, len_tup, len_fr, all_eq, tuple_fr, list_tup, int_int, abs_int, max_int, add_int, sub_int, lt_int, le_int, gt_int, ge_int, is_non, isn_non, is_bl, isn_bl, eq_int, ne_int, eq_bl, ne_bl, List.set_cons_succ, TW.st_fr, h2']
/-! ### bent -/
def El (x : TV) : Prop := (∃ i, x = .int i) ∨ x = .bl true ∨ x = .non ∨ x = .str "2" ∨ x = .tup [.int 2]
theorem El.ref {x : TV} (h : El x) (n : Nat) : x ≠ .ref n := by
  rcases h with ⟨i, rfl⟩ | rfl | rfl | rfl | rfl <;> exact fun z => nomatch z
theorem El.ok {S : Sto} {x : TV} (h : El x) : OkV S x := .of h.ref
theorem El.den {S : Sto} {x : TV} (h : El x) : ∃ d, den 29 S x = some d := by
  rcases h with ⟨i, rfl⟩ | rfl | rfl | rfl | rfl
  · exact ⟨_, rfl⟩
  · exact ⟨_, rfl⟩
  · exact ⟨_, rfl⟩
  · have : PyData.canLay0 (.str "2") = true := by decide +kernel
    exact ⟨_, if_pos this⟩
  · exact ⟨_, rfl⟩
theorem mapO_el {S : Sto} : ∀ {l : List TV}, (∀ x ∈ l, El x) → ∃ ds, mapO (fun x => den 29 S x) l = some ds
  | [], _ => ⟨[], rfl⟩
  | x :: l, h => by
    obtain ⟨d, e⟩ := (h x List.mem_cons_self).den (S := S)
    obtain ⟨ds, e2⟩ := mapO_el (S := S) fun y hy => h y (List.mem_cons_of_mem x hy)
    exact ⟨d :: ds, by show (den 29 S x).bind (fun y => (mapO _ l).map (y :: ·)) = _; rw [e, e2]; rfl⟩
/-- a row that may be told -/
def Row (l : List TV) : Prop := (∀ x ∈ l, El x) ∧ l.length ≤ 50
def BV (p : Nat) (S : Sto) (v : TV) : Prop := (∃ l, v = .tup l ∧ Row l) ∨ (∃ r l, v = .ref r ∧ r ≠ p ∧ S.get r = some (.lst l)) ∨ v = .non ∨ v = .int 0
theorem BV.adv {p : Nat} {S S' : Sto} {v : TV} (h : BV p S v) (a : Adv p S S') : BV p S' v := by
  rcases h with h | ⟨r, l, h1, h2, h3⟩ | h | h
  · exact .inl h
  · exact .inr (.inl ⟨r, l, h1, h2, a.get h3 h2⟩)
  · exact .inr (.inr (.inl h))
  · exact .inr (.inr (.inr h))
theorem BV.gv {p : Nat} {S : Sto} {v : TV} (h : BV p S v) : GV S v := by
  rcases h with ⟨l, rfl, h⟩ | ⟨r, l, rfl, h2, h3⟩ | rfl | rfl
  · exact ⟨okv_tup, (fun k e x hx => by cases e; exact (h.1 x hx).ok), (fun k e => by cases e; have := h.2; omega)⟩
  · exact ⟨(fun n e => by cases e; exact ⟨l, h3⟩), (fun k e => nomatch e), (fun k e => nomatch e)⟩
  · exact ⟨.of (fun _ z => nomatch z), (fun k e => nomatch e), (fun k e => nomatch e)⟩
  · exact ⟨.of (fun _ z => nomatch z), (fun k e => nomatch e), (fun k e => nomatch e)⟩
theorem BV.den {p : Nat} {S : Sto} {v : TV} (h : BV p S v) : ∀ l, v = .tup l → ∃ ds, mapO (fun x => den 29 S x) l = some ds := by
  rcases h with ⟨l, rfl, h⟩ | ⟨r, l, rfl, h2, h3⟩ | rfl | rfl
  · exact fun k e => by cases e; exact mapO_el h.1
  all_goals exact fun k e => nomatch e
theorem BV.sz {p : Nat} {S : Sto} {v : TV} (h : BV p S v) : ∀ l, v = .tup l → l.length < 64 := by
  rcases h with ⟨l, rfl, h⟩ | ⟨r, l, rfl, h2, h3⟩ | rfl | rfl
  · exact fun k e => by cases e; have := h.2; omega
  all_goals exact fun k e => nomatch e
theorem Row.app {a b : List TV} (ha : ∀ x ∈ a, El x) (hb : ∀ x ∈ b, El x) (h : a.length + b.length ≤ 50) : Row (a ++ b) := ⟨fun x hx => (List.mem_append.mp hx).elim (ha x) (hb x), by rw [List.length_append]; exact h⟩
end K10

namespace K10
open Ev PySem
theorem bent_ok {n p : Nat} {S : Sto} {l : List TV} (hp : Pot S p) (hr : ∀ x ∈ l, El x) (hl : l.length ≤ 20) : ∃ (v : TV) (S' : Sto), cl (n + 3) 28 [.ref p, .tup l] S = .ok (.v v) S' ∧ Adv p S S' ∧ BV p S' v := by
  have hlt := hp.lt
  obtain ⟨S1, hS1⟩ : ∃ S1, S1 = S.push (.lst l) := ⟨_, rfl⟩
  obtain ⟨L, hL⟩ : ∃ L, L = S.nx := ⟨_, rfl⟩
  have a1 : Adv p S S1 := by rw [hS1]; exact Adv.push hp _
  have g1 : S1.get L = some (.lst l) := by rw [hS1, hL]; exact Sto.get_push_same
  have hLp : L ≠ p := by omega
  obtain ⟨d, S2, e2, d0, d1, a2, _⟩ := draw_ok (n := n + 1) (many := (l.length : Int) + 1) a1.pot (by omega) (by omega)
  obtain ⟨k, rfl⟩ : ∃ k : Nat, d = (k : Int) := ⟨d.toNat, by omega⟩
  have e2' : callN Q G (n + 2) 21 [.ref p, .int ((l.length : Nat) + 1)] S1 = _ := e2
  have g2 := a2.get g1 hLp
  obtain ⟨y, S3, hy, e3, a3, _, _⟩ := pick_new (n := n) (l := [.int 0, .int 1, .int 2, .int 9, .int 10, .int (-1), .bl true, .non, .str "2", .tup [.int 2], .int 3]) a2.pot (by decide) (by decide)
  have e3' : callN Q G (n + 2) 22 [.ref p, .ref S2.nx] (S2.push (.lst [.int 0, .int 1, .int 2, .int 9, .int 10, .int (-1), .bl true, .non, .str "2", .tup [.int 2], .int 3])) = _ := e3
  have ey : El y := by
    simp only [List.mem_cons, List.not_mem_nil, or_false] at hy
    rcases hy with h | h | h | h | h | h | h | h | h | h | h
    all_goals first | exact .inl ⟨_, h⟩ | exact .inr (.inl h) | exact .inr (.inr (.inl h)) | exact .inr (.inr (.inr (.inl h))) | exact .inr (.inr (.inr (.inr h)))
  have g3 := a3.get g2 hLp
  have a123 := (a1.trans a2).trans a3
  -- the five rows
  have tl1 : (l.take k).length ≤ 20 := by rw [List.length_take]; omega
  have dl1 : (l.drop k).length ≤ 20 := by rw [List.length_drop]; omega
  have dl2 : (l.drop (k + 1)).length ≤ 20 := by rw [List.length_drop]; omega
  have t1l : (l.take 1).length ≤ 1 := by rw [List.length_take]; omega
  have tm : ∀ x ∈ l.take k, El x := fun x hx => hr x (List.mem_of_mem_take hx)
  have dm : ∀ j, ∀ x ∈ l.drop j, El x := fun j x hx => hr x (List.mem_of_mem_drop hx)
  have t1m : ∀ x ∈ l.take 1, El x := fun x hx => hr x (List.mem_of_mem_take hx)
  have ym : ∀ x ∈ [y], El x := fun x hx => by simp at hx; rw [hx]; exact ey
  have am : ∀ x ∈ l.take k ++ [y], El x := fun x hx => (List.mem_append.mp hx).elim (tm x) (ym x)
  obtain ⟨A, hA⟩ : ∃ A, A = l.take k ++ [y] ++ l.drop k := ⟨_, rfl⟩
  obtain ⟨B, hB⟩ : ∃ B, B = l.take k ++ l.drop (k + 1) := ⟨_, rfl⟩
  obtain ⟨C, hC⟩ : ∃ C, C = l.take k ++ [y] ++ l.drop (k + 1) := ⟨_, rfl⟩
  obtain ⟨D, hD⟩ : ∃ D, D = l.reverse := ⟨_, rfl⟩
  obtain ⟨E5, hE⟩ : ∃ E5, E5 = l ++ l.take 1 := ⟨_, rfl⟩
  have rA : Row A := by rw [hA]; exact Row.app am (dm k) (by simp at tl1 dl1 ⊢; omega)
  have rB : Row B := by rw [hB]; exact Row.app tm (dm (k + 1)) (by omega)
  have rC : Row C := by rw [hC]; exact Row.app am (dm (k + 1)) (by simp at tl1 dl2 ⊢; omega)
  have rD : Row D := by rw [hD]; exact ⟨fun x hx => hr x (List.mem_reverse.mp hx), by rw [List.length_reverse]; omega⟩
  have rE : Row E5 := by rw [hE]; exact Row.app hr t1m (by omega)
  have p1 : ∀ S, binop .add (.fr (l.take k)) (.fr [y]) S = .ok (.fr (l.take k ++ [y])) S := add_fr (by simp; omega)
  have p2 : ∀ S, binop .add (.fr (l.take k ++ [y])) (.fr (l.drop k)) S = .ok (.fr A) S := fun S => by rw [hA]; exact add_fr (by simp at tl1 dl1 ⊢; omega) S
  have p3 : ∀ S, binop .add (.fr (l.take k)) (.fr (l.drop (k + 1))) S = .ok (.fr B) S := fun S => by rw [hB]; exact add_fr (by omega) S
  have p4 : ∀ S, binop .add (.fr (l.take k ++ [y])) (.fr (l.drop (k + 1))) S = .ok (.fr C) S := fun S => by rw [hC]; exact add_fr (by simp at tl1 dl2 ⊢; omega) S
  have c1 : cut l none (some (k : Int)) = l.take k := cut_hi l k
  have c2 : cut l (some (k : Int)) none = l.drop k := cut_lo l k
  have c3 : cut l (some ((k : Int) + 1)) none = l.drop (k + 1) := cut_lo l (k + 1)
  have c4 : cut l none (some 1) = l.take 1 := cut_hi l 1
  obtain ⟨Sa, hSa⟩ : ∃ Sa, Sa = S3.push (.lst A) := ⟨_, rfl⟩
  obtain ⟨Sb, hSb⟩ : ∃ Sb, Sb = Sa.push (.lst B) := ⟨_, rfl⟩
  obtain ⟨Sc, hSc⟩ : ∃ Sc, Sc = Sb.push (.lst C) := ⟨_, rfl⟩
  obtain ⟨Sd, hSd⟩ : ∃ Sd, Sd = Sc.push (.lst D) := ⟨_, rfl⟩
  obtain ⟨Se, hSe⟩ : ∃ Se, Se = Sd.push (.lst E5) := ⟨_, rfl⟩
  have ga : Sa.get L = some (.lst l) := by rw [hSa]; exact Sto.push_keep g3
  have gb : Sb.get L = some (.lst l) := by rw [hSb]; exact Sto.push_keep ga
  have gc : Sc.get L = some (.lst l) := by rw [hSc]; exact Sto.push_keep gb
  have gd : Sd.get L = some (.lst l) := by rw [hSd]; exact Sto.push_keep gc
  have p5 : binop .add (.v (.ref L)) (.fr (l.take 1)) Sd = .ok (.fr E5) Sd := by rw [hE]; exact add_ref_fr gd (by omega)
  have va : Adv p S3 Sa := by rw [hSa]; exact Adv.push a3.pot _
  have vb : Adv p Sa Sb := by rw [hSb]; exact Adv.push va.pot _
  have vc : Adv p Sb Sc := by rw [hSc]; exact Adv.push vb.pot _
  have vd : Adv p Sc Sd := by rw [hSd]; exact Adv.push vc.pot _
  have ve : Adv p Sd Se := by rw [hSe]; exact Adv.push vd.pot _
  have q1 : Sa.get S3.nx = some (.lst A) := by rw [hSa]; exact Sto.get_push_same
  have q2 : Sb.get Sa.nx = some (.lst B) := by rw [hSb]; exact Sto.get_push_same
  have q3 : Sc.get Sb.nx = some (.lst C) := by rw [hSc]; exact Sto.get_push_same
  have q4 : Sd.get Sc.nx = some (.lst D) := by rw [hSd]; exact Sto.get_push_same
  have q5 : Se.get Sd.nx = some (.lst E5) := by rw [hSe]; exact Sto.get_push_same
  have lt3 : p < S3.nx := a3.pot.lt
  have na : S3.nx < Sa.nx := by rw [hSa]; exact Nat.lt_succ_self _
  have nb : Sa.nx < Sb.nx := by rw [hSb]; exact Nat.lt_succ_self _
  have nc : Sb.nx < Sc.nx := by rw [hSc]; exact Nat.lt_succ_self _
  have nd : Sc.nx < Sd.nx := by rw [hSd]; exact Nat.lt_succ_self _
  obtain ⟨z, S6, hz, e6, _, a6', _⟩ := pick_new (n := n) (l := [.ref S3.nx, .ref Sa.nx, .ref Sb.nx, .ref Sc.nx, .ref Sd.nx]) ve.pot (by simp) (by simp)
  have e6' : callN Q G (n + 2) 22 [.ref p, .ref Se.nx] (Se.push (.lst [.ref S3.nx, .ref Sa.nx, .ref Sb.nx, .ref Sc.nx, .ref Sd.nx])) = _ := e6
  have a6 : Adv p Se S6 := (Adv.push ve.pot _).trans a6'
  obtain ⟨t, l', rfl, htp, gt, rl⟩ : ∃ t l', z = .ref t ∧ t ≠ p ∧ S6.get t = some (.lst l') ∧ Row l' := by
    have vbe := ((vb.trans vc).trans vd).trans ve
    simp only [List.mem_cons, List.not_mem_nil, or_false] at hz
    rcases hz with h | h | h | h | h
    · exact ⟨_, A, h, by omega, a6.get (vbe.get q1 (by omega)) (by omega), rA⟩
    · exact ⟨_, B, h, by omega, a6.get (((vc.trans vd).trans ve).get q2 (by omega)) (by omega), rB⟩
    · exact ⟨_, C, h, by omega, a6.get ((vd.trans ve).get q3 (by omega)) (by omega), rC⟩
    · exact ⟨_, D, h, by omega, a6.get (ve.get q4 (by omega)) (by omega), rD⟩
    · exact ⟨_, E5, h, by omega, a6.get q5 (by omega), rE⟩
  have m1 : binop .mul (.fr [.tup l']) (.v (.int 7)) S6 = .ok (.fr (rep [.tup l'] 7)) S6 := mul_fr (k := 7) (by simp) (by decide) S6
  have m2 : binop .add (.fr (rep [.tup l'] 7)) (.fr [.ref t, .non, .int 0]) S6 = .ok (.fr (rep [.tup l'] 7 ++ [.ref t, .non, .int 0])) S6 := add_fr (by simp [rep]) S6
  obtain ⟨v, S7, hv, e7, a7, _, _⟩ := pick_new (n := n) (l := rep [.tup l'] 7 ++ [.ref t, .non, .int 0]) a6.pot (by simp) (by simp [rep])
  have e7' : callN Q G (n + 2) 22 [.ref p, .ref S6.nx] (S6.push (.lst (rep [.tup l'] 7 ++ [.ref t, .non, .int 0]))) = _ := e7
  refine ⟨v, S7, ?_, ((((((a123.trans va).trans vb).trans vc).trans vd).trans ve).trans a6).trans a7, ?_⟩
  · show (evSs (callN Q G (n + 2)) G b28 [some (.ref p), some (.tup l), none, none, none, none, none] S).out = _
    unfold b28
    simp only [evSs, evS, evE, evA, evW, evC, evI, evO, List.getElem?_cons_zero, List.getElem?_cons_succ, bok, R.bind_err, TW.st, truth, ofs, R.sr, SR.then, SR.out, cond_true, cond_false, asT_var, asT_tup, asTs_nil, asTs_cons, asT_sub, List.set_cons_succ, List.set_cons_zero, len_tup, len_fr, all_eq, tuple_fr, list_tup, int_int, abs_int, max_int, add_int, sub_int, lt_int, le_int, gt_int, ge_int, is_non, isn_non, is_bl, isn_bl, eq_int, ne_int, eq_bl, ne_bl, TW.st_fr, ← hS1, ← hL, len_ref g1, e2', e3', slice_ref g3, slice_ref ga, slice_ref gb, slice_ref gc, slice_ref gd, c1, c2, c3, c4, p1, p2, p3, p4, p5, revd_ref gc, ← hD, ← hSa, ← hSb, ← hSc, ← hSd, ← hSe, e6', tuple_ref gt, m1, m2, e7']
  · have hv' : v = .tup l' ∨ v = .ref t ∨ v = .non ∨ v = .int 0 := by
      rcases List.mem_append.mp hv with h | h
      · simp [rep] at h; exact .inl h
      · simp only [List.mem_cons, List.not_mem_nil, or_false] at h
        exact .inr h
    rcases hv' with h | h | h | h
    · exact .inl ⟨l', h, rl⟩
    · exact .inr (.inl ⟨t, l', h, htp, a7.get gt htp⟩)
    · exact .inr (.inr (.inl h))
    · exact .inr (.inr (.inr h))
end K10

namespace K10
open Ev PySem
theorem len_fz {S : Sto} (l : List TV) : bifn .len [.v (.fz l)] S = .ok (.v (.int l.length)) S := rfl
theorem item_fz {S : Sto} {l : List TV} {i : Int} {x : TV} (e : Ev.atI l i = some x) : item (.v (.fz l)) (.v (.int i)) S = .ok (.v x) S := by
  simp only [item, seqS, e, ofs, bok]
theorem pow18 {S : Sto} : binop .pow (.v (.int 10)) (.v (.int 18)) S = .ok (.v (.int 1000000000000000000)) S := by
  show (if (0 : Int) ≤ 18 ∧ (18 : Int) ≤ 1000000 ∧ (10 : Int).natAbs < 2 ^ 64 then R.ok (TW.v (.int (10 ^ (18 : Int).toNat))) S else .err) = _
  rw [if_pos (by decide)]
  rfl
theorem pot_ok {n k : Nat} {S : Sto} {ns : List Int} (hk : k ≤ 1) : ∃ a b, cl (n + 1) 20 [.fz (ns.map .int), .int k] S = .ok (.fr [.int a, .int b]) S := by
  obtain ⟨c, hc⟩ : ∃ c : Int, evE (callN Q G n) G (.ite (.cmp .lt (.var 1) (.bi .len (.cons (.var 0) .nil))) (.bi .abs (.cons (.ix (.var 0) (.var 1)) .nil)) (.bin .add (.bin .mul (.c (.int 10177)) (.var 1)) (.c (.int 14714)))) [some (.fz (ns.map .int)), some (.int k), none] S = .ok (.v (.int c)) S := by
    by_cases h : k < ns.length
    · have i0 : item (.v (.fz (ns.map .int))) (.v (.int k)) S = .ok (.v (.int ns[k])) S := item_fz (atI_nat (by omega) (by rw [Int.toNat_natCast, List.getElem?_map, List.getElem?_eq_getElem h]; rfl))
      refine ⟨if ns[k] < 0 then -ns[k] else ns[k], ?_⟩
      simp only [evSs, evS, evE, evA, evW, evC, evI, evO, List.getElem?_cons_zero, List.getElem?_cons_succ, bok, R.bind_err, TW.st, truth, ofs, R.sr, SR.then, SR.out, cond_true, cond_false, asT_var, asT_tup, asTs_nil, asTs_cons, asT_sub, List.set_cons_succ, List.set_cons_zero, len_tup, len_fr, all_eq, tuple_fr, list_tup, int_int, abs_int, max_int, add_int, sub_int, lt_int, le_int, gt_int, ge_int, is_non, isn_non, is_bl, isn_bl, eq_int, ne_int, eq_bl, ne_bl, len_fz, List.length_map, decide_eq_true (show (k : Int) < ns.length by omega), i0]
    · refine ⟨10177 * (k : Int) + 14714, ?_⟩
      simp only [evSs, evS, evE, evA, evW, evC, evI, evO, List.getElem?_cons_zero, List.getElem?_cons_succ, bok, R.bind_err, TW.st, truth, ofs, R.sr, SR.then, SR.out, cond_true, cond_false, asT_var, asT_tup, asTs_nil, asTs_cons, asT_sub, List.set_cons_succ, List.set_cons_zero, len_tup, len_fr, all_eq, tuple_fr, list_tup, int_int, abs_int, max_int, add_int, sub_int, lt_int, le_int, gt_int, ge_int, is_non, isn_non, is_bl, isn_bl, eq_int, ne_int, eq_bl, ne_bl, len_fz, List.length_map, decide_eq_false (show ¬ (k : Int) < ns.length by omega), mul_l (show -(2 ^ 64) < (10177 : Int) ∧ (10177 : Int) < 2 ^ 64 by decide)]
  refine ⟨if c - 1000000000000000000 > 0 then c - 1000000000000000000 else 0, (c % 2147483563 * 64325 + 10177 * (k : Int) + 6096) % 2147483587 + 1, ?_⟩
  · show (evSs (callN Q G n) G b20 [some (.fz (ns.map .int)), some (.int k), none] S).out = _
    unfold b20
    generalize E.ite (.cmp .lt (.var 1) (.bi .len (.cons (.var 0) .nil))) (.bi .abs (.cons (.ix (.var 0) (.var 1)) .nil)) (.bin .add (.bin .mul (.c (.int 10177)) (.var 1)) (.c (.int 14714))) = ee at hc ⊢
    simp only [evSs, evS, evE, evA, evW, evC, evI, evO, List.getElem?_cons_zero, List.getElem?_cons_succ, bok, R.bind_err, TW.st, truth, ofs, R.sr, SR.then, SR.out, cond_true, cond_false, asT_var, asT_tup, asTs_nil, asTs_cons, asT_sub, List.set_cons_succ, List.set_cons_zero, len_tup, len_fr, all_eq, tuple_fr, list_tup, int_int, abs_int, max_int, add_int, sub_int, lt_int, le_int, gt_int, ge_int, is_non, isn_non, is_bl, isn_bl, eq_int, ne_int, eq_bl, ne_bl, hc, pow18, mod_int (show (0 : Int) < 2147483563 by decide), mod_int (show (0 : Int) < 2147483587 by decide), mul_r (show -(2 ^ 64) < (64325 : Int) ∧ (64325 : Int) < 2 ^ 64 by decide), mul_l (show -(2 ^ 64) < (10177 : Int) ∧ (10177 : Int) < 2 ^ 64 by decide)]
/-! ### flaws as data -/
theorem flawG_form : ∀ (l : List TV) (i : Nat) (t : TV), flawG i l = some t → ∃ j : Nat, t = .tup [.str "size", .int j]
  | [], _, _, h => by cases h
  | x :: r, i, t, h => by
    rw [show flawG i (x :: r) = bif wi 2 9 x then flawG (i + 1) r else some (.tup [.str "size", .int i]) from rfl] at h
    cases hw : wi 2 9 x with
    | true => rw [hw] at h; exact flawG_form r (i + 1) t h
    | false => rw [hw] at h; cases h; exact ⟨i, rfl⟩
theorem flaw_form (v : TV) : (∃ s, (s = Str.ofString "form" ∨ s = Str.ofString "many" ∨ s = Str.ofString "fillings") ∧ flawV v = .tup [.str s]) ∨ (∃ j : Nat, flawV v = .tup [.str "size", .int j]) ∨ flawV v = .non := by
  cases v with
  | tup l =>
    show (∃ s, _ ∧ flawL l = _) ∨ (∃ j : Nat, flawL l = _) ∨ flawL l = _
    unfold flawL
    cases decide ((1 : Int) ≤ l.length) && decide ((l.length : Int) ≤ 6) with
    | false => exact .inl ⟨_, .inr (.inl rfl), rfl⟩
    | true =>
      rw [cond_true]
      cases h : flawG 0 l with
      | some t =>
        obtain ⟨j, rfl⟩ := flawG_form l 0 t h
        exact .inr (.inl ⟨j, rfl⟩)
      | none =>
        dsimp only
        cases decide ((1000 : Int) < prod (intsOf l) 1) with
        | true => exact .inl ⟨_, .inr (.inr rfl), rfl⟩
        | false => exact .inr (.inr rfl)
  | _ => exact .inl ⟨_, .inl rfl, rfl⟩
theorem ne_strs {S : Sto} {s : Str} (c : PyData.canLay0 (.str s) = true) : cmpop .ne (.v (.tup [.str s])) (.v (.tup [.str s])) S = .ok false S := by
  have d : den 30 S (.tup [.str s]) = some (.tuple [.str s]) := by
    show (mapO (fun x => den 29 S x) [.str s]).map PyData.tuple = _
    have : den 29 S (.str s) = some (.str s) := if_pos c
    simp only [mapO, this, Option.bind_some, Option.map_some]
  show (match den 30 S (.tup [.str s]), den 30 S (.tup [.str s]) with | some d, some e => R.ok (!PyData.eqv d e) S | _, _ => .err) = _
  rw [d]
  show R.ok (!((s == s) && true)) S = _
  rw [beq_self_eq_true]
  rfl
theorem ne_flaw {S : Sto} (v : TV) : cmpop .ne (.v (flawV v)) (.v (flawV v)) S = .ok false S := by
  rcases flaw_form v with ⟨s, hs, e⟩ | ⟨j, e⟩ | e
  · rw [e]
    rcases hs with rfl | rfl | rfl
    · exact ne_strs (by decide +kernel)
    · exact ne_strs (by decide +kernel)
    · exact ne_strs (by decide +kernel)
  · rw [e]
    have h : ∀ i : Int, PyData.eqvAll [.str "size", .int i] [.str "size", .int i] = true := fun i => by
      show (((Str.ofString "size") == (Str.ofString "size")) && (((i == i) : Bool) && true)) = true
      simp
    have c : PyData.canLay0 (.str "size") = true := by decide +kernel
    have d : den 30 S (.tup [.str "size", .int j]) = some (.tuple [.str "size", .int j]) := by
      show (mapO (fun x => den 29 S x) [.str "size", .int (j : Int)]).map PyData.tuple = _
      have : den 29 S (.str "size") = some (.str "size") := if_pos c
      simp only [mapO, this, Option.bind_some, Option.map_some]
      rfl
    show (match den 30 S (.tup [.str "size", .int j]), den 30 S (.tup [.str "size", .int j]) with | some d, some e => R.ok (!PyData.eqv d e) S | _, _ => .err) = _
    rw [d]
    show R.ok (!PyData.eqvAll [.str "size", .int j] [.str "size", .int j]) S = _
    rw [h]
    rfl
  · rw [e]
    rfl
end K10

namespace K10
open Ev PySem
theorem ss_step {C : Call} {G : List TV} {s : Ev.St} {r : Ss} {ρ ρ1 : Ev.Env} {S S1 : Sto} (k : evS C G s ρ S = .nx ρ1 S1) : evSs C G (.cons s r) ρ S = evSs C G r ρ1 S1 := by
  show (evS C G s ρ S).then _ = _
  rw [k]
  rfl
theorem el_ints {ns : List Int} : ∀ x ∈ ns.map TV.int, El x := fun x hx => by
  obtain ⟨i, _, rfl⟩ := List.mem_map.mp hx
  exact .inl ⟨i, rfl⟩
theorem bv_ints {p : Nat} {S : Sto} {ns : List Int} (h : ns.length ≤ 20) : BV p S (.tup (ns.map .int)) := .inl ⟨_, rfl, el_ints, by rw [List.length_map]; omega⟩
theorem asg_tuple {C : Call} {G : List TV} {i : Nat} {e : E} {l : List TV} {ρ : Ev.Env} {S S' : Sto} (h : evE C G e ρ S = .ok (.fr l) S') : evS C G (.asg (.var i) (.bi .tuple (.cons e .nil))) ρ S = .nx (ρ.set i (some (.tup l))) S' := by
  have k : evE C G (.bi .tuple (.cons e .nil)) ρ S = .ok (.v (.tup l)) S' := by
    show ((evE C G e ρ S).bind _).bind _ = _
    rw [h]
    rfl
  show (evE C G (.bi .tuple (.cons e .nil)) ρ S).sr _ = _
  rw [k]
  rfl
/-- value = .. -/
theorem r0 {n p : Nat} {S : Sto} {o1 o2 o3 o4 o5 o6 o7 o8 o9 o10 o11 o12 o13 o14 : Option TV} (hp : Pot S p) : ∃ v S', evS (callN Q G (n + 6)) G b32s0 [some (.ref p), o1, o2, o3, o4, o5, o6, o7, o8, o9, o10, o11, o12, o13, o14] S = .nx [some (.ref p), o1, some v, o3, o4, o5, o6, o7, o8, o9, o10, o11, o12, o13, o14] S' ∧ BV p S' v ∧ Adv p S S' := by
  obtain ⟨d, S1, e1, d0, d1, a1, _⟩ := draw_ok (n := n + 5) (many := 2) hp (by decide) (by decide)
  obtain ⟨ns, S2, e2, hl, a2⟩ := sizes_ok (n := n + 3) a1.pot
  have e1' : callN Q G (n + 6) 21 [.ref p, .int 2] S = _ := e1
  have e2' : callN Q G (n + 6) 27 [.ref p] S1 = _ := e2
  by_cases hd : d = 0
  · obtain ⟨v, S3, e3, a3, bv⟩ := bent_ok (n := n + 3) (l := ns.map .int) a2.pot el_ints (by rw [List.length_map]; omega)
    have e3' : callN Q G (n + 6) 28 [.ref p, .tup (ns.map .int)] S2 = _ := e3
    refine ⟨v, S3, ?_, bv, (a1.trans a2).trans a3⟩
    unfold b32s0
    simp only [evSs, evS, evE, evA, evW, evC, evI, evO, List.getElem?_cons_zero, List.getElem?_cons_succ, bok, R.bind_err, TW.st, truth, ofs, R.sr, SR.then, SR.out, cond_true, cond_false, asT_var, asT_tup, asTs_nil, asTs_cons, asT_sub, List.set_cons_succ, List.set_cons_zero, len_tup, len_fr, all_eq, tuple_fr, list_tup, int_int, abs_int, max_int, add_int, sub_int, lt_int, le_int, gt_int, ge_int, is_non, isn_non, is_bl, isn_bl, eq_int, ne_int, eq_bl, ne_bl, e1', decide_eq_true hd, e2', e3']
  · refine ⟨.tup (ns.map .int), S2, ?_, bv_ints (by omega), a1.trans a2⟩
    unfold b32s0
    simp only [evSs, evS, evE, evA, evW, evC, evI, evO, List.getElem?_cons_zero, List.getElem?_cons_succ, bok, R.bind_err, TW.st, truth, ofs, R.sr, SR.then, SR.out, cond_true, cond_false, asT_var, asT_tup, asTs_nil, asTs_cons, asT_sub, List.set_cons_succ, List.set_cons_zero, len_tup, len_fr, all_eq, tuple_fr, list_tup, int_int, abs_int, max_int, add_int, sub_int, lt_int, le_int, gt_int, ge_int, is_non, isn_non, is_bl, isn_bl, eq_int, ne_int, eq_bl, ne_bl, e1', decide_eq_false hd, e2']
/-- the flaws agree -/
theorem r1 {n p : Nat} {S : Sto} {o1 o3 o4 o5 o6 o7 o8 o9 o10 o11 o12 o13 o14 : Option TV} {v : TV} (bv : BV p S v) : evS (callN Q G (n + 6)) G b32s1 [some (.ref p), o1, some v, o3, o4, o5, o6, o7, o8, o9, o10, o11, o12, o13, o14] S = .nx [some (.ref p), o1, some v, o3, o4, o5, o6, o7, o8, o9, o10, o11, o12, o13, o14] S := by
  have g := bv.gv
  have e1 : callN Q G (n + 6) 11 [v] S = _ := c_szflaw g.ok g.el
  have e2 : callN Q G (n + 6) 26 [v] S = _ := c_flaw2 g.ok g.el
  have e3 : callN Q G (n + 6) 10 [v] S = _ := c_aresizes g.ok g.el
  unfold b32s1
  simp only [evSs, evS, evE, evA, evW, evC, evI, evO, List.getElem?_cons_zero, List.getElem?_cons_succ, bok, R.bind_err, TW.st, truth, ofs, R.sr, SR.then, SR.out, cond_true, cond_false, asT_var, asT_tup, asTs_nil, asTs_cons, asT_sub, List.set_cons_succ, List.set_cons_zero, len_tup, len_fr, all_eq, tuple_fr, list_tup, int_int, abs_int, max_int, add_int, sub_int, lt_int, le_int, gt_int, ge_int, is_non, isn_non, is_bl, isn_bl, eq_int, ne_int, eq_bl, ne_bl, e1, e2, e3, ne_flaw, decide_true, Bool.not_true]
structure Szs (ss : List Int) : Prop where
  fl : flawL (ss.map .int) = .non
  len : 1 ≤ ss.length ∧ ss.length ≤ 4
  bd : ∀ s ∈ ss, 2 ≤ s ∧ s ≤ 5
theorem szs_of {y : TV} (h : y ∈ [TV.tup [.int 2, .int 3], .tup [.int 2, .int 2, .int 2], .tup [.int 4], .tup [.int 3, .int 2, .int 5]]) : ∃ ss : List Int, y = .tup (ss.map .int) ∧ Szs ss := by
  simp only [List.mem_cons, List.not_mem_nil, or_false] at h
  rcases h with h | h | h | h
  · exact ⟨[2, 3], h, by rfl, by decide, by decide⟩
  · exact ⟨[2, 2, 2], h, by rfl, by decide, by decide⟩
  · exact ⟨[4], h, by rfl, by decide, by decide⟩
  · exact ⟨[3, 2, 5], h, by rfl, by decide, by decide⟩
/-- sizes = .. -/
theorem r2 {n p : Nat} {S : Sto} {o1 o2 o3 o4 o5 o6 o7 o8 o9 o10 o11 o12 o13 o14 : Option TV} (hp : Pot S p) : ∃ (ss : List Int) (S' : Sto), evS (callN Q G (n + 6)) G b32s2 [some (.ref p), o1, o2, o3, o4, o5, o6, o7, o8, o9, o10, o11, o12, o13, o14] S = .nx [some (.ref p), o1, o2, some (.tup (ss.map .int)), o4, o5, o6, o7, o8, o9, o10, o11, o12, o13, o14] S' ∧ Szs ss ∧ Adv p S S' := by
  obtain ⟨y, S1, hy, e1, a1, _, _⟩ := pick_new (n := n + 4) (l := [TV.tup [.int 2, .int 3], .tup [.int 2, .int 2, .int 2], .tup [.int 4], .tup [.int 3, .int 2, .int 5]]) hp (by decide) (by decide)
  obtain ⟨ss, rfl, h⟩ := szs_of hy
  have e1' : callN Q G (n + 6) 22 [.ref p, .ref S.nx] (S.push (.lst [TV.tup [.int 2, .int 3], .tup [.int 2, .int 2, .int 2], .tup [.int 4], .tup [.int 3, .int 2, .int 5]])) = _ := e1
  refine ⟨ss, S1, ?_, h, a1⟩
  unfold b32s2
  simp only [evSs, evS, evE, evA, evW, evC, evI, evO, List.getElem?_cons_zero, List.getElem?_cons_succ, bok, R.bind_err, TW.st, truth, ofs, R.sr, SR.then, SR.out, cond_true, cond_false, asT_var, asT_tup, asTs_nil, asTs_cons, asT_sub, List.set_cons_succ, List.set_cons_zero, len_tup, len_fr, all_eq, tuple_fr, list_tup, int_int, abs_int, max_int, add_int, sub_int, lt_int, le_int, gt_int, ge_int, is_non, isn_non, is_bl, isn_bl, eq_int, ne_int, eq_bl, ne_bl, TW.st_fr, e1']
/-- filling = .. -/
theorem r3 {n p : Nat} {S : Sto} {o1 o2 o4 o5 o6 o7 o8 o9 o10 o11 o12 o13 o14 : Option TV} {ss : List Int} (hp : Pot S p) (h : Szs ss) : ∃ (fs : List Int) (S' : Sto), evS (callN Q G (n + 6)) G b32s3 [some (.ref p), o1, o2, some (.tup (ss.map .int)), o4, o5, o6, o7, o8, o9, o10, o11, o12, o13, o14] S = .nx [some (.ref p), o1, o2, some (.tup (ss.map .int)), some (.tup (fs.map .int)), o5, o6, o7, o8, o9, o10, o11, o12, o13, o14] S' ∧ fs.length ≤ 4 ∧ Adv p S S' := by
  have run := comp_run (tg := asT (callN Q G (n + 6)) G (.var 13)) (cs := fun ρ S => evC (callN Q G (n + 6)) G .nil ρ S)
    (el := fun ρ S => (evE (callN Q G (n + 6)) G (.call 21 (.cons (.var 0) (.cons (.var 13) .nil))) ρ S).bind fun x S => x.st S)
    (ρ := [some (.ref p), o1, o2, some (.tup (ss.map .int)), o4, o5, o6, o7, o8, o9, o10, o11, o12, none, o14]) (fun r acc S' => Adv p S S' ∧ (∃ ns : List Int, acc = ns.map .int) ∧ (∃ ms : List Int, r = ms.map .int ∧ ∀ s ∈ ms, s ∈ ss) ∧ acc.length + r.length = ss.length) (fun x r acc S' h1 => ?_) (walkA_ts (ss.map .int)) (k := (ss.map TV.int).length + 1) (by omega) (acc := []) (S := S) (by rw [List.length_map]; have := h.len; exact small_sz (by show 0 + _ ≤ 1000; omega)) ⟨Adv.refl hp, ⟨[], rfl⟩, ⟨ss, rfl, fun _ z => z⟩, by simp⟩
  · obtain ⟨l, S', e2, a2, ⟨fs, rfl⟩, _, hl⟩ := run
    refine ⟨fs, S', ?_, by have := h.len; simp at hl; omega, a2⟩
    have kc : evE (callN Q G (n + 6)) G b32c0 [some (.ref p), o1, o2, some (.tup (ss.map .int)), o4, o5, o6, o7, o8, o9, o10, o11, o12, o13, o14] S = .ok (.fr (fs.map .int)) S' := by
      show (compGo _ _ _ _ ((ss.map TV.int).length + 1) _ _ _).bind _ = _
      rw [show wipe [some (.ref p), o1, o2, some (.tup (ss.map .int)), o4, o5, o6, o7, o8, o9, o10, o11, o12, o13, o14] [13] = [some (.ref p), o1, o2, some (.tup (ss.map .int)), o4, o5, o6, o7, o8, o9, o10, o11, o12, none, o14] from rfl, e2]
      rfl
    exact asg_tuple kc
  · obtain ⟨ad, ⟨ns, rfl⟩, ⟨ms, hm, hs⟩, hlen⟩ := h1
    cases ms with
    | nil => cases hm
    | cons m ms =>
      cases hm
      have hb := h.bd m (hs m List.mem_cons_self)
      obtain ⟨d, S2, e1, d0, d1, a1, _⟩ := draw_ok (n := n + 5) (many := m) ad.pot (by omega) (by omega)
      have e1' : callN Q G (n + 6) 21 [.ref p, .int m] S' = _ := e1
      refine ⟨_, S', true, S', rfl, rfl, (fun z => nomatch z), fun _ => ⟨.int d, S2, ?_, ad.trans a1, ⟨ns ++ [d], by simp⟩, ⟨ms, rfl, fun s z => hs s (List.mem_cons_of_mem _ z)⟩, by simp at hlen ⊢; omega⟩⟩
      simp only [evSs, evS, evE, evA, evW, evC, evI, evO, List.getElem?_cons_zero, List.getElem?_cons_succ, bok, R.bind_err, TW.st, truth, ofs, R.sr, SR.then, SR.out, cond_true, cond_false, asT_var, asT_tup, asTs_nil, asTs_cons, asT_sub, List.set_cons_succ, List.set_cons_zero, len_tup, len_fr, all_eq, tuple_fr, list_tup, int_int, abs_int, max_int, add_int, sub_int, lt_int, le_int, gt_int, ge_int, is_non, isn_non, is_bl, isn_bl, eq_int, ne_int, eq_bl, ne_bl, e1']
/-- lot = .. -/
theorem r4 {n p : Nat} {S : Sto} {o1 o2 o4 o5 o6 o7 o8 o9 o10 o11 o12 o13 o14 : Option TV} {ss : List Int} (hp : Pot S p) (h : Szs ss) : ∃ (fs : List Int) (S' : Sto), evS (callN Q G (n + 6)) G b32s4 [some (.ref p), o1, o2, some (.tup (ss.map .int)), o4, o5, o6, o7, o8, o9, o10, o11, o12, o13, o14] S = .nx [some (.ref p), o1, o2, some (.tup (ss.map .int)), o4, some (.tup (fs.map .int)), o6, o7, o8, o9, o10, o11, o12, o13, o14] S' ∧ fs.length ≤ 4 ∧ Adv p S S' := by
  obtain ⟨m, hm0⟩ : ∃ m : Nat, ss.length = m := ⟨_, rfl⟩
  have hm4 : m ≤ 4 := by have := h.len; omega
  have hz : m ≤ 1000000 := by omega
  have run := comp_run (tg := asT (callN Q G (n + 6)) G (.var 14)) (cs := fun ρ S => evC (callN Q G (n + 6)) G (.cons (.cmp .eq (.call 21 (.cons (.var 0) (.cons (.c (.int 2)) .nil))) (.c (.int 0))) .nil) ρ S)
    (el := fun ρ S => (evE (callN Q G (n + 6)) G (.var 14) ρ S).bind fun x S => x.st S)
    (ρ := [some (.ref p), o1, o2, some (.tup (ss.map .int)), o4, o5, o6, o7, o8, o9, o10, o11, o12, o13, none]) (fun r acc S' => Adv p S S' ∧ (∃ ns : List Int, acc = ns.map .int) ∧ (∃ ms : List Int, r = ms.map .int) ∧ acc.length + r.length ≤ m) (fun x r acc S' h1 => ?_) (walkA_rng m 0) (k := m + 1) (by rw [rngL_len]; omega) (acc := []) (S := S) (by rw [rngL_len]; exact small_sz (by show 0 + m ≤ 1000; omega)) ⟨Adv.refl hp, ⟨[], rfl⟩, ⟨rngZ m, rngL_Z _⟩, by rw [rngL_len]; simp⟩
  · obtain ⟨l, S', e2, a2, ⟨fs, rfl⟩, _, hl⟩ := run
    refine ⟨fs, S', ?_, by simp at hl; omega, a2⟩
    have ei : evI (callN Q G (n + 6)) G (.rng (.cons (.bi .len (.cons (.var 3) .nil)) .nil)) [some (.ref p), o1, o2, some (.tup (ss.map .int)), o4, o5, o6, o7, o8, o9, o10, o11, o12, o13, o14] S = .ok (.rng 0 1 m) S := by
      refine evI_rng1 ?_ hz
      show bifn .len [.v (.tup (ss.map .int))] S = _
      rw [len_tup, List.length_map, hm0]
    have kc : evE (callN Q G (n + 6)) G b32c1 [some (.ref p), o1, o2, some (.tup (ss.map .int)), o4, o5, o6, o7, o8, o9, o10, o11, o12, o13, o14] S = .ok (.fr (fs.map .int)) S' := by
      show (evI _ _ _ _ _).bind _ = _
      rw [ei, bok]
      show (compGo _ _ _ _ (m + 1) _ _ _).bind _ = _
      rw [show wipe [some (.ref p), o1, o2, some (.tup (ss.map .int)), o4, o5, o6, o7, o8, o9, o10, o11, o12, o13, o14] [14] = [some (.ref p), o1, o2, some (.tup (ss.map .int)), o4, o5, o6, o7, o8, o9, o10, o11, o12, o13, none] from rfl, e2]
      rfl
    exact asg_tuple kc
  · obtain ⟨ad, ⟨ns, rfl⟩, ⟨ms, hm⟩, hlen⟩ := h1
    cases ms with
    | nil => cases hm
    | cons i ms =>
      cases hm
      obtain ⟨d, S2, e1, d0, d1, a1, _⟩ := draw_ok (n := n + 5) (many := 2) ad.pot (by decide) (by decide)
      have e1' : callN Q G (n + 6) 21 [.ref p, .int 2] S' = _ := e1
      refine ⟨_, S', decide (d = 0), S2, rfl, ?_, fun _ => ⟨ad.trans a1, ⟨ns, rfl⟩, ⟨ms, rfl⟩, by simp at hlen ⊢; omega⟩, fun _ => ⟨.int i, S2, ?_, ad.trans a1, ⟨ns ++ [i], by simp⟩, ⟨ms, rfl⟩, by simp at hlen ⊢; omega⟩⟩
      · simp only [evSs, evS, evE, evA, evW, evC, evI, evO, List.getElem?_cons_zero, List.getElem?_cons_succ, bok, R.bind_err, TW.st, truth, ofs, R.sr, SR.then, SR.out, cond_true, cond_false, asT_var, asT_tup, asTs_nil, asTs_cons, asT_sub, List.set_cons_succ, List.set_cons_zero, len_tup, len_fr, all_eq, tuple_fr, list_tup, int_int, abs_int, max_int, add_int, sub_int, lt_int, le_int, gt_int, ge_int, is_non, isn_non, is_bl, isn_bl, eq_int, ne_int, eq_bl, ne_bl, List.set_cons_succ, e1']
        cases decide (d = 0) <;> rfl
      · simp only [evSs, evS, evE, evA, evW, evC, evI, evO, List.getElem?_cons_zero, List.getElem?_cons_succ, bok, R.bind_err, TW.st, truth, ofs, R.sr, SR.then, SR.out, cond_true, cond_false, asT_var, asT_tup, asTs_nil, asTs_cons, asT_sub, List.set_cons_succ, List.set_cons_zero, len_tup, len_fr, all_eq, tuple_fr, list_tup, int_int, abs_int, max_int, add_int, sub_int, lt_int, le_int, gt_int, ge_int, is_non, isn_non, is_bl, isn_bl, eq_int, ne_int, eq_bl, ne_bl]
theorem for2 {tg : TV → Ev.Env → Sto → R Ev.Env} {bd : Ev.Env → Sto → SR} {a b : TV} {ρ ρ1 ρ2 ρ3 ρ4 : Ev.Env} {S S1 S2 S3 S4 : Sto} (h1 : tg a ρ S = .ok ρ1 S1) (h2 : bd ρ1 S1 = .nx ρ2 S2) (h3 : tg b ρ2 S2 = .ok ρ3 S3) (h4 : bd ρ3 S3 = .nx ρ4 S4) :
    forGo tg bd (0 + 1 + 1 + 1) (.one (.ts [a, b])) ρ S = .nx ρ4 S4 := by
  simp only [forGo, Itb.next, Src.next, Option.map_some, Option.map_none, h1, h2, h3, h4]
/-- for one in (filling, bent) -/
theorem r5 {n p : Nat} {S : Sto} {o1 o2 o5 o6 o7 o8 o9 o10 o11 o12 o13 o14 : Option TV} {ss fs : List Int} (hp : Pot S p) (h : Szs ss) (hf : fs.length ≤ 4) : ∃ (x : TV) (S' : Sto), evS (callN Q G (n + 6)) G b32s5 [some (.ref p), o1, o2, some (.tup (ss.map .int)), some (.tup (fs.map .int)), o5, o6, o7, o8, o9, o10, o11, o12, o13, o14] S = .nx [some (.ref p), o1, o2, some (.tup (ss.map .int)), some (.tup (fs.map .int)), o5, some x, o7, o8, o9, o10, o11, o12, o13, o14] S' ∧ Adv p S S' := by
  obtain ⟨v, S3, e3, a3, bv⟩ := bent_ok (n := n + 3) (l := fs.map .int) hp el_ints (by rw [List.length_map]; omega)
  have e3' : callN Q G (n + 6) 28 [.ref p, .tup (fs.map .int)] S = _ := e3
  have body : ∀ (x : TV), BV p S3 x → evSs (callN Q G (n + 6)) G b32l0 [some (.ref p), o1, o2, some (.tup (ss.map .int)), some (.tup (fs.map .int)), o5, some x, o7, o8, o9, o10, o11, o12, o13, o14] S3 = .nx [some (.ref p), o1, o2, some (.tup (ss.map .int)), some (.tup (fs.map .int)), o5, some x, o7, o8, o9, o10, o11, o12, o13, o14] S3 := fun x bx => by
    have k1 : callN Q G (n + 6) 12 [.tup (ss.map .int), x] S3 = _ := c_fill h.fl bx.gv.ok bx.gv.el bx.gv.sz
    have k2 : callN Q G (n + 6) 29 [.tup (ss.map .int), x] S3 = _ := c_lfill bx.gv.ok bx.gv.el bx.gv.sz
    unfold b32l0
    simp only [evSs, evS, evE, evA, evW, evC, evI, evO, List.getElem?_cons_zero, List.getElem?_cons_succ, bok, R.bind_err, TW.st, truth, ofs, R.sr, SR.then, SR.out, cond_true, cond_false, asT_var, asT_tup, asTs_nil, asTs_cons, asT_sub, List.set_cons_succ, List.set_cons_zero, len_tup, len_fr, all_eq, tuple_fr, list_tup, int_int, abs_int, max_int, add_int, sub_int, lt_int, le_int, gt_int, ge_int, is_non, isn_non, is_bl, isn_bl, eq_int, ne_int, eq_bl, ne_bl, k1, k2, decide_true, Bool.not_true]
  refine ⟨v, S3, ?_, a3⟩
  unfold b32s5
  simp only [evSs, evS, evE, evA, evW, evC, evI, evO, List.getElem?_cons_zero, List.getElem?_cons_succ, bok, R.bind_err, TW.st, truth, ofs, R.sr, SR.then, SR.out, cond_true, cond_false, asT_var, asT_tup, asTs_nil, asTs_cons, asT_sub, List.set_cons_succ, List.set_cons_zero, len_tup, len_fr, all_eq, tuple_fr, list_tup, int_int, abs_int, max_int, add_int, sub_int, lt_int, le_int, gt_int, ge_int, is_non, isn_non, is_bl, isn_bl, eq_int, ne_int, eq_bl, ne_bl, e3', srcOf, Itb.many, Src.many, List.length_cons, List.length_nil]
  exact for2 rfl (body (.tup (fs.map .int)) (bv_ints (by omega))) rfl (body v bv)
theorem r6 {n p : Nat} {S : Sto} {o1 o2 o4 o6 o7 o8 o9 o10 o11 o12 o13 o14 : Option TV} {ss fs : List Int} (hp : Pot S p) (h : Szs ss) (hf : fs.length ≤ 4) : ∃ (x : TV) (S' : Sto), evS (callN Q G (n + 6)) G b32s6 [some (.ref p), o1, o2, some (.tup (ss.map .int)), o4, some (.tup (fs.map .int)), o6, o7, o8, o9, o10, o11, o12, o13, o14] S = .nx [some (.ref p), o1, o2, some (.tup (ss.map .int)), o4, some (.tup (fs.map .int)), some x, o7, o8, o9, o10, o11, o12, o13, o14] S' ∧ Adv p S S' := by
  obtain ⟨v, S3, e3, a3, bv⟩ := bent_ok (n := n + 3) (l := fs.map .int) hp el_ints (by rw [List.length_map]; omega)
  have e3' : callN Q G (n + 6) 28 [.ref p, .tup (fs.map .int)] S = _ := e3
  have hl : ss.length ≤ 1000 := by have := h.len; omega
  have body : ∀ (x : TV), BV p S3 x → evSs (callN Q G (n + 6)) G b32l1 [some (.ref p), o1, o2, some (.tup (ss.map .int)), o4, some (.tup (fs.map .int)), some x, o7, o8, o9, o10, o11, o12, o13, o14] S3 = .nx [some (.ref p), o1, o2, some (.tup (ss.map .int)), o4, some (.tup (fs.map .int)), some x, o7, o8, o9, o10, o11, o12, o13, o14] S3 := fun x bx => by
    have k1 : callN Q G (n + 6) 16 [.tup (ss.map .int), x] S3 = _ := c_lot h.fl hl bx.gv
    have k2 : callN Q G (n + 6) 30 [.tup (ss.map .int), x] S3 = _ := c_llot bx.gv bx.den bx.sz
    unfold b32l1
    simp only [evSs, evS, evE, evA, evW, evC, evI, evO, List.getElem?_cons_zero, List.getElem?_cons_succ, bok, R.bind_err, TW.st, truth, ofs, R.sr, SR.then, SR.out, cond_true, cond_false, asT_var, asT_tup, asTs_nil, asTs_cons, asT_sub, List.set_cons_succ, List.set_cons_zero, len_tup, len_fr, all_eq, tuple_fr, list_tup, int_int, abs_int, max_int, add_int, sub_int, lt_int, le_int, gt_int, ge_int, is_non, isn_non, is_bl, isn_bl, eq_int, ne_int, eq_bl, ne_bl, k1, k2, decide_true, Bool.not_true]
  refine ⟨v, S3, ?_, a3⟩
  unfold b32s6
  simp only [evSs, evS, evE, evA, evW, evC, evI, evO, List.getElem?_cons_zero, List.getElem?_cons_succ, bok, R.bind_err, TW.st, truth, ofs, R.sr, SR.then, SR.out, cond_true, cond_false, asT_var, asT_tup, asTs_nil, asTs_cons, asT_sub, List.set_cons_succ, List.set_cons_zero, len_tup, len_fr, all_eq, tuple_fr, list_tup, int_int, abs_int, max_int, add_int, sub_int, lt_int, le_int, gt_int, ge_int, is_non, isn_non, is_bl, isn_bl, eq_int, ne_int, eq_bl, ne_bl, e3', srcOf, Itb.many, Src.many, List.length_cons, List.length_nil]
  exact for2 rfl (body (.tup (fs.map .int)) (bv_ints (by omega))) rfl (body v bv)
end K10

namespace K10
open Ev PySem
/-! ### rows that are right -/
inductive LR : List Int → List TV → Prop
  | nil : LR [] []
  | cons {s : Int} {ss : List Int} {ms : List Int} {rows : List TV} : ms.Perm (rngZ s.toNat) → LR ss rows → LR (s :: ss) (.tup (ms.map .int) :: rows)
theorem LR.snoc {s : Int} {ms : List Int} (h : ms.Perm (rngZ s.toNat)) : ∀ {ss : List Int} {rows : List TV}, LR ss rows → LR (ss ++ [s]) (rows ++ [.tup (ms.map .int)])
  | _, _, .nil => .cons h .nil
  | _, _, .cons a b => .cons a (LR.snoc h b)
theorem LR.len : ∀ {ss : List Int} {rows : List TV}, LR ss rows → rows.length = ss.length
  | _, _, .nil => rfl
  | _, _, .cons _ b => congrArg (· + 1) (LR.len b)
theorem rngZ_sorted (m : Nat) : (rngZ m).Pairwise (· ≤ ·) := by
  unfold rngZ
  rw [List.pairwise_map]
  exact List.pairwise_lt_range.imp fun h => by omega
theorem isI_ints : ∀ ms : List Int, (ms.map TV.int).all isI = true
  | [] => rfl
  | _ :: ms => isI_ints ms
theorem intsOf_ints : ∀ ms : List Int, intsOf (ms.map TV.int) = ms
  | [] => rfl
  | m :: ms => congrArg (m :: ·) (intsOf_ints ms)
theorem spell_perm {ms : List Int} {m : Nat} (h : ms.Perm (rngZ m)) : spell m (.tup (ms.map .int)) = true := by
  show ((ms.map TV.int).all isI && decide (sortI (intsOf (ms.map TV.int)) = rngZ m)) = true
  rw [isI_ints, intsOf_ints, Bool.true_and, decide_eq_true_eq]
  exact sorted_one ((sortI_perm ms).trans h) (sortI_sorted ms) (rngZ_sorted m)
theorem lr_sp {ss : List Int} {rows : List TV} (h : LR ss rows) : (zp (ss.map .int) rows).all sp = true := by
  induction h with
  | nil => rfl
  | cons a b ih =>
    rw [List.map_cons, zp_cons, List.all_cons, ih, Bool.and_true]
    exact spell_perm a
theorem lr_bent {v : TV} {ss : List Int} {rows : List TV} (h : LR ss rows) : ∀ (k : Nat) (hk : k < ss.length), (zp (ss.map .int) (rows.take k ++ [v] ++ rows.drop (k + 1))).all sp = spell (ss[k]).toNat v := by
  induction h with
  | nil => intro k hk; cases hk
  | @cons s ss ms rows a b ih =>
    intro k hk
    cases k with
    | zero =>
      show (spell s.toNat v && (zp (ss.map .int) rows).all sp) = _
      rw [lr_sp b, Bool.and_true]
      rfl
    | succ k =>
      have ih := ih k (by simpa using hk)
      show (spell s.toNat (.tup (ms.map .int)) && (zp (ss.map .int) (rows.take k ++ [v] ++ rows.drop (k + 1))).all sp) = _
      rw [spell_perm a, Bool.true_and]
      exact ih
theorem LR.at_ {ss : List Int} {rows : List TV} (h : LR ss rows) : ∀ (k : Nat) (hk : k < ss.length), ∃ ms : List Int, rows[k]? = some (.tup (ms.map .int)) ∧ ms.length = (ss[k]).toNat := by
  induction h with
  | nil => intro k hk; cases hk
  | @cons s ss ms rows a b ih =>
    intro k hk
    cases k with
    | zero => exact ⟨ms, rfl, by rw [a.length_eq, rngZ_len]; rfl⟩
    | succ k =>
      obtain ⟨ms, h1, h2⟩ := ih k (by simpa using hk)
      exact ⟨ms, h1, h2⟩
theorem LR.mem : ∀ {ss : List Int} {rows : List TV}, LR ss rows → (∀ s ∈ ss, s ≤ 1000) → ∀ x ∈ rows, ∃ ms : List Int, x = .tup (ms.map .int) ∧ ms.length ≤ 1000
  | _, _, .nil, _, _, h => by cases h
  | _, _, @LR.cons s ss ms rows a b, hs, x, h => by
    rcases List.mem_cons.mp h with e | e
    · exact ⟨ms, e, by rw [a.length_eq, rngZ_len]; have := hs s List.mem_cons_self; omega⟩
    · exact LR.mem b (fun s hs' => hs s (List.mem_cons_of_mem _ hs')) x e
/-- tuple(_law_mixed(pot, list(range(m)))) -/
theorem mix_tuple {n p m : Nat} {S : Sto} {ρ : Ev.Env} {a0 a : E} (hp : Pot S p) (h0 : ∀ S, evE (callN Q G (n + 6)) G a0 ρ S = .ok (.v (.ref p)) S) (ha : ∀ S, evE (callN Q G (n + 6)) G a ρ S = .ok (.v (.int m)) S) (hm : m ≤ 1000) :
    ∃ (ms : List Int) (S' : Sto), evE (callN Q G (n + 6)) G (.bi .tuple (.cons (.call 23 (.cons a0 (.cons (.rng .list (.cons a .nil)) .nil))) .nil)) ρ S = .ok (.v (.tup (ms.map .int))) S' ∧ ms.Perm (rngZ m) ∧ Adv p S S' := by
  obtain ⟨r, S', ms, e, g, pm, ad⟩ := mixed_ok (n := n + 4) (q := S.nx) (ns := rngZ m) (hp.push (.lst ((rngZ m).map .int))) Sto.get_push_same (by rw [rngZ_len]; exact hm)
  have e' : callN Q G (n + 6) 23 [.ref p, .ref S.nx] (S.push (.lst ((rngZ m).map .int))) = _ := e
  refine ⟨ms, S', ?_, pm, (Adv.push hp _).trans ad⟩
  have kr : evE (callN Q G (n + 6)) G (.rng .list (.cons a .nil)) ρ S = .ok (.fr ((rngZ m).map .int)) S := by
    have e : evW (callN Q G (n + 6)) G (.cons a .nil) ρ S = .ok [.v (.int m)] S := by
      show (evE _ _ a ρ S).bind _ = _
      rw [ha]
      rfl
    have k : evE (callN Q G (n + 6)) G (.rng .list (.cons a .nil)) ρ S = (evW (callN Q G (n + 6)) G (.cons a .nil) ρ S).bind fun xs S => rngRes .list xs S := rfl
    rw [k, e, bok]
    exact rng_list (by omega)
  generalize E.rng .list (.cons a .nil) = er at kr ⊢
  simp only [evE, evW, evA, h0, kr, bok, TW.st, e', tuple_ref g]
theorem r7 {n p : Nat} {S : Sto} {o1 o2 o4 o5 o6 o7 o8 o9 o10 o11 o12 o13 o14 : Option TV} {ss : List Int} (hp : Pot S p) (h : Szs ss) : ∃ (rows : List TV) (S' : Sto), evS (callN Q G (n + 6)) G b32s7 [some (.ref p), o1, o2, some (.tup (ss.map .int)), o4, o5, o6, o7, o8, o9, o10, o11, o12, o13, o14] S = .nx [some (.ref p), o1, o2, some (.tup (ss.map .int)), o4, o5, o6, some (.tup rows), o8, o9, o10, o11, o12, o13, o14] S' ∧ LR ss rows ∧ Adv p S S' := by
  have run := comp_run (tg := asT (callN Q G (n + 6)) G (.var 13)) (cs := fun ρ S => evC (callN Q G (n + 6)) G .nil ρ S)
    (el := fun ρ S => (evE (callN Q G (n + 6)) G (.bi .tuple (.cons (.call 23 (.cons (.var 0) (.cons (.rng .list (.cons (.var 13) .nil)) .nil))) .nil)) ρ S).bind fun x S => x.st S)
    (ρ := [some (.ref p), o1, o2, some (.tup (ss.map .int)), o4, o5, o6, o7, o8, o9, o10, o11, o12, none, o14]) (fun r acc S' => Adv p S S' ∧ ∃ pre ms : List Int, r = ms.map .int ∧ ss = pre ++ ms ∧ LR pre acc) (fun x r acc S' h1 => ?_) (walkA_ts (ss.map .int)) (k := (ss.map TV.int).length + 1) (by omega) (acc := []) (S := S) (by rw [List.length_map]; have := h.len; exact small_sz (by show 0 + _ ≤ 1000; omega)) ⟨Adv.refl hp, [], ss, rfl, rfl, .nil⟩
  · obtain ⟨l, S', e2, a2, pre, ms, hm, hs, hl⟩ := run
    have hms : ms = [] := by cases ms with | nil => rfl | cons _ _ => cases hm
    subst hms
    rw [List.append_nil] at hs
    subst hs
    refine ⟨l, S', ?_, hl, a2⟩
    have kc : evE (callN Q G (n + 6)) G b32c2 [some (.ref p), o1, o2, some (.tup (ss.map .int)), o4, o5, o6, o7, o8, o9, o10, o11, o12, o13, o14] S = .ok (.fr l) S' := by
      show (compGo _ _ _ _ ((ss.map TV.int).length + 1) _ _ _).bind _ = _
      rw [show wipe [some (.ref p), o1, o2, some (.tup (ss.map .int)), o4, o5, o6, o7, o8, o9, o10, o11, o12, o13, o14] [13] = [some (.ref p), o1, o2, some (.tup (ss.map .int)), o4, o5, o6, o7, o8, o9, o10, o11, o12, none, o14] from rfl, e2]
      rfl
    exact asg_tuple kc
  · obtain ⟨ad, pre, ms, hm, hs, hl⟩ := h1
    cases ms with
    | nil => cases hm
    | cons i ms =>
      cases hm
      have hb := h.bd i (by rw [hs]; simp)
      obtain ⟨m, rfl⟩ : ∃ m : Nat, i = m := ⟨i.toNat, by omega⟩
      obtain ⟨zs, S2, e1, pm, a1⟩ := mix_tuple (n := n) (m := m) (a0 := .var 0) (a := .var 13) (ρ := [some (.ref p), o1, o2, some (.tup (ss.map .int)), o4, o5, o6, o7, o8, o9, o10, o11, o12, some (.int m), o14]) ad.pot (fun _ => rfl) (fun _ => rfl) (by omega)
      refine ⟨_, S', true, S', rfl, rfl, (fun z => nomatch z), fun _ => ⟨.tup (zs.map .int), S2, ?_, ad.trans a1, pre ++ [(m : Int)], ms, rfl, by rw [hs]; simp, LR.snoc (by rw [Int.toNat_natCast]; exact pm) hl⟩⟩
      show (evE _ _ _ [some (.ref p), o1, o2, some (.tup (ss.map .int)), o4, o5, o6, o7, o8, o9, o10, o11, o12, some (.int m), o14] S').bind _ = _
      rw [e1]
      rfl
theorem r8 {n p : Nat} {S : Sto} {o1 o2 o4 o5 o6 o8 o9 o10 o11 o12 o13 o14 : Option TV} {ss : List Int} {rows : List TV} (hp : Pot S p) (h : Szs ss) : ∃ (k : Nat) (S' : Sto), evS (callN Q G (n + 6)) G b32s8 [some (.ref p), o1, o2, some (.tup (ss.map .int)), o4, o5, o6, some (.tup rows), o8, o9, o10, o11, o12, o13, o14] S = .nx [some (.ref p), o1, o2, some (.tup (ss.map .int)), o4, o5, o6, some (.tup rows), some (.int k), o9, o10, o11, o12, o13, o14] S' ∧ k < ss.length ∧ Adv p S S' := by
  have hl := h.len
  obtain ⟨d, S2, e1, d0, d1, a1, _⟩ := draw_ok (n := n + 5) (many := (ss.length : Int)) hp (by omega) (by omega)
  have e1' : callN Q G (n + 6) 21 [.ref p, .int (ss.length : Nat)] S = _ := e1
  obtain ⟨k, rfl⟩ : ∃ k : Nat, d = k := ⟨d.toNat, by omega⟩
  refine ⟨k, S2, ?_, by omega, a1⟩
  unfold b32s8
  simp only [evSs, evS, evE, evA, evW, evC, evI, evO, List.getElem?_cons_zero, List.getElem?_cons_succ, bok, R.bind_err, TW.st, truth, ofs, R.sr, SR.then, SR.out, cond_true, cond_false, asT_var, asT_tup, asTs_nil, asTs_cons, asT_sub, List.set_cons_succ, List.set_cons_zero, len_tup, len_fr, all_eq, tuple_fr, list_tup, int_int, abs_int, max_int, add_int, sub_int, lt_int, le_int, gt_int, ge_int, is_non, isn_non, is_bl, isn_bl, eq_int, ne_int, eq_bl, ne_bl, List.length_map, e1']
theorem r9 {n p k : Nat} {S : Sto} {o1 o2 o4 o5 o6 o9 o10 o11 o12 o13 o14 : Option TV} {ss : List Int} {rows : List TV} (hp : Pot S p) (h : Szs ss) (hr : LR ss rows) (hk : k < ss.length) : ∃ (v : TV) (S' : Sto), evS (callN Q G (n + 6)) G b32s9 [some (.ref p), o1, o2, some (.tup (ss.map .int)), o4, o5, o6, some (.tup rows), some (.int k), o9, o10, o11, o12, o13, o14] S = .nx [some (.ref p), o1, o2, some (.tup (ss.map .int)), o4, o5, o6, some (.tup rows), some (.int k), some (.tup (rows.take k ++ [v] ++ rows.drop (k + 1))), o10, o11, o12, o13, o14] S' ∧ BV p S' v ∧ Adv p S S' := by
  have hl := h.len
  have rl := hr.len
  obtain ⟨ms, hm, hml⟩ := hr.at_ k hk
  have hb := h.bd _ (List.getElem_mem hk)
  obtain ⟨v, S3, e3, a3, bv⟩ := bent_ok (n := n + 3) (l := ms.map .int) hp el_ints (by rw [List.length_map]; omega)
  have e3' : callN Q G (n + 6) 28 [.ref p, .tup (ms.map .int)] S = _ := e3
  have i0 : item (.v (.tup rows)) (.v (.int k)) S = .ok (.v (.tup (ms.map .int))) S := item_tup (atI_nat (by omega) (by rw [Int.toNat_natCast]; exact hm))
  have c1 : cut rows none (some (k : Int)) = rows.take k := cut_hi rows k
  have c3 : cut rows (some ((k : Int) + 1)) none = rows.drop (k + 1) := cut_lo rows (k + 1)
  have p1 : ∀ S, binop .add (.v (.tup (rows.take k))) (.v (.tup [v])) S = .ok (.v (.tup (rows.take k ++ [v]))) S := add_tup (by simp; omega)
  have p2 : ∀ S, binop .add (.v (.tup (rows.take k ++ [v]))) (.v (.tup (rows.drop (k + 1)))) S = .ok (.v (.tup (rows.take k ++ [v] ++ rows.drop (k + 1)))) S := add_tup (by simp; omega)
  refine ⟨v, S3, ?_, bv, a3⟩
  unfold b32s9
  simp only [evSs, evS, evE, evA, evW, evC, evI, evO, List.getElem?_cons_zero, List.getElem?_cons_succ, bok, R.bind_err, TW.st, truth, ofs, R.sr, SR.then, SR.out, cond_true, cond_false, asT_var, asT_tup, asTs_nil, asTs_cons, asT_sub, List.set_cons_succ, List.set_cons_zero, len_tup, len_fr, all_eq, tuple_fr, list_tup, int_int, abs_int, max_int, add_int, sub_int, lt_int, le_int, gt_int, ge_int, is_non, isn_non, is_bl, isn_bl, eq_int, ne_int, eq_bl, ne_bl, slice_tup, c1, c3, i0, e3', p1, p2]
theorem r10 {n p k : Nat} {S : Sto} {o1 o2 o4 o5 o6 o10 o11 o12 o13 o14 : Option TV} {ss : List Int} {rows : List TV} {v : TV} (h : Szs ss) (hr : LR ss rows) (hk : k < ss.length) (bv : BV p S v) : evS (callN Q G (n + 6)) G b32s10 [some (.ref p), o1, o2, some (.tup (ss.map .int)), o4, o5, o6, some (.tup rows), some (.int k), some (.tup (rows.take k ++ [v] ++ rows.drop (k + 1))), o10, o11, o12, o13, o14] S = .nx [some (.ref p), o1, o2, some (.tup (ss.map .int)), o4, o5, o6, some (.tup rows), some (.int k), some (.tup (rows.take k ++ [v] ++ rows.drop (k + 1))), o10, o11, o12, o13, o14] S := by
  have hl := h.len
  have rl := hr.len
  have hs : ∀ s ∈ ss, 0 ≤ s ∧ s ≤ 1000 := fun s z => by have := h.bd s z; omega
  have hl3 : ss.length ≤ 1000 := by omega
  have gvr : ∀ x ∈ rows, GV S x := fun x hx => by
    obtain ⟨ms, rfl, hz⟩ := hr.mem (fun s z => (hs s z).2) x hx
    exact gv_ints hz
  have k1 : callN Q G (n + 6) 17 [.tup (ss.map .int), .tup rows] S = _ := c_lett h.fl okv_tup (fun l e x hx => by cases e; exact gvr x hx) hl3 hs
  have k2 : callN Q G (n + 6) 17 [.tup (ss.map .int), .tup (rows.take k ++ [v] ++ rows.drop (k + 1))] S = _ := c_lett h.fl okv_tup (fun l e x hx => by
    cases e
    rcases List.mem_append.mp hx with hx | hx
    · rcases List.mem_append.mp hx with hx | hx
      · exact gvr x (List.mem_of_mem_take hx)
      · simp at hx; rw [hx]; exact bv.gv
    · exact gvr x (List.mem_of_mem_drop hx)) hl3 hs
  have hb := hs _ (List.getElem_mem hk)
  obtain ⟨m, hm⟩ : ∃ m : Nat, ss[k] = m := ⟨(ss[k]).toNat, by omega⟩
  have k3 : callN Q G (n + 6) 31 [.int m, v] S = _ := c_lspell bv.gv (by omega)
  have b1 : lettB ss (.tup rows) = true := by
    show (decide ((rows.length : Int) = ss.length) && (zp (ss.map .int) rows).all sp) = true
    rw [lr_sp hr, Bool.and_true, decide_eq_true_eq, rl]
  have b2 : lettB ss (.tup (rows.take k ++ [v] ++ rows.drop (k + 1))) = spell m v := by
    show (decide (((rows.take k ++ [v] ++ rows.drop (k + 1)).length : Int) = ss.length) && (zp (ss.map .int) (rows.take k ++ [v] ++ rows.drop (k + 1))).all sp) = _
    rw [lr_bent hr k hk, hm, Int.toNat_natCast, decide_eq_true (by simp; omega), Bool.true_and]
  have i1 : item (.v (.tup (ss.map .int))) (.v (.int k)) S = .ok (.v (.int m)) S := item_tup (atI_nat (by omega) (by rw [Int.toNat_natCast, List.getElem?_map, List.getElem?_eq_getElem hk, hm]; rfl))
  have i2 : item (.v (.tup (rows.take k ++ [v] ++ rows.drop (k + 1)))) (.v (.int k)) S = .ok (.v v) S := item_tup (atI_nat (by omega) (by
    rw [Int.toNat_natCast, List.append_assoc, List.getElem?_append_right (by rw [List.length_take]; omega), List.length_take, Nat.min_eq_left (by omega), Nat.sub_self]
    rfl))
  unfold b32s10
  simp only [evSs, evS, evE, evA, evW, evC, evI, evO, List.getElem?_cons_zero, List.getElem?_cons_succ, bok, R.bind_err, TW.st, truth, ofs, R.sr, SR.then, SR.out, cond_true, cond_false, asT_var, asT_tup, asTs_nil, asTs_cons, asT_sub, List.set_cons_succ, List.set_cons_zero, len_tup, len_fr, all_eq, tuple_fr, list_tup, int_int, abs_int, max_int, add_int, sub_int, lt_int, le_int, gt_int, ge_int, is_non, isn_non, is_bl, isn_bl, eq_int, ne_int, eq_bl, ne_bl, k1, k2, k3, b1, b2, i1, i2, decide_true, Bool.not_true]
end K10

namespace K10
open Ev PySem
theorem asg_v {C : Call} {G : List TV} {i : Nat} {e : E} {x : TV} {ρ : Ev.Env} {S S' : Sto} (h : evE C G e ρ S = .ok (.v x) S') : evS C G (.asg (.var i) e) ρ S = .nx (ρ.set i (some x)) S' := by
  show (evE C G e ρ S).sr _ = _
  rw [h]
  rfl
theorem r11 {n p : Nat} {S : Sto} {o1 o2 o4 o5 o6 o8 o9 o10 o11 o12 o13 o14 : Option TV} {ss : List Int} {rows : List TV} (h : Szs ss) (hr : LR ss rows) : evS (callN Q G (n + 6)) G b32s11 [some (.ref p), o1, o2, some (.tup (ss.map .int)), o4, o5, o6, some (.tup rows), o8, o9, o10, o11, o12, o13, o14] S = .nx [some (.ref p), o1, o2, some (.tup (ss.map .int)), o4, o5, o6, some (.tup rows), o8, o9, o10, o11, o12, o13, o14] (S.push (.lst rows)) := by
  have hl := h.len
  have rl := hr.len
  have hs : ∀ s ∈ ss, 0 ≤ s ∧ s ≤ 1000 := fun s z => by have := h.bd s z; omega
  have hl3 : ss.length ≤ 1000 := by omega
  have gvr : ∀ (S : Sto), ∀ x ∈ rows, GV S x := fun S x hx => by
    obtain ⟨ms, rfl, hz⟩ := hr.mem (fun s z => (hs s z).2) x hx
    exact gv_ints hz
  have k1 : callN Q G (n + 6) 17 [.tup (ss.map .int), .tup (rows.drop 1)] S = _ := c_lett h.fl okv_tup (fun l e x hx => by cases e; exact gvr S x (List.mem_of_mem_drop hx)) hl3 hs
  have k2 : callN Q G (n + 6) 17 [.tup (ss.map .int), .ref S.nx] (S.push (.lst rows)) = _ := c_lett h.fl (fun m e => by cases e; exact ⟨rows, Sto.get_push_same⟩) (fun l e => nomatch e) hl3 hs
  have b1 : lettB ss (.tup (rows.drop 1)) = false := by
    show (decide (((rows.drop 1).length : Int) = ss.length) && _) = false
    rw [decide_eq_false (by rw [List.length_drop]; omega), Bool.false_and]
  have b2 : lettB ss (.ref S.nx) = false := rfl
  unfold b32s11
  simp only [evSs, evS, evE, evA, evW, evC, evI, evO, List.getElem?_cons_zero, List.getElem?_cons_succ, bok, R.bind_err, TW.st, truth, ofs, R.sr, SR.then, SR.out, cond_true, cond_false, asT_var, asT_tup, asTs_nil, asTs_cons, asT_sub, List.set_cons_succ, List.set_cons_zero, len_tup, len_fr, all_eq, tuple_fr, list_tup, int_int, abs_int, max_int, add_int, sub_int, lt_int, le_int, gt_int, ge_int, is_non, isn_non, is_bl, isn_bl, eq_int, ne_int, eq_bl, ne_bl, slice_tup, cut_1, k1, b1, TW.st_fr, k2, b2, decide_true, Bool.not_true]
theorem r12 {n p : Nat} {S : Sto} {o1 o2 o3 o4 o5 o6 o7 o8 o9 o10 o11 o12 o13 o14 : Option TV} (hp : Pot S p) : ∃ (ms : List Int) (S' : Sto), evS (callN Q G (n + 6)) G b32s12 [some (.ref p), o1, o2, o3, o4, o5, o6, o7, o8, o9, o10, o11, o12, o13, o14] S = .nx [some (.ref p), o1, o2, o3, o4, o5, o6, o7, o8, o9, some (.tup (ms.map .int)), o11, o12, o13, o14] S' ∧ ms.Perm (rngZ 6) ∧ Adv p S S' := by
  obtain ⟨ms, S', e, pm, ad⟩ := mix_tuple (n := n) (m := 6) (a0 := .var 0) (a := .c (.int 6)) (ρ := [some (.ref p), o1, o2, o3, o4, o5, o6, o7, o8, o9, o10, o11, o12, o13, o14]) hp (fun _ => rfl) (fun _ => rfl) (by decide)
  refine ⟨ms, S', ?_, pm, ad⟩
  exact asg_v e
theorem r13 {n p : Nat} {S : Sto} {o1 o2 o3 o4 o5 o6 o7 o8 o9 o11 o12 o13 o14 : Option TV} {ms : List Int} (hp : Pot S p) (h : ms.length ≤ 20) : ∃ (v : TV) (S' : Sto), evS (callN Q G (n + 6)) G b32s13 [some (.ref p), o1, o2, o3, o4, o5, o6, o7, o8, o9, some (.tup (ms.map .int)), o11, o12, o13, o14] S = .nx [some (.ref p), o1, o2, o3, o4, o5, o6, o7, o8, o9, some (.tup (ms.map .int)), some v, o12, o13, o14] S' ∧ BV p S' v ∧ Adv p S S' := by
  obtain ⟨v, S3, e3, a3, bv⟩ := bent_ok (n := n + 3) (l := ms.map .int) hp el_ints (by rw [List.length_map]; omega)
  have e3' : callN Q G (n + 6) 28 [.ref p, .tup (ms.map .int)] S = _ := e3
  refine ⟨v, S3, ?_, bv, a3⟩
  unfold b32s13
  simp only [evSs, evS, evE, evA, evW, evC, evI, evO, List.getElem?_cons_zero, List.getElem?_cons_succ, bok, R.bind_err, TW.st, truth, ofs, R.sr, SR.then, SR.out, cond_true, cond_false, asT_var, asT_tup, asTs_nil, asTs_cons, asT_sub, List.set_cons_succ, List.set_cons_zero, len_tup, len_fr, all_eq, tuple_fr, list_tup, int_int, abs_int, max_int, add_int, sub_int, lt_int, le_int, gt_int, ge_int, is_non, isn_non, is_bl, isn_bl, eq_int, ne_int, eq_bl, ne_bl, e3']
theorem r14 {n p : Nat} {S : Sto} {o1 o2 o3 o4 o5 o6 o7 o8 o9 o12 o13 o14 : Option TV} {ms : List Int} {v : TV} (h : ms.Perm (rngZ 6)) (bv : BV p S v) : evS (callN Q G (n + 6)) G b32s14 [some (.ref p), o1, o2, o3, o4, o5, o6, o7, o8, o9, some (.tup (ms.map .int)), some v, o12, o13, o14] S = .nx [some (.ref p), o1, o2, o3, o4, o5, o6, o7, o8, o9, some (.tup (ms.map .int)), some v, o12, o13, o14] S := by
  have hm : ms.length ≤ 1000 := by rw [h.length_eq, rngZ_len]; decide
  have k1 : callN Q G (n + 6) 19 [.tup [.int 2, .int 3], .tup (ms.map .int)] S = _ := c_table (n := n + 1) (ss := [2, 3]) (m := 6) (gv_ints hm) (by decide) (by rfl) (by decide) (by decide) (by decide)
  have k2 : callN Q G (n + 6) 19 [.tup [.int 2, .int 3], v] S = _ := c_table (n := n + 1) (ss := [2, 3]) (m := 6) bv.gv (by decide) (by rfl) (by decide) (by decide) (by decide)
  have k3 : callN Q G (n + 6) 31 [.int 6, v] S = _ := c_lspell (n := n + 4) (m := 6) bv.gv (by decide)
  have b1 : spell 6 (.tup (ms.map .int)) = true := spell_perm h
  unfold b32s14
  simp only [evSs, evS, evE, evA, evW, evC, evI, evO, List.getElem?_cons_zero, List.getElem?_cons_succ, bok, R.bind_err, TW.st, truth, ofs, R.sr, SR.then, SR.out, cond_true, cond_false, asT_var, asT_tup, asTs_nil, asTs_cons, asT_sub, List.set_cons_succ, List.set_cons_zero, len_tup, len_fr, all_eq, tuple_fr, list_tup, int_int, abs_int, max_int, add_int, sub_int, lt_int, le_int, gt_int, ge_int, is_non, isn_non, is_bl, isn_bl, eq_int, ne_int, eq_bl, ne_bl, k1, k2, k3, b1, decide_true, Bool.not_true]
/-- one turn -/
theorem turn_ok {n p : Nat} {S : Sto} {o1 o2 o3 o4 o5 o6 o7 o8 o9 o10 o11 o12 o13 o14 : Option TV} (hp : Pot S p) : RS (evSs (callN Q G (n + 6)) G b32l2 [some (.ref p), o1, o2, o3, o4, o5, o6, o7, o8, o9, o10, o11, o12, o13, o14] S) (fun ρ S' => Pot S' p ∧ ∃ o1 o2 o3 o4 o5 o6 o7 o8 o9 o10 o11 o12 o13 o14 : Option TV, ρ = [some (.ref p), o1, o2, o3, o4, o5, o6, o7, o8, o9, o10, o11, o12, o13, o14]) (fun _ _ => False) := by
  obtain ⟨v, S0, k0, bv, a0⟩ := r0 (n := n) (o1 := o1) (o2 := o2) (o3 := o3) (o4 := o4) (o5 := o5) (o6 := o6) (o7 := o7) (o8 := o8) (o9 := o9) (o10 := o10) (o11 := o11) (o12 := o12) (o13 := o13) (o14 := o14) hp
  obtain ⟨ss, S2, k2, h, a2⟩ := r2 (n := n) (o1 := o1) (o2 := some v) (o3 := o3) (o4 := o4) (o5 := o5) (o6 := o6) (o7 := o7) (o8 := o8) (o9 := o9) (o10 := o10) (o11 := o11) (o12 := o12) (o13 := o13) (o14 := o14) a0.pot
  obtain ⟨fs, S3, k3, hf, a3⟩ := r3 (n := n) (o1 := o1) (o2 := some v) (o4 := o4) (o5 := o5) (o6 := o6) (o7 := o7) (o8 := o8) (o9 := o9) (o10 := o10) (o11 := o11) (o12 := o12) (o13 := o13) (o14 := o14) a2.pot h
  obtain ⟨ls, S4, k4, hl, a4⟩ := r4 (n := n) (o1 := o1) (o2 := some v) (o4 := some (TV.tup (fs.map TV.int))) (o5 := o5) (o6 := o6) (o7 := o7) (o8 := o8) (o9 := o9) (o10 := o10) (o11 := o11) (o12 := o12) (o13 := o13) (o14 := o14) a3.pot h
  obtain ⟨x5, S5, k5, a5⟩ := r5 (n := n) (o1 := o1) (o2 := some v) (o5 := some (TV.tup (ls.map TV.int))) (o6 := o6) (o7 := o7) (o8 := o8) (o9 := o9) (o10 := o10) (o11 := o11) (o12 := o12) (o13 := o13) (o14 := o14) a4.pot h hf
  obtain ⟨x6, S6, k6, a6⟩ := r6 (n := n) (o1 := o1) (o2 := some v) (o4 := some (TV.tup (fs.map TV.int))) (o6 := some x5) (o7 := o7) (o8 := o8) (o9 := o9) (o10 := o10) (o11 := o11) (o12 := o12) (o13 := o13) (o14 := o14) a5.pot h hl
  obtain ⟨rows, S7, k7, hr, a7⟩ := r7 (n := n) (o1 := o1) (o2 := some v) (o4 := some (TV.tup (fs.map TV.int))) (o5 := some (TV.tup (ls.map TV.int))) (o6 := some x6) (o7 := o7) (o8 := o8) (o9 := o9) (o10 := o10) (o11 := o11) (o12 := o12) (o13 := o13) (o14 := o14) a6.pot h
  obtain ⟨k, S8, k8, hk, a8⟩ := r8 (n := n) (rows := rows) (o1 := o1) (o2 := some v) (o4 := some (TV.tup (fs.map TV.int))) (o5 := some (TV.tup (ls.map TV.int))) (o6 := some x6) (o8 := o8) (o9 := o9) (o10 := o10) (o11 := o11) (o12 := o12) (o13 := o13) (o14 := o14) a7.pot h
  obtain ⟨w, S9, k9, bw, a9⟩ := r9 (n := n) (o1 := o1) (o2 := some v) (o4 := some (TV.tup (fs.map TV.int))) (o5 := some (TV.tup (ls.map TV.int))) (o6 := some x6) (o9 := o9) (o10 := o10) (o11 := o11) (o12 := o12) (o13 := o13) (o14 := o14) a8.pot h hr hk
  have pS := a9.pot.push (.lst rows)
  obtain ⟨ms, S12, k12, pm, a12⟩ := r12 (n := n) (o1 := o1) (o2 := some v) (o3 := some (TV.tup (ss.map TV.int))) (o4 := some (TV.tup (fs.map TV.int))) (o5 := some (TV.tup (ls.map TV.int))) (o6 := some x6) (o7 := some (TV.tup rows)) (o8 := some (TV.int k)) (o9 := some (TV.tup (rows.take k ++ [w] ++ rows.drop (k + 1)))) (o10 := o10) (o11 := o11) (o12 := o12) (o13 := o13) (o14 := o14) pS
  obtain ⟨u, S13, k13, bu, a13⟩ := r13 (n := n) (o1 := o1) (o2 := some v) (o3 := some (TV.tup (ss.map TV.int))) (o4 := some (TV.tup (fs.map TV.int))) (o5 := some (TV.tup (ls.map TV.int))) (o6 := some x6) (o7 := some (TV.tup rows)) (o8 := some (TV.int k)) (o9 := some (TV.tup (rows.take k ++ [w] ++ rows.drop (k + 1)))) (o11 := o11) (o12 := o12) (o13 := o13) (o14 := o14) (ms := ms) a12.pot (by rw [pm.length_eq, rngZ_len]; decide)
  have e : evSs (callN Q G (n + 6)) G b32l2 [some (.ref p), o1, o2, o3, o4, o5, o6, o7, o8, o9, o10, o11, o12, o13, o14] S = _ := (ss_step k0).trans ((ss_step (r1 bv)).trans ((ss_step k2).trans ((ss_step k3).trans ((ss_step k4).trans ((ss_step k5).trans ((ss_step k6).trans ((ss_step k7).trans ((ss_step k8).trans ((ss_step k9).trans ((ss_step (r10 h hr hk bw)).trans ((ss_step (r11 h hr)).trans ((ss_step k12).trans ((ss_step k13).trans (ss_step (r14 pm bu)))))))))))))))
  rw [e]
  exact ⟨a13.pot, _, _, _, _, _, _, _, _, _, _, _, _, _, _, rfl⟩
end K10

namespace K10
open Ev PySem
theorem den_s {k : Nat} {S : Sto} {s : Str} (c : PyData.canLay0 (.str s) = true) : den k S (.str s) = some (.str s) := by cases k <;> exact if_pos c
theorem den_t1 {k : Nat} {S : Sto} {s : Str} (c : PyData.canLay0 (.str s) = true) : den (k + 1) S (.tup [.str s]) = some (.tuple [.str s]) := by
  show (mapO (fun x => den k S x) [.str s]).map PyData.tuple = _
  simp only [mapO, den_s c, Option.bind_some, Option.map_some]
theorem den_i {k : Nat} {S : Sto} {i : Int} : den k S (.int i) = some (.int i) := by cases k <;> rfl
theorem den_n {k : Nat} {S : Sto} : den k S .non = some .none := by cases k <;> rfl
theorem den_t2 {k : Nat} {S : Sto} {s : Str} {i : Int} (c : PyData.canLay0 (.str s) = true) : den (k + 1) S (.tup [.str s, .int i]) = some (.tuple [.str s, .int i]) := by
  show (mapO (fun x => den k S x) [.str s, .int i]).map PyData.tuple = _
  simp only [mapO, den_s c, den_i, Option.bind_some, Option.map_some]
theorem told_den {k : Nat} {S : Sto} : mapO (fun x => den (k + 1) S x) [.non, .tup [.str "many"], .tup [.str "many"], .non, .non, .non, .tup [.str "fillings"], .tup [.str "size", .int 1]] = some [.none, .tuple [.str "many"], .tuple [.str "many"], .none, .none, .none, .tuple [.str "fillings"], .tuple [.str "size", .int 1]] := by
  have c1 : PyData.canLay0 (.str "many") = true := by decide +kernel
  have c2 : PyData.canLay0 (.str "fillings") = true := by decide +kernel
  have c3 : PyData.canLay0 (.str "size") = true := by decide +kernel
  simp only [mapO, den_n, den_t1 c1, den_t1 c2, den_t2 c3, Option.bind_some, Option.map_some]
theorem told_eqv : PyData.eqvAll [.none, .tuple [.str "many"], .tuple [.str "many"], .none, .none, .none, .tuple [.str "fillings"], .tuple [.str "size", .int 1]] [.none, .tuple [.str "many"], .tuple [.str "many"], .none, .none, .none, .tuple [.str "fillings"], .tuple [.str "size", .int 1]] = true := by decide +kernel
theorem ne_told {S : Sto} {m : Nat} (g : S.get m = some (.lst [.non, .tup [.str "many"], .tup [.str "many"], .non, .non, .non, .tup [.str "fillings"], .tup [.str "size", .int 1]])) : cmpop .ne (.v (.ref m)) (.fr [.non, .tup [.str "many"], .tup [.str "many"], .non, .non, .non, .tup [.str "fillings"], .tup [.str "size", .int 1]]) S = .ok false S := by
  have d1 : denW S (.v (.ref m)) = some (.list [.none, .tuple [.str "many"], .tuple [.str "many"], .none, .none, .none, .tuple [.str "fillings"], .tuple [.str "size", .int 1]]) := by
    show (match S.get m with | some (.lst l) => (mapO (fun x => den 29 S x) l).map PyData.list | some (.frz l) => _ | none => none) = _
    rw [g]
    simp only [told_den, Option.map_some]
  have d2 : denW S (.fr [.non, .tup [.str "many"], .tup [.str "many"], .non, .non, .non, .tup [.str "fillings"], .tup [.str "size", .int 1]]) = some (.list [.none, .tuple [.str "many"], .tuple [.str "many"], .none, .none, .none, .tuple [.str "fillings"], .tuple [.str "size", .int 1]]) := by
    simp only [denW, told_den, Option.map_some]
  generalize TW.fr _ = w at d2 ⊢
  have k : cmpop .ne (.v (.ref m)) w S = match denW S (.v (.ref m)), denW S w with | some d, some e => R.ok (!PyData.eqv d e) S | _, _ => .err := by cases w <;> rfl
  rw [k, d1, d2]
  show R.ok (!PyData.eqvAll _ _) S = _
  rw [told_eqv]
  rfl
theorem told_ok {n : Nat} {S : Sto} {ρ : Ev.Env} (h15 : ρ.length = 15) : evE (callN Q G (n + 6)) G b32c3 ρ S = .ok (.fr [.non, .tup [.str "many"], .tup [.str "many"], .non, .non, .non, .tup [.str "fillings"], .tup [.str "size", .int 1]]) S := by
  have k : ∀ v : TV, OkV S v → (∀ l, v = .tup l → ∀ x ∈ l, OkV S x) → callN Q G (n + 6) 11 [v] S = .ok (.v (flawV v)) S := fun v a b => c_szflaw a b
  have ki : ∀ ns : List Int, callN Q G (n + 6) 11 [.tup (ns.map .int)] S = .ok (.v (flawV (.tup (ns.map .int)))) S := fun ns => k _ okv_tup fun l e x hx => by
    cases e
    obtain ⟨i, _, rfl⟩ := List.mem_map.mp hx
    exact okv_int
  have q := comp_map (C := callN Q G (n + 6)) (G := G) (ρ := ρ) (S := S) (own := [2]) (tg := .var 2) (e := .call 11 (.cons (.var 2) .nil)) (b := .one (.ts (([[2, 2, 2, 2, 2, 2], [2, 2, 2, 2, 2, 2, 2], [], [9, 9, 9], [2, 5, 5, 5, 4], [2, 2, 2, 5, 5, 5], [4, 4, 4, 4, 4], [9, 10]] : List (List Int)).map fun ns => TV.tup (ns.map .int))))
    (it := .one (.tup (.cons (.bin .mul (.tup (.cons (.c (.int 2)) .nil)) (.c (.int 6))) (.cons (.bin .mul (.tup (.cons (.c (.int 2)) .nil)) (.c (.int 7))) (.cons (.tup .nil) (.cons (.tup (.cons (.c (.int 9)) (.cons (.c (.int 9)) (.cons (.c (.int 9)) .nil)))) (.cons (.tup (.cons (.c (.int 2)) (.cons (.c (.int 5)) (.cons (.c (.int 5)) (.cons (.c (.int 5)) (.cons (.c (.int 4)) .nil)))))) (.cons (.tup (.cons (.c (.int 2)) (.cons (.c (.int 2)) (.cons (.c (.int 2)) (.cons (.c (.int 5)) (.cons (.c (.int 5)) (.cons (.c (.int 5)) .nil))))))) (.cons (.tup (.cons (.c (.int 4)) (.cons (.c (.int 4)) (.cons (.c (.int 4)) (.cons (.c (.int 4)) (.cons (.c (.int 4)) .nil)))))) (.cons (.tup (.cons (.c (.int 9)) (.cons (.c (.int 10)) .nil))) .nil)))))))))) flawV rfl (walks_ts _) (Nat.le_refl _) (by decide) fun x hx => by
      obtain ⟨ns, _, rfl⟩ := List.mem_map.mp hx
      refine ⟨_, rfl, ?_⟩
      have h2 : ((wipe ρ [2]).set 2 (some (.tup (ns.map .int))))[2]? = some (some (TV.tup (ns.map .int))) := List.getElem?_set_self (by show 2 < (ρ.set 2 none).length; rw [List.length_set]; omega)
      simp only [evE, evA, h2, bok, TW.st, ki]
  exact q
theorem right_ok {n p : Nat} {S : Sto} (hp : Pot S p) : ∃ S', cl (n + 7) 32 [.ref p] S = .ok (.v (.bl true)) S' ∧ Pot S' p := by
  have run : RS (forGo (asT (callN Q G (n + 6)) G (.var 1)) (fun ρ S => evSs (callN Q G (n + 6)) G b32l2 ρ S) (30 + 1) (.rng 0 1 30) [some (.ref p), none, none, none, none, none, none, none, none, none, none, none, none, none, none] S)
      (fun ρ S' => Pot S' p ∧ ∃ o1 o2 o3 o4 o5 o6 o7 o8 o9 o10 o11 o12 o13 o14 : Option TV, ρ = [some (.ref p), o1, o2, o3, o4, o5, o6, o7, o8, o9, o10, o11, o12, o13, o14]) fun _ _ => False := by
    refine for_run (fun _ ρ S' => Pot S' p ∧ ∃ o1 o2 o3 o4 o5 o6 o7 o8 o9 o10 o11 o12 o13 o14 : Option TV, ρ = [some (.ref p), o1, o2, o3, o4, o5, o6, o7, o8, o9, o10, o11, o12, o13, o14]) (fun x r ρ S' h => ?_) (fun ρ S' h => h) (walkA_rng 30 0) (by rw [rngL_len]; decide) ⟨hp, _, _, _, _, _, _, _, _, _, _, _, _, _, _, rfl⟩
    obtain ⟨h1, o1, o2, o3, o4, o5, o6, o7, o8, o9, o10, o11, o12, o13, o14, rfl⟩ := h
    exact ⟨_, _, rfl, turn_ok h1⟩
  revert run
  generalize hf : forGo (asT (callN Q G (n + 6)) G (.var 1)) (fun ρ S => evSs (callN Q G (n + 6)) G b32l2 ρ S) (30 + 1) (.rng 0 1 30) [some (.ref p), none, none, none, none, none, none, none, none, none, none, none, none, none, none] S = res
  intro run
  cases res with
  | nx ρ S1 =>
    obtain ⟨h1, o1, o2, o3, o4, o5, o6, o7, o8, o9, o10, o11, o12, o13, o14, rfl⟩ := run
    have w1 : evS (callN Q G (n + 6)) G (.forr (.var 1) (.rng (.cons (.c (.int 30)) .nil)) b32l2) [some (.ref p), none, none, none, none, none, none, none, none, none, none, none, none, none, none] S = .nx [some (.ref p), o1, o2, o3, o4, o5, o6, o7, o8, o9, o10, o11, o12, o13, o14] S1 := hf
    have kt := told_ok (n := n) (S := S1) (ρ := [some (.ref p), o1, o2, o3, o4, o5, o6, o7, o8, o9, o10, o11, o12, o13, o14]) rfl
    have g1 : (S1.push (.lst [.non, .tup [.str "many"], .tup [.str "many"], .non, .non, .non, .tup [.str "fillings"], .tup [.str "size", .int 1]])).get S1.nx = _ := Sto.get_push_same
    obtain ⟨S2, hS2⟩ : ∃ S2, S2 = S1.push (.lst [.non, .tup [.str "many"], .tup [.str "many"], .non, .non, .non, .tup [.str "fillings"], .tup [.str "size", .int 1]]) := ⟨_, rfl⟩
    rw [← hS2] at g1
    have p2 : Pot S2 p := by rw [hS2]; exact h1.push _
    have kne : cmpop .ne (.v (.ref S1.nx)) (.fr [.non, .tup [.str "many"], .tup [.str "many"], .non, .non, .non, .tup [.str "fillings"], .tup [.str "size", .int 1]]) S2 = .ok false S2 := by
      exact ne_told g1
    have z1 : callN Q G (n + 6) 16 [.tup [.int 2, .int 2], .tup []] S2 = .ok (.v (.bl false)) S2 := c_lot (n := n + 1) (ss := [2, 2]) (by rfl) (by decide) (gv_ints (ss := []) (by decide))
    have z2 : callN Q G (n + 6) 12 [.tup [.int 2], .tup [.int 0]] S2 = .ok (.v (.bl true)) S2 := c_fill (n := n + 1) (ss := [2]) (by rfl) okv_tup (gv_ints (ss := [0]) (by decide)).el (gv_ints (S := S2) (ss := [0]) (by decide)).sz
    have z3 : callN Q G (n + 6) 19 [.tup [.int 2], .tup [.int 1, .int 0]] S2 = .ok (.v (.bl true)) S2 := c_table (n := n + 1) (ss := [2]) (m := 2) (gv_ints (ss := [1, 0]) (by decide)) (by decide) (by rfl) (by decide) (by decide) (by decide)
    have z4 : callN Q G (n + 6) 19 [.tup [.int 2], .tup [.int 1, .bl true]] S2 = .ok (.v (.bl false)) S2 := c_table (n := n + 1) (ss := [2]) (m := 2) (v := .tup [.int 1, .bl true]) ⟨okv_tup, (fun l e x hx => by
      cases e
      simp only [List.mem_cons, List.not_mem_nil, or_false] at hx
      rcases hx with rfl | rfl
      · exact okv_int
      · exact .of fun _ z => nomatch z), (fun l e => by cases e; decide)⟩ (by decide) (by rfl) (by decide) (by decide) (by decide)
    refine ⟨S2, ?_, p2⟩
    show (evSs (callN Q G (n + 6)) G b32 [some (.ref p), none, none, none, none, none, none, none, none, none, none, none, none, none, none] S).out = _
    unfold b32
    rw [ss_step w1]
    generalize b32c3 = e3 at kt ⊢
    simp only [evSs, evS, evE, evA, evW, evC, evI, evO, List.getElem?_cons_zero, List.getElem?_cons_succ, bok, R.bind_err, TW.st, truth, ofs, R.sr, SR.then, SR.out, cond_true, cond_false, asT_var, asT_tup, asTs_nil, asTs_cons, asT_sub, List.set_cons_succ, List.set_cons_zero, len_tup, len_fr, all_eq, tuple_fr, list_tup, int_int, abs_int, max_int, add_int, sub_int, lt_int, le_int, gt_int, ge_int, is_non, isn_non, is_bl, isn_bl, eq_int, ne_int, eq_bl, ne_bl, kt, TW.st_fr, ← hS2, kne, z1, z2, z3, z4, decide_true]
  | ret _ _ => exact run.elim
  | brk _ _ => exact run.elim
  | cnt _ _ => exact run.elim
  | err => exact run.elim
/-! ### the law -/
theorem plain (ns : List Int) (h : ns.length ≤ 63) : ∃ S, callN (P.map Df.fn) G 60 33 [.fz (ns.map TV.int)] ⟨0, .nil⟩ = .ok (.v (.bl true)) S := by
  have run := comp_run (tg := asT (callN Q G 59) G (.var 1)) (cs := fun ρ S => evC (callN Q G 59) G .nil ρ S)
    (el := fun ρ S => (evE (callN Q G 59) G (.call 32 (.cons (.call 20 (.cons (.var 0) (.cons (.var 1) .nil))) .nil)) ρ S).bind fun x S => x.st S)
    (ρ := [some (.fz (ns.map .int)), none]) (fun r acc S' => (∃ k : Nat, acc = List.replicate k (.bl true)) ∧ ∃ ks : List Nat, (∀ k ∈ ks, k ≤ 1) ∧ r = ks.map fun k => .int (k : Int)) (fun x r acc S' h1 => ?_) (walkA_rng 2 0) (k := 3) (by rw [rngL_len]; decide) (acc := []) (S := ⟨0, .nil⟩) (by rw [rngL_len]; exact small_sz (by decide)) ⟨⟨0, rfl⟩, [0, 1], by decide, rfl⟩
  · obtain ⟨l, S', e2, ⟨k, rfl⟩, _⟩ := run
    have kc : evE (callN Q G 59) G b33c0 [some (.fz (ns.map .int)), none] ⟨0, .nil⟩ = .ok (.fr (List.replicate k (.bl true))) S' := by
      have ei : evI (callN Q G 59) G (.rng (.cons (.c (.int 2)) .nil)) [some (.fz (ns.map .int)), none] ⟨0, .nil⟩ = .ok (.rng 0 1 2) ⟨0, .nil⟩ := evI_rng1 rfl (by decide)
      show (evI _ _ _ _ _).bind _ = _
      rw [ei, bok]
      show (compGo _ _ _ _ 3 _ _ _).bind _ = _
      rw [show wipe [some (.fz (ns.map .int)), none] [1] = [some (TV.fz (ns.map .int)), none] from rfl, e2]
      rfl
    have al : bifn .all [.fr (List.replicate k (.bl true))] S' = .ok (.v (.bl true)) S' := by
      have q := all_eq (S := S') (fun _ => true) (List.replicate k .non)
      rw [List.map_replicate] at q
      rw [q]
      simp
    refine ⟨S', ?_⟩
    show (evSs (callN Q G 59) G b33 [some (.fz (ns.map .int)), none] ⟨0, .nil⟩).out = _
    unfold b33
    generalize b33c0 = e3 at kc ⊢
    simp only [evSs, evS, evE, evA, evW, evC, evI, evO, List.getElem?_cons_zero, List.getElem?_cons_succ, bok, R.bind_err, TW.st, truth, ofs, R.sr, SR.then, SR.out, cond_true, cond_false, asT_var, asT_tup, asTs_nil, asTs_cons, asT_sub, List.set_cons_succ, List.set_cons_zero, len_tup, len_fr, all_eq, tuple_fr, list_tup, int_int, abs_int, max_int, add_int, sub_int, lt_int, le_int, gt_int, ge_int, is_non, isn_non, is_bl, isn_bl, eq_int, ne_int, eq_bl, ne_bl, kc, al]
  · obtain ⟨⟨k, rfl⟩, ks, hk, hm⟩ := h1
    cases ks with
    | nil => cases hm
    | cons i ks =>
      cases hm
      obtain ⟨a, b, e1⟩ := pot_ok (n := 58) (k := i) (S := S') (ns := ns) (hk i List.mem_cons_self)
      have e1' : callN Q G 59 20 [.fz (ns.map .int), .int i] S' = _ := e1
      obtain ⟨S2, e2, _⟩ := right_ok (n := 52) (p := S'.nx) (S := S'.push (.lst [.int a, .int b])) ⟨a, b, Sto.get_push_same⟩
      have e2' : callN Q G 59 32 [.ref S'.nx] (S'.push (.lst [.int a, .int b])) = _ := e2
      refine ⟨_, S', true, S', rfl, rfl, (fun z => nomatch z), fun _ => ⟨.bl true, S2, ?_, ⟨k + 1, by rw [List.replicate_succ']⟩, ks, fun j hj => hk j (List.mem_cons_of_mem _ hj), rfl⟩⟩
      simp only [evSs, evS, evE, evA, evW, evC, evI, evO, List.getElem?_cons_zero, List.getElem?_cons_succ, bok, R.bind_err, TW.st, truth, ofs, R.sr, SR.then, SR.out, cond_true, cond_false, asT_var, asT_tup, asTs_nil, asTs_cons, asT_sub, List.set_cons_succ, List.set_cons_zero, len_tup, len_fr, all_eq, tuple_fr, list_tup, int_int, abs_int, max_int, add_int, sub_int, lt_int, le_int, gt_int, ge_int, is_non, isn_non, is_bl, isn_bl, eq_int, ne_int, eq_bl, ne_bl, e1', TW.st_fr, e2']
end K10
open PySem PySem.W PyProof.Rows
set_option maxHeartbeats 0 in
theorem PySem.Challenge.cw_fewcellseach_k10_any_value_as_sizes_fill_holds : PySem.Challenge.rw_fewcellseach_k10_any_value_as_sizes_fill.Holds := by
  w_on; o_law; k_head; (case hw => w_witness2)
  k_fill
  refine L2.walk_of (l := PySem.Challenge.rw_fewcellseach_k10_any_value_as_sizes_fill) (n := 63) (k := 60) (x := "script") (CX := fun _ => L2.CX0) (sp := fun w => Ev.lawSp _ K10.P K10.G 60 33) rfl (by decide) rfl ⟨rfl, by decide, by decide⟩ (fun w h Y => PySem.W.kIn_of Y) ?F (fun _ _ a ns hl hO hS => let ⟨S, e⟩ := K10.plain ns hl; Ev.law_sp hO hS e) (fun _ _ _ _ _ h => h)
  case F =>
    intro w mg fa h KX G hmg
    refine' Ev.law_mk (d := K10.d33) KX G ?fs K10.bn ?no ?gl K10.ck rfl rfl hmg
    case fs =>
      refine' ⟨Ev.fnk_mk (d := K10.d0) "is_integer" (K10.top 8) rfl rfl ?za0 ?zl0 ?zc0 ?zk0, Ev.fnk_mk (d := K10.d1) "is_within" (K10.top 9) rfl rfl ?za1 ?zl1 ?zc1 ?zk1, Ev.fnk_mk (d := K10.d2) "is_tuple" (K10.top 10) rfl rfl ?za2 ?zl2 ?zc2 ?zk2, Ev.fnk_mk (d := K10.d3) "is_list" (K10.top 11) rfl rfl ?za3 ?zl3 ?zc3 ?zk3, Ev.fnk_mk (d := K10.d4) "are_rising" (K10.top 12) rfl rfl ?za4 ?zl4 ?zc4 ?zk4, Ev.fnk_mk (d := K10.d5) "is_order" (K10.top 13) rfl rfl ?za5 ?zl5 ?zc5 ?zk5, Ev.fnk_mk (d := K10.d6) "multiplied" (K10.top 14) rfl rfl ?za6 ?zl6 ?zc6 ?zk6, Ev.fnk_mk (d := K10.d7) "flaw_of" (K10.top 16) rfl rfl ?za7 ?zl7 ?zc7 ?zk7, Ev.fnk_mk (d := K10.d8) "want_sizes" (K10.top 17) rfl rfl ?za8 ?zl8 ?zc8 ?zk8, Ev.fnk_mk (d := K10.d9) "is_filling_of" (K10.top 18) rfl rfl ?za9 ?zl9 ?zc9 ?zk9, Ev.fnk_mk (d := K10.d10) "are_sizes" (K10.top 19) rfl rfl ?za10 ?zl10 ?zc10 ?zk10, Ev.fnk_mk (d := K10.d11) "sizes_flaw" (K10.top 20) rfl rfl ?za11 ?zl11 ?zc11 ?zk11, Ev.fnk_mk (d := K10.d12) "is_filling" (K10.top 21) rfl rfl ?za12 ?zl12 ?zc12 ?zk12, Ev.fnk_mk (d := K10.d13) "is_lot_of" (K10.top 23) rfl rfl ?za13 ?zl13 ?zc13 ?zk13, Ev.fnk_mk (d := K10.d14) "are_letters_of" (K10.top 24) rfl rfl ?za14 ?zl14 ?zc14 ?zk14, Ev.fnk_mk (d := K10.d15) "is_spelling" (K10.top 25) rfl rfl ?za15 ?zl15 ?zc15 ?zk15, Ev.fnk_mk (d := K10.d16) "is_lot" (K10.top 26) rfl rfl ?za16 ?zl16 ?zc16 ?zk16, Ev.fnk_mk (d := K10.d17) "are_letters" (K10.top 27) rfl rfl ?za17 ?zl17 ?zc17 ?zk17, Ev.fnk_mk (d := K10.d18) "is_table_of" (K10.top 29) rfl rfl ?za18 ?zl18 ?zc18 ?zk18, Ev.fnk_mk (d := K10.d19) "is_table" (K10.top 30) rfl rfl ?za19 ?zl19 ?zc19 ?zk19, Ev.fnk_mk (d := K10.d20) "_law_pot" (K10.top 32) rfl rfl ?za20 ?zl20 ?zc20 ?zk20, Ev.fnk_mk (d := K10.d21) "_law_draw" (K10.top 33) rfl rfl ?za21 ?zl21 ?zc21 ?zk21, Ev.fnk_mk (d := K10.d22) "_law_pick" (K10.top 34) rfl rfl ?za22 ?zl22 ?zc22 ?zk22, Ev.fnk_mk (d := K10.d23) "_law_mixed" (K10.top 35) rfl rfl ?za23 ?zl23 ?zc23 ?zk23, Ev.fnk_mk (d := K10.d24) "_law_times" (K10.top 36) rfl rfl ?za24 ?zl24 ?zc24 ?zk24, Ev.fnk_mk (d := K10.d25) "_law_is_whole" (K10.top 37) rfl rfl ?za25 ?zl25 ?zc25 ?zk25, Ev.fnk_mk (d := K10.d26) "_law_flaw" (K10.top 38) rfl rfl ?za26 ?zl26 ?zc26 ?zk26, Ev.fnk_mk (d := K10.d27) "_law_sizes" (K10.top 39) rfl rfl ?za27 ?zl27 ?zc27 ?zk27, Ev.fnk_mk (d := K10.d28) "_law_bent" (K10.top 40) rfl rfl ?za28 ?zl28 ?zc28 ?zk28, Ev.fnk_mk (d := K10.d29) "_law_is_filling" (K10.top 41) rfl rfl ?za29 ?zl29 ?zc29 ?zk29, Ev.fnk_mk (d := K10.d30) "_law_is_lot" (K10.top 42) rfl rfl ?za30 ?zl30 ?zc30 ?zk30, Ev.fnk_mk (d := K10.d31) "_law_is_spelling" (K10.top 43) rfl rfl ?za31 ?zl31 ?zc31 ?zk31, Ev.fnk_mk (d := K10.d32) "_law_right" (K10.top 44) rfl rfl ?za32 ?zl32 ?zc32 ?zk32, Ev.fnk_mk (d := K10.d33) "law" (K10.top 45) rfl rfl ?za33 ?zl33 ?zc33 ?zk33, trivial⟩
      (case za0 => k_is); (case zl0 => k_is); (case zc0 => k_is); (case zk0 => k_is); (case za1 => k_is); (case zl1 => k_is); (case zc1 => k_is); (case zk1 => k_is); (case za2 => k_is); (case zl2 => k_is); (case zc2 => k_is); (case zk2 => k_is); (case za3 => k_is); (case zl3 => k_is); (case zc3 => k_is); (case zk3 => k_is); (case za4 => k_is); (case zl4 => k_is); (case zc4 => k_is); (case zk4 => k_is); (case za5 => k_is); (case zl5 => k_is); (case zc5 => k_is); (case zk5 => k_is); (case za6 => k_is); (case zl6 => k_is); (case zc6 => k_is); (case zk6 => k_is); (case za7 => k_is); (case zl7 => k_is); (case zc7 => k_is); (case zk7 => k_is); (case za8 => k_is); (case zl8 => k_is); (case zc8 => k_is); (case zk8 => k_is); (case za9 => k_is); (case zl9 => k_is); (case zc9 => k_is); (case zk9 => k_is); (case za10 => k_is); (case zl10 => k_is); (case zc10 => k_is); (case zk10 => k_is); (case za11 => k_is); (case zl11 => k_is); (case zc11 => k_is); (case zk11 => k_is); (case za12 => k_is); (case zl12 => k_is); (case zc12 => k_is); (case zk12 => k_is); (case za13 => k_is); (case zl13 => k_is); (case zc13 => k_is); (case zk13 => k_is); (case za14 => k_is); (case zl14 => k_is); (case zc14 => k_is); (case zk14 => k_is); (case za15 => k_is); (case zl15 => k_is); (case zc15 => k_is); (case zk15 => k_is); (case za16 => k_is); (case zl16 => k_is); (case zc16 => k_is); (case zk16 => k_is); (case za17 => k_is); (case zl17 => k_is); (case zc17 => k_is); (case zk17 => k_is); (case za18 => k_is); (case zl18 => k_is); (case zc18 => k_is); (case zk18 => k_is); (case za19 => k_is); (case zl19 => k_is); (case zc19 => k_is); (case zk19 => k_is); (case za20 => k_is); (case zl20 => k_is); (case zc20 => k_is); (case zk20 => k_is); (case za21 => k_is); (case zl21 => k_is); (case zc21 => k_is); (case zk21 => k_is); (case za22 => k_is); (case zl22 => k_is); (case zc22 => k_is); (case zk22 => k_is); (case za23 => k_is); (case zl23 => k_is); (case zc23 => k_is); (case zk23 => k_is); (case za24 => k_is); (case zl24 => k_is); (case zc24 => k_is); (case zk24 => k_is); (case za25 => k_is); (case zl25 => k_is); (case zc25 => k_is); (case zk25 => k_is); (case za26 => k_is); (case zl26 => k_is); (case zc26 => k_is); (case zk26 => k_is); (case za27 => k_is); (case zl27 => k_is); (case zc27 => k_is); (case zk27 => k_is); (case za28 => k_is); (case zl28 => k_is); (case zc28 => k_is); (case zk28 => k_is); (case za29 => k_is); (case zl29 => k_is); (case zc29 => k_is); (case zk29 => k_is); (case za30 => k_is); (case zl30 => k_is); (case zc30 => k_is); (case zk30 => k_is); (case za31 => k_is); (case zl31 => k_is); (case zc31 => k_is); (case zk31 => k_is); (case za32 => k_is); (case zl32 => k_is); (case zc32 => k_is); (case zk32 => k_is); (case za33 => k_is); (case zl33 => k_is); (case zc33 => k_is); (case zk33 => k_is)
    case no =>
      refine' ⟨?zn0, ?zn1, ?zn2, ?zn3, ?zn4, ?zn5, ?zn6, ?zn7, ?zn8, ?zn9, ?zn10, ?zn11, ?zn12, ?zn13, ?zn14, ?zn15, ?zn16, ?zn17, ?zn18, trivial⟩
      (case zn0 => k_is); (case zn1 => k_is); (case zn2 => k_is); (case zn3 => k_is); (case zn4 => k_is); (case zn5 => k_is); (case zn6 => k_is); (case zn7 => k_is); (case zn8 => k_is); (case zn9 => k_is); (case zn10 => k_is); (case zn11 => k_is); (case zn12 => k_is); (case zn13 => k_is); (case zn14 => k_is); (case zn15 => k_is); (case zn16 => k_is); (case zn17 => k_is); (case zn18 => k_is)
    case gl =>
      refine' ⟨Ev.glk_int ?zg0, Ev.glk_int ?zg1, Ev.glk_int ?zg2, Ev.glk_int ?zg3, trivial⟩
      (case zg0 => k_is); (case zg1 => k_is); (case zg2 => k_is); (case zg3 => k_is)


