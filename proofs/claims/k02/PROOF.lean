import PyProof.Rows.All
import Wide.All
import OpenK.AllK
import Wide.FinOn
import PySem.Challenge.RW_straightedge_k02_points_and_turns
import PySem.Syntax
import PyProof.EqLayable
import HandS.Lambda
import HandS.ForExc
import HandS.Comp
import HandS.Iter
import HandS.Zip
import HandS.Flow
import HandS.Style
import HandS.TupAny
import HandS.TupMul
import HandS.TupLe
import HandS.Wide
import HandS.Deep
import HandS.IsInst
import HandS.TryMany
import HandS.More
import HandS.EndTab
import PyProof.ExcBaseAll.ValueError
section
set_option linter.all false
/-! GCore: a small language of its own over data without addresses, and its evaluator. -/
namespace G
open PySem (Str PyData Operator CmpOp)

/-- data: tuples by what they hold, lists and dicts by a number of a cell -/
inductive D where
  | non | bl (b : Bool) | int (i : Int) | str (x : Str) | tup (xs : List D) | ref (n : Nat)
  deriving Inhabited
mutual
def D.beq : D → D → Bool
  | .non, .non => true
  | .bl a, .bl b => a == b
  | .int a, .int b => a == b
  | .str a, .str b => a == b
  | .tup a, .tup b => D.beqs a b
  | .ref a, .ref b => a == b
  | _, _ => false
def D.beqs : List D → List D → Bool
  | [], [] => true
  | x :: xs, y :: ys => D.beq x y && D.beqs xs ys
  | _, _ => false
end
mutual
theorem D.beq_iff : ∀ (a b : D), D.beq a b = true ↔ a = b
  | .non, b => by cases b <;> simp [D.beq]
  | .bl x, b => by cases b <;> simp [D.beq]
  | .int x, b => by cases b <;> simp [D.beq]
  | .str x, b => by cases b <;> simp [D.beq]
  | .ref x, b => by cases b <;> simp [D.beq]
  | .tup xs, b => by
    cases b with
    | tup ys => simp [D.beq, D.beqs_iff xs ys]
    | _ => simp [D.beq]
theorem D.beqs_iff : ∀ (a b : List D), D.beqs a b = true ↔ a = b
  | [], [] => by simp [D.beqs]
  | [], _ :: _ => by simp [D.beqs]
  | _ :: _, [] => by simp [D.beqs]
  | x :: xs, y :: ys => by simp [D.beqs, D.beq_iff x y, D.beqs_iff xs ys]
end
instance : DecidableEq D := fun a b => decidable_of_iff _ (D.beq_iff a b)

/-- what a number stands for -/
inductive Cell where
  | lst (xs : List D) | frz (xs : List D) | dct (kvs : List (D × D)) | set (xs : List D)
  deriving DecidableEq, Inhabited
abbrev Cells := List Cell
abbrev Lo := List (Option D)

/-- an expression's end: a value, an exception, or nothing is said -/
inductive R (α : Type) where
  | ok (a : α) (c : Cells) | ex (e : String) (c : Cells) | no
def R.bind {α β : Type} : R α → (α → Cells → R β) → R β
  | .ok a c, f => f a c
  | .ex e c, _ => .ex e c
  | .no, _ => .no
@[simp] theorem R.bind_ok {α β : Type} (a : α) (c : Cells) (f : α → Cells → R β) : (R.ok a c).bind f = f a c := rfl
@[simp] theorem R.bind_ex {α β : Type} (e : String) (c : Cells) (f : α → Cells → R β) : (R.ex e c).bind f = R.ex e c := rfl
@[simp] theorem R.bind_no {α β : Type} (f : α → Cells → R β) : (R.no : R α).bind f = R.no := rfl

/-- a statement's end -/
inductive SR where
  | nx (ρ : Lo) (c : Cells) | rt (d : D) (c : Cells) | bk (ρ : Lo) (c : Cells) | ct (ρ : Lo) (c : Cells) | ex (e : String) (ρ : Lo) (c : Cells) | no

/-! ### the language -/
inductive Tg where
  | v (i : Nat) | tup (ts : List Tg)
  deriving Inhabited
inductive Blt where
  | abs | int | len | min | max | sum | all | any | tuple | list | sorted | repr | str | set | bool | dict
  deriving DecidableEq, Inhabited
inductive Me where
  | append | extend | insert | pop | index | count | remove | get | setdefault | items | join | split
  deriving DecidableEq, Inhabited
inductive IE where
  | k (d : D) | no | v (i : Nat) | ty (t : String) | fn (e : IE)
  | bin (o : Operator) (a b : IE) | neg (a : IE)
  | cmp (o : CmpOp) (a b : IE) | chain (o1 o2 : CmpOp) (a b c : IE)
  | and (a b : IE) | or (a b : IE) | not (a : IE) | ite (c a b : IE)
  | tup (es : List IE) | lst (es : List IE) | dct0
  | ix (a b : IE) | sl (a lo hi : IE) | rv (a : IE)
  | call (f : String) (es : List IE) | lam (f : String) (e : IE)
  | blt (b : Blt) (es : List IE) | isi (e : IE) (ts : List String)
  | meth (m : Me) (o : IE) (es : List IE)
  | lc (own : List Nat) (tg : Tg) (it : IE) (ifs : List IE) (e : IE)
  | rng (es : List IE) | enum (e : IE) | zip (a b : IE) | rev (a : IE) | items (a : IE)
  deriving Inhabited
inductive IS where
  | set (t : Tg) (e : IE) | aug (o : Operator) (i : Nat) (e : IE) | setIx (o i e : IE)
  | expr (e : IE) | ret (e : IE) | retN
  | ife (c : IE) (a b : List IS) | whl (c : IE) (b : List IS) | for (t : Tg) (it : IE) (b : List IS)
  | brk | cnt | pass | raise (c : String) | try (b : List IS) (hs : List (String × D))
  deriving Inhabited
structure Fn where
  np : Nat
  nl : Nat
  body : List IS
  deriving Inhabited

/-! ### what operations give -/
def lim : Nat := 16777216
def getL (c : Cells) (n : Nat) : Option (List D) := match c[n]? with
  | some (.lst xs) => some xs
  | some (.frz xs) => some xs
  | _ => none
def b2i (b : Bool) : Int := if b then 1 else 0
def alloc (x : Cell) (c : Cells) : R D := .ok (.ref c.length) (c ++ [x])

/-! data by what it holds, lists looked up -/
mutual
def pyD (f : Nat → Option PyData) : D → Option PyData
  | .non => some .none
  | .bl b => some (.bool b)
  | .int i => some (.int i)
  | .str x => some (.str x)
  | .tup xs => match pyDs f xs with
    | some ys => some (.tuple ys)
    | none => none
  | .ref n => f n
def pyDs (f : Nat → Option PyData) : List D → Option (List PyData)
  | [] => some []
  | x :: xs => match pyD f x, pyDs f xs with
    | some y, some ys => some (y :: ys)
    | _, _ => none
end
def pyR (c : Cells) : Nat → Nat → Option PyData
  | 0, _ => none
  | k + 1, n => match getL c n with
    | some xs => (match pyDs (pyR c k) xs with
      | some ys => some (.list ys)
      | none => none)
    | none => none
def py (c : Cells) (d : D) : Option PyData := match pyD (pyR c 4) d with
  | some x => if PySem.SeqAt.shaped x = true then some x else none
  | none => none
def eqv (c : Cells) (x y : D) : Option Bool := match py c x, py c y with
  | some a, some b => some (PyData.eqv a b)
  | _, _ => none
def truth (c : Cells) : D → Option Bool
  | .non => some false
  | .bl b => some b
  | .int i => some (i != 0)
  | .str x => if x.length ≤ lim then some ((x.length : Int) != 0) else none
  | .tup xs => some (!xs.isEmpty)
  | .ref n => match c[n]? with
    | some (.lst xs) => some (!xs.isEmpty)
    | some (.frz xs) => some (!xs.isEmpty)
    | some (.dct xs) => some (!xs.isEmpty)
    | some (.set xs) => some (!xs.isEmpty)
    | none => none
def mulOk (i j : Int) : Bool := decide (i.natAbs.log2 + j.natAbs.log2 < 1000000)
def opBin (o : Operator) (x y : D) (c : Cells) : R D := match o, x, y with
  | .Add, .int i, .int j => .ok (.int (i + j)) c
  | .Add, .int i, .bl b => .ok (.int (i + b2i b)) c
  | .Add, .tup a, .tup b => if a.length + b.length ≤ lim then .ok (.tup (a ++ b)) c else .no
  | .Add, .str a, .str b => if a.length + b.length ≤ lim then .ok (.str (a ++ b)) c else .no
  | .Add, .ref m, .ref n => (match c[m]?, c[n]? with
    | some (.lst xs), some (.lst ys) => if xs.length + ys.length ≤ lim then alloc (.lst (xs ++ ys)) c else .no
    | _, _ => .no)
  | .Sub, .int i, .int j => .ok (.int (i - j)) c
  | .Sub, .bl a, .bl b => .ok (.int (b2i a - b2i b)) c
  | .Mult, .int i, .int j => if mulOk i j then .ok (.int (i * j)) c else .no
  | .Mult, .tup xs, .int k => if xs ≠ [] ∧ 2 ≤ k ∧ k ≤ 1000 ∧ xs.length ≤ 1000 then .ok (.tup (List.replicate k.toNat xs).flatten) c else .no
  | .Mult, .ref n, .int k => (match c[n]? with
    | some (.lst xs) => if -(2 ^ 63) ≤ k ∧ k < 2 ^ 63 ∧ xs.length * k.toNat ≤ lim then alloc (.lst (List.replicate k.toNat xs).flatten) c else .no
    | _ => .no)
  | .FloorDiv, .int i, .int j => if 0 < j ∧ j.natAbs.log2 < 9000 then .ok (.int (i / j)) c else .no
  | .Mod, .int i, .int j => if 0 < j then .ok (.int (i % j)) c else .no
  | .Pow, .int i, .int j => if 0 ≤ j ∧ j ≤ 1000000 ∧ i.natAbs < 2 ^ 64 then .ok (.int (i ^ j.toNat)) c else .no
  | _, _, _ => .no
def inD (c : Cells) (x : D) : D → Option Bool
  | .tup xs => match py c x, py c (.tup xs) with
    | some a, some (.tuple bs) => some (bs.any fun z => PyData.eqv z a)
    | _, _ => none
  | .ref n => match c[n]? with
    | some (.lst _) => (match py c x, py c (.ref n) with
      | some a, some (.list bs) => some (bs.any fun z => PyData.eqv z a)
      | _, _ => none)
    | _ => none
  | _ => none
def obl (o : Option Bool) (c : Cells) : R D := match o with
  | some b => .ok (.bl b) c
  | none => .no
def opCmp (o : CmpOp) (x y : D) (c : Cells) : R D := match o with
  | .Eq => obl (eqv c x y) c
  | .NotEq => obl ((eqv c x y).map (!·)) c
  | .Lt => (match x, y with | .int i, .int j => .ok (.bl (decide (i < j))) c | _, _ => .no)
  | .LtE => (match x, y with | .int i, .int j => .ok (.bl (decide (i ≤ j))) c | _, _ => .no)
  | .Gt => (match x, y with | .int i, .int j => .ok (.bl (decide (j < i))) c | _, _ => .no)
  | .GtE => (match x, y with | .int i, .int j => .ok (.bl (decide (j ≤ i))) c | _, _ => .no)
  | .Is => (match x, y with
    | x, .non => .ok (.bl (decide (x = .non))) c
    | .bl a, .bl b => .ok (.bl (decide (a = b))) c
    | _, _ => .no)
  | .IsNot => (match x, y with
    | x, .non => .ok (.bl (!decide (x = .non))) c
    | .bl a, .bl b => .ok (.bl (!decide (a = b))) c
    | _, _ => .no)
  | .In => obl (inD c x y) c
  | .NotIn => obl ((inD c x y).map (!·)) c
def ixN (n : Nat) (i : Int) : Option Nat := if 0 ≤ i then (if i < n then some i.toNat else none) else if -(n : Int) ≤ i then some (i + n).toNat else none
def atI {α : Type} (xs : List α) (i : Int) : Option α := (ixN xs.length i).bind fun j => xs[j]?
def opIx (x i : D) (c : Cells) : R D := match x, i with
  | .tup xs, .int i => (match atI xs i with | some d => .ok d c | none => .no)
  | .ref n, .int i => (match getL c n with
    | some xs => (match atI xs i with | some d => .ok d c | none => .no)
    | none => .no)
  | _, _ => .no
def sIx (n d : Nat) : Option Int → Nat
  | none => d
  | some v => if v < 0 then (v + (n : Int)).toNat else min v.toNat n
def cut {α : Type} (xs : List α) (lo hi : Option Int) : List α := (xs.drop (sIx xs.length 0 lo)).take (sIx xs.length xs.length hi - sIx xs.length 0 lo)
def opSl (x : D) (lo hi : Option Int) (c : Cells) : R D := match x with
  | .tup xs => .ok (.tup (cut xs lo hi)) c
  | .ref n => (match c[n]? with
    | some (.lst xs) => alloc (.lst (cut xs lo hi)) c
    | _ => .no)
  | _ => .no
def bls : List D → Option (List Bool)
  | [] => some []
  | .bl b :: r => (bls r).map (b :: ·)
  | _ :: _ => none
def intsOf : List D → Option (List Int)
  | [] => some []
  | .int b :: r => (intsOf r).map (b :: ·)
  | _ :: _ => none
def opBlt (b : Blt) (xs : List D) (c : Cells) : R D := match b, xs with
  | .abs, [.int i] => .ok (.int (if i < 0 then -i else i)) c
  | .int, [.int i] => .ok (.int i) c
  | .int, [.bl b] => .ok (.int (b2i b)) c
  | .len, [.tup xs] => .ok (.int xs.length) c
  | .len, [.str x] => if x.length ≤ lim then .ok (.int x.length) c else .no
  | .len, [.ref n] => (match c[n]? with
    | some (.lst xs) => .ok (.int xs.length) c
    | some (.frz xs) => .ok (.int xs.length) c
    | _ => .no)
  | .min, [.int i, .int j] => .ok (.int (if j < i then j else i)) c
  | .max, [.int i, .int j] => .ok (.int (if j > i then j else i)) c
  | .all, [.ref n] => (match c[n]? with
    | some (.lst xs) => (match bls xs with | some bs => .ok (.bl (bs.all id)) c | none => .no)
    | _ => .no)
  | .any, [.ref n] => (match c[n]? with
    | some (.lst xs) => (match bls xs with | some bs => .ok (.bl (bs.any id)) c | none => .no)
    | _ => .no)
  | .sum, [.ref n] => (match c[n]? with
    | some (.lst xs) => (match intsOf xs with | some bs => .ok (.int bs.sum) c | none => .no)
    | _ => .no)
  | .tuple, [.ref n] => (match c[n]? with
    | some (.lst xs) => .ok (.tup xs) c
    | _ => .no)
  | .tuple, [.tup xs] => .ok (.tup xs) c
  | .list, [.ref n] => (match c[n]? with
    | some (.lst xs) => alloc (.lst xs) c
    | some (.frz xs) => alloc (.lst xs) c
    | _ => .no)
  | .list, [.tup xs] => alloc (.lst xs) c
  | _, _ => .no
def tyOf (c : Cells) : D → Option String
  | .non => some "NoneType"
  | .bl _ => some "bool"
  | .int _ => some "int"
  | .str _ => some "str"
  | .tup _ => some "tuple"
  | .ref n => match c[n]? with
    | some (.lst _) => some "list"
    | some (.frz _) => some "list"
    | some (.dct _) => some "dict"
    | some (.set _) => some "set"
    | none => none
def isTy (t : String) (ts : List String) : Bool := ts.any fun u => t == u || (t == "bool" && u == "int")
/-- whose method it is -/
def meT : Me → String
  | .get => "dict" | .setdefault => "dict" | .items => "dict" | .join => "str" | .split => "str" | _ => "list"
def opMeth (m : Me) (o : D) (xs : List D) (c : Cells) : R D := match m, o, xs with
  | .append, .ref n, [x] => (match c[n]? with
    | some (.lst ys) => if ys.length < lim then .ok .non (c.set n (.lst (ys ++ [x]))) else .no
    | _ => .no)
  | .extend, .ref n, [.ref m] => (match c[n]?, c[m]? with
    | some (.lst ys), some (.lst zs) => if ys.length + zs.length ≤ lim then .ok .non (c.set n (.lst (ys ++ zs))) else .no
    | _, _ => .no)
  | .pop, .ref n, [] => (match c[n]? with
    | some (.lst ys) => (match ys[ys.length - 1]? with | some y => .ok y (c.set n (.lst ys.dropLast)) | none => .no)
    | _ => .no)
  | _, _, _ => .no

/-! ### targets -/
mutual
def asg (c : Cells) : Tg → D → Lo → Option Lo
  | .v i, d, ρ => some (ρ.set i (some d))
  | .tup ts, .tup xs, ρ => asgs c ts xs ρ
  | .tup ts, .ref n, ρ => match c[n]? with
    | some (.lst xs) => asgs c ts xs ρ
    | _ => none
  | .tup _, _, _ => none
def asgs (c : Cells) : List Tg → List D → Lo → Option Lo
  | [], [], ρ => some ρ
  | t :: ts, x :: xs, ρ => match asg c t x ρ with
    | some ρ' => asgs c ts xs ρ'
    | none => none
  | _, _, _ => none
end
def wipe (ρ : Lo) : List Nat → Lo
  | [] => ρ
  | i :: r => (wipe ρ r).set i none

/-! ### loops -/
/-- the cells ws stand as they stood -/
def same (ws : List Nat) (c c' : Cells) : Bool := ws.all fun n => decide (c[n]? = c'[n]?)
/-- a comprehension's turns: f gives the item that is kept, if one is -/
def lcGo (f : D → Cells → R (Option D)) (ws : List Nat) : List D → Cells → R (List D)
  | [], c => .ok [] c
  | x :: xs, c => (f x c).bind fun o c1 => if same ws c c1 then (lcGo f ws xs c1).bind fun ys c2 => (match o with
      | some y => .ok (y :: ys) c2
      | none => .ok ys c2) else .no
/-- a for's turns -/
def forGo (f : D → Lo → Cells → SR) (ws : List Nat) : List D → Lo → Cells → SR
  | [], ρ, c => .nx ρ c
  | x :: xs, ρ, c => match f x ρ c with
    | .nx ρ' c' => if same ws c c' then forGo f ws xs ρ' c' else .no
    | .ct ρ' c' => if same ws c c' then forGo f ws xs ρ' c' else .no
    | .bk ρ' c' => .nx ρ' c'
    | r => r
/-- a while's turns, by fuel -/
def whlN (f : Lo → Cells → Lo × Cells ⊕ SR) : Nat → Lo → Cells → Option SR
  | 0, _, _ => none
  | n + 1, ρ, c => match f ρ c with
    | .inl (ρ', c') => whlN f n ρ' c'
    | .inr r => some r
theorem whlN_mono (f : Lo → Cells → Lo × Cells ⊕ SR) : ∀ (n m : Nat) (ρ : Lo) (c : Cells) (r : SR), whlN f n ρ c = some r → n ≤ m → whlN f m ρ c = some r
  | 0, _, _, _, _, h, _ => by simp [whlN] at h
  | n + 1, m, ρ, c, r, h, hm => by
    obtain ⟨m, rfl⟩ : ∃ k, m = k + 1 := ⟨m - 1, by omega⟩
    unfold whlN at h ⊢
    split at h
    · exact whlN_mono f n m _ _ r h (by omega)
    · exact h
open Classical in
/-- a while's end, if it comes to one -/
noncomputable def whlGo (f : Lo → Cells → Lo × Cells ⊕ SR) (ρ : Lo) (c : Cells) : SR :=
  if h : ∃ r, ∃ n, whlN f n ρ c = some r then h.choose else .no
theorem whlGo_of {f : Lo → Cells → Lo × Cells ⊕ SR} {ρ : Lo} {c : Cells} {r : SR} {n : Nat} (h : whlN f n ρ c = some r) : whlGo f ρ c = r := by
  have e : ∃ r, ∃ n, whlN f n ρ c = some r := ⟨r, n, h⟩
  unfold whlGo
  rw [dif_pos e]
  obtain ⟨m, hm⟩ := e.choose_spec
  have h1 := whlN_mono f n (n + m) ρ c r h (by omega)
  have h2 := whlN_mono f m (n + m) ρ c _ hm (by omega)
  rw [h1] at h2
  exact (Option.some.inj h2).symm
theorem whlGo_eq (f : Lo → Cells → Lo × Cells ⊕ SR) (ρ : Lo) (c : Cells) : whlGo f ρ c = match f ρ c with
    | .inl (ρ', c') => whlGo f ρ' c'
    | .inr r => r := by
  by_cases h : ∃ r, ∃ n, whlN f n ρ c = some r
  · obtain ⟨r, n, e⟩ := h
    rw [whlGo_of e]
    cases n with
    | zero => simp [whlN] at e
    | succ n =>
      unfold whlN at e
      cases q : f ρ c with
      | inl p => rw [q] at e; exact (whlGo_of e).symm
      | inr t => rw [q] at e; exact (Option.some.inj e).symm
  · have e1 : whlGo f ρ c = .no := by unfold whlGo; rw [dif_neg h]
    rw [e1]
    cases q : f ρ c with
    | inl p =>
      have h' : ¬ ∃ r, ∃ n, whlN f n p.1 p.2 = some r := fun ⟨r, n, e⟩ => h ⟨r, n + 1, by unfold whlN; rw [q]; exact e⟩
      show SR.no = whlGo f p.1 p.2
      unfold whlGo
      rw [dif_neg h']
    | inr r => exact absurd ⟨r, 1, by unfold whlN; rw [q]⟩ h

/-! ### the evaluator -/
/-- try: f() / except ..: return ..; return d -/
structure Thk where
  hs : List (String × D)
  d : D
  deriving Inhabited
structure Ctx where
  call : String → List D → Cells → R D
  thks : List (String × Thk)
  excs : List String

def rngL (a b : Int) : List D := (List.range (b - a).toNat).map fun (k : Nat) => D.int (a + k)
def rngOf : List D → Option (List D)
  | [.int b] => if -(2 ^ 62) ≤ b ∧ b < 2 ^ 62 then some (rngL 0 b) else none
  | [.int a, .int b] => if -(2 ^ 62) ≤ a ∧ a < 2 ^ 62 ∧ -(2 ^ 62) ≤ b ∧ b < 2 ^ 62 then some (rngL a b) else none
  | [.int a, .int b, .int (-1)] => if -(2 ^ 62) ≤ a ∧ a < 2 ^ 62 ∧ -(2 ^ 62) ≤ b ∧ b < 2 ^ 62 then some ((List.range (a - b).toNat).map fun (k : Nat) => D.int (a - k)) else none
  | _ => none
def enumL (k : Nat) : List D → List D
  | [] => []
  | x :: xs => .tup [.int k, x] :: enumL (k + 1) xs

mutual
def dE (Γ : Ctx) : IE → Lo → Cells → R D
  | .k d, _, c => .ok d c
  | .no, _, _ => .no
  | .v i, ρ, c => match ρ[i]? with
    | some (some d) => .ok d c
    | _ => .no
  | .ty _, _, _ => .no
  | .fn _, _, _ => .no
  | .bin o a b, ρ, c => (dE Γ a ρ c).bind fun x c1 => (dE Γ b ρ c1).bind fun y c2 => opBin o x y c2
  | .neg a, ρ, c => (dE Γ a ρ c).bind fun x c1 => match x with
    | .int i => .ok (.int (-i)) c1
    | _ => .no
  | .cmp o a b, ρ, c => (dE Γ a ρ c).bind fun x c1 => (dE Γ b ρ c1).bind fun y c2 => opCmp o x y c2
  | .chain o1 o2 a b e, ρ, c => (dE Γ a ρ c).bind fun x c1 => (dE Γ b ρ c1).bind fun y c2 => (opCmp o1 x y c2).bind fun t c3 => match t with
    | .bl true => (dE Γ e ρ c3).bind fun z c4 => opCmp o2 y z c4
    | .bl false => .ok (.bl false) c3
    | _ => .no
  | .and a b, ρ, c => (dE Γ a ρ c).bind fun x c1 => match truth c1 x with
    | some true => dE Γ b ρ c1
    | some false => .ok x c1
    | none => .no
  | .or a b, ρ, c => (dE Γ a ρ c).bind fun x c1 => match truth c1 x with
    | some true => .ok x c1
    | some false => dE Γ b ρ c1
    | none => .no
  | .not a, ρ, c => (dE Γ a ρ c).bind fun x c1 => match truth c1 x with
    | some b => .ok (.bl (!b)) c1
    | none => .no
  | .ite t a b, ρ, c => (dE Γ t ρ c).bind fun x c1 => match truth c1 x with
    | some true => dE Γ a ρ c1
    | some false => dE Γ b ρ c1
    | none => .no
  | .tup es, ρ, c => (dEs Γ es ρ c).bind fun xs c1 => if xs.length ≤ lim then .ok (.tup xs) c1 else .no
  | .lst es, ρ, c => (dEs Γ es ρ c).bind fun xs c1 => if xs.length ≤ lim then alloc (.lst xs) c1 else .no
  | .dct0, _, c => alloc (.dct []) c
  | .ix a b, ρ, c => (dE Γ a ρ c).bind fun x c1 => (dE Γ b ρ c1).bind fun y c2 => opIx x y c2
  | .sl a lo hi, ρ, c => (dE Γ a ρ c).bind fun x c1 => (dO Γ lo ρ c1).bind fun l c2 => (dO Γ hi ρ c2).bind fun h c3 => opSl x l h c3
  | .rv a, ρ, c => (dE Γ a ρ c).bind fun x c1 => match x with
    | .tup xs => .ok (.tup xs.reverse) c1
    | .ref n => (match c1[n]? with
      | some (.lst xs) => alloc (.lst xs.reverse) c1
      | _ => .no)
    | _ => .no
  | .call f es, ρ, c => (dEs Γ es ρ c).bind fun xs c1 => Γ.call f xs c1
  | .lam f e, ρ, c => match Γ.thks.lookup f with
    | some t => (match dE Γ e ρ c with
      | .ok _ c1 => .ok t.d c1
      | .ex x c1 => if x ∈ Γ.excs then (match t.hs.lookup x with
        | some d => .ok d c1
        | none => .no) else .no
      | .no => .no)
    | none => .no
  | .blt b es, ρ, c => (dEs Γ es ρ c).bind fun xs c1 => opBlt b xs c1
  | .isi e ts, ρ, c => (dE Γ e ρ c).bind fun x c1 => match tyOf c1 x with
    | some t => .ok (.bl (isTy t ts)) c1
    | none => .no
  | .meth m o es, ρ, c => (dE Γ o ρ c).bind fun x c1 => if tyOf c1 x = some (meT m) then (dEs Γ es ρ c1).bind fun xs c2 => opMeth m x xs c2 else .no
  | .lc own tg it ifs e, ρ, c => (dI Γ it ρ c).bind fun p c1 => (lcGo (fun x c2 => match asg c2 tg x (wipe ρ own) with
      | none => .no
      | some ρ' => (match dT Γ ifs ρ' c2 with
        | .ok true c3 => (match dE Γ e ρ' c3 with
          | .ok y c4 => .ok (some y) c4
          | _ => .no)
        | .ok false c3 => .ok none c3
        | _ => .no)) p.2 p.1 c1).bind fun ys c2 => if ys.length ≤ lim then alloc (.lst ys) c2 else .no
  | .rng _, _, _ => .no
  | .enum _, _, _ => .no
  | .zip _ _, _, _ => .no
  | .rev _, _, _ => .no
  | .items _, _, _ => .no
def dEs (Γ : Ctx) : List IE → Lo → Cells → R (List D)
  | [], _, c => .ok [] c
  | e :: es, ρ, c => (dE Γ e ρ c).bind fun x c1 => (dEs Γ es ρ c1).bind fun xs c2 => .ok (x :: xs) c2
/-- a slice's part -/
def dO (Γ : Ctx) : IE → Lo → Cells → R (Option Int)
  | .no, _, c => .ok none c
  | e, ρ, c => (dE Γ e ρ c).bind fun x c1 => match x with
    | .int i => .ok (some i) c1
    | _ => .no
/-- a comprehension's tests -/
def dT (Γ : Ctx) : List IE → Lo → Cells → R Bool
  | [], _, c => .ok true c
  | e :: es, ρ, c => (dE Γ e ρ c).bind fun x c1 => match truth c1 x with
    | some true => dT Γ es ρ c1
    | some false => .ok false c1
    | none => .no
/-- what is walked: the items, the cells that may not change meanwhile -/
def dI (Γ : Ctx) : IE → Lo → Cells → R (List D × List Nat)
  | .rng es, ρ, c => (dEs Γ es ρ c).bind fun xs c1 => match rngOf xs with
    | some ys => .ok (ys, []) c1
    | none => .no
  | .enum e, ρ, c => (dE Γ e ρ c).bind fun x c1 => match x with
    | .tup xs => .ok (enumL 0 xs, []) c1
    | .ref n => (match c1[n]? with
      | some (.lst xs) => .ok (enumL 0 xs, [n]) c1
      | _ => .no)
    | _ => .no
  | .zip a b, ρ, c => (dE Γ a ρ c).bind fun x c1 => (dE Γ b ρ c1).bind fun y c2 => match x, y with
    | .tup xs, .tup ys => .ok ((xs.zip ys).map fun p => .tup [p.1, p.2], []) c2
    | .ref m, .ref n => (match c2[m]?, c2[n]? with
      | some (.lst xs), some (.lst ys) => .ok ((xs.zip ys).map fun p => .tup [p.1, p.2], [m, n]) c2
      | _, _ => .no)
    | _, _ => .no
  | e, ρ, c => (dE Γ e ρ c).bind fun x c1 => match x with
    | .tup xs => .ok (xs, []) c1
    | .ref n => (match c1[n]? with
      | some (.lst xs) => .ok (xs, [n]) c1
      | some (.frz xs) => .ok (xs, [n]) c1
      | _ => .no)
    | _ => .no
end

def ofE (r : R D) (ρ : Lo) (f : D → Cells → SR) : SR := match r with
  | .ok d c => f d c
  | .ex e c => .ex e ρ c
  | .no => .no
mutual
noncomputable def dS (Γ : Ctx) : IS → Lo → Cells → SR
  | .set t e, ρ, c => ofE (dE Γ e ρ c) ρ fun x c1 => match asg c1 t x ρ with
    | some ρ' => .nx ρ' c1
    | none => .no
  | .aug o i e, ρ, c => match ρ[i]? with
    | some (some (.int x)) => ofE (dE Γ e ρ c) ρ fun y c1 => (match o, y with
      | .Add, .int z => .nx (ρ.set i (some (.int (x + z)))) c1
      | .Sub, .int z => .nx (ρ.set i (some (.int (x - z)))) c1
      | _, _ => .no)
    | _ => .no
  | .setIx o i e, ρ, c => ofE (dE Γ e ρ c) ρ fun z c1 => ofE (dE Γ o ρ c1) ρ fun x c2 => ofE (dE Γ i ρ c2) ρ fun y c3 => match x, y with
    | .ref n, .int k => (match c3[n]? with
      | some (.lst xs) => (match ixN xs.length k with
        | some j => .nx ρ (c3.set n (.lst (xs.set j z)))
        | none => .no)
      | _ => .no)
    | _, _ => .no
  | .expr e, ρ, c => ofE (dE Γ e ρ c) ρ fun _ c1 => .nx ρ c1
  | .ret e, ρ, c => ofE (dE Γ e ρ c) ρ fun x c1 => .rt x c1
  | .retN, _, c => .rt .non c
  | .ife t a b, ρ, c => ofE (dE Γ t ρ c) ρ fun x c1 => match truth c1 x with
    | some true => dSs Γ a ρ c1
    | some false => dSs Γ b ρ c1
    | none => .no
  | .whl t b, ρ, c => whlGo (fun ρ c => match dE Γ t ρ c with
      | .ok x c1 => (match truth c1 x with
        | some true => (match dSs Γ b ρ c1 with
          | .nx ρ' c' => .inl (ρ', c')
          | .ct ρ' c' => .inl (ρ', c')
          | .bk ρ' c' => .inr (.nx ρ' c')
          | r => .inr r)
        | some false => .inr (.nx ρ c1)
        | none => .inr .no)
      | .ex e c1 => .inr (.ex e ρ c1)
      | .no => .inr .no) ρ c
  | .for t it b, ρ, c => match dI Γ it ρ c with
    | .ok p c1 => forGo (fun x ρ c => match asg c t x ρ with
      | none => .no
      | some ρ' => dSs Γ b ρ' c) p.2 p.1 ρ c1
    | .ex e c1 => .ex e ρ c1
    | .no => .no
  | .brk, ρ, c => .bk ρ c
  | .cnt, ρ, c => .ct ρ c
  | .pass, ρ, c => .nx ρ c
  | .raise e, ρ, c => .ex e ρ c
  | .try b hs, ρ, c => match dSs Γ b ρ c with
    | .ex e ρ' c' => if e ∈ Γ.excs then (match hs.lookup e with
      | some d => .rt d c'
      | none => .ex e ρ' c') else .no
    | r => r
noncomputable def dSs (Γ : Ctx) : List IS → Lo → Cells → SR
  | [], ρ, c => .nx ρ c
  | s :: r, ρ, c => match dS Γ s ρ c with
    | .nx ρ' c' => dSs Γ r ρ' c'
    | x => x
end
structure Tab where
  fns : List (String × Fn)
  thks : List (String × Thk)
  excs : List String
def start (fn : Fn) (xs : List D) : Lo := xs.map some ++ List.replicate (fn.nl - xs.length) none
def ofS : SR → R D
  | .nx _ c => .ok .non c
  | .rt d c => .ok d c
  | .ex e _ c => .ex e c
  | _ => .no
noncomputable def callD (T : Tab) : Nat → String → List D → Cells → R D
  | 0, _, _, _ => .no
  | k + 1, f, xs, c => match T.fns.lookup f with
    | some fn => if xs.length = fn.np then ofS (dSs ⟨callD T k, T.thks, T.excs⟩ fn.body (start fn xs) c) else .no
    | none => .no
end G
end

section
set_option linter.all false
/-! GComp: from the program's own syntax to the small language. -/
namespace G
open PySem

structure GI where
  fns : List String
  thks : List String
  lam : Bool
  consts : List (String × D)
  excs : List String

/-- no lambdas -/
def GI.nl (g : GI) : GI := { g with lam := false }
def o1 {α β : Type} (f : α → β) : Option α → Option β
  | some a => some (f a)
  | none => none
def o2 {α β γ : Type} (f : α → β → γ) : Option α → Option β → Option γ
  | some a, some b => some (f a b)
  | _, _ => none
def o3 {α β γ δ : Type} (f : α → β → γ → δ) : Option α → Option β → Option γ → Option δ
  | some a, some b, some c => some (f a b c)
  | _, _, _ => none
theorem o1_some {α β : Type} {f : α → β} {a : Option α} {r : β} (h : o1 f a = some r) : ∃ x, a = some x ∧ r = f x := by
  cases a with
  | none => cases h
  | some x => exact ⟨x, rfl, (Option.some.inj h).symm⟩
theorem o2_some {α β γ : Type} {f : α → β → γ} {a : Option α} {b : Option β} {r : γ} (h : o2 f a b = some r) : ∃ x y, a = some x ∧ b = some y ∧ r = f x y := by
  cases a with
  | none => cases h
  | some x =>
    cases b with
    | none => cases h
    | some y => exact ⟨x, y, rfl, rfl, (Option.some.inj h).symm⟩
theorem o3_some {α β γ δ : Type} {f : α → β → γ → δ} {a : Option α} {b : Option β} {c : Option γ} {r : δ} (h : o3 f a b c = some r) : ∃ x y z, a = some x ∧ b = some y ∧ c = some z ∧ r = f x y z := by
  cases a with
  | none => cases h
  | some x =>
    cases b with
    | none => cases h
    | some y =>
      cases c with
      | none => cases h
      | some z => exact ⟨x, y, z, rfl, rfl, rfl, (Option.some.inj h).symm⟩

def slot (N : List Str) (x : Str) : Option Nat := N.findIdx? (· == x)
def look (l : List String) (x : Str) : Option String := l.find? fun s => Str.ofString s == x
def lookC (l : List (String × D)) (x : Str) : Option D := (l.find? fun p => Str.ofString p.1 == x).map (·.2)
def bltTys : List String := ["int", "bool", "str", "tuple", "list", "dict", "set"]
def bltOf : List (String × Blt) := [("abs", .abs), ("int", .int), ("len", .len), ("min", .min), ("max", .max), ("sum", .sum), ("all", .all), ("any", .any), ("tuple", .tuple), ("list", .list)]
def meOf : List (String × Me) := [("append", .append), ("extend", .extend)]
def bltNames : List String := ["abs", "int", "len", "min", "max", "sum", "all", "any", "tuple", "list", "isinstance", "range", "enumerate", "zip", "reversed", "bool", "str", "dict", "set", "sorted", "repr"]
def lookB {α : Type} (l : List (String × α)) (x : Str) : Option (String × α) := l.find? fun p => Str.ofString p.1 == x

def cK : Const → Option IE
  | .none => some (.k .non)
  | .bool b => some (.k (.bl b))
  | .int i => some (.k (.int i))
  | .str x => some (.k (.str x))
  | _ => none
def visB (sc : Scope) (x : Str) : Bool := match sc.names.lookup x with
  | some .local => true
  | some .cell => true
  | some .free => true
  | _ => false
def locB (sc : Scope) (x : Str) : Bool := match sc.names.lookup x with
  | some .local => true
  | some .cell => true
  | _ => false
def glB (sc : Scope) (x : Str) : Bool := match sc.names.lookup x with
  | some .globalImplicit => true
  | _ => false
def plainN (x : Str) : Bool := !(x == ("__debug__" : Str)) && !(x == ("__classdict__" : Str)) && !(x == ("super" : Str)) && !(x == ("__name__" : Str))
/-- a name as a value -/
def cN (G : GI) (N : List Str) (sc : Scope) (x : Str) : Option IE :=
  if plainN x = true then
    if visB sc x = true then o1 IE.v (slot N x)
    else if glB sc x = true then (match lookC G.consts x with
      | some d => some (.k d)
      | none => o1 IE.ty (look bltTys x))
    else none
  else none
/-- something -/
def live : Option IE → Option IE
  | some .no => none
  | x => x
/-- the classes of an isinstance -/
def tyE (sc : Scope) : Expr → Option String
  | .Name x _ => if (plainN x && glB sc x) = true then look bltTys x else none
  | _ => none
def tysE (sc : Scope) : List Expr → Option (List String)
  | [] => some []
  | e :: es => o2 List.cons (tyE sc e) (tysE sc es)
def few (o : Option (List String)) : Option (List String) := match o with
  | some ts => if ts.length ≤ 100 then some ts else none
  | none => none
/-- isinstance: one class, or a tuple of classes -/
def cIsi (sc : Scope) (as : List Expr) (es : List IE) : Option IE := match as, es with
  | [_, c], [e, _] => (match c with
    | .Tuple ts _ _ => o1 (IE.isi e) (few (tysE sc ts))
    | _ => o1 (fun t => IE.isi e [t]) (tyE sc c))
  | _, _ => none
/-- f(..), f a global name -/
def cCall (G : GI) (sc : Scope) (f : Str) (as : List Expr) (es : List IE) : Option IE :=
  match look G.fns f with
  | some g => some (.call g es)
  | none => match look bltNames f with
    | none => none
    | some b =>
      if b = "isinstance" then cIsi sc as es
      else if b = "range" then (match es with | [_] => some (.rng es) | [_, _] => some (.rng es) | [_, _, _] => some (.rng es) | _ => none)
      else match bltOf.lookup b with
        | some m => (match es with | [] => none | _ :: _ => some (.blt m es))
        | none => none
def ownOf (N : List Str) (sc : Scope) : Option (List (Str × Nat)) := (sc.names.filter fun y => match y.2 with | .local => true | .cell => true | _ => false).mapM fun y => (slot N y.1).map fun i => (y.1, i)
/-- a comprehension's block over the scope around (as HandS.Comp asks it) -/
def blkB (N : List Str) (sc scope : Scope) (own : List (Str × Nat)) : Bool :=
  (match scope.kind with | .function => true | _ => false) && (scope.names.all fun y => decide (scope.names.lookup y.1 = some y.2)) && (own.all fun p => decide (N[p.2]? = some p.1)) &&
    (scope.names.all fun y => match y.2 with
      | .free => (match sc.names.lookup y.1 with | some .cell => true | some .free => true | _ => false)
      | .local => decide (y.1 ∈ own.map (·.1)) || decide (y.1 ∉ N)
      | .cell => decide (y.1 ∈ own.map (·.1)) || decide (y.1 ∉ N)
      | _ => true)
/-- a block's scope as it runs: names of the def around are its cells -/
def relC (scope sc : Scope) : Scope :=
  { scope with names := scope.names.map fun (n, k) => if (k == .free && sc.kind == .function && sc.names.lookup n == some .cell) then (n, .cell) else (n, k) }
mutual
def cT (N : List Str) (sc : Scope) : Expr → Option Tg
  | .Name x _ => if locB sc x = true then o1 Tg.v (slot N x) else none
  | .Tuple es _ _ => o1 Tg.tup (cTs N sc es)
  | _ => none
def cTs (N : List Str) (sc : Scope) : List Expr → Option (List Tg)
  | [] => some []
  | e :: es => o2 List.cons (cT N sc e) (cTs N sc es)
end
mutual
def tgSlots : Tg → List Nat
  | .v i => [i]
  | .tup ts => tgsSlots ts
def tgsSlots : List Tg → List Nat
  | [] => []
  | t :: ts => tgSlots t ++ tgsSlots ts
end
/-- no parameters -/
def noArgs : Arguments → Bool
  | ⟨[], [], none, [], [], none, []⟩ => true
  | _ => false
mutual
def cE : GI → List Str → Scope → Expr → Option IE
  | _, _, _, .Constant c _ _ => cK c
  | G, N, sc, .Name x _ => cN G N sc x
  | G, N, sc, .BinOp a o b _ => o2 (IE.bin o) (cE G N sc a) (cE G N sc b)
  | G, N, sc, .UnaryOp o a _ => (match o with
    | .Not => o1 IE.not (cE G N sc a)
    | .USub => o1 IE.neg (cE G N sc a)
    | _ => none)
  | G, N, sc, .BoolOp o vs _ => (match vs with
    | _ :: _ :: _ => cB G N sc o vs
    | _ => none)
  | G, N, sc, .Compare a ops bs _ => (match ops, cE G N sc a, cEs G N sc bs with
    | [o], some x, some [y] => some (.cmp o x y)
    | [o, o'], some x, some [y, z] => some (.chain o o' x y z)
    | _, _, _ => none)
  | G, N, sc, .IfExp t a b _ => o3 IE.ite (cE G N sc t) (cE G N sc a) (cE G N sc b)
  | G, N, sc, .Tuple es _ _ => o1 IE.tup (cEs G N sc es)
  | G, N, sc, .List es _ => o1 IE.lst (cEs G N sc es)
  | G, N, sc, .Subscript a (.Slice lo hi st _) _ => (match st with
    | none => o3 IE.sl (cE G N sc a) (cO G N sc lo) (cO G N sc hi)
    | _ => none)
  | G, N, sc, .Subscript a b _ => o2 IE.ix (cE G N sc a) (cE G N sc b)
  | G, N, sc, .Call (.Name f _) [.Lambda args b scope _] [] _ => if (G.lam && noArgs args && LamX.lamSB sc scope && glB sc f && plainN f) = true then o2 IE.lam (look G.thks f) (cE G.nl N scope b) else none
  | G, N, sc, .Call (.Name f _) as [] _ => (match cEs G N sc as with
    | some es => if glB sc f = true then (if plainN f = true then cCall G sc f as es else none) else none
    | none => none)
  | G, N, sc, .Call (.Attribute o m ap) as [] p => (match lookB meOf m, cE G N sc o, cEs G N sc as with
    | some q, some x, some (y :: es) => if (ap.endLine == p.line && decide (es.length < 28)) = true then some (.meth q.2 x (y :: es)) else none
    | _, _, _ => none)
  | G, N, sc, .ListComp e gs scope _ => (match gs with
    | [.mk tg it ifs as] => (match ownOf N scope, cT N scope tg, cE G N sc it, cEs G.nl N (relC scope sc) ifs, cE G.nl N (relC scope sc) e with
      | some own, some t, some i, some fs, some x => if as = 0 then (if (decide (ifs.length ≤ 1) && blkB N sc scope own && (tgSlots t).all (fun j => (own.map (·.2)).contains j)) = true then some (.lc (own.map (·.2)) t i fs x) else none) else none
      | _, _, _, _, _ => none)
    | _ => none)
  | _, _, _, _ => none
def cEs : GI → List Str → Scope → List Expr → Option (List IE)
  | _, _, _, [] => some []
  | G, N, sc, e :: es => o2 List.cons (cE G N sc e) (cEs G N sc es)
def cO : GI → List Str → Scope → Option Expr → Option IE
  | _, _, _, none => some .no
  | G, N, sc, some e => live (cE G N sc e)
def cB : GI → List Str → Scope → BoolOp → List Expr → Option IE
  | _, _, _, _, [] => none
  | G, N, sc, _, [e] => cE G N sc e
  | G, N, sc, o, e :: es => o2 (match o with | .And => IE.and | .Or => IE.or) (cE G N sc e) (cB G N sc o es)
end

/-! ### statements -/
def envD (sc : Scope) : Env := { scope := sc, locals := 0, globals := 0, cells := [] }
/-- whether a pair's stores are swapped (none: the semantics says nothing) -/
def swC (sc : Scope) (t e : Expr) : Option (Option (List Str)) := match swappedStores [t] e (envD sc) with
  | .pure r => some r
  | _ => none
/-- a suite's constant -/
def kD : Expr → Option D
  | .Constant .none _ _ => some .non
  | .Constant (.bool b) _ _ => some (.bl b)
  | .Constant (.int i) _ _ => some (.int i)
  | .Constant (.str x) _ _ => some (.str x)
  | _ => none
def excN (ex : List String) (sc : Scope) (x : Str) : Option String := if glB sc x = true then (if plainN x = true then look ex x else none) else none
def cH (ex : List String) (sc : Scope) : ExceptHandler → Option (String × D)
  | .ExceptHandler (some (.Name x _)) none [.Return (some e) _] _ => o2 Prod.mk (excN ex sc x) (kD e)
  | _ => none
def cHs (ex : List String) (sc : Scope) : List ExceptHandler → Option (List (String × D))
  | [] => some []
  | h :: hs => o2 List.cons (cH ex sc h) (cHs ex sc hs)
/-- the call of a -/
def isAct (a : Str) : Expr → Bool
  | .Call (.Name x _) [] [] _ => x == a
  | _ => false
/-- try: a() / except ..: return ..; return d -/
def cThk (ex : List String) (sc : Scope) (a : Str) : List Stmt → Option Thk
  | [.Try [.Expr c _] (h :: hs) [] [] _, .Return (some e) _] => if isAct a c = true then o2 Thk.mk (cHs ex sc (h :: hs)) (kD e) else none
  | [.Try [.Expr c _, .Return (some e) _] (h :: hs) [] [] _] => if isAct a c = true then o2 Thk.mk (cHs ex sc (h :: hs)) (kD e) else none
  | _ => none
/-- the two or three names of a pair whose stores are swapped -/
def parT (sc : Scope) (t : List Expr) (e : Expr) (names : List Str) : Bool := match t, e with
  | [.Name x _, .Name y _], .Tuple [_, _] _ _ => names == [x, y] && (match sc.names.lookup x, sc.names.lookup y with | some .local, some .local => true | _, _ => false) && !(x == y)
  | [.Name x _, .Name y _, .Name z _], .Tuple [_, _, _] _ _ => names == [x, y, z] && (match sc.names.lookup x, sc.names.lookup y, sc.names.lookup z with | some .local, some .local, some .local => true | _, _, _ => false) && !(x == y) && !(x == z) && !(y == z)
  | _, _ => false
def isComp : Expr → Bool
  | .ListComp _ _ _ _ => true
  | _ => false
mutual
def cS (G : GI) (N : List Str) (sc : Scope) : Stmt → Option IS
  | .Assign [.Name x _] e _ => if locB sc x = true then o2 (fun i e => IS.set (.v i) e) (slot N x) (cE G N sc e) else none
  | .Assign [.Subscript o i _] e _ => o3 IS.setIx (cE G N sc o) (cE G N sc i) (cE G N sc e)
  | .Assign [.Tuple es j p] e _ => (match swC sc (.Tuple es j p) e with
      | some none => o2 IS.set (cT N sc (.Tuple es j p)) (cE G N sc e)
      | some (some names) => if parT sc es e names = true then o2 IS.set (cT N sc (.Tuple es j p)) (cE G N sc e) else none
      | none => none)
  | .AugAssign (.Name x _) o e _ => if locB sc x = true then (match o with
      | .Add => o2 (IS.aug .Add) (slot N x) (cE G N sc e)
      | .Sub => o2 (IS.aug .Sub) (slot N x) (cE G N sc e)
      | _ => none) else none
  | .Expr e _ => if isComp e = true then none else o1 IS.expr (cE G N sc e)
  | .Return (some e) _ => o1 IS.ret (cE G N sc e)
  | .Return none _ => some .retN
  | .If t a b _ => o3 IS.ife (cE G N sc t) (cSs G N sc a) (cSs G N sc b)
  | .While t b [] _ => o2 IS.whl (cE G N sc t) (cSs G N sc b)
  | .For t it b [] _ => o3 IS.for (cT N sc t) (cE G N sc it) (cSs G N sc b)
  | .Break _ => some .brk
  | .Continue _ => some .cnt
  | .Pass _ => some .pass
  | .Raise (some (.Call (.Name x _) [] [] _)) none _ => o1 IS.raise (excN G.excs sc x)
  | .Try b (h :: hs) [] [] _ => o2 IS.try (cSs G N sc b) (cHs G.excs sc (h :: hs))
  | _ => none
def cSs (G : GI) (N : List Str) (sc : Scope) : List Stmt → Option (List IS)
  | [] => some []
  | s :: r => o2 List.cons (cS G N sc s) (cSs G N sc r)
end
/-- names by slot: the parameters first -/
def fnScB (N P : List Str) (sc : Scope) : Bool :=
  (match sc.kind with | .function => true | _ => false) && !sc.isCoroutine && !sc.isGenerator && decide N.Nodup && decide (N.take P.length = P) &&
    (P.all fun x => locB sc x) && (sc.names.all fun y => match y.2 with | .free => false | _ => true)
def cFn (G : GI) (N : List Str) (ps : Arguments) (body : List Stmt) (sc : Scope) : Option Fn :=
  if (ps.posonlyargs.isEmpty && ps.vararg.isNone && ps.kwonlyargs.isEmpty && ps.kwarg.isNone && ps.defaults.isEmpty && fnScB N (ps.args.map (·.arg)) sc) = true then
    o1 (fun b => ⟨ps.args.length, N.length, b⟩) (cSs G N sc body) else none
end G
end

section
set_option Elab.async false
set_option linter.all false
set_option maxRecDepth 100000
set_option maxHeartbeats 4000000
/-! GRel: how data lie in the heap of the hand layer. -/
namespace G
open PySem L2

/-- the n-th cell lies at a -/
def At (ι : List (Addr × Bool)) (n : Nat) (a : Addr) : Prop := ∃ w, ι[n]? = some (a, w)
theorem At.inj {ι : List (Addr × Bool)} {n : Nat} {a b : Addr} (h : At ι n a) (h' : At ι n b) : a = b := by
  obtain ⟨w, h⟩ := h
  obtain ⟨w', h'⟩ := h'
  rw [h] at h'; cases h'; rfl
mutual
def Rep (K : PySem.W.Frag) (ι : List (Addr × Bool)) (H : Hp) : D → V → Prop
  | .non, v => v = .non
  | .bl b, v => v = .bl b
  | .int i, v => v = .int i
  | .str x, v => v = .str x
  | .tup xs, v => ∃ a vs, v = .ref a ∧ SqT K H a vs ∧ Reps K ι H xs vs
  | .ref n, v => ∃ a, v = .ref a ∧ At ι n a
def Reps (K : PySem.W.Frag) (ι : List (Addr × Bool)) (H : Hp) : List D → List V → Prop
  | [], vs => vs = []
  | x :: xs, vs => ∃ w ws, vs = w :: ws ∧ Rep K ι H x w ∧ Reps K ι H xs ws
end
def Klit (K : PySem.W.Frag) (a : Addr) (xs : List V) : Prop := ∃ (o : Obj) (its : Array Value) (n : Nat), K.lookup a = some o ∧ o.cls = .type "list" ∧ o.dict = none ∧ o.data = .seq its n ∧ its.size ≤ sizeLine ∧ Vals xs its.toList
def CellRep (K : PySem.W.Frag) (ι : List (Addr × Bool)) (H : Hp) (a : Addr) : Cell → Prop
  | .lst xs => ∃ vs, H a = some (.lst vs) ∧ Reps K ι H xs vs
  | .frz xs => ∃ vs, ((∃ o, H a = some (.frz o (.lst vs))) ∨ Klit K a vs) ∧ Reps K ι H xs vs
  | .dct _ => False
  | .set _ => False
def Mu (x : Cell) : Prop := ∀ xs, x ≠ .frz xs
/-- the tables of code objects that lambdas are put into, with their names -/
class Tables where
  T : List (Addr × Str)
variable [Tables]
structure HRep (K : PySem.W.Frag) (ι : List (Addr × Bool)) (H : Hp) (c : Cells) : Prop where
  len : ι.length = c.length
  inj : ∀ (n m : Nat) (a : Addr), ι[n]? = some (a, true) → ι[m]? = some (a, true) → n = m
  cel : ∀ (n : Nat) (a : Addr) (w : Bool) (x : Cell), ι[n]? = some (a, w) → c[n]? = some x → CellRep K ι H a x ∧ (w = true → Mu x) ∧ (w = false → ¬ Mu x)
  tab : LamX.Tabs Tables.T H
/-- nothing but a table -/
def NT (H : Hp) (b : Addr) : Prop := ∀ o, H b = some o → ∃ ps, o = .tbl ps
theorem nt_none {H : Hp} {b : Addr} (h : H b = none) : NT H b := fun o e => by rw [h] at e; cases e
structure Ext (ι : List (Addr × Bool)) (H : Hp) (ι' : List (Addr × Bool)) (H' : Hp) : Prop where
  pre : ∃ ex, ι' = ι ++ ex ∧ ∀ p ∈ ex, NT H p.1
  tup : ∀ b vs, H b = some (.tup vs) → H' b = some (.tup vs)
  frz : ∀ b o u, H b = some (.frz o u) → H' b = some (.frz o u)
  oth : ∀ b o, H b = some o → (b, true) ∉ ι → (∀ ps, o ≠ .tbl ps) → H' b = some o
  dom : ∀ b, NT H' b → NT H b
section
variable {K : PySem.W.Frag} {ι ι1 ι2 : List (Addr × Bool)} {H H1 H2 : Hp} {c : Cells}
theorem Ext.refl : Ext ι H ι H := ⟨⟨[], by simp, by simp⟩, fun _ _ h => h, fun _ _ _ h => h, fun _ _ h _ _ => h, fun _ h => h⟩
theorem Ext.trans (a : Ext ι H ι1 H1) (b : Ext ι1 H1 ι2 H2) : Ext ι H ι2 H2 := by
  obtain ⟨⟨e1, rfl, n1⟩, t1, f1, o1, d1⟩ := a
  obtain ⟨⟨e2, rfl, n2⟩, t2, f2, o2, d2⟩ := b
  refine ⟨⟨e1 ++ e2, by simp, fun x hx => ?_⟩, fun b vs h => t2 _ _ (t1 _ _ h), fun b o u h => f2 _ _ _ (f1 _ _ _ h), fun b o h hb nt => ?_, fun b h => d1 _ (d2 _ h)⟩
  · rcases List.mem_append.mp hx with h | h
    · exact n1 x h
    · exact d1 _ (n2 x h)
  · refine o2 b o (o1 b o h hb nt) (fun hm => ?_) nt
    rcases List.mem_append.mp hm with z | z
    · exact hb z
    · obtain ⟨ps, z'⟩ := n1 _ z _ h
      exact nt ps z'
theorem sqt_mono {a : Addr} {vs : List V} (h : SqT K H a vs) (e : Ext ι H ι1 H1) : SqT K H1 a vs := by
  rcases h with (h | ⟨o, h⟩) | h
  · exact .inl (.inl (e.tup _ _ h))
  · exact .inl (.inr ⟨o, e.frz _ _ _ h⟩)
  · exact .inr h
theorem Ext.get {n : Nat} {a : Addr × Bool} (e : Ext ι H ι1 H1) (h : ι[n]? = some a) : ι1[n]? = some a := by
  obtain ⟨⟨ex, rfl, _⟩, _⟩ := e
  rw [List.getElem?_append_left (List.getElem?_eq_some_iff.mp h).1]; exact h
mutual
theorem Rep.mono (e : Ext ι H ι1 H1) : ∀ (d : D) (v : V), Rep K ι H d v → Rep K ι1 H1 d v
  | .non, _, h => h
  | .bl _, _, h => h
  | .int _, _, h => h
  | .str _, _, h => h
  | .tup xs, v, h => by
    obtain ⟨a, vs, rfl, hs, hr⟩ := h
    exact ⟨a, vs, rfl, sqt_mono hs e, Reps.mono e xs vs hr⟩
  | .ref n, v, h => by
    obtain ⟨a, rfl, w, h⟩ := h
    exact ⟨a, rfl, w, e.get h⟩
theorem Reps.mono (e : Ext ι H ι1 H1) : ∀ (d : List D) (v : List V), Reps K ι H d v → Reps K ι1 H1 d v
  | [], _, h => h
  | x :: xs, vs, h => by
    obtain ⟨w, ws, rfl, h1, h2⟩ := h
    exact ⟨w, ws, rfl, Rep.mono e x w h1, Reps.mono e xs ws h2⟩
end
mutual
theorem Rep.mono' (ht : ∀ b vs, H b = some (.tup vs) → H1 b = some (.tup vs)) (hf : ∀ b o u, H b = some (.frz o u) → H1 b = some (.frz o u)) : ∀ (d : D) (v : V), Rep K ι H d v → Rep K ι H1 d v
  | .non, _, h => h
  | .bl _, _, h => h
  | .int _, _, h => h
  | .str _, _, h => h
  | .tup xs, v, h => by
    obtain ⟨a, vs, rfl, hs, hr⟩ := h
    refine ⟨a, vs, rfl, ?_, Reps.mono' ht hf xs vs hr⟩
    rcases hs with (hs | ⟨o, hs⟩) | hs
    · exact .inl (.inl (ht _ _ hs))
    · exact .inl (.inr ⟨o, hf _ _ _ hs⟩)
    · exact .inr hs
  | .ref n, v, h => h
theorem Reps.mono' (ht : ∀ b vs, H b = some (.tup vs) → H1 b = some (.tup vs)) (hf : ∀ b o u, H b = some (.frz o u) → H1 b = some (.frz o u)) : ∀ (d : List D) (v : List V), Reps K ι H d v → Reps K ι H1 d v
  | [], _, h => h
  | x :: xs, vs, h => by
    obtain ⟨w, ws, rfl, h1, h2⟩ := h
    exact ⟨w, ws, rfl, Rep.mono' ht hf x w h1, Reps.mono' ht hf xs ws h2⟩
end
mutual
theorem Rep.more (ex : List (Addr × Bool)) : ∀ (d : D) (v : V), Rep K ι H d v → Rep K (ι ++ ex) H d v
  | .non, _, h => h
  | .bl _, _, h => h
  | .int _, _, h => h
  | .str _, _, h => h
  | .tup xs, v, h => by
    obtain ⟨a, vs, rfl, hs, hr⟩ := h
    exact ⟨a, vs, rfl, hs, Reps.more ex xs vs hr⟩
  | .ref n, v, h => by
    obtain ⟨a, rfl, w, h⟩ := h
    exact ⟨a, rfl, w, by rw [List.getElem?_append_left (List.getElem?_eq_some_iff.mp h).1]; exact h⟩
theorem Reps.more (ex : List (Addr × Bool)) : ∀ (d : List D) (v : List V), Reps K ι H d v → Reps K (ι ++ ex) H d v
  | [], _, h => h
  | x :: xs, vs, h => by
    obtain ⟨w, ws, rfl, h1, h2⟩ := h
    exact ⟨w, ws, rfl, Rep.more ex x w h1, Reps.more ex xs ws h2⟩
end
theorem Reps.length : ∀ {xs : List D} {vs : List V}, Reps K ι H xs vs → vs.length = xs.length
  | [], _, h => by cases h; rfl
  | x :: xs, vs, h => by
    obtain ⟨w, ws, rfl, _, h2⟩ := h
    simp [Reps.length h2]
theorem Reps.get : ∀ {xs : List D} {vs : List V} {i : Nat} {x : D}, Reps K ι H xs vs → xs[i]? = some x → ∃ v, vs[i]? = some v ∧ Rep K ι H x v
  | [], _, _, _, _, e => by simp at e
  | y :: xs, vs, 0, x, h, e => by
    obtain ⟨w, ws, rfl, h1, _⟩ := h
    cases e
    exact ⟨w, rfl, h1⟩
  | y :: xs, vs, i + 1, x, h, e => by
    obtain ⟨w, ws, rfl, _, h2⟩ := h
    obtain ⟨v, h3, h4⟩ := Reps.get (i := i) h2 (by simpa using e)
    exact ⟨v, by simpa using h3, h4⟩
theorem Reps.append : ∀ {xs ys : List D} {vs ws : List V}, Reps K ι H xs vs → Reps K ι H ys ws → Reps K ι H (xs ++ ys) (vs ++ ws)
  | [], _, _, _, h, h' => by cases h; exact h'
  | x :: xs, ys, vs, ws, h, h' => by
    obtain ⟨w, us, rfl, h1, h2⟩ := h
    exact ⟨w, us ++ ws, rfl, h1, Reps.append h2 h'⟩
theorem Reps.drop : ∀ {xs : List D} {vs : List V} (n : Nat), Reps K ι H xs vs → Reps K ι H (xs.drop n) (vs.drop n)
  | xs, vs, 0, h => by simpa using h
  | [], vs, n + 1, h => by cases h; rfl
  | x :: xs, vs, n + 1, h => by
    obtain ⟨w, us, rfl, _, h2⟩ := h
    exact Reps.drop n h2
theorem Reps.take : ∀ {xs : List D} {vs : List V} (n : Nat), Reps K ι H xs vs → Reps K ι H (xs.take n) (vs.take n)
  | xs, vs, 0, h => by simp [Reps]
  | [], vs, n + 1, h => by cases h; rfl
  | x :: xs, vs, n + 1, h => by
    obtain ⟨w, us, rfl, h1, h2⟩ := h
    exact ⟨w, us.take n, rfl, h1, Reps.take n h2⟩
theorem Reps.set {x : D} {v : V} (r : Rep K ι H x v) : ∀ {xs : List D} {vs : List V} (n : Nat), Reps K ι H xs vs → Reps K ι H (xs.set n x) (vs.set n v)
  | [], vs, n, h => by cases h; rfl
  | y :: xs, vs, 0, h => by
    obtain ⟨w, us, rfl, h1, h2⟩ := h
    exact ⟨v, us, rfl, r, h2⟩
  | y :: xs, vs, n + 1, h => by
    obtain ⟨w, us, rfl, h1, h2⟩ := h
    exact ⟨w, us.set n v, rfl, h1, Reps.set r n h2⟩
theorem Reps.dropLast {xs : List D} {vs : List V} (h : Reps K ι H xs vs) : Reps K ι H xs.dropLast vs.dropLast := by
  rw [List.dropLast_eq_take, List.dropLast_eq_take, h.length]
  exact h.take _
theorem Reps.one {x : D} {v : V} (r : Rep K ι H x v) : Reps K ι H [x] [v] := ⟨v, [], rfl, r, rfl⟩
theorem Reps.reverse : ∀ {xs : List D} {vs : List V}, Reps K ι H xs vs → Reps K ι H xs.reverse vs.reverse
  | [], _, h => by cases h; rfl
  | x :: xs, vs, h => by
    obtain ⟨w, us, rfl, h1, h2⟩ := h
    rw [List.reverse_cons, List.reverse_cons]
    exact (Reps.reverse h2).append (.one h1)
theorem Reps.rep {xs : List D} {vs : List V} (h : Reps K ι H xs vs) : ∀ n : Nat, Reps K ι H (List.replicate n xs).flatten (List.replicate n vs).flatten
  | 0 => rfl
  | n + 1 => by
    rw [List.replicate_succ, List.replicate_succ, List.flatten_cons, List.flatten_cons]
    exact h.append (Reps.rep h n)
theorem Reps.nil_iff {xs : List D} {vs : List V} (h : Reps K ι H xs vs) : vs = [] ↔ xs = [] := by
  have := h.length
  constructor
  · rintro rfl; exact List.eq_nil_of_length_eq_zero (by simpa using this.symm)
  · rintro rfl; exact List.eq_nil_of_length_eq_zero (by simpa using this)
theorem CellRep.mono {a : Addr} {x : Cell} (h : CellRep K ι H a x) (e : Ext ι H ι1 H1) (he : Mu x → H1 a = H a) : CellRep K ι1 H1 a x := by
  cases x with
  | lst xs =>
    obtain ⟨vs, h1, h2⟩ := h
    exact ⟨vs, (he fun _ q => nomatch q).trans h1, Reps.mono e _ _ h2⟩
  | frz xs =>
    obtain ⟨vs, h1, h2⟩ := h
    refine ⟨vs, ?_, Reps.mono e _ _ h2⟩
    rcases h1 with ⟨o, h1⟩ | h1
    · exact .inl ⟨o, e.frz _ _ _ h1⟩
    · exact .inr h1
  | dct _ => exact h.elim
  | set _ => exact h.elim
theorem CellRep.some {a : Addr} {x : Cell} (h : CellRep K ι H a x) (m : Mu x) : ∃ o, H a = some o ∧ L2.Mut (some o) := by
  cases x with
  | lst xs => obtain ⟨vs, h1, _⟩ := h; exact ⟨_, h1, trivial⟩
  | frz xs => exact absurd rfl (m xs)
  | dct _ => exact h.elim
  | set _ => exact h.elim
theorem CellRep.sq {a : Addr} {xs : List D} {x : Cell} (h : CellRep K ι H a x) (e : x = .lst xs ∨ x = .frz xs) : ∃ vs, SqL K H a vs ∧ Reps K ι H xs vs := by
  rcases e with rfl | rfl
  · obtain ⟨vs, h1, h2⟩ := h; exact ⟨vs, SqL.of h1, h2⟩
  · obtain ⟨vs, h1, h2⟩ := h
    refine ⟨vs, ?_, h2⟩
    rcases h1 with ⟨o, h1⟩ | h1
    · exact .inl (.inr ⟨o, h1⟩)
    · exact .inr h1
theorem HRep.at (h : HRep K ι H c) {n : Nat} {x : Cell} (e : c[n]? = some x) : ∃ a w, ι[n]? = some (a, w) ∧ CellRep K ι H a x ∧ (w = true → Mu x) ∧ (w = false → ¬ Mu x) := by
  have hn : n < ι.length := by rw [h.len]; exact (List.getElem?_eq_some_iff.mp e).1
  have q : ι[n]? = some (ι[n].1, ι[n].2) := List.getElem?_eq_getElem hn
  exact ⟨_, _, q, h.cel n _ _ x q e⟩
theorem HRep.getL (h : HRep K ι H c) {n : Nat} {xs : List D} (e : getL c n = some xs) : ∃ a vs, At ι n a ∧ SqL K H a vs ∧ Reps K ι H xs vs := by
  unfold G.getL at e
  split at e
  · rename_i ys q; cases e
    obtain ⟨a, w, h1, h2, _⟩ := h.at q
    obtain ⟨vs, h3, h4⟩ := h2.sq (.inl rfl)
    exact ⟨a, vs, ⟨w, h1⟩, h3, h4⟩
  · rename_i ys q; cases e
    obtain ⟨a, w, h1, h2, _⟩ := h.at q
    obtain ⟨vs, h3, h4⟩ := h2.sq (.inr rfl)
    exact ⟨a, vs, ⟨w, h1⟩, h3, h4⟩
  · cases e
theorem mu_lst (xs : List D) : Mu (.lst xs) := fun _ z => nomatch z
theorem HRep.lstW (h : HRep K ι H c) {n : Nat} {xs : List D} (e : c[n]? = some (.lst xs)) : ∃ a vs, ι[n]? = some (a, true) ∧ H a = some (.lst vs) ∧ Reps K ι H xs vs := by
  obtain ⟨a, w, h1, ⟨vs, h2, h3⟩, h4, h5⟩ := h.at e
  cases w with
  | true => exact ⟨a, vs, h1, h2, h3⟩
  | false => exact absurd (mu_lst xs) (h5 rfl)
theorem HRep.lst (h : HRep K ι H c) {n : Nat} {xs : List D} (e : c[n]? = some (.lst xs)) : ∃ a vs, At ι n a ∧ H a = some (.lst vs) ∧ Reps K ι H xs vs := by
  obtain ⟨a, vs, h1, h2, h3⟩ := h.lstW e
  exact ⟨a, vs, ⟨true, h1⟩, h2, h3⟩
/-- what is writable is tracked -/
theorem HRep.tracked (h : HRep K ι H c) {a : Addr} (e : (a, true) ∈ ι) : ∃ o, H a = some o ∧ L2.Mut (some o) := by
  obtain ⟨n, hn, e⟩ := List.mem_iff_getElem.mp e
  have hc : n < c.length := by rw [← h.len]; exact hn
  obtain ⟨h1, h2, _⟩ := h.cel n a true c[n] (by rw [List.getElem?_eq_getElem hn, e]) (List.getElem?_eq_getElem hc)
  exact h1.some (h2 rfl)
/-- a new object that is no cell -/
theorem nt_upd {H : Hp} {p b : Addr} {o : HO} (hp : H p = none) (h : NT (L2.upd H p o) b) : NT H b := fun u e => by
  refine h u ?_
  rw [upd_ne (ne_of_none e hp)]; exact e
theorem Ext.new {p : Addr} {o : HO} (hp : H p = none) : Ext ι H ι (upd H p o) :=
  ⟨⟨[], by simp, by simp⟩, fun b vs h => by rw [upd_ne (ne_of_none h hp)]; exact h, fun b _ u h => by rw [upd_ne (ne_of_none h hp)]; exact h, fun b _ h _ _ => by rw [upd_ne (ne_of_none h hp)]; exact h,
    fun b h => nt_upd hp h⟩
/-- what was not there may be written again -/
theorem Ext.upd {p : Addr} {o : HO} (e : Ext ι H ι1 H1) (hp : H p = none) : Ext ι H ι1 (L2.upd H1 p o) :=
  ⟨e.pre, fun b vs h => by rw [upd_ne (ne_of_none h hp)]; exact e.tup b vs h, fun b _ u h => by rw [upd_ne (ne_of_none h hp)]; exact e.frz b _ u h, fun b _ h h1 h2 => by rw [upd_ne (ne_of_none h hp)]; exact e.oth b _ h h1 h2,
    fun b h => by
      by_cases z : b = p
      · rw [z]; exact nt_none hp
      · exact e.dom b fun u q => h u (by rw [upd_ne z]; exact q)⟩
theorem Ext.more {p : Addr} (e : Ext ι H ι1 H1) (hp : H p = none) : Ext ι H (ι1 ++ [(p, true)]) H1 := by
  obtain ⟨⟨ex, rfl, n⟩, a1, a2, a3, a5⟩ := e
  refine ⟨⟨ex ++ [(p, true)], by simp, fun q hq => ?_⟩, a1, a2, a3, a5⟩
  rcases List.mem_append.mp hq with h | h
  · exact n q h
  · rw [List.mem_singleton.mp h]; exact nt_none hp
/-- a tracked list that is no cell stays -/
theorem Ext.stay {p : Addr} {vs : List V} (e : Ext ι H ι1 H1) (hp : H p = some (.lst vs)) (hn : (p, true) ∉ ι) : H1 p = some (.lst vs) ∧ (p, true) ∉ ι1 := by
  refine ⟨e.oth _ _ hp hn (fun ps z => nomatch z), ?_⟩
  obtain ⟨⟨ex, rfl, n⟩, _⟩ := e
  intro hm
  rcases List.mem_append.mp hm with h | h
  · exact hn h
  · obtain ⟨ps, z⟩ := n _ h _ hp
    cases z
theorem tab_new {p : Addr} {o : HO} (hp : H p = none) {P : Addr} {q : Str} (h : LamX.TabS H P q) : LamX.TabS (L2.upd H p o) P q := h.ext fun b u e => by rw [upd_ne (ne_of_none e hp)]; exact e
theorem tab_upd {p : Addr} {o : HO} {vs : List V} (hp : H p = some (.lst vs)) {P : Addr} {q : Str} (h : LamX.TabS H P q) : LamX.TabS (L2.upd H p o) P q := by
  obtain ⟨ps, h1, h2, h3⟩ := h
  refine ⟨ps, by rw [upd_ne (ne_of h1 hp (by intro z; cases z))]; exact h1, h2, fun pos cv hc => ?_⟩
  obtain ⟨c, e1, e2⟩ := h3 pos cv hc
  exact ⟨c, e1, by rw [upd_ne (ne_of e2 hp (by unfold LamX.CodeO; intro z; cases z))]; exact e2⟩
theorem HRep.new (h : HRep K ι H c) {p : Addr} {o : HO} (hp : H p = none) : HRep K ι (upd H p o) c :=
  ⟨h.len, h.inj, fun n a w x h1 h2 => ⟨(h.cel n a w x h1 h2).1.mono (Ext.new hp) fun m => by
    obtain ⟨o, h3, _⟩ := (h.cel n a w x h1 h2).1.some m
    rw [upd_ne (ne_of_none h3 hp)], (h.cel n a w x h1 h2).2⟩, fun p z => tab_new hp (h.tab p z)⟩
/-- an object that is no writable cell is changed; D, the values, no tuple and no frozen thing there -/
theorem HRep.other (h : HRep K ι H c) {p : Addr} {o : HO} {vs : List V} (hp : H p = some (.lst vs)) (hn : (p, true) ∉ ι) : HRep K ι (upd H p o) c ∧ (∀ d v, Rep K ι H d v → Rep K ι (upd H p o) d v) ∧ ∀ d v, Reps K ι H d v → Reps K ι (upd H p o) d v := by
  have et : ∀ b vs, H b = some (.tup vs) → upd H p o b = some (.tup vs) := fun b zs q => by rw [upd_ne (ne_of q hp (by intro z; cases z))]; exact q
  have ef : ∀ b o' u, H b = some (.frz o' u) → upd H p o b = some (.frz o' u) := fun b o u q => by rw [upd_ne (ne_of q hp (by intro z; cases z))]; exact q
  have e2 : ∀ d v, Rep K ι H d v → Rep K ι (upd H p o) d v := fun d v r => Rep.mono' et ef d v r
  have e3 : ∀ d v, Reps K ι H d v → Reps K ι (upd H p o) d v := fun d v r => Reps.mono' et ef d v r
  refine ⟨⟨h.len, h.inj, fun n a w x h1 h2 => ?_, fun p z => tab_upd hp (h.tab p z)⟩, e2, e3⟩
  obtain ⟨k1, k2, k3⟩ := h.cel n a w x h1 h2
  refine ⟨?_, k2, k3⟩
  cases x with
  | lst xs =>
    obtain ⟨us, g1, g2⟩ := k1
    have na : a ≠ p := fun z => by
      cases w with
      | true => exact hn (by rw [← z]; exact List.mem_of_getElem? h1)
      | false => exact k3 rfl (mu_lst xs)
    exact ⟨us, by rw [upd_ne na]; exact g1, e3 _ _ g2⟩
  | frz xs =>
    obtain ⟨us, g1, g2⟩ := k1
    refine ⟨us, ?_, e3 _ _ g2⟩
    rcases g1 with ⟨ob, g1⟩ | g1
    · exact .inl ⟨ob, ef _ _ _ g1⟩
    · exact .inr g1
  | dct _ => exact k1.elim
  | set _ => exact k1.elim
/-- a new cell -/
theorem HRep.alloc (h : HRep K ι H c) {p : Addr} {vs : List V} {xs : List D} (hp : H p = none) (r : Reps K ι H xs vs) :
    Ext ι H (ι ++ [(p, true)]) (upd H p (.lst vs)) ∧ HRep K (ι ++ [(p, true)]) (upd H p (.lst vs)) (c ++ [.lst xs]) ∧ At (ι ++ [(p, true)]) c.length p := by
  have e : Ext ι H (ι ++ [(p, true)]) (upd H p (.lst vs)) := by
    have e0 := Ext.new (ι := ι) (o := .lst vs) hp
    exact ⟨⟨[(p, true)], rfl, fun a ha => by rw [List.mem_singleton.mp ha]; exact nt_none hp⟩, e0.tup, e0.frz, e0.oth, e0.dom⟩
  have hpl : (ι ++ [(p, true)])[c.length]? = some (p, true) := by rw [← h.len]; simp
  have np : (p, true) ∉ ι := fun z => by
    obtain ⟨o, e, _⟩ := h.tracked z
    rw [hp] at e; cases e
  refine ⟨e, ⟨by simp [h.len], fun n m a h1 h2 => ?_, fun n a w x h1 h2 => ?_, fun p z => tab_new hp (h.tab p z)⟩, true, hpl⟩
  · have key : ∀ (n : Nat), (ι ++ [(p, true)])[n]? = some (a, true) → (n = c.length ∧ a = p) ∨ (ι[n]? = some (a, true) ∧ a ≠ p) := fun n h1 => by
      by_cases hn : n < c.length
      · rw [List.getElem?_append_left (by rw [h.len]; exact hn)] at h1
        exact .inr ⟨h1, fun z => np (by rw [← z]; exact List.mem_of_getElem? h1)⟩
      · have hl := (List.getElem?_eq_some_iff.mp h1).1
        have e' : n = c.length := by simp [h.len] at hl; omega
        subst e'
        rw [hpl] at h1
        cases h1
        exact .inl ⟨rfl, rfl⟩
    rcases key n h1 with ⟨e1, e2⟩ | ⟨k1, k2⟩
    · rcases key m h2 with ⟨e3, _⟩ | ⟨_, k4⟩
      · rw [e1, e3]
      · exact absurd e2 k4
    · rcases key m h2 with ⟨_, e4⟩ | ⟨l1, _⟩
      · exact absurd e4 k2
      · exact h.inj n m a k1 l1
  · by_cases hn : n < c.length
    · rw [List.getElem?_append_left (by rw [h.len]; exact hn)] at h1
      rw [List.getElem?_append_left hn] at h2
      refine ⟨(h.cel n a w x h1 h2).1.mono e fun m => ?_, (h.cel n a w x h1 h2).2⟩
      obtain ⟨o, h3, _⟩ := (h.cel n a w x h1 h2).1.some m
      rw [upd_ne (ne_of_none h3 hp)]
    · have hl := (List.getElem?_eq_some_iff.mp h2).1
      have e' : n = c.length := by simp at hl; omega
      subst e'
      rw [hpl] at h1
      cases h1
      rw [List.getElem?_append_right (Nat.le_refl _)] at h2
      simp at h2
      subst h2
      exact ⟨⟨vs, upd_same, Reps.mono e _ _ r⟩, fun _ => mu_lst xs, fun z => nomatch z⟩
/-- a tracked list becomes a cell -/
theorem HRep.adopt (h : HRep K ι H c) {p : Addr} {vs : List V} {xs : List D} (hp : H p = some (.lst vs)) (hn : (p, true) ∉ ι) (r : Reps K ι H xs vs) :
    HRep K (ι ++ [(p, true)]) H (c ++ [.lst xs]) ∧ At (ι ++ [(p, true)]) c.length p := by
  have up : ∀ d v, Rep K ι H d v → Rep K (ι ++ [(p, true)]) H d v := fun d v q => Rep.more _ d v q
  have ups : ∀ d v, Reps K ι H d v → Reps K (ι ++ [(p, true)]) H d v := fun d v q => Reps.more _ d v q
  have hpl : (ι ++ [(p, true)])[c.length]? = some (p, true) := by rw [← h.len]; simp
  refine ⟨⟨by simp [h.len], fun n m a h1 h2 => ?_, fun n a w x h1 h2 => ?_, h.tab⟩, true, hpl⟩
  · have key : ∀ (n : Nat), (ι ++ [(p, true)])[n]? = some (a, true) → (n = c.length ∧ a = p) ∨ (ι[n]? = some (a, true) ∧ a ≠ p) := fun n h1 => by
      by_cases hn' : n < c.length
      · rw [List.getElem?_append_left (by rw [h.len]; exact hn')] at h1
        exact .inr ⟨h1, fun z => hn (by rw [← z]; exact List.mem_of_getElem? h1)⟩
      · have hl := (List.getElem?_eq_some_iff.mp h1).1
        have e' : n = c.length := by simp [h.len] at hl; omega
        subst e'
        rw [hpl] at h1
        cases h1
        exact .inl ⟨rfl, rfl⟩
    rcases key n h1 with ⟨e1, e2⟩ | ⟨k1, k2⟩
    · rcases key m h2 with ⟨e3, _⟩ | ⟨_, k4⟩
      · rw [e1, e3]
      · exact absurd e2 k4
    · rcases key m h2 with ⟨_, e4⟩ | ⟨l1, _⟩
      · exact absurd e4 k2
      · exact h.inj n m a k1 l1
  · by_cases hn' : n < c.length
    · rw [List.getElem?_append_left (by rw [h.len]; exact hn')] at h1
      rw [List.getElem?_append_left hn'] at h2
      obtain ⟨k1, k2, k3⟩ := h.cel n a w x h1 h2
      refine ⟨?_, k2, k3⟩
      cases x with
      | lst xs => obtain ⟨us, g1, g2⟩ := k1; exact ⟨us, g1, ups _ _ g2⟩
      | frz xs => obtain ⟨us, g1, g2⟩ := k1; exact ⟨us, g1, ups _ _ g2⟩
      | dct _ => exact k1.elim
      | set _ => exact k1.elim
    · have hl := (List.getElem?_eq_some_iff.mp h2).1
      have e' : n = c.length := by simp at hl; omega
      subst e'
      rw [hpl] at h1
      cases h1
      rw [List.getElem?_append_right (Nat.le_refl _)] at h2
      simp at h2
      subst h2
      exact ⟨⟨vs, hp, ups _ _ r⟩, fun _ => mu_lst xs, fun z => nomatch z⟩
/-- a cell is changed -/
theorem HRep.write (h : HRep K ι H c) {n : Nat} {a : Addr} {vs ws : List V} {xs ys : List D} (hn : ι[n]? = some (a, true)) (hc : c[n]? = some (.lst xs)) (ha : H a = some (.lst vs)) (r : Reps K ι H ys ws) :
    Ext ι H ι (upd H a (.lst ws)) ∧ HRep K ι (upd H a (.lst ws)) (c.set n (.lst ys)) := by
  have hmem : (a, true) ∈ ι := List.mem_of_getElem? hn
  have e : Ext ι H ι (upd H a (.lst ws)) :=
    ⟨⟨[], by simp, by simp⟩, fun b zs q => by rw [upd_ne (ne_of q ha (by intro z; cases z))]; exact q, fun b o u q => by rw [upd_ne (ne_of q ha (by intro z; cases z))]; exact q,
      fun b o q nb _ => by rw [upd_ne (fun z => nb (by rw [z]; exact hmem))]; exact q, fun b q u eu => by
        by_cases z : b = a
        · obtain ⟨ps, z2⟩ := q (.lst ws) (by rw [z, upd_same])
          cases z2
        · exact q u (by rw [upd_ne z]; exact eu)⟩
  have hlt : n < c.length := (List.getElem?_eq_some_iff.mp hc).1
  refine ⟨e, ⟨by simp [h.len], h.inj, fun i b w x h1 h2 => ?_, fun p z => tab_upd ha (h.tab p z)⟩⟩
  by_cases z : i = n
  · subst z
    rw [hn] at h1; cases h1
    rw [List.getElem?_set_self hlt] at h2
    cases h2
    exact ⟨⟨ws, upd_same, Reps.mono e _ _ r⟩, fun _ => mu_lst ys, fun z => nomatch z⟩
  · rw [List.getElem?_set_ne (Ne.symm z)] at h2
    obtain ⟨k1, k2, k3⟩ := h.cel i b w x h1 h2
    refine ⟨k1.mono e fun m => ?_, k2, k3⟩
    rw [upd_ne]
    rintro rfl
    have hw : w = true := by
      cases w with
      | true => rfl
      | false => exact absurd m (k3 rfl)
    subst hw
    exact z (h.inj i n b h1 hn)
end

/-! ### slots -/
structure SRep (K : PySem.W.Frag) (ι : List (Addr × Bool)) (H : Hp) (σ : St) (ρ : Lo) : Prop where
  len : ρ.length = σ.length
  get : ∀ (i : Nat) (d : D), ρ[i]? = some (some d) → ∃ v, σ[i]? = some (some v) ∧ Rep K ι H d v
section
variable {K : PySem.W.Frag} {ι ι1 ι2 : List (Addr × Bool)} {H H1 H2 : Hp} {c : Cells} {σ : St} {ρ : Lo}
theorem SRep.mono (h : SRep K ι H σ ρ) (e : Ext ι H ι1 H1) : SRep K ι1 H1 σ ρ := ⟨h.len, fun i d q => by
  obtain ⟨v, h1, h2⟩ := h.get i d q
  exact ⟨v, h1, h2.mono e⟩⟩
theorem SRep.set (h : SRep K ι H σ ρ) {i : Nat} {d : D} {v : V} (r : Rep K ι H d v) : SRep K ι H (σ.set i (some v)) (ρ.set i (some d)) := ⟨by simp [h.len], fun j x q => by
  by_cases e : j = i
  · subst e
    have hl : j < ρ.length := by have := (List.getElem?_eq_some_iff.mp q).1; simpa using this
    rw [List.getElem?_set_self hl] at q
    cases q
    exact ⟨v, by rw [List.getElem?_set_self (by rw [← h.len]; exact hl)], r⟩
  · rw [List.getElem?_set_ne (Ne.symm e)] at q
    obtain ⟨w, h1, h2⟩ := h.get j x q
    exact ⟨w, by rw [List.getElem?_set_ne (Ne.symm e)]; exact h1, h2⟩⟩
theorem SRep.unset (h : SRep K ι H σ ρ) {i : Nat} : SRep K ι H (σ.set i none) (ρ.set i none) := ⟨by simp [h.len], fun j x q => by
  by_cases e : j = i
  · subst e
    have hl : j < ρ.length := by have := (List.getElem?_eq_some_iff.mp q).1; simpa using this
    rw [List.getElem?_set_self hl] at q
    cases q
  · rw [List.getElem?_set_ne (Ne.symm e)] at q
    obtain ⟨w, h1, h2⟩ := h.get j x q
    exact ⟨w, by rw [List.getElem?_set_ne (Ne.symm e)]; exact h1, h2⟩⟩
end

theorem SRep.wipe {K : PySem.W.Frag} {ι : List (Addr × Bool)} {H : Hp} {σ : St} {ρ : Lo} (h : SRep K ι H σ ρ) : ∀ (own : List Nat), SRep K ι H (L2.wipe σ own) (G.wipe ρ own)
  | [] => h
  | _ :: r => (SRep.wipe h r).unset
end G
end

section
set_option Elab.async false
set_option linter.all false
set_option maxRecDepth 100000
set_option maxHeartbeats 4000000
/-! GOps: readings; the operations by values. -/
namespace G
open PySem L2
variable [Tables]

/-- what is wanted of an end -/
def Post {α : Type} (K : PySem.W.Frag) (mg : Str → Option Value) (W : WX) (σ : St) (ι : List (Addr × Bool)) (H : Hp) (r : R α) (P : α → Cells → List (Addr × Bool) → Hp → Prop) : Prop := match r with
  | .ok a c => ∀ ι' H', Ext ι H ι' H' → HRep K ι' H' c → P a c ι' H'
  | .ex e c => ∀ ι' H' C, Ext ι H ι' H' → HRep K ι' H' c → mg (Str.ofString e) = some (.ref C) → W (.ref C) none σ H'
  | .no => False
section
variable {α β : Type} {K : PySem.W.Frag} {mg : Str → Option Value} {W : WX} {σ : St} {ι ι1 : List (Addr × Bool)} {H H1 : Hp}
theorem Post.mono {r : R α} {P : α → Cells → List (Addr × Bool) → Hp → Prop} (h : Post K mg W σ ι H r P) (e : Ext ι H ι1 H1) : Post K mg W σ ι1 H1 r P := by
  cases r with
  | ok a c => exact fun ι' H' e1 h1 => h ι' H' (e.trans e1) h1
  | ex x c => exact fun ι' H' C e1 h1 g => h ι' H' C (e.trans e1) h1 g
  | no => exact h
theorem Post.imp {r : R α} {P P' : α → Cells → List (Addr × Bool) → Hp → Prop} (h : Post K mg W σ ι H r P) (k : ∀ a c ι' H', Ext ι H ι' H' → HRep K ι' H' c → P a c ι' H' → P' a c ι' H') : Post K mg W σ ι H r P' := by
  cases r with
  | ok a c => exact fun ι' H' e1 h1 => k _ _ _ _ e1 h1 (h ι' H' e1 h1)
  | ex x c => exact h
  | no => exact h
theorem Post.bind {r : R α} {f : α → Cells → R β} {P : β → Cells → List (Addr × Bool) → Hp → Prop} (h : Post K mg W σ ι H (r.bind f) P) :
    Post K mg W σ ι H r fun a c ι' H' => Post K mg W σ ι' H' (f a c) P := by
  cases r with
  | ok a c => exact fun ι' H' e1 h1 => Post.mono h e1
  | ex x c => exact h
  | no => exact h
theorem Post.ok {a : α} {c : Cells} {P : α → Cells → List (Addr × Bool) → Hp → Prop} (h : Post K mg W σ ι H (.ok a c) P) (hH : HRep K ι H c) : P a c ι H := h ι H .refl hH
end

theorem PE.imp {X : Cx} {e : Expr} {t t' : TE} (h : PE X e t) (k : ∀ σ H Q, t' σ H Q → t σ H Q) : PE X e t' := ⟨fun pins s σ H Q I w => h.run pins s σ H Q I (k _ _ _ w)⟩
theorem PT.imp {X : Cx} {e : Expr} {t t' : TT} (h : PT X e t) (k : ∀ σ H Q, t' σ H Q → t σ H Q) : PT X e t' := ⟨fun pins s σ H Q I w => h.run pins s σ H Q I (k _ _ _ w)⟩
theorem PW.imp {X : Cx} {e : Expr} {t t' : TT} (h : PW X e t) (k : ∀ σ H Q, t' σ H Q → t σ H Q) : PW X e t' := ⟨fun wh pins s σ H Q I w => h.run wh pins s σ H Q I (k _ _ _ w)⟩
theorem PA.imp {X : Cx} {e : List Expr} {t t' : TA} (h : PA X e t) (k : ∀ σ H Q, t' σ H Q → t σ H Q) : PA X e t' := ⟨fun p pins s σ H Q I w => h.run p pins s σ H Q I (k _ _ _ w)⟩
theorem PS.imp {X : Cx} {e : Stmt} {t t' : TS} (h : PS X e t) (k : ∀ D σ H, t' D σ H → t D σ H) : PS X e t' := ⟨fun pins s σ H D I w => h.run pins s σ H D I (k _ _ _ w)⟩
theorem PSs.imp {X : Cx} {e : List Stmt} {t t' : TS} (h : PSs X e t) (k : ∀ D σ H, t' D σ H → t D σ H) : PSs X e t' := ⟨fun pins s σ H D I w => h.run pins s σ H D I (k _ _ _ w)⟩

/-! ### readings -/
section
variable (X : Cx) (Γ : Ctx) (W : WX)
def RE (ie : IE) : TE := fun σ H Q => ∃ ι ρ c, SRep X.K ι H σ ρ ∧ HRep X.K ι H c ∧ Post X.K X.mg W σ ι H (dE Γ ie ρ c) fun d _ ι' H' => ∀ v, Rep X.K ι' H' d v → Q v H'
def RT (ie : IE) : TT := fun σ H Q => ∃ ι ρ c, SRep X.K ι H σ ρ ∧ HRep X.K ι H c ∧ Post X.K X.mg W σ ι H (dE Γ ie ρ c) fun d c' ι' H' => ∃ b, truth c' d = some b ∧ Q b H'
def RA (es : List IE) : TA := fun σ H Q => ∃ ι ρ c, SRep X.K ι H σ ρ ∧ HRep X.K ι H c ∧ Post X.K X.mg W σ ι H (dEs Γ es ρ c) fun ds _ ι' H' => ∀ vs, Reps X.K ι' H' ds vs → Q vs H'
def RO (ie : IE) : TO := fun σ H Q => ∃ ι ρ c, SRep X.K ι H σ ρ ∧ HRep X.K ι H c ∧ Post X.K X.mg W σ ι H (dO Γ ie ρ c) fun o _ ι' H' => Q o H'
def RTs (ifs : List IE) : TT := fun σ H Q => ∃ ι ρ c, SRep X.K ι H σ ρ ∧ HRep X.K ι H c ∧ Post X.K X.mg W σ ι H (dT Γ ifs ρ c) fun b _ ι' H' => Q b H'
/-- what a walk gives: the items xs, as long as the cells ws stand -/
def Walk (K : PySem.W.Frag) (J : It) (ι : List (Addr × Bool)) (H : Hp) (c : Cells) (xs : List D) (ws : List Nat) : Prop :=
  ∀ ι' H' c' (i : Nat), Ext ι H ι' H' → HRep K ι' H' c' → same ws c c' = true →
    (∀ d, xs[i]? = some d → J.go i H' ∧ ∀ x H'', J.yld i H' x H'' → Ext ι' H' ι' H'' ∧ HRep K ι' H'' c' ∧ Rep K ι' H'' d x) ∧ (xs.length ≤ i → J.stop i H')
def RI (it : IE) : TI := fun σ H R => ∃ ι ρ c, SRep X.K ι H σ ρ ∧ HRep X.K ι H c ∧ Post X.K X.mg W σ ι H (dI Γ it ρ c) fun p c' ι' H' => ∀ J, Walk X.K J ι' H' c' p.1 p.2 → R J H'
/-- σ' is σ but for the slots l -/
def Keeps (l : List Nat) (σ σ' : St) : Prop := σ'.length = σ.length ∧ ∀ i, i ∉ l → σ'[i]? = σ[i]?
def RG (t : Tg) : TG := fun v σ H Q => ∃ ι ρ c d ρ', SRep X.K ι H σ ρ ∧ HRep X.K ι H c ∧ Rep X.K ι H d v ∧ asg c t d ρ = some ρ' ∧ ∀ σ', SRep X.K ι H σ' ρ' → Keeps (tgSlots t) σ σ' → Q σ' H
def RGs (ts : List Tg) : TGs := fun vs σ H Q => ∃ ι ρ c ds ρ', SRep X.K ι H σ ρ ∧ HRep X.K ι H c ∧ Reps X.K ι H ds vs ∧ asgs c ts ds ρ = some ρ' ∧ ∀ σ', SRep X.K ι H σ' ρ' → Keeps (tgsSlots ts) σ σ' → Q σ' H
def PostS (K : PySem.W.Frag) (mg : Str → Option Value) (W : WX) (ι : List (Addr × Bool)) (H : Hp) (r : SR) (D : Ends) : Prop := match r with
  | .nx ρ c => ∀ ι' H' σ', Ext ι H ι' H' → HRep K ι' H' c → SRep K ι' H' σ' ρ → D.nx σ' H'
  | .bk ρ c => ∀ ι' H' σ', Ext ι H ι' H' → HRep K ι' H' c → SRep K ι' H' σ' ρ → D.bk σ' H'
  | .ct ρ c => ∀ ι' H' σ', Ext ι H ι' H' → HRep K ι' H' c → SRep K ι' H' σ' ρ → D.ct σ' H'
  | .rt d c => ∀ ι' H' v, Ext ι H ι' H' → HRep K ι' H' c → Rep K ι' H' d v → D.rt v H'
  | .ex e ρ c => ∀ ι' H' σ' C, Ext ι H ι' H' → HRep K ι' H' c → SRep K ι' H' σ' ρ → mg (Str.ofString e) = some (.ref C) → W (.ref C) none σ' H'
  | .no => False
def RS (is : IS) : TS := fun D σ H => ∃ ι ρ c, SRep X.K ι H σ ρ ∧ HRep X.K ι H c ∧ PostS X.K X.mg W ι H (dS Γ is ρ c) D
def RSs (is : List IS) : TS := fun D σ H => ∃ ι ρ c, SRep X.K ι H σ ρ ∧ HRep X.K ι H c ∧ PostS X.K X.mg W ι H (dSs Γ is ρ c) D
end
theorem PostS.mono {K : PySem.W.Frag} {mg : Str → Option Value} {W : WX} {ι ι1 : List (Addr × Bool)} {H H1 : Hp} {r : SR} {D : Ends} (h : PostS K mg W ι H r D) (e : Ext ι H ι1 H1) : PostS K mg W ι1 H1 r D := by
  cases r with
  | nx ρ c => exact fun ι' H' σ' e1 h1 s1 => h ι' H' σ' (e.trans e1) h1 s1
  | bk ρ c => exact fun ι' H' σ' e1 h1 s1 => h ι' H' σ' (e.trans e1) h1 s1
  | ct ρ c => exact fun ι' H' σ' e1 h1 s1 => h ι' H' σ' (e.trans e1) h1 s1
  | rt d c => exact fun ι' H' v e1 h1 r1 => h ι' H' v (e.trans e1) h1 r1
  | ex x ρ c => exact fun ι' H' σ' C e1 h1 s1 g => h ι' H' σ' C (e.trans e1) h1 s1 g
  | no => exact h

/-! ### operations by values -/
def rS (K : PySem.W.Frag) (g : D → D → Cells → R D) : R2 := fun v u H Q => ∃ ι c x y d c', HRep K ι H c ∧ Rep K ι H x v ∧ Rep K ι H y u ∧ g x y c = .ok d c' ∧
  ∀ ι' H' w, Ext ι H ι' H' → HRep K ι' H' c' → Rep K ι' H' d w → Q w H'
def rS1 (K : PySem.W.Frag) (g : List D → Cells → R D) : List V → Hp → VK → Prop := fun vs H Q => ∃ ι c xs d c', HRep K ι H c ∧ Reps K ι H xs vs ∧ g xs c = .ok d c' ∧
  ∀ ι' H' w, Ext ι H ι' H' → HRep K ι' H' c' → Rep K ι' H' d w → Q w H'
theorem rep_fn {K : PySem.W.Frag} {ι : List (Addr × Bool)} {H : Hp} {n : Nat} {a : Addr} {v : V} (h : Rep K ι H (.ref n) v) (e : At ι n a) : v = .ref a := by
  obtain ⟨b, rfl, h⟩ := h
  rw [h.inj e]
section
variable {X : Cx}
theorem lim_eq : lim = sizeLine := by rw [sizeLine_eq]; rfl
/-- a new tuple -/
theorem q_tup {K : PySem.W.Frag} {ι : List (Addr × Bool)} {H : Hp} {c : Cells} {xs : List D} {vs : List V} {p : Addr} {Q : VK} (hH : HRep K ι H c) (r : Reps K ι H xs vs) (hp : H p = none)
    (q : ∀ ι' H' w, Ext ι H ι' H' → HRep K ι' H' c → Rep K ι' H' (.tup xs) w → Q w H') : Q (.ref p) (upd H p (.tup vs)) :=
  q ι _ _ (.new hp) (hH.new hp) ⟨p, vs, rfl, SqT.of upd_same, Reps.mono (.new hp) _ _ r⟩
/-- a new list -/
theorem q_lst {K : PySem.W.Frag} {ι : List (Addr × Bool)} {H : Hp} {c : Cells} {xs : List D} {vs : List V} {p : Addr} {Q : VK} (hH : HRep K ι H c) (r : Reps K ι H xs vs) (hp : H p = none)
    (q : ∀ ι' H' w, Ext ι H ι' H' → HRep K ι' H' (c ++ [.lst xs]) → Rep K ι' H' (.ref c.length) w → Q w H') : Q (.ref p) (upd H p (.lst vs)) := by
  obtain ⟨e, h, g⟩ := hH.alloc hp r
  exact q _ _ _ e h ⟨p, rfl, g⟩

theorem opBin_s (hc : X.A.units + 65 < cLine) (o : Operator) : OpR X (binaryOp o) (rS X.K (opBin o)) := by
  intro pins s σ H v u vv uu Q I rv ru h
  obtain ⟨ι, c, x, y, d, c', hH, rx, ry, e, q⟩ := h
  unfold opBin at e
  split at e
  · cases e; cases rx; cases ry
    exact op_add pins s σ H _ _ vv uu Q I rv ru ⟨_, _, rfl, rfl, q ι H _ .refl hH rfl⟩
  · cases e; cases rx; cases ry
    refine op_add_ib pins s σ H _ _ vv uu Q I rv ru ⟨_, _, rfl, rfl, ?_⟩
    exact q ι H _ .refl hH rfl
  · rename_i a b
    split at e <;> cases e
    rename_i hl
    obtain ⟨p1, vs1, rfl, s1, r1⟩ := rx
    obtain ⟨p2, vs2, rfl, s2, r2⟩ := ry
    refine op_catA pins s σ H _ _ vv uu Q I rv ru ⟨p1, p2, vs1, vs2, rfl, rfl, s1, s2, by rw [r1.length, r2.length, ← lim_eq]; exact hl, fun z => ?_, fun _ z => ?_, fun _ _ p hp => ?_⟩
    · have z' := r1.nil_iff.mp z
      subst z'
      exact q ι H _ .refl hH ⟨p2, vs2, rfl, s2, r2⟩
    · have z' := r2.nil_iff.mp z
      subst z'
      rw [List.append_nil] at q
      exact q ι H _ .refl hH ⟨p1, vs1, rfl, s1, r1⟩
    · exact q_tup hH (r1.append r2) hp q
  · split at e <;> cases e
    rename_i hl
    cases rx; cases ry
    exact op_add_str pins s σ H _ _ vv uu Q I rv ru ⟨_, _, rfl, rfl, by rw [← lim_eq]; exact hl, q ι H _ .refl hH rfl⟩
  · split at e
    · rename_i xs ys h1 h2
      split at e <;> cases e
      rename_i hl
      obtain ⟨a1, vs1, g1, e1, r1⟩ := hH.lst h1
      obtain ⟨a2, vs2, g2, e2, r2⟩ := hH.lst h2
      cases rep_fn rx g1
      cases rep_fn ry g2
      exact op_cat pins s σ H _ _ vv uu Q I rv ru ⟨a1, a2, vs1, vs2, rfl, rfl, e1, e2, by rw [r1.length, r2.length, ← lim_eq]; exact hl, fun p hp => q_lst hH (r1.append r2) hp q⟩
    · cases e
  · cases e; cases rx; cases ry
    exact op_sub pins s σ H _ _ vv uu Q I rv ru ⟨_, _, rfl, rfl, q ι H _ .refl hH rfl⟩
  · cases e; cases rx; cases ry
    cases rv; cases ru
    exact PyProof.Rows.sub_bool ⟨V.int _, H, I.tok _, ⟨_, rfl⟩, q ι H _ .refl hH rfl⟩
  · split at e <;> cases e
    rename_i hm
    cases rx; cases ry
    exact op_mulW pins s σ H _ _ vv uu Q I rv ru ⟨_, _, rfl, rfl, by unfold CMulW; exact of_decide_eq_true hm, q ι H _ .refl hH rfl⟩
  · split at e <;> cases e
    rename_i hm
    obtain ⟨h1, h2, h3, h4⟩ := hm
    obtain ⟨p1, vs1, rfl, s1, r1⟩ := rx
    cases ry
    exact op_repT pins s σ H _ _ vv uu Q I rv ru ⟨p1, _, vs1, rfl, rfl, s1, fun z => h1 (r1.nil_iff.mp z), h2, h3, by rw [r1.length]; exact h4, fun p hp => q_tup hH (r1.rep _) hp q⟩
  · split at e
    · rename_i xs h1
      split at e <;> cases e
      rename_i hm
      obtain ⟨k1, k2, k3⟩ := hm
      obtain ⟨a1, vs1, g1, e1, r1⟩ := hH.lst h1
      cases rep_fn rx g1
      cases ry
      exact op_rep pins s σ H _ _ vv uu Q I rv ru ⟨a1, _, vs1, rfl, rfl, e1, k1, k2, by rw [r1.length, ← lim_eq]; exact k3, fun p hp => q_lst hH (r1.rep _) hp q⟩
    · cases e
  · split at e <;> cases e
    rename_i hm
    cases rx; cases ry
    exact op_fdivW pins s σ H _ _ vv uu Q I rv ru ⟨_, _, rfl, rfl, hm, q ι H _ .refl hH rfl⟩
  · split at e <;> cases e
    rename_i hm
    cases rx; cases ry
    exact op_mod pins s σ H _ _ vv uu Q I rv ru ⟨_, _, rfl, rfl, hm, q ι H _ .refl hH rfl⟩
  · split at e <;> cases e
    rename_i hm
    cases rx; cases ry
    exact op_pow pins s σ H _ _ vv uu Q I rv ru ⟨_, _, rfl, rfl, hm, q ι H _ .refl hH rfl⟩
  · cases e
end
end G
end

section
set_option Elab.async false
set_option linter.all false
set_option maxRecDepth 100000
set_option maxHeartbeats 4000000
/-! GOps2: comparisons, subscripts, calls of what is built in. -/
namespace G
open PySem L2
variable [Tables]
section
variable {K : PySem.W.Frag} {ι : List (Addr × Bool)} {H : Hp} {c : Cells}
mutual
theorem pyD_ok {f : Nat → Option PyData} (hf : ∀ n d v, f n = some d → Rep K ι H (.ref n) v → Dp K H v d) : ∀ (x : D) (d : PyData) (v : V), pyD f x = some d → Rep K ι H x v → Dp K H v d
  | .non, d, v, h, r => by cases h; cases r; exact .non
  | .bl b, d, v, h, r => by cases h; cases r; exact .bl b
  | .int i, d, v, h, r => by cases h; cases r; exact .int i
  | .str x, d, v, h, r => by cases h; cases r; exact .str x
  | .tup xs, d, v, h, r => by
    unfold pyD at h
    split at h
    · rename_i ys e
      cases h
      obtain ⟨a, vs, rfl, s1, r1⟩ := r
      exact .tup s1 (pyDs_ok hf xs ys vs e r1)
    · cases h
  | .ref n, d, v, h, r => hf n d v h r
theorem pyDs_ok {f : Nat → Option PyData} (hf : ∀ n d v, f n = some d → Rep K ι H (.ref n) v → Dp K H v d) : ∀ (x : List D) (d : List PyData) (v : List V), pyDs f x = some d → Reps K ι H x v → DpAll K H v d
  | [], d, v, h, r => by cases h; cases r; exact .nil
  | x :: xs, d, v, h, r => by
    unfold pyDs at h
    split at h
    · rename_i y ys e1 e2
      cases h
      obtain ⟨w, ws, rfl, r1, r2⟩ := r
      exact .cons (pyD_ok hf x y w e1 r1) (pyDs_ok hf xs ys ws e2 r2)
    · cases h
end
theorem pyR_ok (hH : HRep K ι H c) : ∀ (k n : Nat) (d : PyData) (v : V), pyR c k n = some d → Rep K ι H (.ref n) v → Dp K H v d
  | 0, n, d, v, h, r => by cases h
  | k + 1, n, d, v, h, r => by
    unfold pyR at h
    split at h
    · rename_i xs e
      split at h
      · rename_i ys e2
        cases h
        obtain ⟨a, vs, g, s1, r1⟩ := hH.getL e
        cases rep_fn r g
        exact .lst s1 (pyDs_ok (pyR_ok hH k) xs ys vs e2 r1)
      · cases h
    · cases h
theorem py_ok (hH : HRep K ι H c) {x : D} {d : PyData} {v : V} (h : py c x = some d) (r : Rep K ι H x v) : Dp K H v d ∧ SeqAt.shaped d = true := by
  unfold py at h
  split at h
  · rename_i y e
    split at h <;> cases h
    rename_i hs
    exact ⟨pyD_ok (pyR_ok hH 4) x d v e r, hs⟩
  · cases h
end
section
variable {X : Cx}
theorem obl_ok {o : Option Bool} {c c' : Cells} {d : D} (h : obl o c = .ok d c') : ∃ b, o = some b ∧ d = .bl b ∧ c' = c := by
  unfold obl at h
  split at h
  · cases h; exact ⟨_, rfl, rfl, rfl⟩
  · cases h
theorem opCmp_s (hc : X.A.units + 66 < cLine) (o : CmpOp) : OpR X (compareOp o) (rS X.K (opCmp o)) := by
  intro pins s σ H v u vv uu Q I rv ru h
  obtain ⟨ι, c, x, y, d, c', hH, rx, ry, e, q⟩ := h
  cases o with
  | Eq =>
    obtain ⟨b, e1, rfl, rfl⟩ := obl_ok e
    unfold eqv at e1
    split at e1
    · rename_i p1 p2 h1 h2
      cases e1
      obtain ⟨d1, s1⟩ := py_ok hH h1 rx
      obtain ⟨d2, s2⟩ := py_ok hH h2 ry
      exact op_eqD (by omega) pins s σ H _ _ vv uu Q I rv ru ⟨p1, p2, d1, d2, s1, s2, q ι H _ .refl hH rfl⟩
    · cases e1
  | NotEq =>
    obtain ⟨b, e1, rfl, rfl⟩ := obl_ok e
    unfold eqv at e1
    split at e1
    · rename_i p1 p2 h1 h2
      cases e1
      obtain ⟨d1, s1⟩ := py_ok hH h1 rx
      obtain ⟨d2, s2⟩ := py_ok hH h2 ry
      exact op_neD (by omega) pins s σ H _ _ vv uu Q I rv ru ⟨p1, p2, d1, d2, s1, s2, q ι H _ .refl hH rfl⟩
    · cases e1
  | Lt =>
    unfold opCmp at e
    dsimp only at e
    split at e <;> cases e
    cases rx; cases ry
    exact op_lt pins s σ H _ _ vv uu Q I rv ru ⟨_, _, rfl, rfl, q ι H _ .refl hH rfl⟩
  | LtE =>
    unfold opCmp at e
    dsimp only at e
    split at e <;> cases e
    cases rx; cases ry
    exact op_le pins s σ H _ _ vv uu Q I rv ru ⟨_, _, rfl, rfl, q ι H _ .refl hH rfl⟩
  | Gt =>
    unfold opCmp at e
    dsimp only at e
    split at e <;> cases e
    cases rx; cases ry
    exact op_gt pins s σ H _ _ vv uu Q I rv ru ⟨_, _, rfl, rfl, q ι H _ .refl hH rfl⟩
  | GtE =>
    unfold opCmp at e
    dsimp only at e
    split at e <;> cases e
    cases rx; cases ry
    exact op_ge pins s σ H _ _ vv uu Q I rv ru ⟨_, _, rfl, rfl, q ι H _ .refl hH rfl⟩
  | Is =>
    unfold opCmp at e
    dsimp only at e
    have non : ∀ (x : D) (v : V), Rep X.K ι H x v → decide (v = V.non) = decide (x = D.non) := fun x v r => by
      cases x with
      | non => cases r; rfl
      | bl _ => cases r; rfl
      | int _ => cases r; rfl
      | str _ => cases r; rfl
      | tup _ => obtain ⟨a, vs, rfl, _⟩ := r; rfl
      | ref _ => obtain ⟨a, rfl, _⟩ := r; rfl
    split at e
    · cases e
      cases ry
      exact op_isN pins s σ H _ _ vv uu Q I rv ru ⟨rfl, by rw [non _ _ rx]; exact q ι H _ .refl hH rfl⟩
    · cases e
      cases rx; cases ry
      exact op_is_bl pins s σ H _ _ vv uu Q I rv ru ⟨_, _, rfl, rfl, q ι H _ .refl hH rfl⟩
    · cases e
  | IsNot =>
    unfold opCmp at e
    dsimp only at e
    have non : ∀ (x : D) (v : V), Rep X.K ι H x v → decide (v = V.non) = decide (x = D.non) := fun x v r => by
      cases x with
      | non => cases r; rfl
      | bl _ => cases r; rfl
      | int _ => cases r; rfl
      | str _ => cases r; rfl
      | tup _ => obtain ⟨a, vs, rfl, _⟩ := r; rfl
      | ref _ => obtain ⟨a, rfl, _⟩ := r; rfl
    split at e
    · cases e
      cases ry
      exact op_notN pins s σ H _ _ vv uu Q I rv ru ⟨rfl, by rw [non _ _ rx]; exact q ι H _ .refl hH rfl⟩
    · cases e
      cases rx; cases ry
      exact op_isnot_bl pins s σ H _ _ vv uu Q I rv ru ⟨_, _, rfl, rfl, q ι H _ .refl hH rfl⟩
    · cases e
  | In =>
    obtain ⟨b, e1, rfl, rfl⟩ := obl_ok e
    unfold inD at e1
    split at e1
    · split at e1
      · rename_i a bs h1 h2
        cases e1
        obtain ⟨d1, s1⟩ := py_ok hH h1 rx
        obtain ⟨d2, s2⟩ := py_ok hH h2 ry
        obtain ⟨as, r1⟩ := Dp.reads I a _ vv d1 rv
        obtain ⟨bs', r2⟩ := Dp.reads I (.tuple bs) _ uu d2 ru
        exact SeqAt.in_tuple_reads r2 r1 (SeqAt.canLay_of_shaped s2) (SeqAt.canLay_of_shaped s1) (PyProof.Rows.room_in_shaped s1 (by omega)) ⟨.bl _, H, I, rfl, q ι H _ .refl hH rfl⟩
      · cases e1
    · split at e1
      · split at e1
        · rename_i a bs h1 h2
          cases e1
          obtain ⟨d1, s1⟩ := py_ok hH h1 rx
          obtain ⟨d2, s2⟩ := py_ok hH h2 ry
          exact op_inD (by omega) pins s σ H _ _ vv uu Q I rv ru ⟨a, bs, d1, d2, s1, s2, q ι H _ .refl hH rfl⟩
        · cases e1
      · cases e1
    · cases e1
  | NotIn =>
    obtain ⟨b, e1, rfl, rfl⟩ := obl_ok e
    unfold inD at e1
    split at e1
    · split at e1
      · rename_i a bs h1 h2
        cases e1
        obtain ⟨d1, s1⟩ := py_ok hH h1 rx
        obtain ⟨d2, s2⟩ := py_ok hH h2 ry
        obtain ⟨as, r1⟩ := Dp.reads I a _ vv d1 rv
        obtain ⟨bs', r2⟩ := Dp.reads I (.tuple bs) _ uu d2 ru
        exact SeqAt.notIn_tuple_reads r2 r1 (SeqAt.canLay_of_shaped s2) (SeqAt.canLay_of_shaped s1) (PyProof.Rows.room_in_shaped s1 (by omega)) ⟨.bl _, H, I, rfl, q ι H _ .refl hH rfl⟩
      · cases e1
    · split at e1
      · split at e1
        · rename_i a bs h1 h2
          cases e1
          obtain ⟨d1, s1⟩ := py_ok hH h1 rx
          obtain ⟨d2, s2⟩ := py_ok hH h2 ry
          exact op_notInD (by omega) pins s σ H _ _ vv uu Q I rv ru ⟨a, bs, d1, d2, s1, s2, q ι H _ .refl hH rfl⟩
        · cases e1
      · cases e1
    · cases e1

/-! ### subscripts -/
theorem atI_eq {xs : List D} {vs : List V} {K : PySem.W.Frag} {ι : List (Addr × Bool)} {H : Hp} {i : Int} {d : D} (r : Reps K ι H xs vs) (h : atI xs i = some d) : ∃ v, L2.atI vs i = some v ∧ Rep K ι H d v := by
  unfold atI at h
  obtain ⟨j, h1, h2⟩ := Option.bind_eq_some_iff.mp h
  obtain ⟨v, h3, h4⟩ := r.get h2
  refine ⟨v, ?_, h4⟩
  unfold L2.atI
  rw [r.length]
  exact Option.bind_eq_some_iff.mpr ⟨j, h1, h3⟩
theorem opIx_s : IxR X (rS X.K opIx) := by
  intro value slice pins s σ H v u vv uu Q I rv ru h hpl
  obtain ⟨ι, c, x, y, d, c', hH, rx, ry, e, q⟩ := h
  unfold opIx at e
  split at e
  · split at e <;> cases e
    rename_i h1
    obtain ⟨p1, vs1, rfl, s1, r1⟩ := rx
    cases ry
    obtain ⟨w, h2, h3⟩ := atI_eq r1 h1
    exact ix_tup value slice pins s σ H _ _ vv uu Q I rv ru ⟨p1, vs1, _, w, rfl, rfl, s1, h2, q ι H _ .refl hH h3⟩ hpl
  · split at e
    · rename_i xs g
      split at e <;> cases e
      rename_i h1
      obtain ⟨a, vs, g1, s1, r1⟩ := hH.getL g
      cases rep_fn rx g1
      cases ry
      obtain ⟨w, h2, h3⟩ := atI_eq r1 h1
      exact ix_list value slice pins s σ H _ _ vv uu Q I rv ru ⟨a, vs, _, w, rfl, rfl, s1, h2, q ι H _ .refl hH h3⟩ hpl
    · cases e
  · cases e
theorem sIx_eq (n d : Nat) (o : Option Int) : sIx n d o = HT.sIx n d o := by cases o <;> rfl
theorem Reps.cut {xs : List D} {vs : List V} {K : PySem.W.Frag} {ι : List (Addr × Bool)} {H : Hp} (r : Reps K ι H xs vs) (lo hi : Option Int) : Reps K ι H (cut xs lo hi) (cutV vs lo hi) := by
  unfold G.cut cutV
  rw [r.length, sIx_eq, sIx_eq]
  exact (r.drop _).take _
theorem cut_whole {xs : List D} {lo hi : Option Int} (h : HT.sIx xs.length 0 lo = 0 ∧ HT.sIx xs.length xs.length hi = xs.length) : cut xs lo hi = xs := by
  unfold G.cut
  rw [sIx_eq, sIx_eq, h.1, h.2]
  simp
def rSl (K : PySem.W.Frag) : V → Option Int → Option Int → Hp → VK → Prop := fun v lo hi H Q => ∃ ι c x d c', HRep K ι H c ∧ Rep K ι H x v ∧ opSl x lo hi c = .ok d c' ∧
  ∀ ι' H' w, Ext ι H ι' H' → HRep K ι' H' c' → Rep K ι' H' d w → Q w H'
theorem opSl_s : SlR X (rSl X.K) := by
  intro pins s σ H v vv vl vu lo hi sl Q I rx0 hs pl pu h
  obtain ⟨ι, c, x, d, c', hH, rx, e, q⟩ := h
  unfold opSl at e
  split at e
  · cases e
    obtain ⟨p1, vs1, rfl, s1, r1⟩ := rx
    refine sl_tupA pins s σ H _ vv vl vu lo hi sl Q I rx0 hs pl pu ⟨p1, vs1, rfl, s1, fun z => ?_, fun _ p hp => q_tup hH (r1.cut lo hi) hp q⟩
    rw [r1.length] at z
    rw [cut_whole z] at q
    exact q ι H _ .refl hH ⟨p1, vs1, rfl, s1, r1⟩
  · split at e
    · rename_i xs g
      cases e
      obtain ⟨a, vs, g1, e1, r1⟩ := hH.lst g
      cases rep_fn rx g1
      exact sl_list pins s σ H _ vv vl vu lo hi sl Q I rx0 hs pl pu ⟨a, vs, rfl, SqL.of e1, fun p hp => q_lst hH (r1.cut lo hi) hp q⟩
    · cases e
  · cases e
theorem rep_bls : ∀ {xs : List D} {bs : List Bool} {vs : List V} {K : PySem.W.Frag} {ι : List (Addr × Bool)} {H : Hp}, bls xs = some bs → Reps K ι H xs vs → vs = bs.map V.bl
  | [], _, _, _, _, _, h, r => by cases h; cases r; rfl
  | .bl b :: xs, bs, vs, _, _, _, h, r => by
    obtain ⟨cs, h1, rfl⟩ := Option.map_eq_some_iff.mp (show (bls xs).map (b :: ·) = some bs from h)
    obtain ⟨w, ws, rfl, r1, r2⟩ := r
    cases r1
    rw [rep_bls h1 r2]; rfl
  | .non :: _, _, _, _, _, _, h, _ => by cases h
  | .int _ :: _, _, _, _, _, _, h, _ => by cases h
  | .str _ :: _, _, _, _, _, _, h, _ => by cases h
  | .tup _ :: _, _, _, _, _, _, h, _ => by cases h
  | .ref _ :: _, _, _, _, _, _, h, _ => by cases h
theorem rep_intsOf : ∀ {xs : List D} {bs : List Int} {vs : List V} {K : PySem.W.Frag} {ι : List (Addr × Bool)} {H : Hp}, intsOf xs = some bs → Reps K ι H xs vs → vs = bs.map V.int
  | [], _, _, _, _, _, h, r => by cases h; cases r; rfl
  | .int b :: xs, bs, vs, _, _, _, h, r => by
    obtain ⟨cs, h1, rfl⟩ := Option.map_eq_some_iff.mp (show (intsOf xs).map (b :: ·) = some bs from h)
    obtain ⟨w, ws, rfl, r1, r2⟩ := r
    cases r1
    rw [rep_intsOf h1 r2]; rfl
  | .non :: _, _, _, _, _, _, h, _ => by cases h
  | .bl _ :: _, _, _, _, _, _, h, _ => by cases h
  | .str _ :: _, _, _, _, _, _, h, _ => by cases h
  | .tup _ :: _, _, _, _, _, _, h, _ => by cases h
  | .ref _ :: _, _, _, _, _, _, h, _ => by cases h

/-! ### what is built in -/
def bltVal : Blt → Value
  | .abs => .builtin "abs" | .len => .builtin "len" | .min => .builtin "min" | .max => .builtin "max" | .sum => .builtin "sum" | .all => .builtin "all" | .any => .builtin "any"
  | .sorted => .builtin "sorted" | .repr => .builtin "repr"
  | .int => .type "int" | .tuple => .type "tuple" | .list => .type "list" | .str => .type "str" | .set => .type "set" | .bool => .type "bool" | .dict => .type "dict"
theorem opBlt_s (hc : X.calm = true) (b : Blt) : CallR X (bltVal b) (rS1 X.K (opBlt b)) := by
  intro pins s σ H vs us Q I r h
  obtain ⟨ι, c, xs, d, c', hH, rx, e, q⟩ := h
  unfold opBlt at e
  split at e
  · cases e
    obtain ⟨w, ws, rfl, r1, r2⟩ := rx
    cases r1; cases r2
    exact call_abs pins s σ H _ us Q I r ⟨_, rfl, q ι H _ .refl hH rfl⟩
  · cases e
    obtain ⟨w, ws, rfl, r1, r2⟩ := rx
    cases r1; cases r2
    exact call_int1 pins s σ H _ us Q I r (.inl ⟨_, rfl, q ι H _ .refl hH rfl⟩)
  · cases e
    obtain ⟨w, ws, rfl, r1, r2⟩ := rx
    cases r1; cases r2
    exact call_int1 pins s σ H _ us Q I r (.inr ⟨_, rfl, q ι H _ .refl hH rfl⟩)
  · cases e
    obtain ⟨w, ws, rfl, ⟨p1, vs1, rfl, s1, r1⟩, r2⟩ := rx
    cases r2
    exact call_len_seq pins s σ H _ us Q I r ⟨p1, vs1, rfl, .inr s1, by rw [r1.length]; exact q ι H _ .refl hH rfl⟩
  · split at e <;> cases e
    rename_i hl
    obtain ⟨w, ws, rfl, r1, r2⟩ := rx
    cases r1; cases r2
    exact call_len_str pins s σ H _ us Q I r ⟨_, rfl, by rw [← lim_eq]; exact hl, q ι H _ .refl hH rfl⟩
  · obtain ⟨w, ws, rfl, r1, r2⟩ := rx
    cases r2
    split at e
    · rename_i g
      cases e
      obtain ⟨a, vs, g1, e1, r3⟩ := hH.lst g
      cases rep_fn r1 g1
      exact call_len_seq pins s σ H _ us Q I r ⟨a, vs, rfl, .inl (SqL.of e1), by rw [r3.length]; exact q ι H _ .refl hH rfl⟩
    · rename_i ys g
      cases e
      obtain ⟨a, vs, g1, e1, r3⟩ := hH.getL (show getL c _ = some ys by unfold getL; rw [g])
      cases rep_fn r1 g1
      exact call_len_seq pins s σ H _ us Q I r ⟨a, vs, rfl, .inl e1, by rw [r3.length]; exact q ι H _ .refl hH rfl⟩
    · cases e
  · cases e
    obtain ⟨w, ws, rfl, r1, w2, ws2, rfl, r2, r3⟩ := rx
    cases r1; cases r2; cases r3
    exact call_min2 hc pins s σ H _ us Q I r ⟨_, _, rfl, q ι H _ .refl hH rfl⟩
  · cases e
    obtain ⟨w, ws, rfl, r1, w2, ws2, rfl, r2, r3⟩ := rx
    cases r1; cases r2; cases r3
    exact call_max2 hc pins s σ H _ us Q I r ⟨_, _, rfl, q ι H _ .refl hH rfl⟩
  · split at e
    · rename_i g
      split at e <;> cases e
      rename_i hb
      obtain ⟨w, ws, rfl, r1, r2⟩ := rx
      cases r2
      obtain ⟨a, vs, g1, e1, r3⟩ := hH.lst g
      cases rep_fn r1 g1
      rw [rep_bls hb r3] at e1
      exact cr_all hc pins s σ H _ us Q I r ⟨a, _, rfl, SqL.of e1, q ι H _ .refl hH rfl⟩
    · cases e
  · split at e
    · rename_i g
      split at e <;> cases e
      rename_i hb
      obtain ⟨w, ws, rfl, r1, r2⟩ := rx
      cases r2
      obtain ⟨a, vs, g1, e1, r3⟩ := hH.lst g
      cases rep_fn r1 g1
      rw [rep_bls hb r3] at e1
      exact cr_any hc pins s σ H _ us Q I r ⟨a, _, rfl, SqL.of e1, q ι H _ .refl hH rfl⟩
    · cases e
  · split at e
    · rename_i g
      split at e <;> cases e
      rename_i hb
      obtain ⟨w, ws, rfl, r1, r2⟩ := rx
      cases r2
      obtain ⟨a, vs, g1, e1, r3⟩ := hH.lst g
      cases rep_fn r1 g1
      rw [rep_intsOf hb r3] at e1
      exact cr_sum hc pins s σ H _ us Q I r ⟨a, _, rfl, SqL.of e1, q ι H _ .refl hH rfl⟩
    · cases e
  · split at e
    · rename_i g
      cases e
      obtain ⟨w, ws, rfl, r1, r2⟩ := rx
      cases r2
      obtain ⟨a, vs, g1, e1, r3⟩ := hH.lst g
      cases rep_fn r1 g1
      exact call_tuple_of pins s σ H _ us Q I r ⟨a, vs, rfl, .inl ⟨SqL.of e1, fun p hp => q_tup hH r3 hp q⟩⟩
    · cases e
  · cases e
    obtain ⟨w, ws, rfl, ⟨p1, vs1, rfl, s1, r1⟩, r2⟩ := rx
    cases r2
    exact call_tuple_of pins s σ H _ us Q I r ⟨p1, vs1, rfl, .inr ⟨s1, q ι H _ .refl hH ⟨p1, vs1, rfl, s1, r1⟩⟩⟩
  · split at e
    · rename_i g
      cases e
      obtain ⟨w, ws, rfl, r1, r2⟩ := rx
      cases r2
      obtain ⟨a, vs, g1, e1, r3⟩ := hH.lst g
      cases rep_fn r1 g1
      exact call_list_of pins s σ H _ us Q I r ⟨a, vs, rfl, .inl (SqL.of e1), fun p hp => q_lst hH r3 hp q⟩
    · rename_i ys g
      cases e
      obtain ⟨w, ws, rfl, r1, r2⟩ := rx
      cases r2
      obtain ⟨a, vs, g1, e1, r3⟩ := hH.getL (show getL c _ = some ys by unfold getL; rw [g])
      cases rep_fn r1 g1
      exact call_list_of pins s σ H _ us Q I r ⟨a, vs, rfl, .inl e1, fun p hp => q_lst hH r3 hp q⟩
    · cases e
  · cases e
    obtain ⟨w, ws, rfl, ⟨p1, vs1, rfl, s1, r1⟩, r2⟩ := rx
    cases r2
    exact call_list_of pins s σ H _ us Q I r ⟨p1, vs1, rfl, .inr s1, fun p hp => q_lst hH r1 hp q⟩
  · cases e
/-- truth -/
theorem truth_ok {ι : List (Addr × Bool)} {H : Hp} {c : Cells} {x : D} {v : V} {b : Bool} (hH : HRep X.K ι H c) (r : Rep X.K ι H x v) (h : truth c x = some b) : TruV X.K v H b := by
  have emp : ∀ {xs : List D} {vs : List V}, Reps X.K ι H xs vs → (!xs.isEmpty) = !vs.isEmpty := fun {xs vs} r => by
    have := r.nil_iff
    cases xs <;> cases vs <;> simp_all
  cases x with
  | non => cases r; cases h; rfl
  | bl y => cases r; cases h; rfl
  | int i => cases r; cases h; rfl
  | str y =>
    cases r
    unfold truth at h
    dsimp only at h
    split at h <;> cases h
    rename_i hl
    exact ⟨by rw [← lim_eq]; exact hl, rfl⟩
  | tup xs =>
    obtain ⟨p1, vs1, rfl, s1, r1⟩ := r
    cases h
    exact .inr (.inl ⟨vs1, s1, emp r1⟩)
  | ref n =>
    unfold truth at h
    dsimp only at h
    split at h
    · rename_i g
      cases h
      obtain ⟨a, vs, g1, e1, r3⟩ := hH.lst g
      cases rep_fn r g1
      exact .inl ⟨vs, SqL.of e1, emp r3⟩
    · rename_i ys g
      cases h
      obtain ⟨a, vs, g1, e1, r3⟩ := hH.getL (show getL c _ = some ys by unfold getL; rw [g])
      cases rep_fn r g1
      exact .inl ⟨vs, e1, emp r3⟩
    · rename_i g
      obtain ⟨a, w, _, z, _⟩ := hH.at g
      exact z.elim
    · rename_i g
      obtain ⟨a, w, _, z, _⟩ := hH.at g
      exact z.elim
    · cases h
end
end G
end

section
set_option Elab.async false
set_option linter.all false
set_option maxRecDepth 100000
set_option maxHeartbeats 4000000
set_option autoImplicit false
/-! GExpr: expressions do what the evaluator says. -/
namespace G
open PySem L2
variable [Tables]

/-- a def's promise: what the evaluator's call gives -/
def spOf (K : PySem.W.Frag) (mg : Str → Option Value) (call : String → List D → Cells → R D) (f : String) : Sp := fun vs H Q E => ∃ ι c ds, HRep K ι H c ∧ Reps K ι H ds vs ∧
  Post K mg (fun cls d _ H' => E cls d H') [] ι H (call f ds c) fun d _ ι' H' => ∀ v, Rep K ι' H' d v → Q v H'
/-- the def f stands there and keeps its promise -/
def FnHas (P : Program) (w : World) (K : PySem.W.Frag) (mg : Str → Option Value) (base : Heap) (call : String → List D → Cells → R D) (k : Nat) (f : String) : Prop :=
  ∃ (a : Addr) (fd : FuncData) (ps : List Str), mg (Str.ofString f) = some (.ref a) ∧ PySem.W.keepIn K (.ref a) = true ∧ Binds K fd ps [] ∧ FnOk P w K mg base (L2.CX P w) k a fd ps (spOf K mg call f)
/-- the own exceptions: siblings -/
structure ExcOk (K : PySem.W.Frag) (mg : Str → Option Value) (excs : List String) : Prop where
  cls : ∀ x ∈ excs, ∃ C : Addr, mg (Str.ofString x) = some (.ref C)
  one : ∀ x ∈ excs, ∀ y ∈ excs, ∀ C C' : Addr, mg (Str.ofString x) = some (.ref C) → mg (Str.ofString y) = some (.ref C') → PySem.W.exmOne K (.ref C) (.ref C') = some (decide (x = y))
  own : ∀ x ∈ excs, ∀ C : Addr, mg (Str.ofString x) = some (.ref C) → ∃ (B newId initId : String) (bmB : List Value), ExcBaseFacts B newId initId bmB ∧ PySem.W.excIn K C bmB newId = true ∧ PySem.W.keepIn K (.ref C) = true ∧
    PySem.W.subIn K (.ref C) (.type "BaseException") = some true ∧ PySem.W.typeIn K (.ref C) = some (.type "type")
/-- a def that calls what it gets and tells how that ended -/
def ThkHas (K : PySem.W.Frag) (mg : Str → Option Value) (ex : List String) (f : String) (t : Thk) : Prop :=
  ∃ (ga : Addr) (a : Str) (pg : Arguments) (bg : List Stmt) (sg : Scope) (dV kV doc pm cdv ct oc : Value) (an od : Option Addr) (osl : Array (Option Value)) (Ng : List Str), mg (Str.ofString f) = some (.ref ga) ∧ PySem.W.keepIn K (.ref ga) = true ∧
    K.lookup ga = some ⟨oc, od, .func (PySem.W.fnOf (Str.ofString f) (Str.ofString f) pg bg sg dV kV doc pm an cdv ct), osl⟩ ∧ PySem.W.codeIn K cdv (Str.ofString f) = true ∧ L2.Binds K (PySem.W.fnOf (Str.ofString f) (Str.ofString f) pg bg sg dV kV doc pm an cdv ct) [a] [] ∧
    FnScope Ng [a] sg ∧ Ng[0]? = some a ∧ plainN a = true ∧ cThk ex sg a bg = some t
/-- the place of lambdas -/
def Deep (X : Cx) (k : Nat) : Prop := Room (k + 2) X.A ∧ ∃ c P : Addr, X.env.code = .ref c ∧ LamX.TabB X.base X.mg c P ∧ (P, X.env.qual ++ "<lambda>") ∈ Tables.T ∧ ∀ p ∈ Tables.T, p.1 = P → p.2 = X.env.qual ++ "<lambda>"
structure Ok (X : Cx) (g : GI) (N : List Str) (sc : Scope) (Γ : Ctx) (W : WX) (k : Nat) : Prop where
  hN : X.N = N
  nd : N.Nodup
  hsc : X.env.scope = sc
  calm : X.calm = true
  tk : Takes X W
  pass : PassesOwn (model X.prog X.w) X.A X.env X.xe
  room : Room k X.A
  cst : ∀ x d, lookC g.consts x = some d → ∃ u v, X.mg x = some u ∧ RelV v u ∧ ∀ ι H, Rep X.K ι H d v
  blt : ∀ x b, look bltNames x = some b → X.mg x = none
  fns : ∀ f ∈ g.fns, FnHas X.prog X.w X.K X.mg X.base Γ.call k f
  exc : ExcOk X.K X.mg g.excs
  hex : Γ.excs = g.excs
  thks : ∀ f ∈ g.thks, ∃ t, Γ.thks.lookup f = some t ∧ ThkHas X.K X.mg g.excs f t
  deep : g.lam = true → Deep X k
/-- the targets of a scope may be stored -/
structure TOk (X : Cx) (N : List Str) (sct : Scope) : Prop where
  hN : X.N = N
  nd : N.Nodup
  calm : X.calm = true
  loc : ∀ x, locB sct x = true → L2.Loc X.env.scope x ∧ (X.fn x = true ∨ X.env.scope.names.lookup x = some .local)
/-! ### small facts of the checks -/
theorem slot_get {N : List Str} {x : Str} {i : Nat} (h : slot N x = some i) : N[i]? = some x := by
  unfold slot at h
  obtain ⟨hi, h1, _⟩ := List.findIdx?_eq_some_iff_getElem.mp h
  rw [List.getElem?_eq_getElem hi, beq_iff_eq.mp h1]
theorem look_get {l : List String} {x : Str} {s : String} (h : look l x = some s) : Str.ofString s = x ∧ s ∈ l := by
  unfold look at h
  exact ⟨beq_iff_eq.mp (List.find?_some (p := fun s => Str.ofString s == x) h), List.mem_of_find?_eq_some h⟩
theorem vis_of {sc : Scope} {x : Str} (h : visB sc x = true) : Vis sc x := by
  unfold visB at h
  unfold Vis
  split at h <;> first | (rename_i e; simp [e]) | cases h
theorem loc_of {sc : Scope} {x : Str} (h : locB sc x = true) : L2.Loc sc x := by
  unfold locB at h
  unfold L2.Loc
  split at h <;> first | (rename_i e; simp [e]) | cases h
theorem gl_of {X : Cx} {x : Str} (h : glB X.env.scope x = true) : Gl X x := by
  unfold glB at h
  show X.env.scope.names.lookup x = _
  split at h <;> first | assumption | cases h
theorem plain_dbg {x : Str} (h : plainN x = true) : (x == ("__debug__" : Str)) = false := by
  unfold plainN at h
  simp only [Bool.and_eq_true, Bool.not_eq_true'] at h
  exact h.1.1.1
theorem plain_cd {x : Str} (h : plainN x = true) : (x == ("__classdict__" : Str)) = false := by
  unfold plainN at h
  simp only [Bool.and_eq_true, Bool.not_eq_true'] at h
  exact h.1.1.2
theorem plain_super {x : Str} (h : plainN x = true) : (x == ("super" : Str)) = false := by
  unfold plainN at h
  simp only [Bool.and_eq_true, Bool.not_eq_true'] at h
  exact h.1.2
theorem plain_name {x : Str} (h : plainN x = true) : x ≠ "__name__" := by
  unfold plainN at h
  simp only [Bool.and_eq_true, Bool.not_eq_true'] at h
  exact fun e => by rw [e] at h; simp at h

/-! ### names, constants -/
section
variable {X : Cx} {g : GI} {N : List Str} {sc : Scope} {Γ : Ctx} {W : WX} {k : Nat} {pos : Pos}
theorem re_k {e : Expr} {d : D} {v : V} (h : PE X e (tC v)) (r : ∀ ι H, Rep X.K ι H d v) : PE X e (RE X Γ W (.k d)) :=
  PE.imp h fun σ H Q ⟨ι, ρ, c, hσ, hH, hp⟩ => by
    unfold dE at hp
    exact Post.ok hp hH v (r ι H)
theorem re_name (ok : Ok X g N sc Γ W k) {x : Str} {ie : IE} (h : cN g N sc x = some ie) (hx : X.env.scope = sc) : PE X (.Name x pos) (RE X Γ W ie) := by
  have hsc := ok.hsc
  unfold cN at h
  split at h
  · rename_i hp
    split at h
    · rename_i hv
      obtain ⟨i, e, rfl⟩ := o1_some h
      have hN : X.N[i]? = some x := by rw [ok.hN]; exact slot_get e
      refine PE.imp (pe_var hN (by rw [hsc]; exact vis_of hv) (plain_dbg hp) (plain_cd hp)) fun σ H Q ⟨ι, ρ, c, hσ, hH, hp⟩ => ?_
      unfold dE at hp
      split at hp
      · rename_i d q
        obtain ⟨v, h1, h2⟩ := hσ.get i d q
        exact ⟨v, h1, Post.ok hp hH v h2⟩
      · exact hp.elim
    · split at h
      · rename_i hg
        split at h
        · rename_i d q
          cases h
          obtain ⟨u, v, h1, h2, h3⟩ := ok.cst x d q
          exact re_k (pe_glob (gl_of (by rw [hsc]; exact hg)) h1 h2 (plain_dbg hp)) h3
        · obtain ⟨t, e, rfl⟩ := o1_some h
          exact ⟨fun pins s σ H Q I ⟨ι, ρ, c, hσ, hH, hp⟩ => by unfold dE at hp; exact hp.elim⟩
      · cases h
  · cases h
theorem re_const {c : Const} {j : Nat} {ie : IE} (h : cK c = some ie) : PE X (.Constant c j pos) (RE X Γ W ie) := by
  cases c with
  | none => cases h; exact re_k pe_non fun _ _ => rfl
  | bool b => cases h; exact re_k pe_bl fun _ _ => rfl
  | int i => cases h; exact re_k pe_int fun _ _ => rfl
  | str x => cases h; exact re_k pe_str fun _ _ => rfl
  | _ => cases h

/-! ### operators -/
variable {a b e : Expr} {a' b' e' : IE}
theorem noex_bin {o : Operator} {x y : D} {c c' : Cells} {q : String} : opBin o x y c ≠ .ex q c' := by
  unfold opBin
  intro h
  split at h <;> (try split at h) <;> (try split at h) <;> cases h
theorem obl_noex {o : Option Bool} {c c' : Cells} {q : String} : obl o c ≠ .ex q c' := by
  unfold obl; intro h; split at h <;> cases h
theorem noex_cmp {o : CmpOp} {x y : D} {c c' : Cells} {q : String} : opCmp o x y c ≠ .ex q c' := by
  unfold opCmp
  intro h
  cases o <;> dsimp only at h <;> first | exact obl_noex h | (split at h <;> cases h)
theorem noex_ix {x y : D} {c c' : Cells} {q : String} : opIx x y c ≠ .ex q c' := by
  unfold opIx
  intro h
  split at h <;> (try split at h) <;> (try split at h) <;> cases h
theorem noex_sl {x : D} {l u : Option Int} {c c' : Cells} {q : String} : opSl x l u c ≠ .ex q c' := by
  unfold opSl
  intro h
  split at h <;> (try split at h) <;> cases h
theorem noex_blt {b : Blt} {xs : List D} {c c' : Cells} {q : String} : opBlt b xs c ≠ .ex q c' := by
  unfold opBlt
  intro h
  split at h <;> (try split at h) <;> (try split at h) <;> cases h
theorem noex_meth {b : Me} {x : D} {xs : List D} {c c' : Cells} {q : String} : opMeth b x xs c ≠ .ex q c' := by
  unfold opMeth
  intro h
  split at h <;> (try split at h) <;> (try split at h) <;> cases h
/-- two expressions, then an operation that raises nothing -/
theorem two_of {t : TE} {f : D → D → Cells → R D} {r : R2} (hr : ∀ v u H Q, rS X.K f v u H Q → r v u H Q) (nx : ∀ x y c q c', f x y c ≠ .ex q c')
    (h : PE X e (tOp r (RE X Γ W a') (RE X Γ W b'))) (he : ∀ ρ c, dE Γ e' ρ c = (dE Γ a' ρ c).bind fun x c1 => (dE Γ b' ρ c1).bind fun y c2 => f x y c2) : PE X e (RE X Γ W e') := by
  refine PE.imp h fun σ H Q ⟨ι, ρ, c, hσ, hH, hp⟩ => ?_
  rw [he] at hp
  refine ⟨ι, ρ, c, hσ, hH, (Post.bind hp).imp fun x c1 ι1 H1 e1 h1 hp1 v rv => ⟨ι1, ρ, c1, hσ.mono e1, h1, (Post.bind hp1).imp fun y c2 ι2 H2 e2 h2 hp2 u ru => ?_⟩⟩
  cases q : f x y c2 with
  | ok d c3 =>
    rw [q] at hp2
    exact hr _ _ _ _ ⟨ι2, c2, x, y, d, c3, h2, rv.mono e2, ru, q, fun ι' H' w e3 h3 rw' => hp2 ι' H' e3 h3 w rw'⟩
  | ex z c3 => exact absurd q (nx _ _ _ _ _)
  | no => rw [q] at hp2; exact hp2.elim
theorem re_bin (ok : Ok X g N sc Γ W k) {o : Operator} (ha : PE X a (RE X Γ W a')) (hb : PE X b (RE X Γ W b')) : PE X (.BinOp a o b pos) (RE X Γ W (.bin o a' b')) :=
  two_of (t := RE X Γ W a') (fun _ _ _ _ h => h) (fun _ _ _ _ _ => noex_bin) (pe_op (opBin_s (by have := ok.room.un; omega) o) ha hb) fun ρ c => by rw [dE]
theorem re_cmp (ok : Ok X g N sc Γ W k) {o : CmpOp} (hm : behindInMarks o b = false) (ha : PE X a (RE X Γ W a')) (hb : PE X b (RE X Γ W b')) : PE X (.Compare a [o] [b] pos) (RE X Γ W (.cmp o a' b')) :=
  two_of (t := RE X Γ W a') (fun _ _ _ _ h => h) (fun _ _ _ _ _ => noex_cmp) (pe_cmpR (opCmp_s (by have := ok.room.un; omega) o) ha hb hm) fun ρ c => by rw [dE]
theorem re_ix (hb' : PlainIx b) (ha : PE X a (RE X Γ W a')) (hb : PE X b (RE X Γ W b')) : PE X (.Subscript a b pos) (RE X Γ W (.ix a' b')) :=
  two_of (t := RE X Γ W a') (fun _ _ _ _ h => h) (fun _ _ _ _ _ => noex_ix) (pe_ix opIx_s ha hb hb') fun ρ c => by rw [dE]
theorem re_neg (ha : PE X a (RE X Γ W a')) : PE X (.UnaryOp .USub a pos) (RE X Γ W (.neg a')) := by
  refine PE.imp (pe_un un_neg ha) fun σ H Q ⟨ι, ρ, c, hσ, hH, hp⟩ => ?_
  unfold dE at hp
  refine ⟨ι, ρ, c, hσ, hH, (Post.bind hp).imp fun x c1 ι1 H1 e1 h1 hp1 v rv => ?_⟩
  split at hp1
  · cases rv
    exact ⟨_, rfl, Post.ok hp1 h1 _ rfl⟩
  · exact hp1.elim
theorem re_not (ha : PE X a (RE X Γ W a')) : PE X (.UnaryOp .Not a pos) (RE X Γ W (.not a')) := by
  refine PE.imp (pe_notT ha) fun σ H Q ⟨ι, ρ, c, hσ, hH, hp⟩ => ?_
  unfold dE at hp
  refine ⟨ι, ρ, c, hσ, hH, (Post.bind hp).imp fun x c1 ι1 H1 e1 h1 hp1 v rv => ?_⟩
  split at hp1
  · rename_i b q
    exact ⟨b, truth_ok h1 rv q, Post.ok hp1 h1 _ rfl⟩
  · exact hp1.elim
theorem re_and {rest : List Expr} (ha : PE X a (RE X Γ W a')) (hb : PE X (.BoolOp .And (b :: rest) pos) (RE X Γ W b')) : PE X (.BoolOp .And (a :: b :: rest) pos) (RE X Γ W (.and a' b')) := by
  refine PE.imp (pe_andT ha hb) fun σ H Q ⟨ι, ρ, c, hσ, hH, hp⟩ => ?_
  unfold dE at hp
  refine ⟨ι, ρ, c, hσ, hH, (Post.bind hp).imp fun x c1 ι1 H1 e1 h1 hp1 v rv => ?_⟩
  split at hp1
  · rename_i q
    refine ⟨true, truth_ok h1 rv q, ?_⟩
    refine iteT ?_
    exact ⟨ι1, ρ, c1, hσ.mono e1, h1, hp1⟩
  · rename_i q
    refine ⟨false, truth_ok h1 rv q, ?_⟩
    refine iteF ?_
    exact Post.ok hp1 h1 v rv
  · exact hp1.elim
theorem re_or {rest : List Expr} (ha : PE X a (RE X Γ W a')) (hb : PE X (.BoolOp .Or (b :: rest) pos) (RE X Γ W b')) : PE X (.BoolOp .Or (a :: b :: rest) pos) (RE X Γ W (.or a' b')) := by
  refine PE.imp (pe_orT ha hb) fun σ H Q ⟨ι, ρ, c, hσ, hH, hp⟩ => ?_
  unfold dE at hp
  refine ⟨ι, ρ, c, hσ, hH, (Post.bind hp).imp fun x c1 ι1 H1 e1 h1 hp1 v rv => ?_⟩
  split at hp1
  · rename_i q
    refine ⟨true, truth_ok h1 rv q, ?_⟩
    refine iteT ?_
    exact Post.ok hp1 h1 v rv
  · rename_i q
    refine ⟨false, truth_ok h1 rv q, ?_⟩
    refine iteF ?_
    exact ⟨ι1, ρ, c1, hσ.mono e1, h1, hp1⟩
  · exact hp1.elim
theorem re_ite {t : Expr} {t' : IE} (ht : PT X t (RT X Γ W t')) (ha : PE X a (RE X Γ W a')) (hb : PE X b (RE X Γ W b')) : PE X (.IfExp t a b pos) (RE X Γ W (.ite t' a' b')) := by
  refine PE.imp (pe_ifExp ht ha hb) fun σ H Q ⟨ι, ρ, c, hσ, hH, hp⟩ => ?_
  unfold dE at hp
  refine ⟨ι, ρ, c, hσ, hH, (Post.bind hp).imp fun x c1 ι1 H1 e1 h1 hp1 => ?_⟩
  split at hp1
  · rename_i q
    refine ⟨true, q, ?_⟩
    refine iteT ?_
    exact ⟨ι1, ρ, c1, hσ.mono e1, h1, hp1⟩
  · rename_i q
    refine ⟨false, q, ?_⟩
    refine iteF ?_
    exact ⟨ι1, ρ, c1, hσ.mono e1, h1, hp1⟩
  · exact hp1.elim
theorem re_chain (ok : Ok X g N sc Γ W k) {e3 : Expr} {e3' : IE} {o o' : CmpOp} (hm : behindInMarks o b = false) (hm' : behindInMarks o' e3 = false) (ha : PE X a (RE X Γ W a')) (hb : PE X b (RE X Γ W b')) (hc : PE X e3 (RE X Γ W e3'))
    (go : PE X (.Compare a [o, o'] [b, e3] pos) (tChain (rS X.K (opCmp o)) (rS X.K (opCmp o')) (RE X Γ W a') (RE X Γ W b') (RE X Γ W e3'))) : PE X (.Compare a [o, o'] [b, e3] pos) (RE X Γ W (.chain o o' a' b' e3')) := by
  refine PE.imp go fun σ H Q ⟨ι, ρ, c, hσ, hH, hp⟩ => ?_
  unfold dE at hp
  refine ⟨ι, ρ, c, hσ, hH, (Post.bind hp).imp fun x c1 ι1 H1 e1 h1 hp1 v rv => ⟨ι1, ρ, c1, hσ.mono e1, h1, (Post.bind hp1).imp fun y c2 ι2 H2 e2 h2 hp2 u ru => ?_⟩⟩
  cases q : opCmp o x y c2 with
  | ok d c3 =>
    rw [q, R.bind_ok] at hp2
    refine ⟨ι2, c2, x, y, d, c3, h2, rv.mono e2, ru, q, fun ι3 H3 w e3 h3 rw' => ?_⟩
    split at hp2
    · cases rw'
      refine ⟨true, rfl, ?_⟩
      simp only [if_true]
      refine ⟨ι3, ρ, c3, (hσ.mono (e1.trans (e2.trans e3))), h3, (Post.bind (hp2.mono e3)).imp fun z c4 ι4 H4 e4 h4 hp4 zz rz => ?_⟩
      cases q2 : opCmp o' y z c4 with
      | ok d2 c5 =>
        rw [q2] at hp4
        exact ⟨ι4, c4, y, z, d2, c5, h4, ru.mono (e3.trans e4), rz, q2, fun ι' H' w e5 h5 r5 => hp4 ι' H' e5 h5 w r5⟩
      | ex _ _ => exact absurd q2 noex_cmp
      | no => rw [q2] at hp4; exact hp4.elim
    · cases rw'
      refine ⟨false, rfl, ?_⟩
      simp only [Bool.false_eq_true, if_false]
      exact (hp2.mono e3).ok h3 _ rfl
    · exact hp2.elim
  | ex z c3 => exact absurd q noex_cmp
  | no => rw [q] at hp2; exact hp2.elim

/-! ### tests -/
theorem rt_plain (ha : PE X a (RE X Γ W a')) (he : ∀ whole, isTrue a X.env whole = (do let v ← whole; standAt a.pos; holding [v] (truthy v))) : PT X a (RT X Γ W a') := by
  refine PT.imp (pt_truth ha he) fun σ H Q ⟨ι, ρ, c, hσ, hH, hp⟩ => ⟨ι, ρ, c, hσ, hH, hp.imp fun x c1 ι1 H1 e1 h1 ⟨b, q, hq⟩ v rv => ⟨b, truth_ok h1 rv q, hq⟩⟩
theorem rt_not (ha : PT X a (RT X Γ W a')) : PT X (.UnaryOp .Not a pos) (RT X Γ W (.not a')) := by
  refine PT.imp (pt_not ha) fun σ H Q ⟨ι, ρ, c, hσ, hH, hp⟩ => ?_
  unfold dE at hp
  refine ⟨ι, ρ, c, hσ, hH, (Post.bind hp).imp fun x c1 ι1 H1 e1 h1 hp1 => ?_⟩
  split at hp1
  · rename_i b q
    obtain ⟨b2, e, hq⟩ := Post.ok hp1 h1
    cases e
    exact ⟨b, q, hq⟩
  · exact hp1.elim
theorem rt_and {rest : List Expr} (ha : PT X a (RT X Γ W a')) (hb : PW X (.BoolOp .And (b :: rest) pos) (RT X Γ W b')) : PW X (.BoolOp .And (a :: b :: rest) pos) (RT X Γ W (.and a' b')) := by
  refine PW.imp (pw_and ha hb) fun σ H Q ⟨ι, ρ, c, hσ, hH, hp⟩ => ?_
  unfold dE at hp
  refine ⟨ι, ρ, c, hσ, hH, (Post.bind hp).imp fun x c1 ι1 H1 e1 h1 hp1 => ?_⟩
  split at hp1
  · rename_i q
    refine ⟨true, q, ?_⟩
    refine iteT ?_
    exact ⟨ι1, ρ, c1, hσ.mono e1, h1, hp1⟩
  · rename_i q
    refine ⟨false, q, ?_⟩
    refine iteF ?_
    obtain ⟨b2, e, hq⟩ := Post.ok hp1 h1
    rw [q] at e; cases e
    exact hq
  · exact hp1.elim
theorem rt_or {rest : List Expr} (ha : PT X a (RT X Γ W a')) (hb : PW X (.BoolOp .Or (b :: rest) pos) (RT X Γ W b')) : PW X (.BoolOp .Or (a :: b :: rest) pos) (RT X Γ W (.or a' b')) := by
  refine PW.imp (pw_or ha hb) fun σ H Q ⟨ι, ρ, c, hσ, hH, hp⟩ => ?_
  unfold dE at hp
  refine ⟨ι, ρ, c, hσ, hH, (Post.bind hp).imp fun x c1 ι1 H1 e1 h1 hp1 => ?_⟩
  split at hp1
  · rename_i q
    refine ⟨true, q, ?_⟩
    refine iteT ?_
    obtain ⟨b2, e, hq⟩ := Post.ok hp1 h1
    rw [q] at e; cases e
    exact hq
  · rename_i q
    refine ⟨false, q, ?_⟩
    refine iteF ?_
    exact ⟨ι1, ρ, c1, hσ.mono e1, h1, hp1⟩
  · exact hp1.elim
theorem rt_ite {t : Expr} {t' : IE} (ht : PT X t (RT X Γ W t')) (ha : PT X a (RT X Γ W a')) (hb : PT X b (RT X Γ W b')) : PT X (.IfExp t a b pos) (RT X Γ W (.ite t' a' b')) := by
  refine ⟨fun pins s σ H Q I ⟨ι, ρ, c, hσ, hH, hp⟩ => ?_⟩
  unfold dE at hp
  show wpAny _ _ (do if ← isTrue t X.env (eval t X.env) then isTrue a X.env (eval a X.env) else isTrue b X.env (eval b X.env)) _ _ _
  refine wpAny_bind (thn (ht.run pins s σ H (fun bb H1 => ∃ ι1 ρ1 c1, SRep X.K ι1 H1 σ ρ1 ∧ HRep X.K ι1 H1 c1 ∧ Post X.K X.mg W σ ι1 H1 (if bb = true then dE Γ a' ρ1 c1 else dE Γ b' ρ1 c1) fun d c' ι' H' => ∃ b, truth c' d = some b ∧ Q b H') I
    ⟨ι, ρ, c, hσ, hH, (Post.bind hp).imp fun x c1 ι1 H1 e1 h1 hp1 => ?_⟩) fun bb s1 ⟨H1, I1, ι1, ρ1, c1, hσ1, hH1, hp1⟩ => ?_)
  · split at hp1
    · rename_i q
      exact ⟨true, q, ι1, ρ, c1, hσ.mono e1, h1, hp1⟩
    · rename_i q
      exact ⟨false, q, ι1, ρ, c1, hσ.mono e1, h1, hp1⟩
    · exact hp1.elim
  · cases bb with
    | true => exact ha.run pins s1 σ H1 Q I1 ⟨ι1, ρ1, c1, hσ1, hH1, hp1⟩
    | false => exact hb.run pins s1 σ H1 Q I1 ⟨ι1, ρ1, c1, hσ1, hH1, hp1⟩
theorem opCmp_bl {o : CmpOp} {x y d : D} {c c' : Cells} (h : opCmp o x y c = .ok d c') : ∃ b, d = .bl b := by
  cases o with
  | Eq => obtain ⟨b, _, rfl, _⟩ := obl_ok h; exact ⟨b, rfl⟩
  | NotEq => obtain ⟨b, _, rfl, _⟩ := obl_ok h; exact ⟨b, rfl⟩
  | In => obtain ⟨b, _, rfl, _⟩ := obl_ok h; exact ⟨b, rfl⟩
  | NotIn => obtain ⟨b, _, rfl, _⟩ := obl_ok h; exact ⟨b, rfl⟩
  | _ => unfold opCmp at h; dsimp only at h; split at h <;> cases h <;> exact ⟨_, rfl⟩
theorem rt_cmp (ok : Ok X g N sc Γ W k) {o : CmpOp} (hm : behindInMarks o b = false) (ha : PE X a (RE X Γ W a')) (hb : PE X b (RE X Γ W b')) : PT X (.Compare a [o] [b] pos) (RT X Γ W (.cmp o a' b')) := by
  refine PT.imp (pt_cmpR (opCmp_s (by have := ok.room.un; omega) o) ha hb hm) fun σ H Q ⟨ι, ρ, c, hσ, hH, hp⟩ => ?_
  unfold dE at hp
  refine ⟨ι, ρ, c, hσ, hH, (Post.bind hp).imp fun x c1 ι1 H1 e1 h1 hp1 v rv => ⟨ι1, ρ, c1, hσ.mono e1, h1, (Post.bind hp1).imp fun y c2 ι2 H2 e2 h2 hp2 u ru => ?_⟩⟩
  cases q : opCmp o x y c2 with
  | ok d c3 =>
    rw [q] at hp2
    obtain ⟨bb, rfl⟩ := opCmp_bl q
    refine ⟨ι2, c2, x, y, _, c3, h2, rv.mono e2, ru, q, fun ι3 H3 w e3 h3 rw' => ?_⟩
    obtain ⟨b2, z, hq⟩ := hp2 ι3 H3 e3 h3
    cases z
    cases rw'
    exact ⟨bb, rfl, hq⟩
  | ex _ _ => exact absurd q noex_cmp
  | no => rw [q] at hp2; exact hp2.elim
theorem rt_chain (ok : Ok X g N sc Γ W k) {e3 : Expr} {e3' : IE} {o o' : CmpOp} {tt : TT} (go : PT X (.Compare a [o, o'] [b, e3] pos) tt)
    (ht : ∀ σ H Q, tChain (rS X.K (opCmp o)) (rS X.K (opCmp o')) (RE X Γ W a') (RE X Γ W b') (RE X Γ W e3') σ H (fun z H' => ∃ k, z = .bl k ∧ Q k H') → tt σ H Q) : PT X (.Compare a [o, o'] [b, e3] pos) (RT X Γ W (.chain o o' a' b' e3')) := by
  refine PT.imp go fun σ H Q ⟨ι, ρ, c, hσ, hH, hp⟩ => ht σ H Q ?_
  unfold dE at hp
  refine ⟨ι, ρ, c, hσ, hH, (Post.bind hp).imp fun x c1 ι1 H1 e1 h1 hp1 v rv => ⟨ι1, ρ, c1, hσ.mono e1, h1, (Post.bind hp1).imp fun y c2 ι2 H2 e2 h2 hp2 u ru => ?_⟩⟩
  cases q : opCmp o x y c2 with
  | ok d c3 =>
    rw [q, R.bind_ok] at hp2
    refine ⟨ι2, c2, x, y, d, c3, h2, rv.mono e2, ru, q, fun ι3 H3 w e3 h3 rw' => ?_⟩
    split at hp2
    · cases rw'
      refine ⟨true, rfl, ?_⟩
      simp only [if_true]
      refine ⟨ι3, ρ, c3, (hσ.mono (e1.trans (e2.trans e3))), h3, (Post.bind (hp2.mono e3)).imp fun z c4 ι4 H4 e4 h4 hp4 zz rz => ?_⟩
      cases q2 : opCmp o' y z c4 with
      | ok d2 c5 =>
        rw [q2] at hp4
        obtain ⟨bb, rfl⟩ := opCmp_bl q2
        refine ⟨ι4, c4, y, z, _, c5, h4, ru.mono (e3.trans e4), rz, q2, fun ι' H' w e5 h5 r5 => ?_⟩
        obtain ⟨b2, z2, hq⟩ := hp4 ι' H' e5 h5
        cases z2
        cases r5
        exact ⟨bb, rfl, hq⟩
      | ex _ _ => exact absurd q2 noex_cmp
      | no => rw [q2] at hp4; exact hp4.elim
    · cases rw'
      refine ⟨false, rfl, ?_⟩
      simp only [Bool.false_eq_true, if_false]
      obtain ⟨b2, z2, hq⟩ := (hp2.mono e3).ok h3
      cases z2
      exact ⟨false, rfl, hq⟩
    · exact hp2.elim
  | ex z c3 => exact absurd q noex_cmp
  | no => rw [q] at hp2; exact hp2.elim

/-! ### lists of expressions -/
variable {es : List Expr} {es' : List IE}
theorem ra_nil : PA X [] (RA X Γ W []) := PA.imp pa_nil fun σ H Q ⟨ι, ρ, c, hσ, hH, hp⟩ => by
  unfold dEs at hp
  exact Post.ok hp hH [] rfl
theorem ra_cons (hs : starEach (e :: es) X.env = (false, eval e X.env) :: starEach es X.env) (ha : PE X e (RE X Γ W e')) (hr : PA X es (RA X Γ W es')) : PA X (e :: es) (RA X Γ W (e' :: es')) := by
  refine PA.imp (pa_cons ha hr hs) fun σ H Q ⟨ι, ρ, c, hσ, hH, hp⟩ => ?_
  unfold dEs at hp
  refine ⟨ι, ρ, c, hσ, hH, (Post.bind hp).imp fun x c1 ι1 H1 e1 h1 hp1 v rv => ⟨ι1, ρ, c1, hσ.mono e1, h1, (Post.bind hp1).imp fun ys c2 ι2 H2 e2 h2 hp2 us rus => ?_⟩⟩
  exact Post.ok hp2 h2 _ ⟨v, us, rfl, rv.mono e2, rus⟩
theorem re_tup {j : Nat} (h : PA X es (RA X Γ W es')) : PE X (.Tuple es j pos) (RE X Γ W (.tup es')) := by
  refine PE.imp (pe_tup h) fun σ H Q ⟨ι, ρ, c, hσ, hH, hp⟩ => ?_
  unfold dE at hp
  refine ⟨ι, ρ, c, hσ, hH, (Post.bind hp).imp fun xs c1 ι1 H1 e1 h1 hp1 vs rv => ?_⟩
  split at hp1
  · rename_i hl
    exact ⟨by rw [rv.length, ← lim_eq]; exact hl, fun p hp => q_tup h1 rv hp fun ι' H' w e2 h2 r2 => hp1 ι' H' e2 h2 w r2⟩
  · exact hp1.elim
theorem re_lst (h : PA X es (RA X Γ W es')) : PE X (.List es pos) (RE X Γ W (.lst es')) := by
  refine PE.imp (pe_lst h) fun σ H Q ⟨ι, ρ, c, hσ, hH, hp⟩ => ?_
  unfold dE at hp
  refine ⟨ι, ρ, c, hσ, hH, (Post.bind hp).imp fun xs c1 ι1 H1 e1 h1 hp1 vs rv => ?_⟩
  split at hp1
  · rename_i hl
    exact ⟨by rw [rv.length, ← lim_eq]; exact hl, fun p hp => q_lst h1 rv hp fun ι' H' w e2 h2 r2 => hp1 ι' H' e2 h2 w r2⟩
  · exact hp1.elim
theorem re_sl {lo hi : Option Expr} {lo' hi' : IE} {p2 : Pos} (ha : PE X a (RE X Γ W a')) (hl : PO X lo (RO X Γ W lo')) (hh : PO X hi (RO X Γ W hi')) : PE X (.Subscript a (.Slice lo hi none p2) pos) (RE X Γ W (.sl a' lo' hi')) := by
  refine PE.imp (pe_slice opSl_s ha hl hh) fun σ H Q ⟨ι, ρ, c, hσ, hH, hp⟩ => ?_
  unfold dE at hp
  refine ⟨ι, ρ, c, hσ, hH, (Post.bind hp).imp fun x c1 ι1 H1 e1 h1 hp1 v rv => ⟨ι1, ρ, c1, hσ.mono e1, h1, (Post.bind hp1).imp fun l c2 ι2 H2 e2 h2 hp2 => ⟨ι2, ρ, c2, hσ.mono (e1.trans e2), h2, (Post.bind hp2).imp fun u c3 ι3 H3 e3 h3 hp3 => ?_⟩⟩⟩
  cases q : opSl x l u c3 with
  | ok d c4 =>
    rw [q] at hp3
    exact ⟨ι3, c3, x, d, c4, h3, rv.mono (e2.trans e3), q, fun ι' H' w e4 h4 r4 => hp3 ι' H' e4 h4 w r4⟩
  | ex _ _ => exact absurd q noex_sl
  | no => rw [q] at hp3; exact hp3.elim
theorem ro_no : PO X none (RO X Γ W .no) := by
  refine ⟨fun pins s σ H Q I ⟨ι, ρ, c, hσ, hH, hp⟩ => (po_none (X := X)).run pins s σ H Q I ?_⟩
  unfold dO at hp
  exact Post.ok hp hH
theorem dO_val {ρ : Lo} {c : Cells} (h : a' ≠ .no) : dO Γ a' ρ c = (dE Γ a' ρ c).bind fun x c1 => match x with | .int i => .ok (some i) c1 | _ => .no := by
  cases a' <;> first | exact absurd rfl h | (rw [dO] <;> first | rfl | nofun)
theorem ro_some (hn : a' ≠ .no) (h : PE X a (RE X Γ W a')) : PO X (some a) (RO X Γ W a') := by
  refine ⟨fun pins s σ H Q I ⟨ι, ρ, c, hσ, hH, hp⟩ => (po_some h).run pins s σ H Q I ?_⟩
  rw [dO_val hn] at hp
  refine ⟨ι, ρ, c, hσ, hH, (Post.bind hp).imp fun x c1 ι1 H1 e1 h1 hp1 v rv => ?_⟩
  split at hp1
  · cases rv
    exact ⟨_, rfl, Post.ok hp1 h1⟩
  · exact hp1.elim

/-! ### calls -/
theorem re_call (ok : Ok X g N sc Γ W k) {f : String} {x : Str} {p : Pos} (hf : f ∈ g.fns) (hx : Str.ofString f = x) (hg : Gl X x) (hd : (x == ("__debug__" : Str)) = false) (ha : PA X (e :: es) (RA X Γ W es'))
    (he : starEach (e :: es) X.env = (false, eval e X.env) :: starEach es X.env) (hpl : (backTo pos (starEach es X.env)).any (·.1) = false) : PE X (.Call (.Name x p) (e :: es) [] pos) (RE X Γ W (.call f es')) := by
  obtain ⟨ad, fd, ps, h1, h2, h3, h4⟩ := ok.fns f hf
  rw [hx] at h1
  refine PE.imp (pe_callS (E := WE W) h4 ok.room hg h1 h2 h3 (fun σ => passAt ok.tk σ) ha hd he hpl) fun σ H Q ⟨ι, ρ, c, hσ, hH, hp⟩ => ?_
  unfold dE at hp
  exact ⟨ι, ρ, c, hσ, hH, (Post.bind hp).imp fun xs c1 ι1 H1 e1 h1 hp1 vs rv => ⟨ι1, c1, xs, h1, rv, by
    cases q : Γ.call f xs c1 with
    | ok d c2 => rw [q] at hp1; exact hp1
    | ex z c2 => rw [q] at hp1; exact hp1
    | no => rw [q] at hp1; exact hp1⟩⟩
theorem re_call0 (ok : Ok X g N sc Γ W k) {f : String} {x : Str} {p : Pos} (hf : f ∈ g.fns) (hx : Str.ofString f = x) (hg : Gl X x) (hd : (x == ("__debug__" : Str)) = false) : PE X (.Call (.Name x p) [] [] pos) (RE X Γ W (.call f [])) := by
  obtain ⟨ad, fd, ps, h1, h2, h3, h4⟩ := ok.fns f hf
  rw [hx] at h1
  refine ⟨fun pins s σ H Q I ⟨ι, ρ, c, hσ, hH, hp⟩ => ?_⟩
  unfold dE at hp
  have hp1 : Post X.K X.mg W σ ι H (Γ.call f [] c) fun d _ ι' H' => ∀ v, Rep X.K ι' H' d v → Q v H' := by
    simp only [dEs, R.bind_ok] at hp
    exact hp
  refine wpAny_Call_Name_kw (ld_glob I hg h1 ?_ hd)
  refine PySem.W.callWith_K0 I.kIn h2 (run_fnS (us := []) (E := WE W) h4 ok.room h3 (passAt ok.tk σ) I .nil ⟨ι, c, [], hH, rfl, ?_⟩)
  cases q : Γ.call f [] c with
  | ok d c2 => rw [q] at hp1; exact hp1
  | ex z c2 => rw [q] at hp1; exact hp1
  | no => rw [q] at hp1; exact hp1.elim
theorem blt_of {T : TA} {r : List V → Hp → VK → Prop} {b : Blt} (h : PE X e (tCB r (RA X Γ W es'))) (hr : ∀ vs H Q, rS1 X.K (opBlt b) vs H Q → r vs H Q) : PE X e (RE X Γ W (.blt b es')) := by
  refine PE.imp h fun σ H Q ⟨ι, ρ, c, hσ, hH, hp⟩ => ?_
  unfold dE at hp
  refine ⟨ι, ρ, c, hσ, hH, (Post.bind hp).imp fun xs c1 ι1 H1 e1 h1 hp1 vs rv => hr _ _ _ ?_⟩
  cases q : opBlt b xs c1 with
  | ok d c2 => rw [q] at hp1; exact ⟨ι1, c1, xs, d, c2, h1, rv, q, fun ι' H' w e2 h2 r2 => hp1 ι' H' e2 h2 w r2⟩
  | ex _ _ => exact absurd q noex_blt
  | no => rw [q] at hp1; exact hp1.elim
theorem re_blt (ok : Ok X g N sc Γ W k) {b : Blt} {x : Str} {p : Pos} (hg : Gl X x) (hm : X.mg x = none) (hd : (x == ("__debug__" : Str)) = false) (hn : x ≠ "__name__") (hv : bootBuiltins x = some (bltVal b)) (ha : PA X (e :: es) (RA X Γ W es'))
    (he : starEach (e :: es) X.env = (false, eval e X.env) :: starEach es X.env) (hpl : (backTo pos (starEach es X.env)).any (·.1) = false) : PE X (.Call (.Name x p) (e :: es) [] pos) (RE X Γ W (.blt b es')) := by
  have hs := opBlt_s ok.calm b
  cases b <;> first
    | exact blt_of (T := RA X Γ W es') (pe_callB hs hg hm hv ha hn hd he hpl) fun _ _ _ h => h
    | exact blt_of (T := RA X Γ W es') (pe_callTy hs hg hm hv ha hn hd he hpl) fun _ _ _ h => h
end
end G
end

section
set_option Elab.async false
set_option linter.all false
set_option maxRecDepth 100000
set_option maxHeartbeats 4000000
set_option autoImplicit false
/-! GExpr2: isinstance, methods, targets, what is walked, comprehensions. -/
namespace G
open PySem L2
variable [Tables]
section
variable {X : Cx} {g : GI} {N : List Str} {sc : Scope} {Γ : Ctx} {W : WX} {k : Nat} {pos : Pos} {a b e : Expr} {a' b' e' : IE} {es : List Expr} {es' : List IE}

/-! ### isinstance -/
theorem kit_all : ∀ t ∈ ["NoneType", "bool", "int", "str", "tuple", "list", "dict", "set"], ∀ u ∈ bltTys, kitB t u = some (t == u || (t == "bool" && u == "int")) := by decide +kernel
theorem tyOf_mem {c : Cells} {x : D} {t : String} (h : tyOf c x = some t) : t ∈ ["NoneType", "bool", "int", "str", "tuple", "list", "dict", "set"] := by
  unfold tyOf at h
  split at h <;> first
    | (cases h; decide)
    | (split at h <;> first | (cases h; decide) | cases h)
theorem tyx_of {ι : List (Addr × Bool)} {H : Hp} {c : Cells} {x : D} {v : V} {t : String} (hH : HRep X.K ι H c) (r : Rep X.K ι H x v) (h : tyOf c x = some t) : TyX X.K H v (.type t) := by
  unfold tyOf at h
  split at h
  · cases h; cases r; exact .base .non
  · cases h; cases r; exact .base (.bl _)
  · cases h; cases r; exact .base (.int _)
  · cases h; cases r; exact .base (.str _)
  · cases h
    obtain ⟨p, vs, rfl, s1, _⟩ := r
    rcases s1 with (s1 | ⟨o, s1⟩) | ⟨o, its, n, h1, h2, _⟩
    · exact .base (.tup s1)
    · exact .fTuple s1
    · exact .kTuple h1 h2
  · split at h
    · rename_i g
      cases h
      obtain ⟨ad, vs, g1, e1, _⟩ := hH.lst g
      cases rep_fn r g1
      exact .base (.lst e1)
    · rename_i g
      cases h
      obtain ⟨ad, w, g1, ⟨vs, q, _⟩, _⟩ := hH.at g
      cases rep_fn r ⟨w, g1⟩
      rcases q with ⟨o, q⟩ | ⟨o, its, n, h1, h2, _⟩
      · exact .base (.frz q)
      · exact .kList h1 h2
    · rename_i g
      obtain ⟨ad, w, _, z, _⟩ := hH.at g
      exact z.elim
    · rename_i g
      obtain ⟨ad, w, _, z, _⟩ := hH.at g
      exact z.elim
    · cases h
theorem boot_tys : ∀ u ∈ bltTys, bootBuiltins (Str.ofString u) = some (.type u) := by decide +kernel
/-- a built-in class as a value -/
theorem pe_type (ok : Ok X g N sc Γ W k) {x : Str} {t : String} (hx : plainN x = true) (hg : glB sc x = true) (h : look bltTys x = some t) : PE X (.Name x pos) (tC (.ty t)) ∧ t ∈ bltTys := by
  obtain ⟨e1, e2⟩ := look_get h
  have hm : X.mg x = none := by
    have sub : ∀ u ∈ bltTys, u ∈ bltNames := by decide
    have : (look bltNames x).isSome = true := by
      unfold look
      rw [List.find?_isSome]
      exact ⟨t, sub t e2, by rw [e1]; exact beq_self_eq_true x⟩
    obtain ⟨b, hb⟩ := Option.isSome_iff_exists.mp this
    exact ok.blt x b hb
  refine ⟨pe_bltn (v := .ty t) (u := .type t) (gl_of (by rw [ok.hsc]; exact hg)) hm ?_ rfl (plain_name hx) (plain_dbg hx), e2⟩
  rw [← e1]
  exact boot_tys t e2
theorem re_isi (ok : Ok X g N sc Γ W k) {x : Str} {p : Pos} {c2 : Expr} {t : String} (ht : t ∈ bltTys) (hg : Gl X x) (hx : plainN x = true) (hm : X.mg x = none) (hv : bootBuiltins x = some (.builtin "isinstance")) (hc2 : PE X c2 (tC (.ty t)))
    (ha : PE X e (RE X Γ W e')) (he1 : starEach [e, c2] X.env = (false, eval e X.env) :: starEach [c2] X.env) (he2 : starEach [c2] X.env = (false, eval c2 X.env) :: starEach [] X.env) (hpl : (backTo pos (starEach [c2] X.env)).any (·.1) = false) :
    PE X (.Call (.Name x p) [e, c2] [] pos) (RE X Γ W (.isi e' [t])) := by
  refine PE.imp (pe_callB call_isi hg hm hv (pa_cons ha (pa_cons hc2 pa_nil he2) he1) (plain_name hx) (plain_dbg hx) he1 hpl) fun σ H Q ⟨ι, ρ, c, hσ, hH, hp⟩ => ?_
  unfold dE at hp
  refine ⟨ι, ρ, c, hσ, hH, (Post.bind hp).imp fun y c1 ι1 H1 e1 h1 hp1 v rv => ?_⟩
  split at hp1
  · rename_i ty q
    refine ⟨v, .ty t, .type ty, .type t, isTy ty [t], rfl, .ty t, tyx_of h1 rv q, kit_ty ?_, Post.ok hp1 h1 _ rfl⟩
    rw [kit_all ty (tyOf_mem q) t ht]
    simp [isTy]
  · exact hp1.elim
theorem kit_any {K : PySem.W.Frag} {ty : String} (h : ty ∈ ["NoneType", "bool", "int", "str", "tuple", "list", "dict", "set"]) : ∀ ts : List String, (∀ t ∈ ts, t ∈ bltTys) → PySem.W.kitAny K (.type ty) (ts.map Value.type) = some (isTy ty ts)
  | [], _ => rfl
  | t :: ts, hts => by
    have ih := kit_any (K := K) h ts fun u hu => hts u (List.mem_cons_of_mem _ hu)
    have k1 := kit_all ty h t (hts t List.mem_cons_self)
    rw [List.map_cons]
    refine kitAny_cons (b := (ty == t || (ty == "bool" && t == "int"))) (kit_ty k1) (fun hb => ?_) (fun hb => ?_)
    · rw [ih]
      unfold isTy
      rw [List.any_cons, hb, Bool.false_or]
    · unfold isTy
      rw [List.any_cons, hb, Bool.true_or]
/-- a tuple of built-in classes -/
def tTys (ts : List String) : TA := fun _ H Q => Q (ts.map V.ty) H
theorem pa_tys (ok : Ok X g N sc Γ W k) : ∀ (cs : List Expr) (ts : List String), tysE sc cs = some ts → PA X cs (tTys ts) ∧ ∀ t ∈ ts, t ∈ bltTys
  | [], ts, h => by
    cases h
    exact ⟨PA.imp pa_nil fun _ _ _ h => h, fun _ z => nomatch z⟩
  | c :: cs, ts, h => by
    unfold tysE at h
    obtain ⟨t, r, h3, h4, rfl⟩ := o2_some h
    obtain ⟨p1, p2⟩ := pa_tys ok cs r h4
    unfold tyE at h3
    split at h3
    · split at h3
      · rename_i x px hh
        simp only [Bool.and_eq_true] at hh
        obtain ⟨q1, q2⟩ := pe_type (pos := px) ok hh.1 hh.2 h3
        refine ⟨PA.imp (pa_cons q1 p1 rfl) fun σ H Q h => h, fun u hu => ?_⟩
        rcases List.mem_cons.mp hu with rfl | hu
        · exact q2
        · exact p2 u hu
      · cases h3
    · cases h3
theorem cls_tys : ∀ ts : List String, Paired ClsV (ts.map V.ty) (ts.map Value.type)
  | [] => .nil
  | t :: ts => .cons (.ty t) (cls_tys ts)
theorem re_isiT (ok : Ok X g N sc Γ W k) {x : Str} {p p3 : Pos} {cs : List Expr} {j : Nat} {ts : List String} (ht : tysE sc cs = some ts) (hg : Gl X x) (hx : plainN x = true) (hm : X.mg x = none) (hv : bootBuiltins x = some (.builtin "isinstance"))
    (hl : ts.length ≤ 100) (ha : PE X e (RE X Γ W e')) (he1 : starEach [e, .Tuple cs j p3] X.env = (false, eval e X.env) :: starEach [.Tuple cs j p3] X.env) :
    PE X (.Call (.Name x p) [e, .Tuple cs j p3] [] pos) (RE X Γ W (.isi e' ts)) := by
  obtain ⟨q1, q2⟩ := pa_tys ok cs ts ht
  refine PE.imp (pe_callB call_isiT hg hm hv (pa_cons ha (pa_cons (pe_tup q1) pa_nil rfl) he1) (plain_name hx) (plain_dbg hx) he1 rfl) fun σ H Q ⟨ι, ρ, c, hσ, hH, hp⟩ => ?_
  unfold dE at hp
  refine ⟨ι, ρ, c, hσ, hH, (Post.bind hp).imp fun y c1 ι1 H1 e1 h1 hp1 v rv => ⟨?_, fun tp htp => ?_⟩⟩
  · rw [List.length_map, sizeLine_eq]; omega
  · split at hp1
    · rename_i ty q
      refine ⟨v, tp, ts.map V.ty, .type ty, ts.map Value.type, isTy ty ts, rfl, upd_same, cls_tys ts, tyx_of (h1.new htp) (rv.mono (.new htp)) q, kit_any (tyOf_mem q) ts q2, ?_⟩
      exact (hp1.mono (.new htp)).ok (h1.new htp) _ rfl
    · exact hp1.elim

/-! ### methods -/
/-- the method's facts in the library -/
theorem re_meth {m : Me} {id : String} {name : Str} {o : Expr} {o' : IE} {apos : Pos} (pa : PlainAttrs "list") (slot : Slot "list" name id) (hty : typeOf (.builtin id) = pure (.type "method_descriptor")) (hmt : meT m = "list")
    (hm : MtR X id (fun v vs H Q => ∃ ι c x xs d c', HRep X.K ι H c ∧ Rep X.K ι H x v ∧ Reps X.K ι H xs vs ∧ opMeth m x xs c = .ok d c' ∧ ∀ ι' H' w, Ext ι H ι' H' → HRep X.K ι' H' c' → Rep X.K ι' H' d w → Q w H'))
    (ho : PE X o (RE X Γ W o')) (ha : PA X (e :: es) (RA X Γ W es')) (hbase : attributeBase o name X.env (eval o X.env) = eval o X.env)
    (hfew : ((backTo pos (starEach (e :: es) X.env)).all (fun x => !x.1) && (backToKw pos (keywordEach [] X.env)).all (fun x => x.1.isSome)
      && decide ((e :: es).length + ([] : List Keyword).length + (if ([] : List Keyword).isEmpty then 0 else 1) < 30)) = true)
    (hline : (apos.endLine == pos.line) = true) (hs : starEach (e :: es) X.env = (false, eval e X.env) :: starEach es X.env) (hplain : (backTo pos (starEach es X.env)).any (·.1) = false) :
    PE X (.Call (.Attribute o name apos) (e :: es) [] pos) (RE X Γ W (.meth m o' es')) := by
  refine PE.imp (pe_bm pa slot hty hm ho ha hbase hfew hline hs hplain) fun σ H Q ⟨ι, ρ, c, hσ, hH, hp⟩ => ?_
  unfold dE at hp
  refine ⟨ι, ρ, c, hσ, hH, (Post.bind hp).imp fun x c1 ι1 H1 e1 h1 hp1 v rv => ?_⟩
  split at hp1
  · rename_i hty
    rw [hmt] at hty
    refine ⟨?_, ι1, ρ, c1, hσ.mono e1, h1, (Post.bind hp1).imp fun xs c2 ι2 H2 e2 h2 hp2 vs rvs => ?_⟩
    · cases x with
      | ref n =>
        unfold tyOf at hty
        dsimp only at hty
        split at hty
        · rename_i gq
          obtain ⟨ad, us, g1, q1, _⟩ := h1.lst gq
          cases rep_fn rv g1
          exact .inl ⟨rfl, us, SqL.of q1⟩
        · rename_i ys gq
          obtain ⟨ad, us, g1, q1, _⟩ := h1.getL (show getL c1 n = some ys by unfold getL; rw [gq])
          cases rep_fn rv g1
          exact .inl ⟨rfl, us, q1⟩
        · rename_i gq
          obtain ⟨ad, w, _, z, _⟩ := h1.at gq
          exact z.elim
        · rename_i gq
          obtain ⟨ad, w, _, z, _⟩ := h1.at gq
          exact z.elim
        · cases hty
      | _ => simp [tyOf] at hty
    · cases q : opMeth m x xs c2 with
      | ok d c3 => rw [q] at hp2; exact ⟨ι2, c2, x, xs, d, c3, h2, rv.mono e2, rvs, q, fun ι' H' w e3 h3 r3 => hp2 ι' H' e3 h3 w r3⟩
      | ex _ _ => exact absurd q noex_meth
      | no => rw [q] at hp2; exact hp2.elim
  · exact hp1.elim
theorem mt_app : MtR X "list.append" (fun v vs H Q => ∃ ι c x xs d c', HRep X.K ι H c ∧ Rep X.K ι H x v ∧ Reps X.K ι H xs vs ∧ opMeth .append x xs c = .ok d c' ∧ ∀ ι' H' w, Ext ι H ι' H' → HRep X.K ι' H' c' → Rep X.K ι' H' d w → Q w H') := by
  intro pins s σ H v vs vv us Q I rv rs h
  obtain ⟨ι, c, x, xs, d, c', hH, rx, rxs, e, q⟩ := h
  unfold opMeth at e
  split at e
  · split at e
    · rename_i gq
      split at e <;> cases e
      rename_i hl
      obtain ⟨w, ws, rfl, r1, r2⟩ := rxs
      cases r2
      obtain ⟨ad, ys, g1, q1, r3⟩ := hH.lstW gq
      cases rep_fn rx ⟨true, g1⟩
      obtain ⟨e1, h1⟩ := hH.write g1 gq q1 (r3.append (.one r1))
      exact mt_append pins s σ H _ _ vv us Q I rv rs ⟨ad, ys, w, rfl, rfl, q1, by rw [r3.length, ← lim_eq]; exact hl, q ι _ _ e1 h1 rfl⟩
    · cases e
  · rename_i z; cases z
  · rename_i z; cases z
  · cases e
theorem mt_ext : MtR X "list.extend" (fun v vs H Q => ∃ ι c x xs d c', HRep X.K ι H c ∧ Rep X.K ι H x v ∧ Reps X.K ι H xs vs ∧ opMeth .extend x xs c = .ok d c' ∧ ∀ ι' H' w, Ext ι H ι' H' → HRep X.K ι' H' c' → Rep X.K ι' H' d w → Q w H') := by
  intro pins s σ H v vs vv us Q I rv rs h
  obtain ⟨ι, c, x, xs, d, c', hH, rx, rxs, e, q⟩ := h
  unfold opMeth at e
  split at e
  · rename_i z; cases z
  · split at e
    · rename_i gq gq2
      split at e <;> cases e
      rename_i hl
      obtain ⟨w, ws, rfl, r1, r2⟩ := rxs
      cases r2
      obtain ⟨ad, ys, g1, q1, r3⟩ := hH.lstW gq
      obtain ⟨ad2, zs, g2, q2, r4⟩ := hH.lst gq2
      cases rep_fn rx ⟨true, g1⟩
      cases rep_fn r1 g2
      obtain ⟨e1, h1⟩ := hH.write g1 gq q1 (r3.append r4)
      exact mt_extend pins s σ H _ _ vv us Q I rv rs ⟨ad, ad2, ys, zs, rfl, rfl, q1, q2, by rw [r3.length, r4.length, ← lim_eq]; exact hl, q ι _ _ e1 h1 rfl⟩
    · cases e
  · rename_i z; cases z
  · cases e

/-! ### targets -/
theorem asgs_len {c : Cells} : ∀ {ts : List Tg} {xs : List D} {ρ ρ' : Lo}, asgs c ts xs ρ = some ρ' → ts.length = xs.length
  | [], [], _, _, _ => rfl
  | [], _ :: _, _, _, h => by unfold asgs at h; cases h
  | _ :: _, [], _, _, h => by unfold asgs at h; cases h
  | t :: ts, x :: xs, ρ, ρ', h => by
    unfold asgs at h
    split at h
    · rw [List.length_cons, List.length_cons, asgs_len h]
    · cases h
mutual
theorem rg_of (ok : TOk X N sc) : ∀ (t : Expr) (t' : Tg), cT N sc t = some t' → PG X t (RG X t')
  | .Name x p, t', h => by
    unfold cT at h
    split at h
    · rename_i hl
      obtain ⟨i, hi, rfl⟩ := o1_some h
      have hN : X.N[i]? = some x := by rw [ok.hN]; exact slot_get hi
      have hloc := ok.loc x hl
      refine ⟨fun pins s σ H v u Q I r ⟨ι, ρ, c, d, ρ', hσ, hH, rd, ha, q⟩ => (pg_name (by rw [ok.hN]; exact ok.nd) hN hloc.1 hloc.2).run pins s σ H v u Q I r ?_⟩
      unfold asg at ha
      cases ha
      exact q _ (hσ.set rd) ⟨by simp, fun j hj => by rw [List.getElem?_set_ne]; intro z; exact hj (by simp [tgSlots, z])⟩
    · cases h
  | .Tuple ts j p, t', h => by
    unfold cT at h
    obtain ⟨ts', hts, rfl⟩ := o1_some h
    obtain ⟨p1, p2, p3⟩ := rgs_of ok ts ts' hts
    refine ⟨fun pins s σ H v u Q I r ⟨ι, ρ, c, d, ρ', hσ, hH, rd, ha, q⟩ => ?_⟩
    have len : ∀ {xs : List D}, asgs c ts' xs ρ = some ρ' → xs.length = ts.length := fun {xs} e => by
      rw [← p3]; exact (asgs_len e).symm
    cases d with
    | tup xs =>
      have ha : asgs c ts' xs ρ = some ρ' := ha
      obtain ⟨ad, vs, rfl, s1, r1⟩ := rd
      exact (pg_tup ok.calm p1 (n := ts.length) p2.1 p2.2).run pins s σ H _ u Q I r ⟨ad, vs, rfl, s1, by rw [r1.length, len ha], ι, ρ, c, _, ρ', hσ, hH, r1, ha, fun σ' s' k' => q σ' s' (by unfold tgSlots; exact k')⟩
    | ref n =>
      have ha : (match c[n]? with | some (.lst xs) => asgs c ts' xs ρ | _ => none) = some ρ' := ha
      split at ha
      · rename_i gq
        obtain ⟨ad, vs, g1, q1, r1⟩ := hH.lst gq
        cases rep_fn rd g1
        exact (pg_lst ok.calm p1 (n := ts.length) p2.1 p2.2).run pins s σ H _ u Q I r ⟨ad, vs, rfl, SqL.of q1, by rw [r1.length, len ha], ι, ρ, c, _, ρ', hσ, hH, r1, ha, fun σ' s' k' => q σ' s' (by unfold tgSlots; exact k')⟩
      · cases ha
    | _ => cases (show (none : Option Lo) = some ρ' from ha)
  | .BoolOp .., _, h => by unfold cT at h; cases h
  | .NamedExpr .., _, h => by unfold cT at h; cases h
  | .BinOp .., _, h => by unfold cT at h; cases h
  | .UnaryOp .., _, h => by unfold cT at h; cases h
  | .Lambda .., _, h => by unfold cT at h; cases h
  | .IfExp .., _, h => by unfold cT at h; cases h
  | .Dict .., _, h => by unfold cT at h; cases h
  | .Set .., _, h => by unfold cT at h; cases h
  | .ListComp .., _, h => by unfold cT at h; cases h
  | .SetComp .., _, h => by unfold cT at h; cases h
  | .DictComp .., _, h => by unfold cT at h; cases h
  | .GeneratorExp .., _, h => by unfold cT at h; cases h
  | .Await .., _, h => by unfold cT at h; cases h
  | .Yield .., _, h => by unfold cT at h; cases h
  | .YieldFrom .., _, h => by unfold cT at h; cases h
  | .Compare .., _, h => by unfold cT at h; cases h
  | .Call .., _, h => by unfold cT at h; cases h
  | .FormattedValue .., _, h => by unfold cT at h; cases h
  | .JoinedStr .., _, h => by unfold cT at h; cases h
  | .Constant .., _, h => by unfold cT at h; cases h
  | .Attribute .., _, h => by unfold cT at h; cases h
  | .Subscript .., _, h => by unfold cT at h; cases h
  | .Starred .., _, h => by unfold cT at h; cases h
  | .List .., _, h => by unfold cT at h; cases h
  | .Slice .., _, h => by unfold cT at h; cases h
theorem rgs_of (ok : TOk X N sc) : ∀ (ts : List Expr) (ts' : List Tg), cTs N sc ts = some ts' → PGs X ts (RGs X ts') ∧ ((assignEach ts X.env).length = ts.length ∧ (assignEach ts X.env).findIdx? (·.1) = none) ∧ ts'.length = ts.length
  | [], ts', h => by
    unfold cTs at h
    cases h
    refine ⟨⟨fun pins s σ H vs us Q I r ⟨ι, ρ, c, ds, ρ', hσ, hH, rd, ha, q⟩ => pgs_nil.run pins s σ H vs us Q I r ?_⟩, ⟨rfl, rfl⟩, rfl⟩
    cases ds with
    | nil =>
      unfold asgs at ha
      cases ha
      cases rd
      exact ⟨rfl, q _ hσ ⟨rfl, fun _ _ => rfl⟩⟩
    | cons d ds => unfold asgs at ha; cases ha
  | t :: ts, ts', h => by
    unfold cTs at h
    obtain ⟨t', us', h1, h2, rfl⟩ := o2_some h
    have p1 := rg_of ok t t' h1
    obtain ⟨q1, ⟨q2, q3⟩, q4⟩ := rgs_of ok ts us' h2
    have hae : assignEach (t :: ts) X.env = (false, assign t X.env) :: assignEach ts X.env := by
      cases t <;> first | rfl | (unfold cT at h1; cases h1)
    refine ⟨⟨fun pins s σ H vs us Q I r ⟨ι, ρ, c, ds, ρ', hσ, hH, rd, ha, q⟩ => (pgs_cons p1 q1 (by rw [hae]; rfl)).run pins s σ H vs us Q I r ?_⟩, ⟨by rw [hae, List.length_cons, List.length_cons, q2], by rw [hae, List.findIdx?_cons]; simp [q3]⟩, by rw [List.length_cons, List.length_cons, q4]⟩
    cases ds with
    | nil => unfold asgs at ha; cases ha
    | cons d ds =>
      obtain ⟨w, ws, rfl, r1, r2⟩ := rd
      unfold asgs at ha
      split at ha
      · rename_i ρ1 e1
        exact ⟨w, ws, rfl, ι, ρ, c, d, ρ1, hσ, hH, r1, e1, fun σ' hσ' k' => ⟨ι, ρ1, c, ds, ρ', hσ', hH, r2, ha, fun σ2 s2 k2 => q σ2 s2 ⟨k2.1.trans k'.1, fun i hi => by
          have h1 : i ∉ tgSlots t' ∧ i ∉ tgsSlots us' := by unfold tgsSlots at hi; simpa using hi
          exact (k2.2 i h1.2).trans (k'.2 i h1.1)⟩⟩⟩
      · cases ha
end
end
end G
end

section
set_option Elab.async false
set_option linter.all false
set_option maxRecDepth 100000
set_option maxHeartbeats 4000000
set_option autoImplicit false
/-! GExpr3: what is walked, comprehensions. -/
namespace G
open PySem L2
variable [Tables]
section
variable {X : Cx} {g : GI} {N : List Str} {sc : Scope} {Γ : Ctx} {W : WX} {k : Nat} {pos : Pos} {a b e tg : Expr} {a' b' e' : IE} {es : List Expr} {es' : List IE}
theorem same_nil {c c' : Cells} : same [] c c' = true := rfl
theorem same_one {n : Nat} {c c' : Cells} (h : same [n] c c' = true) : c'[n]? = c[n]? := by
  unfold same at h
  simp only [List.all_cons, List.all_nil, Bool.and_true, decide_eq_true_eq] at h
  exact h.symm
theorem walk_tup {K : PySem.W.Frag} {ι : List (Addr × Bool)} {H : Hp} {c : Cells} {xs : List D} {ad : Addr} {vs : List V} (s1 : SqT K H ad vs) (r1 : Reps K ι H xs vs)
    (inj : ∀ H' us, SqT K H' ad vs → SqT K H' ad us → us = vs) : Walk K (Itt K ad) ι H c xs [] := by
  intro ι' H' c' i e1 h1 _
  have s2 := sqt_mono s1 e1
  have r2 := r1.mono e1
  refine ⟨fun d hd => ?_, fun hl => ⟨vs, s2, by rw [r1.length]; exact hl⟩⟩
  obtain ⟨v, hv, rv⟩ := r2.get hd
  refine ⟨⟨vs, v, s2, hv⟩, fun x H'' hy => ?_⟩
  obtain ⟨rfl, hy⟩ := hy
  have : some v = some x := hv.symm.trans (hy vs s2)
  cases this
  exact ⟨.refl, h1, rv⟩
theorem walk_tup' {K : PySem.W.Frag} {ι : List (Addr × Bool)} {H : Hp} {c : Cells} {xs : List D} {ad : Addr} {vs : List V} (s1 : SqT K H ad vs) (r1 : Reps K ι H xs vs) : Walk K (Itt K ad) ι H c xs [] := by
  intro ι' H' c' i e1 h1 _
  have s2 := sqt_mono s1 e1
  have r2 := r1.mono e1
  refine ⟨fun d hd => ?_, fun hl => ⟨vs, s2, by rw [r1.length]; exact hl⟩⟩
  obtain ⟨v, hv, rv⟩ := r2.get hd
  refine ⟨⟨vs, v, s2, hv⟩, fun x H'' hy => ?_⟩
  obtain ⟨rfl, hy⟩ := hy
  have : some v = some x := hv.symm.trans (hy vs s2)
  cases this
  exact ⟨.refl, h1, rv⟩
theorem walk_lst {K : PySem.W.Frag} {ι : List (Addr × Bool)} {H : Hp} {c : Cells} {xs : List D} {n : Nat} {ad : Addr} (hn : At ι n ad) (hc : getL c n = some xs) : Walk K (Itl K ad) ι H c xs [n] := by
  intro ι' H' c' i e1 h1 sm
  have hc' : getL c' n = some xs := by
    unfold getL at hc ⊢
    rw [same_one sm]; exact hc
  obtain ⟨ad', vs, g1, s1, r1⟩ := h1.getL hc'
  have : ad' = ad := by
    obtain ⟨w, hn⟩ := hn
    exact g1.inj ⟨w, e1.get hn⟩
  subst this
  refine ⟨fun d hd => ?_, fun hl => ⟨vs, s1, by rw [r1.length]; exact hl⟩⟩
  obtain ⟨v, hv, rv⟩ := r1.get hd
  refine ⟨⟨vs, v, s1, hv⟩, fun x H'' hy => ?_⟩
  obtain ⟨rfl, hy⟩ := hy
  have : some v = some x := hv.symm.trans (hy vs s1)
  cases this
  exact ⟨.refl, h1, rv⟩
theorem getL_lst {c : Cells} {n : Nat} {xs : List D} (h : c[n]? = some (.lst xs)) : getL c n = some xs := by unfold getL; rw [h]
theorem getL_frz {c : Cells} {n : Nat} {xs : List D} (h : c[n]? = some (.frz xs)) : getL c n = some xs := by unfold getL; rw [h]
theorem dI_val {ρ : Lo} {c : Cells} (h1 : ∀ es, a' ≠ .rng es) (h2 : ∀ e, a' ≠ .enum e) (h3 : ∀ x y, a' ≠ .zip x y) : dI Γ a' ρ c = (dE Γ a' ρ c).bind fun x c1 => match x with
    | .tup xs => .ok (xs, []) c1
    | .ref n => (match c1[n]? with
      | some (.lst xs) => .ok (xs, [n]) c1
      | some (.frz xs) => .ok (xs, [n]) c1
      | _ => .no)
    | _ => .no := by
  cases a' <;> first | exact absurd rfl (h1 _) | exact absurd rfl (h2 _) | exact absurd rfl (h3 _ _) | (rw [dI] <;> first | rfl | nofun)
theorem ri_val (he : PE X e (RE X Γ W e')) (h1 : ∀ es, e' ≠ .rng es) (h2 : ∀ a, e' ≠ .enum a) (h3 : ∀ x y, e' ≠ .zip x y) : PI X tg e (RI X Γ W e') := by
  refine ⟨fun pins s σ H R I ⟨ι, ρ, c, hσ, hH, hp⟩ => ?_⟩
  rw [dI_val h1 h2 h3] at hp
  cases q : dE Γ e' ρ c with
  | ok d c1 =>
    rw [q, G.R.bind_ok] at hp
    cases d with
    | tup xs =>
      refine (pi_tup he).run pins s σ H R I ⟨ι, ρ, c, hσ, hH, ?_⟩
      rw [q]
      intro ι' H' e1 h1 v rv
      obtain ⟨ad, vs, rfl, s1, r1⟩ := rv
      exact ⟨ad, rfl, ⟨vs, s1⟩, hp ι' H' e1 h1 _ (walk_tup' s1 r1)⟩
    | ref n =>
      refine (pi_list he).run pins s σ H R I ⟨ι, ρ, c, hσ, hH, ?_⟩
      rw [q]
      intro ι' H' e1 h1 v rv
      obtain ⟨ad, rfl, g1⟩ := rv
      dsimp only at hp
      split at hp
      · rename_i gq
        have gl := getL_lst gq
        obtain ⟨ad', vs, g2, s1, _⟩ := h1.getL gl
        cases g1.inj g2
        exact ⟨ad, rfl, ⟨vs, s1⟩, hp ι' H' e1 h1 _ (walk_lst g1 gl)⟩
      · rename_i gq
        have gl := getL_frz gq
        obtain ⟨ad', vs, g2, s1, _⟩ := h1.getL gl
        cases g1.inj g2
        exact ⟨ad, rfl, ⟨vs, s1⟩, hp ι' H' e1 h1 _ (walk_lst g1 gl)⟩
      · exact hp.elim
    | _ => exact hp.elim
  | ex z c1 =>
    rw [q] at hp
    refine (pi_list he).run pins s σ H R I ⟨ι, ρ, c, hσ, hH, ?_⟩
    rw [q]
    exact hp
  | no => rw [q] at hp; exact hp.elim
theorem rng_get {n : Nat} {f : Nat → D} {i : Nat} {d : D} (h : ((List.range n).map f)[i]? = some d) : i < n ∧ d = f i := by
  rw [List.getElem?_map] at h
  obtain ⟨j, h1, h2⟩ := Option.map_eq_some_iff.mp h
  have hj := List.getElem?_eq_some_iff.mp h1
  obtain ⟨hl, e⟩ := hj
  simp at hl e
  subst e
  exact ⟨hl, h2.symm⟩
theorem walk_rng {K : PySem.W.Frag} {ι : List (Addr × Bool)} {H : Hp} {c : Cells} {lo hi : Int} : Walk K (Itr lo (hi - lo).toNat) ι H c (rngL lo hi) [] := by
  intro ι' H' c' i e1 h1 _
  refine ⟨fun d hd => ?_, fun hl => ?_⟩
  · obtain ⟨hi', rfl⟩ := rng_get hd
    exact ⟨hi', fun x H'' hy => by
      obtain ⟨rfl, rfl⟩ := hy
      exact ⟨.refl, h1, rfl⟩⟩
  · show (hi - lo).toNat ≤ i
    unfold rngL at hl
    simpa using hl
theorem walk_rngD {K : PySem.W.Frag} {ι : List (Addr × Bool)} {H : Hp} {c : Cells} {lo hi : Int} : Walk K (Itc lo (-1) (lo - hi).toNat) ι H c ((List.range (lo - hi).toNat).map fun (k : Nat) => D.int (lo - k)) [] := by
  intro ι' H' c' i e1 h1 _
  refine ⟨fun d hd => ?_, fun hl => ?_⟩
  · obtain ⟨hi', rfl⟩ := rng_get hd
    exact ⟨hi', fun x H'' hy => by
      obtain ⟨rfl, rfl⟩ := hy
      refine ⟨.refl, h1, ?_⟩
      show V.int _ = V.int _
      congr 1
      omega⟩
  · show (lo - hi).toNat ≤ i
    simpa using hl
theorem dI_rng {ρ : Lo} {c : Cells} : dI Γ (.rng es') ρ c = (dEs Γ es' ρ c).bind fun xs c1 => match rngOf xs with
    | some ys => .ok (ys, []) c1
    | none => .no := by first | (rw [dI]; done) | (rw [dI]; rfl)
theorem dEs_len {ρ : Lo} {c' : Cells} : ∀ {es : List IE} {xs : List D} {c : Cells}, dEs Γ es ρ c = .ok xs c' → xs.length = es.length
  | [], xs, c, h => by unfold dEs at h; cases h; rfl
  | e :: es, xs, c, h => by
    unfold dEs at h
    cases q : dE Γ e ρ c with
    | ok d c1 =>
      rw [q, G.R.bind_ok] at h
      cases q2 : dEs Γ es ρ c1 with
      | ok ys c2 =>
        rw [q2, G.R.bind_ok] at h
        cases h
        rw [List.length_cons, List.length_cons, dEs_len q2]
      | ex _ _ => rw [q2] at h; cases h
      | no => rw [q2] at h; cases h
    | ex _ _ => rw [q] at h; cases h
    | no => rw [q] at h; cases h
/-- no star -/
def NoStar (X : Cx) (e : Expr) : Prop := ∀ r, starEach (e :: r) X.env = (false, eval e X.env) :: starEach r X.env
theorem post_rng {σ : St} {ι : List (Addr × Bool)} {H : Hp} {Rr : It → Hp → Prop} {ρ : Lo} {c : Cells} (hp : Post X.K X.mg W σ ι H (dI Γ (.rng es') ρ c) (fun p c' ι' H' => ∀ J, Walk X.K J ι' H' c' p.1 p.2 → Rr J H')) :
    Post X.K X.mg W σ ι H (dEs Γ es' ρ c) fun xs c1 ι1 H1 => xs.length = es'.length ∧ ∃ ys, rngOf xs = some ys ∧ ∀ J, Walk X.K J ι1 H1 c1 ys [] → Rr J H1 := by
  rw [dI_rng] at hp
  have hp' := Post.bind hp
  cases q : dEs Γ es' ρ c with
  | ok xs c1 =>
    rw [q] at hp'
    intro ι' H' e1 h1
    have hz := hp' ι' H' e1 h1
    refine ⟨dEs_len q, ?_⟩
    dsimp only at hz
    split at hz
    · rename_i ys qy
      exact ⟨ys, qy, fun J w => hz.ok h1 J w⟩
    · exact hz.elim
  | ex _ _ => rw [q] at hp'; exact hp'
  | no => rw [q] at hp'; exact hp'
theorem ri_rng1 {p : Pos} {e1 : Expr} {x1 : IE} (hg : Gl X "range") (hm : X.mg "range" = none) (ha : PA X [e1] (RA X Γ W [x1])) (n1 : NoStar X e1) : PI X tg (.Call (.Name "range" p) [e1] [] pos) (RI X Γ W (.rng [x1])) := by
  refine ⟨fun pins s σ H R I ⟨ι, ρ, c, hσ, hH, hp⟩ => (pi_range1 hg hm ha (n1 [])).run pins s σ H R I ⟨ι, ρ, c, hσ, hH, (post_rng hp).imp fun xs c1 ι1 H1 e1 h1 ⟨hlen, ys, q, hR⟩ vs rv => ?_⟩⟩
  unfold rngOf at q
  split at q
  · split at q <;> cases q
    rename_i bb _ hb
    obtain ⟨w, ws, rfl, r1, r2⟩ := rv
    cases r1; cases r2
    refine ⟨_, rfl, hb.1, hb.2, hR _ ?_⟩
    have := walk_rng (K := X.K) (ι := ι1) (H := H1) (c := c1) (lo := 0) (hi := bb)
    simpa using this
  · cases hlen
  · cases hlen
  · cases q
theorem ri_rng2 {p : Pos} {e1 e2 : Expr} {x1 x2 : IE} (hg : Gl X "range") (hm : X.mg "range" = none) (ha : PA X [e1, e2] (RA X Γ W [x1, x2])) (n1 : NoStar X e1) (n2 : NoStar X e2) : PI X tg (.Call (.Name "range" p) [e1, e2] [] pos) (RI X Γ W (.rng [x1, x2])) := by
  refine ⟨fun pins s σ H R I ⟨ι, ρ, c, hσ, hH, hp⟩ => (pi_range2 hg hm ha (by rw [n1, n2]; rfl) (n2 [])).run pins s σ H R I ⟨ι, ρ, c, hσ, hH, (post_rng hp).imp fun xs c1 ι1 H1 e1 h1 ⟨hlen, ys, q, hR⟩ vs rv => ?_⟩⟩
  unfold rngOf at q
  split at q
  · cases hlen
  · split at q <;> cases q
    rename_i hb
    obtain ⟨w, ws, rfl, r1, w2, ws2, rfl, r2, r3⟩ := rv
    cases r1; cases r2; cases r3
    exact ⟨_, _, rfl, hb, hR _ walk_rng⟩
  · cases hlen
  · cases q
theorem ri_rng3 {p : Pos} {e1 e2 e3 : Expr} {x1 x2 x3 : IE} (hg : Gl X "range") (hm : X.mg "range" = none) (ha : PA X [e1, e2, e3] (RA X Γ W [x1, x2, x3])) (n1 : NoStar X e1) (n2 : NoStar X e2) (n3 : NoStar X e3) :
    PI X tg (.Call (.Name "range" p) [e1, e2, e3] [] pos) (RI X Γ W (.rng [x1, x2, x3])) := by
  refine ⟨fun pins s σ H R I ⟨ι, ρ, c, hσ, hH, hp⟩ => (pi_range3 hg hm ha (n1 _) (by rw [n2, n3]; rfl)).run pins s σ H R I ⟨ι, ρ, c, hσ, hH, (post_rng hp).imp fun xs c1 ι1 H1 e1 h1 ⟨hlen, ys, q, hR⟩ vs rv => ?_⟩⟩
  unfold rngOf at q
  split at q
  · cases hlen
  · cases hlen
  · split at q <;> cases q
    rename_i hb
    obtain ⟨w, ws, rfl, r1, w2, ws2, rfl, r2, w3, ws3, rfl, r3, r4⟩ := rv
    cases r1; cases r2; cases r3; cases r4
    exact ⟨_, _, _, _, rfl, RgC.neg hb.1 hb.2.1 hb.2.2.1 hb.2.2.2, hR _ walk_rngD⟩
  · cases q

/-! ### comprehensions -/
theorem rts_nil : PTs X [] (RTs X Γ W []) := ⟨fun pins s σ H Q I ⟨ι, ρ, c, hσ, hH, hp⟩ => pts_nil.run pins s σ H Q I (by
  unfold dT at hp
  exact hp.ok hH)⟩
theorem rts_one (ht : PT X a (RT X Γ W a')) : PTs X [a] (RTs X Γ W [a']) := ⟨fun pins s σ H Q I ⟨ι, ρ, c, hσ, hH, hp⟩ => (pts_one ht).run pins s σ H Q I (by
  unfold dT at hp
  refine ⟨ι, ρ, c, hσ, hH, (Post.bind hp).imp fun x c1 ι1 H1 e1 h1 hp1 => ?_⟩
  split at hp1
  · rename_i q
    unfold dT at hp1
    exact ⟨true, q, hp1.ok h1⟩
  · rename_i q
    exact ⟨false, q, hp1.ok h1⟩
  · exact hp1.elim)⟩
/-- the element of one turn -/
def lcF (Γ : Ctx) (t : Tg) (own : List Nat) (ifs : List IE) (e : IE) (ρ : Lo) : D → Cells → G.R (Option D) := fun x c2 => match asg c2 t x (G.wipe ρ own) with
  | none => .no
  | some ρ' => (match dT Γ ifs ρ' c2 with
    | .ok true c3 => (match dE Γ e ρ' c3 with
      | .ok y c4 => .ok (some y) c4
      | _ => .no)
    | .ok false c3 => .ok none c3
    | _ => .no)
theorem same_trans {ws : List Nat} {c c1 c2 : Cells} (h : same ws c c1 = true) (h2 : same ws c1 c2 = true) : same ws c c2 = true := by
  unfold same at *
  simp only [List.all_eq_true, decide_eq_true_eq] at *
  exact fun n hn => (h n hn).trans (h2 n hn)
theorem same_refl {ws : List Nat} {c : Cells} : same ws c c = true := by
  unfold same; simp
theorem wipe_set {ρ : Lo} {i : Nat} {v : Option D} : ∀ {own : List Nat}, i ∈ own → G.wipe (ρ.set i v) own = G.wipe ρ own
  | j :: r, h => by
    unfold G.wipe
    by_cases e : i ∈ r
    · rw [wipe_set e]
    · have : i = j := by
        rcases List.mem_cons.mp h with h | h
        · exact h
        · exact absurd h e
      subst this
      rw [wipe_out e, List.set_set]
where
  wipe_out {ρ : Lo} {i : Nat} {v : Option D} : ∀ {own : List Nat}, i ∉ own → G.wipe (ρ.set i v) own = (G.wipe ρ own).set i v
    | [], _ => rfl
    | j :: r, h => by
      unfold G.wipe
      have h' : i ≠ j ∧ i ∉ r := by simpa using h
      rw [wipe_out h'.2, List.set_comm _ _ h'.1]
mutual
theorem wipe_asg {c : Cells} : ∀ {t : Tg} {x : D} {ρ ρ' : Lo} {own : List Nat}, asg c t x ρ = some ρ' → (∀ j ∈ tgSlots t, j ∈ own) → G.wipe ρ' own = G.wipe ρ own
  | .v i, x, ρ, ρ', own, h, hs => by
    unfold asg at h
    cases h
    exact wipe_set (hs i (by simp [tgSlots]))
  | .tup ts, .tup xs, ρ, ρ', own, h, hs => wipe_asgs (show asgs c ts xs ρ = some ρ' from h) fun j hj => hs j (by simp [tgSlots]; exact hj)
  | .tup ts, .ref n, ρ, ρ', own, h, hs => by
    have h : (match c[n]? with | some (.lst xs) => asgs c ts xs ρ | _ => none) = some ρ' := h
    split at h
    · exact wipe_asgs h fun j hj => hs j (by simp [tgSlots]; exact hj)
    · cases h
  | .tup ts, .non, ρ, ρ', own, h, hs => by cases (show (none : Option Lo) = some ρ' from h)
  | .tup ts, .bl _, ρ, ρ', own, h, hs => by cases (show (none : Option Lo) = some ρ' from h)
  | .tup ts, .int _, ρ, ρ', own, h, hs => by cases (show (none : Option Lo) = some ρ' from h)
  | .tup ts, .str _, ρ, ρ', own, h, hs => by cases (show (none : Option Lo) = some ρ' from h)
theorem wipe_asgs {c : Cells} : ∀ {t : List Tg} {x : List D} {ρ ρ' : Lo} {own : List Nat}, asgs c t x ρ = some ρ' → (∀ j ∈ tgsSlots t, j ∈ own) → G.wipe ρ' own = G.wipe ρ own
  | [], [], ρ, ρ', own, h, hs => by unfold asgs at h; cases h; rfl
  | [], _ :: _, ρ, ρ', own, h, hs => by unfold asgs at h; cases h
  | _ :: _, [], ρ, ρ', own, h, hs => by unfold asgs at h; cases h
  | t :: ts, x :: xs, ρ, ρ', own, h, hs => by
    unfold asgs at h
    split at h
    · rename_i ρ1 e1
      rw [wipe_asgs h fun j hj => hs j (by simp [tgsSlots]; exact .inr hj)]
      exact wipe_asg e1 fun j hj => hs j (by simp [tgsSlots]; exact .inl hj)
    · cases h
end
theorem wipe_get {σ : St} {i : Nat} : ∀ {own : List Nat}, (L2.wipe σ own)[i]? = if i ∈ own ∧ i < σ.length then some none else σ[i]?
  | [] => by simp [L2.wipe]
  | j :: r => by
    unfold L2.wipe
    by_cases e : i = j
    · subst e
      by_cases hl : i < σ.length
      · rw [List.getElem?_set_self (by rw [L2.wipe_length]; exact hl), if_pos ⟨by simp, hl⟩]
      · rw [List.getElem?_eq_none (by rw [List.length_set, L2.wipe_length]; omega), if_neg (by simp; omega), List.getElem?_eq_none (by omega)]
    · rw [List.getElem?_set_ne (Ne.symm e), wipe_get]
      simp [e]
theorem wipe_keeps {σ σ' : St} {l own : List Nat} (h : Keeps l σ σ') (hs : ∀ j ∈ l, j ∈ own) : L2.wipe σ' own = L2.wipe σ own := by
  refine List.ext_getElem? fun i => ?_
  rw [wipe_get, wipe_get, h.1]
  by_cases hi : i ∈ own
  · by_cases hl : i < σ.length
    · rw [if_pos ⟨hi, hl⟩, if_pos ⟨hi, hl⟩]
    · have hl' : ¬ i < σ'.length := by rw [h.1]; exact hl
      rw [if_neg (by simp [hl]), if_neg (by simp [hl]), List.getElem?_eq_none (Nat.le_of_not_lt hl'), List.getElem?_eq_none (Nat.le_of_not_lt hl)]
  · rw [if_neg (by simp [hi]), if_neg (by simp [hi])]
    exact h.2 i fun z => hi (hs i z)
abbrev W0 : WX := fun _ _ _ _ => False
theorem lc_read {own : List Nat} {t' : Tg} {it' : IE} {ifs' : List IE} (hts : ∀ j ∈ tgSlots t', j ∈ own) {σ : St} {H : Hp} {Q : VK} (h : RE X Γ W (.lc own t' it' ifs' e') σ H Q) :
    tLc (RI X Γ W it') (RG X t') (RTs X Γ W0 ifs') (RE X Γ W0 e') own σ H Q := by
  obtain ⟨ι, ρ, c, hσ, hH, hp⟩ := h
  unfold dE at hp
  have hp : Post X.K X.mg W σ ι H ((dI Γ it' ρ c).bind fun p c1 => (lcGo (lcF Γ t' own ifs' e' ρ) p.2 p.1 c1).bind fun ys c2 => if ys.length ≤ lim then alloc (.lst ys) c2 else .no) fun d _ ι' H' => ∀ v, Rep X.K ι' H' d v → Q v H' := hp
  refine ⟨ι, ρ, c, hσ, hH, (Post.bind hp).imp fun p c1 ι1 H1 e1 h1 hp1 J hw L hL => ?_⟩
  obtain ⟨xs, ws⟩ := p
  dsimp only at hp1 hw
  -- the whole run of the turns
  have noF : ∀ x c z c', lcF Γ t' own ifs' e' ρ x c ≠ .ex z c' := fun x c z c' q => by
    unfold lcF at q
    split at q
    · cases q
    · split at q
      · split at q <;> cases q
      · cases q
      · cases q
  have noG : ∀ (xs : List D) c z c', lcGo (lcF Γ t' own ifs' e' ρ) ws xs c ≠ .ex z c' := fun xs => by
    induction xs with
    | nil => intro c z c' q; unfold lcGo at q; cases q
    | cons x xs ih =>
      intro c z c' q
      unfold lcGo at q
      cases qf : lcF Γ t' own ifs' e' ρ x c with
      | ok o c3 =>
        rw [qf, G.R.bind_ok] at q
        split at q
        · cases q2 : lcGo (lcF Γ t' own ifs' e' ρ) ws xs c3 with
          | ok r c4 => rw [q2, G.R.bind_ok] at q; split at q <;> cases q
          | ex _ _ => exact ih _ _ _ q2
          | no => rw [q2] at q; cases q
        · cases q
      | ex _ _ => exact noF _ _ _ _ qf
      | no => rw [qf] at q; cases q
  cases qall : lcGo (lcF Γ t' own ifs' e' ρ) ws xs c1 with
  | ex _ _ => exact absurd qall (noG _ _ _ _)
  | no => rw [qall] at hp1; exact hp1.elim
  | ok ys c2 =>
  rw [qall, G.R.bind_ok] at hp1
  split at hp1
  case isFalse => exact hp1.elim
  rename_i hlim
  have hLn : (L, true) ∉ ι1 := fun z => by
    obtain ⟨o, q, _⟩ := h1.tracked z
    rw [hL] at q; cases q
  let Nx : Nat → Hp → Prop := fun i H => ∃ ι c dn vs rest, Ext ι1 H1 ι H ∧ HRep X.K ι H c ∧ same ws c1 c = true ∧ H L = some (.lst vs) ∧ (L, true) ∉ ι ∧ Reps X.K ι H dn vs ∧ lcGo (lcF Γ t' own ifs' e' ρ) ws (xs.drop i) c = .ok rest c2 ∧ dn ++ rest = ys
  refine ⟨fun i m H => m = xs.length - i ∧ i ≤ xs.length ∧ Nx i H, ⟨xs.length, by simp, Nat.zero_le _, ι1, c1, [], [], ys, .new hL, h1.new hL, same_refl, upd_same, hLn, rfl, by simpa using qall, rfl⟩, ?_⟩
  rintro i m H5 ⟨rfl, hi, ι5, c5, dn, vs, rest, e5, h5, sm5, hL5, hn5, rd5, q5, hys⟩
  by_cases hlt : i < xs.length
  · have hx : xs[i]? = some xs[i] := List.getElem?_eq_getElem hlt
    obtain ⟨hgo, hyld⟩ := (hw ι5 H5 c5 i e5 h5 sm5).1 _ hx
    refine .inr ⟨hgo, Nx (i + 1), fun H' n' => ⟨xs.length - (i + 1), by omega, rfl, hlt, n'⟩, fun x H6 hy => ?_⟩
    obtain ⟨e6, h6, rx⟩ := hyld x H6 hy
    rw [List.drop_eq_getElem_cons hlt] at q5
    generalize xs[i] = d at q5 rx
    unfold lcGo at q5
    cases qf : lcF Γ t' own ifs' e' ρ d c5 with
    | ex _ _ => exact absurd qf (noF _ _ _ _)
    | no => rw [qf] at q5; cases q5
    | ok o c7 =>
    rw [qf, G.R.bind_ok] at q5
    split at q5
    case isFalse => cases q5
    rename_i sm7
    cases q8 : lcGo (lcF Γ t' own ifs' e' ρ) ws (xs.drop (i + 1)) c7 with
    | ex _ _ => exact absurd q8 (noG _ _ _ _)
    | no => rw [q8] at q5; cases q5
    | ok r8 c8 =>
    rw [q8, G.R.bind_ok] at q5
    unfold lcF at qf
    split at qf
    · cases qf
    rename_i ρ' hasg
    have e56 := e5.trans e6
    refine ⟨ι5, G.wipe ρ own, c5, d, ρ', (hσ.mono (e1.trans e56)).wipe own, h6, rx, hasg, fun σ2 hσ2 kp => ⟨?_, ι5, ρ', c5, hσ2, h6, ?_⟩⟩
    · have := wipe_keeps kp hts
      rw [this]
      refine List.ext_getElem? fun j => ?_
      rw [wipe_get, wipe_get, L2.wipe_length]
      by_cases hj : j ∈ own ∧ j < σ.length
      · rw [if_pos hj, if_pos hj]
      · rw [if_neg hj, if_neg hj]
    · obtain ⟨k1, k2⟩ := e6.stay hL5 hn5
      cases qt : dT Γ ifs' ρ' c5 with
      | ex _ _ => rw [qt] at qf; cases qf
      | no => rw [qt] at qf; cases qf
      | ok bt c9 =>
      rw [qt] at qf
      intro ι9 H9 e9 h9
      obtain ⟨k3, k4⟩ := e9.stay k1 k2
      cases bt with
      | false =>
        dsimp only at qf
        cases qf
        dsimp only at q5
        cases q5
        simp only [Bool.false_eq_true, if_false]
        exact ⟨ι9, _, dn, vs, _, e56.trans e9, h9, same_trans sm5 sm7, k3, k4, (rd5.mono e6).mono e9, q8, hys⟩
      | true =>
        dsimp only at qf
        simp only [if_true]
        cases qe : dE Γ e' ρ' c9 with
        | ex _ _ => rw [qe] at qf; cases qf
        | no => rw [qe] at qf; cases qf
        | ok y c10 =>
        rw [qe] at qf
        dsimp only at qf
        cases qf
        dsimp only at q5
        cases q5
        refine ⟨ι9, ρ', c9, hσ2.mono e9, h9, ?_⟩
        rw [qe]
        intro ι10 H10 e10 h10 yv ry
        obtain ⟨k5, k6⟩ := e10.stay k3 k4
        have hlen : dn.length < lim := by
          have := congrArg List.length hys
          rw [List.length_append, List.length_cons] at this
          omega
        refine ⟨vs, k5, by rw [rd5.length, ← lim_eq]; exact hlen, ?_⟩
        obtain ⟨g1, g2, g3⟩ := h10.other (o := .lst (vs ++ [yv])) k5 k6
        refine ⟨ι10, _, dn ++ [y], vs ++ [yv], _, ((e56.trans e9).trans e10).upd hL, g1, same_trans sm5 sm7, upd_same, k6, g3 _ _ ((((rd5.mono e6).mono e9).mono e10).append (.one ry)), q8, by rw [List.append_assoc]; exact hys⟩
  · have e' : i = xs.length := by omega
    subst e'
    refine .inl ⟨(hw ι5 H5 c5 _ e5 h5 sm5).2 (Nat.le_refl _), ?_⟩
    rw [List.drop_length] at q5
    unfold lcGo at q5
    cases q5
    rw [List.append_nil] at hys
    subst hys
    obtain ⟨g1, g2⟩ := h5.adopt hL5 hn5 rd5
    exact hp1 _ H5 (e5.more hL) g1 _ ⟨L, rfl, g2⟩
/-- a comprehension's block -/
theorem Ok.blk (ok : Ok X g N sc Γ W k) {scope : Scope} {s : Shared} {H : Hp} {C : Addr} {cl : List (Str × Addr)} {fp : List Addr} : Ok (X.blk s H scope (compEnvC scope cl C X.env) fp) g.nl N (relC scope sc) Γ W0 k :=
  ⟨ok.hN, ok.nd, by rw [← ok.hsc]; rfl, ok.calm, L2.takes0, PassesOwn.never, ok.room, ok.cst, ok.blt, ok.fns, ok.exc, ok.hex, ok.thks, nofun⟩
theorem Ok.blkT (ok : Ok X g N sc Γ W k) {scope : Scope} {s : Shared} {H : Hp} {C : Addr} {cl : List (Str × Addr)} {fp : List Addr} : TOk (X.blk s H scope (compEnvC scope cl C X.env) fp) N scope :=
  ⟨ok.hN, ok.nd, ok.calm, fun x h => by
    have h' := loc_of h
    have keep : ∀ kd : NameKind, kd ≠ .free → scope.names.lookup x = some kd → (relabel scope X.env).names.lookup x = some kd := fun kd hk e => lookup_relS_keep (sc := X.env.scope) hk e
    rcases h' with h' | h'
    · exact ⟨.inl (keep _ (by decide) h'), .inr (keep _ (by decide) h')⟩
    · exact ⟨.inr (keep _ (by decide) h'), .inl (by
        show (scope.names.lookup x == some .cell) = true
        rw [h']; rfl)⟩⟩
theorem blk_ok {N : List Str} {sc scope : Scope} {own : List (Str × Nat)} (h : blkB N sc scope own = true) : BlkOk N sc scope own := blkOk_by h
end
end G
end

section
set_option Elab.async false
set_option linter.all false
set_option maxRecDepth 100000
set_option maxHeartbeats 4000000
set_option autoImplicit false
/-! GLam: except clauses, lambdas handed to a def that calls them. -/
namespace G
open PySem L2
variable [Tables]
def vD : D → V
  | .bl b => .bl b
  | .int i => .int i
  | .str x => .str x
  | _ => .non
theorem pe_kD {X : Cx} {e : Expr} {d : D} (h : kD e = some d) : PE X e (tC (vD d)) ∧ ∀ (K : PySem.W.Frag) (ι : List (Addr × Bool)) (H : Hp), Rep K ι H d (vD d) := by
  unfold kD at h
  split at h
  · cases h; exact ⟨pe_non, fun _ _ _ => rfl⟩
  · cases h; exact ⟨pe_bl, fun _ _ _ => rfl⟩
  · cases h; exact ⟨pe_int, fun _ _ _ => rfl⟩
  · cases h; exact ⟨pe_str, fun _ _ _ => rfl⟩
  · cases h
theorem rep_kD {e : Expr} {d : D} (h : kD e = some d) (K : PySem.W.Frag) (ι : List (Addr × Bool)) (H : Hp) : Rep K ι H d (vD d) := by
  unfold kD at h
  split at h <;> cases h <;> rfl
theorem exc_names {X : Cx} {sc : Scope} {ex : List String} {x : Str} {y : String} (hsc : X.env.scope = sc) (E : ExcOk X.K X.mg ex) (h : excN ex sc x = some y) : y ∈ ex ∧ ∃ C : Addr, X.mg (Str.ofString y) = some (.ref C) ∧ Names X x (.ref C) ∧ Gl X x ∧ Str.ofString y = x ∧ plainN x = true := by
  unfold excN at h
  split at h
  · rename_i h1
    split at h
    · rename_i h2
      obtain ⟨q1, q2⟩ := look_get h
      obtain ⟨C, hC⟩ := E.cls y q2
      have hg : Gl X x := gl_of (by rw [hsc]; exact h1)
      exact ⟨q2, C, hC, ⟨hg, plain_dbg h2, .inl (by rw [← q1]; exact hC)⟩, hg, q1, h2⟩
    · cases h
  · cases h
/-- the clauses, and what they make of an own exception -/
theorem hds_ok {X : Cx} {sc : Scope} {ex : List String} (hsc : X.env.scope = sc) (E : ExcOk X.K X.mg ex) : ∀ (hs : List ExceptHandler) (l : List (String × D)), cHs ex sc hs = some l → ∃ L, HdsOk X hs L ∧
    ∀ (Wout : WX) (D : Ends) (x : String) (C : Addr) (dd : Option Addr) (σ : St) (H : Hp), x ∈ ex → X.mg (Str.ofString x) = some (.ref C) →
      (∀ d, l.lookup x = some d → D.rt (vD d) H → wMany X.K Wout D L (.ref C) dd σ H) ∧ (l.lookup x = none → Wout (.ref C) dd σ H → wMany X.K Wout D L (.ref C) dd σ H)
  | [], l, h => by
    cases h
    exact ⟨[], .nil, fun Wout D x C dd σ H h1 h2 => ⟨fun d z => by (cases z), fun _ w => w⟩⟩
  | hd :: hs, l, h => by
    unfold cHs at h
    obtain ⟨p, r, h1, h2, rfl⟩ := o2_some h
    obtain ⟨L, k1, k2⟩ := hds_ok hsc E hs r h2
    unfold cH at h1
    split at h1
    · rename_i x p1 e p2 p3
      obtain ⟨y, d, h3, h4, rfl⟩ := o2_some h1
      obtain ⟨hy, C, hC, hn, _⟩ := exc_names hsc E h3
      refine ⟨(.ref C, fun _ _ _ => tRet (tC (vD d))) :: L, .cons hn (fun a oe cls d' pn _ _ => pss_one (ps_ret (pe_kD h4).1)) k1, fun Wout D z Cz dd σ H hz hCz => ?_⟩
      have one := E.one z hz y hy Cz C hCz hC
      obtain ⟨m1, m2⟩ := k2 Wout D z Cz dd σ H hz hCz
      by_cases e1 : z = y
      · subst e1
        have lk : List.lookup z ((z, d) :: r) = some d := by rw [List.lookup_cons, beq_self_eq_true]
        refine ⟨fun d' hd' hq => ⟨true, by rw [one]; simp, fun _ a _ => ?_, fun q => by cases q⟩, fun hq => by rw [lk] at hq; cases hq⟩
        rw [lk] at hd'
        cases hd'
        exact hq
      · have lk : List.lookup z ((y, d) :: r) = r.lookup z := by rw [List.lookup_cons, beq_false_of_ne e1]
        refine ⟨fun d' hd' hq => ⟨false, by rw [one]; simp [e1], fun q => by (cases q), fun _ => m1 d' (by rw [← lk]; exact hd') hq⟩, fun hn hq => ⟨false, by rw [one]; simp [e1], fun q => by (cases q), fun _ => m2 (by rw [← lk]; exact hn) hq⟩⟩
    · cases h1
/-- what a def of this kind makes of a call's reading -/
def TThk (mg : Str → Option Value) (ex : List String) (t : Thk) : (XK → Hp → VK → Prop) → Hp → VK → Prop := fun tl H Q =>
  tl (fun cls _ H' => ∃ (x : String) (C : Addr) (d : D), x ∈ ex ∧ mg (Str.ofString x) = some (.ref C) ∧ cls = .ref C ∧ t.hs.lookup x = some d ∧ Q (vD d) H') H fun _ H' => Q (vD t.d) H'
theorem act_some {a : Str} {e : Expr} (h : isAct a e = true) : ∃ p1 p2, e = .Call (.Name a p1) [] [] p2 := by
  unfold isAct at h
  split at h
  · rename_i x p1 p2
    cases beq_iff_eq.mp h
    exact ⟨p1, p2, rfl⟩
  · cases h
theorem thk_gives {X : Cx} {Ng : List Str} {x a q : Str} {sg : Scope} {g : Addr} {cdg : Value} {bg : List Stmt} {ex : List String} {t : Thk} (E : ExcOk X.K X.mg ex) (h : cThk ex sg a bg = some t) (h0 : ∀ f : Addr, (L2.start Ng [V.ref f])[0]? = some (some (V.ref f))) :
    LamX.GivesTo X Ng x sg g cdg bg a q (TThk X.mg ex t) := by
  intro f c' s H Q tl act hc hq
  have hsw : ∀ (p1 p2 p3 : Pos), swapsWith (.Call (.Name a p1) [] [] p2) none p3.line (cxOf C8.CX0 X.prog X.w X.K X.mg X.base Ng x sg g cdg X.A X.stack s H C8.E0).nox.env = pure false := fun _ _ _ => rfl
  unfold cThk at h
  split at h
  · rename_i c pc h1' hs pt e pr
    split at h
    · rename_i ha
      obtain ⟨p1, p2, rfl⟩ := act_some ha
      obtain ⟨l, d, h1, h2, rfl⟩ := o2_some h
      obtain ⟨L, k1, k2⟩ := hds_ok (X := (cxOf C8.CX0 X.prog X.w X.K X.mg X.base Ng x sg g cdg X.A X.stack s H C8.E0).nox) rfl E (h1' :: hs) l h1
      refine ⟨_, pss_cons (ps_try_many (X := (cxOf C8.CX0 X.prog X.w X.K X.mg X.base Ng x sg g cdg X.A X.stack s H C8.E0).nox)
        (tb := fun W D σ H => ∃ Ech : XK, (∀ cls d σ' H', Ech cls d H' → W cls d σ' H') ∧ σ[0]? = some (some (.ref f)) ∧ H c' = some (LamX.CodeO c' q) ∧ tl Ech H fun _ H' => D.nx σ H')
        rfl rfl LamX.takes0 (fun W pn xe tk _ => ?_) k1) (pss_one (ps_ret (pe_kD h2).1)), ?_⟩
      · refine ⟨fun pins s' σ H' D I h' => ?_⟩
        obtain ⟨Ech, hW, g1, g2, g3⟩ := h'
        have hp := act W pn xe Ech p1 p2 tk hW
        exact (pss_one (ps_expr hp (hsw _ _ _))).run pins s' σ H' D I ⟨g1, g2, g3⟩
      · refine ⟨_, ?_, h0 f, hc, hq⟩
        rintro cls dd σ' H' ⟨y, C, d', hy, hC, rfl, hl, hq'⟩
        exact (k2 _ _ y C dd σ' H' hy hC).1 d' hl hq'
    · cases h
  · rename_i c pc e pr h1' hs pt
    split at h
    · rename_i ha
      obtain ⟨p1, p2, rfl⟩ := act_some ha
      obtain ⟨l, d, h1, h2, rfl⟩ := o2_some h
      obtain ⟨L, k1, k2⟩ := hds_ok (X := (cxOf C8.CX0 X.prog X.w X.K X.mg X.base Ng x sg g cdg X.A X.stack s H C8.E0).nox) rfl E (h1' :: hs) l h1
      refine ⟨_, pss_one (ps_try_many (X := (cxOf C8.CX0 X.prog X.w X.K X.mg X.base Ng x sg g cdg X.A X.stack s H C8.E0).nox)
        (tb := fun W D σ H => ∃ Ech : XK, (∀ cls d σ' H', Ech cls d H' → W cls d σ' H') ∧ σ[0]? = some (some (.ref f)) ∧ H c' = some (LamX.CodeO c' q) ∧ tl Ech H fun _ H' => D.rt (vD d) H')
        rfl rfl LamX.takes0 (fun W pn xe tk _ => ?_) k1), ?_⟩
      · refine ⟨fun pins s' σ H' D I h' => ?_⟩
        obtain ⟨Ech, hW, g1, g2, g3⟩ := h'
        have hp := act W pn xe Ech p1 p2 tk hW
        exact (pss_cons (ps_expr hp (hsw _ _ _)) (pss_one (ps_ret (pe_kD h2).1))).run pins s' σ H' D I ⟨g1, g2, g3⟩
      · refine ⟨_, ?_, h0 f, hc, hq⟩
        rintro cls dd σ' H' ⟨y, C, d', hy, hC, rfl, hl, hq'⟩
        exact (k2 _ _ y C dd σ' H' hy hC).1 d' hl hq'
    · cases h
  · cases h
theorem cHs_vD {ex : List String} {sc : Scope} : ∀ {hs : List ExceptHandler} {l : List (String × D)}, cHs ex sc hs = some l → ∀ y d, l.lookup y = some d → ∀ (K : PySem.W.Frag) (ι : List (Addr × Bool)) (H : Hp), Rep K ι H d (vD d)
  | [], l, h, y, d, hd => by cases h; cases hd
  | hh :: hs, l, h, y, d, hd => by
    unfold cHs at h
    obtain ⟨p, r, h1, h2, rfl⟩ := o2_some h
    unfold cH at h1
    split at h1
    · obtain ⟨z, d', h3, h4, rfl⟩ := o2_some h1
      rw [List.lookup_cons] at hd
      split at hd
      · cases hd; exact rep_kD h4
      · exact cHs_vD h2 y d hd
    · cases h1
theorem cThk_vD {ex : List String} {sg : Scope} {a : Str} {bg : List Stmt} {t : Thk} (h : cThk ex sg a bg = some t) : (∀ (K : PySem.W.Frag) (ι : List (Addr × Bool)) (H : Hp), Rep K ι H t.d (vD t.d)) ∧ ∀ y d, t.hs.lookup y = some d → ∀ (K : PySem.W.Frag) (ι : List (Addr × Bool)) (H : Hp), Rep K ι H d (vD d) := by
  unfold cThk at h
  split at h
  · split at h
    · obtain ⟨l, d, h1, h2, rfl⟩ := o2_some h
      exact ⟨rep_kD h2, cHs_vD h1⟩
    · cases h
  · split at h
    · obtain ⟨l, d, h1, h2, rfl⟩ := o2_some h
      exact ⟨rep_kD h2, cHs_vD h1⟩
    · cases h
  · cases h
section
variable {X : Cx} {g : GI} {N : List Str} {sc : Scope} {Γ : Ctx} {W : WX} {k : Nat} {pos : Pos}
theorem noArgs_eq {a : Arguments} (h : noArgs a = true) : a = ⟨[], [], none, [], [], none, []⟩ := by
  unfold noArgs at h
  split at h
  · rfl
  · cases h
/-- a heap behind the making of a lambda -/
theorem lam_ext {ι : List (Addr × Bool)} {H H1 : Hp} {K : PySem.W.Frag} {c : Cells} (h : HRep K ι H c) (e : LamX.ExtN H H1) (t : LamX.Tabs Tables.T H1) : Ext ι H ι H1 ∧ HRep K ι H1 c := by
  have ex : Ext ι H ι H1 := ⟨⟨[], by simp, by simp⟩, fun b vs q => e b _ q (fun ps z => nomatch z), fun b o u q => e b _ q (fun ps z => nomatch z), fun b o q _ n => e b o q n, fun b n u q => by
    cases u with
    | tbl ps => exact ⟨ps, rfl⟩
    | _ =>
      obtain ⟨ps, z⟩ := n _ (e b _ q (fun ps z => nomatch z))
      cases z⟩
  refine ⟨ex, h.len, h.inj, fun n a w x h1 h2 => ⟨(h.cel n a w x h1 h2).1.mono ex fun m => ?_, (h.cel n a w x h1 h2).2⟩, t⟩
  obtain ⟨o, h3, h4⟩ := (h.cel n a w x h1 h2).1.some m
  rw [h3]
  exact e a o h3 (fun ps z => by subst z; exact h4)
theorem re_lam (ok : Ok X g N sc Γ W k) (hl : g.lam = true) {f : String} {x : Str} {p lp : Pos} {args : Arguments} {body : Expr} {b' : IE} {scope : Scope} (hf : f ∈ g.thks) (hx : Str.ofString f = x) (hg : Gl X x) (hd : plainN x = true) (hS : LamX.lamSB sc scope = true) (ha : noArgs args = true)
    (hb : ∀ (A : Around) (outer : List Env) (s : Shared) (H : Hp) (E : XK) (f c' : Addr), Room k (A.deeper (LamX.lamEnv X scope s.heap.objs.size f c')) → PE (LamX.lamCx X A outer s H E scope f c') body (RE X Γ (fun cls d _ H => E cls d H) b')) :
    PE X (.Call (.Name x p) [.Lambda args body scope lp] [] pos) (RE X Γ W (.lam f b')) := by
  obtain ⟨t, ht, ga, a, pg, bg, sg, dV, kV, doc, pm, cdv, ct, oc, an, od, osl, Ng, h1, h2, h3, h4, h5, h6, h7, h8, h9⟩ := ok.thks f hf
  obtain ⟨hr, c, P, d1, d2, d3, d4⟩ := ok.deep hl
  subst hx
  cases noArgs_eq ha
  have h0 : ∀ f : Addr, (L2.start Ng [V.ref f])[0]? = some (some (V.ref f)) := fun f => by
    cases Ng with
    | nil => cases h7
    | cons n r => rfl
  have hv : Vis sg a := by
    rcases h6.par a List.mem_cons_self with z | z
    · exact .inl z
    · exact .inr (.inl z)
  refine PE.imp (LamX.pe_lamcall (T := Tables.T) (t := fun E => RE X Γ (fun cls d _ H => E cls d H) b') hg h1 h2 h3 h4 h5 h6 h7 hv (thk_gives ok.exc h9 h0) d2 d1 d3 d4 hr (LamX.lamS_by (by rw [ok.hsc]; exact hS)) rfl (fun _ _ _ _ _ => rfl) hb (plain_dbg hd) (plain_dbg h8) (plain_cd h8)) fun σ H Q ⟨ι, ρ, c, hσ, hH, hp⟩ => ?_
  refine ⟨hH.tab, fun H1 eN T1 => ?_⟩
  obtain ⟨ex, hH1⟩ := lam_ext hH eN T1
  unfold dE at hp
  rw [ht] at hp
  dsimp only at hp
  refine ⟨ι, ρ, c, hσ.mono ex, hH1, ?_⟩
  cases q : dE Γ b' ρ c with
  | ok dd c1 =>
    rw [q] at hp
    dsimp only at hp
    intro ι2 H2 e2 h2 v rv
    have := hp ι2 H2 (ex.trans e2) h2
    exact this _ ((cThk_vD h9).1 _ _ _)
  | ex y c1 =>
    rw [q] at hp
    dsimp only at hp
    split at hp
    · rename_i hy
      rw [ok.hex] at hy
      split at hp
      · rename_i d hd'
        intro ι2 H2 C e2 h2 hC
        exact ⟨y, C, d, hy, hC, rfl, hd', hp ι2 H2 (ex.trans e2) h2 _ ((cThk_vD h9).2 _ _ hd' _ _ _)⟩
      · exact hp.elim
    · exact hp.elim
  | no => rw [q] at hp; exact hp.elim
end
end G
end

section
set_option Elab.async false
set_option linter.all false
set_option maxRecDepth 100000
set_option maxHeartbeats 4000000
set_option autoImplicit false
/-! GMain: whatever the check takes does what the evaluator says. -/
namespace G
open PySem L2
variable [Tables]
section
variable {g : GI} {N : List Str} {Γ : Ctx} {k : Nat}
theorem no_slice {sc : Scope} {b : Expr} {b' : IE} (h : cE g N sc b = some b') : PlainIx b := by
  cases b with
  | Slice => unfold cE at h; cases h
  | _ => intro o i; rfl
theorem no_star {X : Cx} {sc : Scope} {b : Expr} {b' : IE} (h : cE g N sc b = some b') : NoStar X b := by
  cases b with
  | Starred => unfold cE at h; cases h
  | _ => intro r; rfl
theorem no_mark {sc : Scope} {b : Expr} {b' : IE} {o : CmpOp} (h : cE g N sc b = some b') : behindInMarks o b = false := by
  cases b with
  | Set => unfold cE at h; cases h
  | _ => rfl
theorem no_fold {X : Cx} {sc : Scope} {b : Expr} {b' : IE} (h : cE g N sc b = some b') : ∀ x, foldedSetIterable b X.env x = pure x := by
  cases b with
  | Set => unfold cE at h; cases h
  | _ => intro x; rfl
theorem base_of {X : Cx} {sc : Scope} {o : Expr} {o' : IE} {name : Str} (h : cE g N sc o = some o') : attributeBase o name X.env (eval o X.env) = eval o X.env := by
  cases o with
  | Call f as kws p =>
    cases f with
    | Name id p2 =>
      cases as with
      | nil =>
        cases kws with
        | nil =>
          unfold cE at h
          split at h
          · split at h
            · split at h
              · rename_i hp
                have hs := plain_super hp
                unfold attributeBase
                simp [bne, hs]
              · cases h
            · cases h
          · cases h
        | cons => rfl
      | cons => rfl
    | _ => rfl
  | _ => rfl
theorem blt_boot : ∀ p ∈ bltOf, bootBuiltins (Str.ofString p.1) = some (bltVal p.2) := by decide +kernel
theorem boot_isi : bootBuiltins (Str.ofString "isinstance") = some (.builtin "isinstance") := by decide +kernel
theorem star_false {X : Cx} {pos : Pos} : ∀ {es : List Expr} {sc : Scope} {es' : List IE}, cEs g N sc es = some es' → (backTo pos (starEach es X.env)).any (·.1) = false ∧ (backTo pos (starEach es X.env)).all (fun x => !x.1) = true
  | [], _, _, _ => ⟨rfl, rfl⟩
  | e :: es, sc, es', h => by
    unfold cEs at h
    obtain ⟨x, xs, h1, h2, rfl⟩ := o2_some h
    rw [no_star (X := X) h1 es]
    obtain ⟨q1, q2⟩ := star_false (X := X) (pos := pos) h2
    exact ⟨by show (false || (backTo pos (starEach es X.env)).any (·.1)) = false; rw [q1]; rfl, by show (!false && (backTo pos (starEach es X.env)).all fun x => !x.1) = true; rw [q2]; rfl⟩
structure Snd (X : Cx) (Γ : Ctx) (W : WX) (e : Expr) (e' : IE) : Prop where
  pe : PE X e (RE X Γ W e')
  pt : PT X e (RT X Γ W e')
  pi : ∀ tg, PI X tg e (RI X Γ W e')
/-- no walk of a kind of its own -/
def NoWalk (e' : IE) : Prop := (∀ es, e' ≠ .rng es) ∧ (∀ a, e' ≠ .enum a) ∧ ∀ x y, e' ≠ .zip x y
theorem Snd.mk' {X : Cx} {W : WX} {e : Expr} {e' : IE} (pe : PE X e (RE X Γ W e')) (pt : PT X e (RT X Γ W e')) (nw : NoWalk e') : Snd X Γ W e e' := ⟨pe, pt, fun _ => ri_val pe nw.1 nw.2.1 nw.2.2⟩
theorem Snd.plain {X : Cx} {W : WX} {e : Expr} {e' : IE} (pe : PE X e (RE X Γ W e')) (he : ∀ whole, isTrue e X.env whole = (do let v ← whole; standAt e.pos; holding [v] (truthy v))) (nw : NoWalk e') : Snd X Γ W e e' :=
  .mk' pe (rt_plain pe he) nw
/-- what is said of nothing -/
theorem Snd.void {X : Cx} {W : WX} {e : Expr} {e' : IE} (h : ∀ ρ c, dE Γ e' ρ c = .no) (pi : ∀ tg, PI X tg e (RI X Γ W e')) : Snd X Γ W e e' :=
  ⟨⟨fun _ _ _ _ _ _ ⟨_, ρ, c, _, _, hp⟩ => by rw [h] at hp; exact hp.elim⟩, ⟨fun _ _ _ _ _ _ ⟨_, ρ, c, _, _, hp⟩ => by rw [h] at hp; exact hp.elim⟩, pi⟩
theorem pi_void {X : Cx} {W : WX} {e tg : Expr} {e' : IE} (h : ∀ ρ c, dI Γ e' ρ c = .no) : PI X tg e (RI X Γ W e') := ⟨fun _ _ _ _ _ _ ⟨_, ρ, c, _, _, hp⟩ => by rw [h] at hp; exact hp.elim⟩
theorem cN_walk {sc : Scope} {x : Str} {e' : IE} (h : cN g N sc x = some e') : NoWalk e' := by
  unfold cN at h
  split at h
  · split at h
    · obtain ⟨i, _, rfl⟩ := o1_some h; exact ⟨nofun, nofun, nofun⟩
    · split at h
      · split at h
        · cases h; exact ⟨nofun, nofun, nofun⟩
        · obtain ⟨i, _, rfl⟩ := o1_some h; exact ⟨nofun, nofun, nofun⟩
      · cases h
  · cases h
theorem cK_walk {c : Const} {e' : IE} (h : cK c = some e') : NoWalk e' := by
  unfold cK at h
  split at h <;> cases h <;> exact ⟨nofun, nofun, nofun⟩
theorem pe_never {X : Cx} {W : WX} {e : Expr} {e' : IE} (h : ∀ ρ c, dE Γ e' ρ c = .no) : PE X e (RE X Γ W e') := ⟨fun _ _ _ _ _ _ ⟨_, ρ, c, _, _, hp⟩ => by rw [h] at hp; exact hp.elim⟩

/-- the same of each of some expressions -/
inductive SndL (X : Cx) (Γ : Ctx) (W : WX) (g : GI) (N : List Str) (sc : Scope) : List Expr → Prop where
  | nil : SndL X Γ W g N sc []
  | cons {e : Expr} {es : List Expr} (h : ∀ e', cE g N sc e = some e' → Snd X Γ W e e') (t : SndL X Γ W g N sc es) : SndL X Γ W g N sc (e :: es)
theorem SndL.pa {X : Cx} {W : WX} {sc : Scope} {es : List Expr} (s : SndL X Γ W g N sc es) : ∀ {es' : List IE}, cEs g N sc es = some es' → PA X es (RA X Γ W es') := by
  induction s with
  | nil => intro es' h; unfold cEs at h; cases h; exact ra_nil
  | cons h t ih =>
    intro es' h'
    unfold cEs at h'
    obtain ⟨x, xs, h1, h2, rfl⟩ := o2_some h'
    exact ra_cons (no_star h1 _) (h x h1).pe (ih h2)
theorem SndL.one {X : Cx} {W : WX} {sc : Scope} {es : List Expr} {y : IE} (s : SndL X Γ W g N sc es) (h : cEs g N sc es = some [y]) : ∃ b, es = [b] ∧ cE g N sc b = some y ∧ Snd X Γ W b y := by
  cases s with
  | nil => unfold cEs at h; cases h
  | cons h0 t =>
    unfold cEs at h
    obtain ⟨x, xs, h1, h2, h3⟩ := o2_some h
    cases h3
    cases t with
    | nil => exact ⟨_, rfl, h1, h0 _ h1⟩
    | cons h4 t => unfold cEs at h2; obtain ⟨_, _, _, _, z⟩ := o2_some h2; cases z
theorem SndL.two {X : Cx} {W : WX} {sc : Scope} {es : List Expr} {y z : IE} (s : SndL X Γ W g N sc es) (h : cEs g N sc es = some [y, z]) : ∃ b c, es = [b, c] ∧ cE g N sc b = some y ∧ cE g N sc c = some z ∧ Snd X Γ W b y ∧ Snd X Γ W c z := by
  cases s with
  | nil => unfold cEs at h; cases h
  | cons h0 t =>
    unfold cEs at h
    obtain ⟨x, xs, h1, h2, h3⟩ := o2_some h
    cases h3
    obtain ⟨c, rfl, h4, h5⟩ := t.one h2
    exact ⟨_, c, rfl, h1, h4, h0 _ h1, h5⟩
theorem few_some {o : Option (List String)} {ts : List String} (h : few o = some ts) : o = some ts ∧ ts.length ≤ 100 := by
  unfold few at h
  split at h
  · split at h
    · cases h; exact ⟨rfl, by assumption⟩
    · cases h
  · cases h
theorem live_some {o : Option IE} {e : IE} (h : live o = some e) : o = some e ∧ e ≠ .no := by
  unfold live at h
  split at h
  · cases h
  · rename_i hn; exact ⟨h, fun z => hn (by rw [h, z])⟩
theorem SndL.all {X : Cx} {W : WX} {sc : Scope} {e : Expr} {es : List Expr} (s : SndL X Γ W g N sc (e :: es)) : (∀ e', cE g N sc e = some e' → Snd X Γ W e e') ∧ SndL X Γ W g N sc es := by
  cases s with
  | cons h t => exact ⟨h, t⟩
theorem glX {X : Cx} {sc : Scope} {W : WX} (ok : Ok X g N sc Γ W k) {x : Str} (h : glB sc x = true) : Gl X x := gl_of (by rw [ok.hsc]; exact h)
theorem blt_mem {X : Cx} {sc : Scope} {W : WX} (ok : Ok X g N sc Γ W k) {x : Str} {b : String} (h : look bltNames x = some b) : X.mg x = none := ok.blt x b h
theorem cEs_nil {sc : Scope} {as : List Expr} {es : List IE} (h : cEs g N sc as = some es) : as = [] ↔ es = [] := by
  cases as with
  | nil => unfold cEs at h; cases h; exact ⟨fun _ => rfl, fun _ => rfl⟩
  | cons a as => unfold cEs at h; obtain ⟨_, _, _, _, rfl⟩ := o2_some h; exact ⟨nofun, nofun⟩
theorem tyE_some {sc : Scope} {x : Str} {p : Pos} {t : String} (h : tyE sc (.Name x p) = some t) : (plainN x = true ∧ glB sc x = true) ∧ look bltTys x = some t := by
  have h : (if (plainN x && glB sc x) = true then look bltTys x else none) = some t := h
  by_cases hh : (plainN x && glB sc x) = true
  · rw [if_pos hh] at h
    simp only [Bool.and_eq_true] at hh
    exact ⟨hh, h⟩
  · rw [if_neg hh] at h; cases h
/-- a call of a global name -/
theorem snd_call {X : Cx} {sc : Scope} {W : WX} (ok : Ok X g N sc Γ W k) {f : Str} {p pos : Pos} {as : List Expr} {es : List IE} {e' : IE} (hs : SndL X Γ W g N sc as) (hes : cEs g N sc as = some es) (hgl : glB sc f = true) (hpl : plainN f = true)
    (h : cCall g sc f as es = some e') : Snd X Γ W (.Call (.Name f p) as [] pos) e' := by
  unfold cCall at h
  split at h
  · rename_i fn hf
    cases h
    obtain ⟨q1, q2⟩ := look_get hf
    cases as with
    | nil =>
      unfold cEs at hes
      cases hes
      exact .plain (re_call0 ok q2 q1 (glX ok hgl) (plain_dbg hpl)) (by intro _; rfl) ⟨nofun, nofun, nofun⟩
    | cons a as =>
      have ha := hs.pa hes
      have hes' := hes
      unfold cEs at hes'
      obtain ⟨x, xs, h1, h2, rfl⟩ := o2_some hes'
      exact .plain (re_call ok q2 q1 (glX ok hgl) (plain_dbg hpl) ha (no_star h1 _) (star_false h2).1) (by intro _; rfl) ⟨nofun, nofun, nofun⟩
  · split at h
    · cases h
    rename_i b hb
    have hm := blt_mem ok hb
    obtain ⟨q1, q2⟩ := look_get hb
    split at h
    · -- isinstance
      rename_i e
      subst e
      unfold cIsi at h
      split at h
      · rename_i as1 es1 ex cx ev ev2
        obtain ⟨b1, c1, z, h1, h2, s1, s2⟩ := hs.two hes
        cases z
        cases cx
        case Tuple ts j p3 =>
          dsimp only at h
          obtain ⟨tl, h3, rfl⟩ := o1_some h
          obtain ⟨h4, h5⟩ := few_some h3
          exact .plain (re_isiT ok h4 (glX ok hgl) hpl hm (by rw [← q1]; exact boot_isi) h5 s1.pe (no_star h1 _)) (by intro _; rfl) ⟨nofun, nofun, nofun⟩
        all_goals first
          | (exfalso; dsimp only at h; obtain ⟨t, h3, _⟩ := o1_some h; unfold tyE at h3; cases h3; done)
          | skip
        rename_i xn px
        dsimp only at h
        obtain ⟨t, h3, rfl⟩ := o1_some h
        obtain ⟨hh, h6⟩ := tyE_some h3
        obtain ⟨q3, q4⟩ := pe_type (pos := px) ok hh.1 hh.2 h6
        exact .plain (re_isi ok q4 (glX ok hgl) hpl hm (by rw [← q1]; exact boot_isi) q3 s1.pe (no_star h1 _) rfl rfl) (by intro _; rfl) ⟨nofun, nofun, nofun⟩
      · cases h
    · split at h
      · -- range
        rename_i e
        subst e
        have hf : f = "range" := q1.symm
        subst hf
        split at h
        · rename_i x1
          cases h
          obtain ⟨b1, rfl, h1, _⟩ := hs.one hes
          exact .void (fun _ _ => by unfold dE; rfl) fun tg => ri_rng1 (glX ok hgl) hm (hs.pa hes) (no_star h1)
        · rename_i x1 x2
          cases h
          obtain ⟨b1, b2, rfl, h1, h2, _, _⟩ := hs.two hes
          exact .void (fun _ _ => by unfold dE; rfl) fun tg => ri_rng2 (glX ok hgl) hm (hs.pa hes) (no_star h1) (no_star h2)
        · rename_i x1 x2 x3
          cases h
          cases as with
          | nil => unfold cEs at hes; cases hes
          | cons a as =>
            have hes' := hes
            unfold cEs at hes'
            obtain ⟨y, ys, h1, h2, z⟩ := o2_some hes'
            cases z
            obtain ⟨b1, b2, rfl, h3, h4, _, _⟩ := hs.all.2.two h2
            exact .void (fun _ _ => by unfold dE; rfl) fun tg => ri_rng3 (glX ok hgl) hm (hs.pa hes) (no_star h1) (no_star h3) (no_star h4)
        · cases h
      · split at h
        · rename_i m hmm
          split at h
          · cases h
          · rename_i x xs
            cases h
            cases as with
            | nil => unfold cEs at hes; cases hes
            | cons a as =>
              have ha := hs.pa hes
              have hes' := hes
              unfold cEs at hes'
              obtain ⟨y, ys, h1, h2, z⟩ := o2_some hes'
              cases z
              have hv : bootBuiltins f = some (bltVal m) := by
                rw [← q1]
                have := List.lookup_eq_some_iff.mp hmm
                obtain ⟨l1, l2, e1, _⟩ := this
                exact blt_boot (b, m) (by rw [e1]; simp)
              exact .plain (re_blt ok (glX ok hgl) hm (plain_dbg hpl) (plain_name hpl) hv ha (no_star h1 _) (star_false h2).1) (by intro _; rfl) ⟨nofun, nofun, nofun⟩
        · cases h
theorem cEs_len {sc : Scope} : ∀ {as : List Expr} {es : List IE}, cEs g N sc as = some es → as.length = es.length
  | [], es, h => by unfold cEs at h; cases h; rfl
  | a :: as, es, h => by
    unfold cEs at h
    obtain ⟨_, _, _, h2, rfl⟩ := o2_some h
    simp [cEs_len h2]
theorem lookB_get {α : Type} {l : List (String × α)} {x : Str} {p : String × α} (h : lookB l x = some p) : Str.ofString p.1 = x ∧ p ∈ l := by
  unfold lookB at h
  exact ⟨beq_iff_eq.mp (List.find?_some (p := fun p : String × α => Str.ofString p.1 == x) h), List.mem_of_find?_eq_some h⟩
/-- a method of a list -/
theorem snd_meth {X : Cx} {sc : Scope} {W : WX} (ok : Ok X g N sc Γ W k) {o : Expr} {m : Str} {ap pos : Pos} {as : List Expr} {q : String × Me} {x y : IE} {es : List IE} (hs : SndL X Γ W g N sc as) (hes : cEs g N sc as = some (y :: es))
    (hq : lookB meOf m = some q) (hx : cE g N sc o = some x) (ho : PE X o (RE X Γ W x)) (hh : (ap.endLine == pos.line && decide (es.length < 28)) = true) : Snd X Γ W (.Call (.Attribute o m ap) as [] pos) (.meth q.2 x (y :: es)) := by
  simp only [Bool.and_eq_true, decide_eq_true_eq] at hh
  have ha := hs.pa hes
  have hlen := cEs_len hes
  have hst := (star_false (X := X) (pos := pos) hes).2
  cases as with
  | nil => cases hlen
  | cons a as =>
    have hes' := hes
    unfold cEs at hes'
    obtain ⟨y', ys, h1, h2, z⟩ := o2_some hes'
    cases z
    have hfew : ((backTo pos (starEach (a :: as) X.env)).all (fun x => !x.1) && (backToKw pos (keywordEach [] X.env)).all (fun x => x.1.isSome)
      && decide ((a :: as).length + ([] : List Keyword).length + (if ([] : List Keyword).isEmpty then 0 else 1) < 30)) = true := by
      simp only [List.length_cons] at hlen
      rw [hst]
      simp [keywordEach, backToKw]
      omega
    obtain ⟨q1, q2⟩ := lookB_get hq
    have hs1 := no_star (X := X) h1 as
    have hp1 := (star_false (X := X) (pos := pos) h2).1
    unfold meOf at q2
    simp only [List.mem_cons, List.not_mem_nil, or_false] at q2
    rcases q2 with rfl | rfl
    · have : m = "append" := q1.symm
      subst this
      exact .plain (re_meth PySem.F.plainAttrs_list PySem.F.slot_list_append PySem.F.type_list_append rfl mt_app ho ha (base_of hx) hfew hh.1 hs1 hp1) (by intro _; rfl) ⟨nofun, nofun, nofun⟩
    · have : m = "extend" := q1.symm
      subst this
      exact .plain (re_meth PySem.F.plainAttrs_list PySem.F.slot_list_extend PySem.F.type_list_extend rfl mt_ext ho ha (base_of hx) hfew hh.1 hs1 hp1) (by intro _; rfl) ⟨nofun, nofun, nofun⟩
/-- a comprehension -/
theorem snd_lc {X : Cx} {sc : Scope} {W : WX} (ok : Ok X g N sc Γ W k) {e tg it : Expr} {ifs : List Expr} {scope : Scope} {pos : Pos} {own : List (Str × Nat)} {t : Tg} {i : IE} {fs : List IE} {x : IE} (h1 : ownOf N scope = some own) (h2 : cT N scope tg = some t)
    (h3 : cE g N sc it = some i) (h4 : cEs g.nl N (relC scope sc) ifs = some fs) (h5 : cE g.nl N (relC scope sc) e = some x) (hh : (decide (ifs.length ≤ 1) && blkB N sc scope own && (tgSlots t).all (fun j => (own.map (·.2)).contains j)) = true)
    (s1 : ∀ e', cE g N sc it = some e' → Snd X Γ W it e') (s2 : ∀ X, Ok X g.nl N (relC scope sc) Γ W0 k → SndL X Γ W0 g.nl N (relC scope sc) ifs) (s3 : ∀ X, Ok X g.nl N (relC scope sc) Γ W0 k → ∀ e', cE g.nl N (relC scope sc) e = some e' → Snd X Γ W0 e e') :
    Snd X Γ W (.ListComp e [⟨tg, it, ifs, 0⟩] scope pos) (.lc (own.map (·.2)) t i fs x) := by
  simp only [Bool.and_eq_true, decide_eq_true_eq, List.all_eq_true, List.contains_iff_mem] at hh
  obtain ⟨⟨hl, hb⟩, ht⟩ := hh
  have bo : BlkOk X.N X.env.scope scope own := by
    rw [ok.hN, ok.hsc]; exact blk_ok hb
  have tts : ∀ X, Ok X g.nl N (relC scope sc) Γ W0 k → PTs X ifs (RTs X Γ W0 fs) := fun X ok' => by
    have q := s2 X ok'
    match ifs, hl with
    | [], _ => unfold cEs at h4; cases h4; exact rts_nil
    | [a], _ =>
      unfold cEs at h4
      obtain ⟨y, ys, h6, h7, rfl⟩ := o2_some h4
      unfold cEs at h7
      cases h7
      exact rts_one (q.all.1 _ h6).pt
    | _ :: _ :: _, hl => simp at hl
  refine .plain (PE.imp (pe_lc (tg := tg) (pos := pos) ok.calm (by rw [ok.hN]; exact ok.nd) ((s1 i h3).pi tg) bo (fun s H C cl fp => rg_of ok.blkT tg t h2) (fun s H C cl fp => tts _ ok.blk) (fun s H C cl fp => (s3 _ ok.blk x h5).pe) (no_fold h3)) fun σ H Q h => lc_read ht h) (by intro _; rfl) ⟨nofun, nofun, nofun⟩
theorem snd_call' {X : Cx} {sc : Scope} {W : WX} (ok : Ok X g N sc Γ W k) {f : Str} {p pos : Pos} {as : List Expr} {e' : IE} (hs : SndL X Γ W g N sc as)
    (h : (match cEs g N sc as with
      | some es => if glB sc f = true then (if plainN f = true then cCall g sc f as es else none) else none
      | none => none) = some e') : Snd X Γ W (.Call (.Name f p) as [] pos) e' := by
  split at h
  · rename_i es hes
    split at h
    · rename_i hgl
      split at h
      · rename_i hpl
        exact snd_call ok hs hes hgl hpl h
      · cases h
    · cases h
  · cases h
/-- a lambda's body -/
theorem Ok.lam {X : Cx} {sc : Scope} {W : WX} (ok : Ok X g N sc Γ W k) {A : Around} {outer : List Env} {s : Shared} {H : Hp} {E : XK} {scope : Scope} {f c' : Addr} (hr : Room k (A.deeper (LamX.lamEnv X scope s.heap.objs.size f c'))) :
    Ok (LamX.lamCx X A outer s H E scope f c') g.nl N scope Γ (fun cls d _ H => E cls d H) k :=
  ⟨ok.hN, ok.nd, rfl, rfl, L2.takes_of rfl rfl rfl rfl, L2.passes_of rfl, hr, ok.cst, ok.blt, ok.fns, ok.exc, ok.hex, ok.thks, nofun⟩
theorem cE_kw {sc : Scope} {x : Str} {px p : Pos} {as : List Expr} {kw : Keyword} {kws : List Keyword} : cE g N sc (.Call (.Name x px) as (kw :: kws) p) = none := by
  cases as with
  | nil => unfold cE; rfl
  | cons a r =>
    cases r with
    | nil => cases a <;> (unfold cE; rfl)
    | cons => cases a <;> (unfold cE; rfl)
mutual
theorem snd_e (e : Expr) : ∀ (g : GI) (X : Cx) (sc : Scope) (W : WX) (ok : Ok X g N sc Γ W k) (e' : IE), cE g N sc e = some e' → Snd X Γ W e e' :=
  match e with
  | .Constant c j p => fun g X sc W ok e' h => by
    unfold cE at h
    exact .plain (re_const h) (by intro _; rfl) (cK_walk h)
  | .Name x p => fun g X sc W ok e' h => by
    unfold cE at h
    exact .plain (re_name ok h ok.hsc) (by intro _; rfl) (cN_walk h)
  | .BinOp a o b p => fun g X sc W ok e' h => by
    unfold cE at h
    obtain ⟨x, y, h1, h2, rfl⟩ := o2_some h
    exact .plain (re_bin ok (snd_e a g X sc W ok x h1).pe (snd_e b g X sc W ok y h2).pe) (by intro _; rfl) ⟨nofun, nofun, nofun⟩
  | .UnaryOp o a p => fun g X sc W ok e' h => by
    unfold cE at h
    split at h
    · obtain ⟨x, h1, rfl⟩ := o1_some h
      exact .mk' (re_not (snd_e a g X sc W ok x h1).pe) (rt_not (snd_e a g X sc W ok x h1).pt) ⟨nofun, nofun, nofun⟩
    · obtain ⟨x, h1, rfl⟩ := o1_some h
      exact .plain (re_neg (snd_e a g X sc W ok x h1).pe) (by intro _; rfl) ⟨nofun, nofun, nofun⟩
    · cases h
  | .BoolOp o vs p => fun g X sc W ok e' h => by
    unfold cE at h
    split at h
    · rename_i a b r
      obtain ⟨q1, q2⟩ := snd_b (a :: b :: r) g X sc W ok p o e' h
      unfold cB at h
      obtain ⟨x, y, h1, h2, rfl⟩ := o2_some h
      cases o <;> exact .mk' q1 q2.pt ⟨nofun, nofun, nofun⟩
    · cases h
  | .Compare a ops bs p => fun g X sc W ok e' h => by
    unfold cE at h
    have hbs := snd_es bs g X sc W ok
    split at h
    · rename_i o x y h1 h2
      cases h
      obtain ⟨b, rfl, h3, pb⟩ := hbs.one h2
      exact .mk' (re_cmp ok (no_mark h3) (snd_e a g X sc W ok x h1).pe pb.pe) (rt_cmp ok (no_mark h3) (snd_e a g X sc W ok x h1).pe pb.pe) ⟨nofun, nofun, nofun⟩
    · rename_i o o2 x y z h1 h2
      cases h
      obtain ⟨b, c, rfl, h3, h4, pb, pc⟩ := hbs.two h2
      have hl : lastMarks [o, o2] [b, c] = false := no_mark h4
      have s1 := fun o => opCmp_s (X := X) (by have := ok.room.un; omega) o
      have ha := (snd_e a g X sc W ok x h1).pe
      exact .mk' (re_chain ok (no_mark h3) (no_mark h4) ha pb.pe pc.pe (pe_chain (s1 _) (s1 _) ha pb.pe pc.pe hl)) (rt_chain ok (pt_chain (s1 _) (s1 _) ha pb.pe pc.pe hl) fun _ _ _ h => h) ⟨nofun, nofun, nofun⟩
    · cases h
  | .IfExp t a b p => fun g X sc W ok e' h => by
    unfold cE at h
    obtain ⟨x, y, z, h1, h2, h3, rfl⟩ := o3_some h
    have s1 := snd_e t g X sc W ok x h1
    have s2 := snd_e a g X sc W ok y h2
    have s3 := snd_e b g X sc W ok z h3
    exact .mk' (re_ite s1.pt s2.pe s3.pe) (rt_ite s1.pt s2.pt s3.pt) ⟨nofun, nofun, nofun⟩
  | .Tuple es j p => fun g X sc W ok e' h => by
    unfold cE at h
    obtain ⟨x, h1, rfl⟩ := o1_some h
    exact .plain (re_tup ((snd_es es g X sc W ok).pa h1)) (by intro _; rfl) ⟨nofun, nofun, nofun⟩
  | .List es p => fun g X sc W ok e' h => by
    unfold cE at h
    obtain ⟨x, h1, rfl⟩ := o1_some h
    exact .plain (re_lst ((snd_es es g X sc W ok).pa h1)) (by intro _; rfl) ⟨nofun, nofun, nofun⟩
  | .Subscript a b p => fun g X sc W ok e' h => by
    have hb := snd_e b g X sc W ok
    cases b
    case Slice lo hi st p2 =>
      unfold cE at h
      split at h
      · obtain ⟨x, y, z, h1, h2, h3, rfl⟩ := o3_some h
        exact .plain (re_sl (snd_e a g X sc W ok x h1).pe (snd_o lo g X sc W ok y h2) (snd_o hi g X sc W ok z h3)) (by intro _; rfl) ⟨nofun, nofun, nofun⟩
      · cases h
    all_goals
      unfold cE at h
      obtain ⟨x, y, h1, h2, rfl⟩ := o2_some h
      exact .plain (re_ix (no_slice h2) (snd_e a g X sc W ok x h1).pe (hb y h2).pe) (by intro _; rfl) ⟨nofun, nofun, nofun⟩
  | .Call f as kws p => fun g X sc W ok e' h => by
    have hs := snd_es as g X sc W ok
    cases f
    case Name x px =>
      cases kws with
      | cons => rw [cE_kw] at h; cases h
      | nil =>
        cases as with
        | nil => unfold cE at h; exact snd_call' ok hs h
        | cons a r =>
          cases r with
          | cons => cases a <;> (unfold cE at h; exact snd_call' ok hs h)
          | nil =>
            cases a
            case Lambda args b scope lp =>
              have sb := fun X' W' => snd_e b g.nl X' scope W'
              unfold cE at h
              split at h
              · rename_i hh
                simp only [Bool.and_eq_true] at hh
                obtain ⟨⟨⟨⟨c1, c2⟩, c3⟩, c4⟩, c5⟩ := hh
                obtain ⟨fn, b', h1, h2, rfl⟩ := o2_some h
                obtain ⟨q1, q2⟩ := look_get h1
                exact .plain (re_lam ok c1 q2 q1 (glX ok c4) c5 c3 c2 fun A outer s H E f' c' hr => (sb _ _ (ok.lam hr) b' h2).pe) (by intro _; rfl) ⟨nofun, nofun, nofun⟩
              · cases h
            all_goals
              unfold cE at h
              exact snd_call' ok hs h
    case Attribute o m ap =>
      cases kws with
      | cons => unfold cE at h; cases h
      | nil =>
        unfold cE at h
        split at h
        · rename_i q x y es hq hx hes
          split at h
          · rename_i hh
            cases h
            exact snd_meth ok hs hes hq hx (snd_e o g X sc W ok x hx).pe hh
          · cases h
        · cases h
    all_goals
      unfold cE at h
      cases h
  | .ListComp e gs scope p => fun g X sc W ok e' h => by
    cases gs with
    | nil => unfold cE at h; cases h
    | cons gen rest =>
      cases rest with
      | cons => cases gen; unfold cE at h; cases h
      | nil =>
        cases gen with
        | mk tg it ifs as =>
          have s1 := snd_e it g X sc W ok
          have s2 := fun X => snd_es ifs g.nl X (relC scope sc) W0
          have s3 := fun X => snd_e e g.nl X (relC scope sc) W0
          unfold cE at h
          dsimp only at h
          split at h
          · rename_i own t i fs x h1 h2 h3 h4 h5
            split at h
            · rename_i h0
              subst h0
              split at h
              · rename_i hh
                cases h
                exact snd_lc ok h1 h2 h3 h4 h5 hh s1 s2 s3
              · cases h
            · cases h
          · cases h
  | .NamedExpr .. => fun g X sc W ok e' h => by unfold cE at h; cases h
  | .Lambda .. => fun g X sc W ok e' h => by unfold cE at h; cases h
  | .Dict .. => fun g X sc W ok e' h => by unfold cE at h; cases h
  | .Set .. => fun g X sc W ok e' h => by unfold cE at h; cases h
  | .SetComp .. => fun g X sc W ok e' h => by unfold cE at h; cases h
  | .DictComp .. => fun g X sc W ok e' h => by unfold cE at h; cases h
  | .GeneratorExp .. => fun g X sc W ok e' h => by unfold cE at h; cases h
  | .Await .. => fun g X sc W ok e' h => by unfold cE at h; cases h
  | .Yield .. => fun g X sc W ok e' h => by unfold cE at h; cases h
  | .YieldFrom .. => fun g X sc W ok e' h => by unfold cE at h; cases h
  | .FormattedValue .. => fun g X sc W ok e' h => by unfold cE at h; cases h
  | .JoinedStr .. => fun g X sc W ok e' h => by unfold cE at h; cases h
  | .Attribute .. => fun g X sc W ok e' h => by unfold cE at h; cases h
  | .Starred .. => fun g X sc W ok e' h => by unfold cE at h; cases h
  | .Slice .. => fun g X sc W ok e' h => by unfold cE at h; cases h
theorem snd_o (o : Option Expr) : ∀ (g : GI) (X : Cx) (sc : Scope) (W : WX) (ok : Ok X g N sc Γ W k) (e' : IE), cO g N sc o = some e' → PO X o (RO X Γ W e') :=
  match o with
  | none => fun g X sc W ok e' h => by
    unfold cO at h
    cases h
    exact ro_no
  | some e => fun g X sc W ok e' h => by
    unfold cO at h
    obtain ⟨h1, h2⟩ := live_some h
    exact ro_some h2 (snd_e e g X sc W ok e' h1).pe
theorem snd_es (es : List Expr) : ∀ (g : GI) (X : Cx) (sc : Scope) (W : WX) (ok : Ok X g N sc Γ W k), SndL X Γ W g N sc es :=
  match es with
  | [] => fun g X sc W ok => .nil
  | e :: es => fun g X sc W ok => .cons (fun e' h => snd_e e g X sc W ok e' h) (snd_es es g X sc W ok)
theorem snd_b (vs : List Expr) : ∀ (g : GI) (X : Cx) (sc : Scope) (W : WX) (ok : Ok X g N sc Γ W k) (p : Pos) (o : BoolOp) (e' : IE), cB g N sc o vs = some e' →
    PE X (.BoolOp o vs p) (RE X Γ W e') ∧ PW X (.BoolOp o vs p) (RT X Γ W e') :=
  match vs with
  | [] => fun g X sc W ok p o e' h => by unfold cB at h; cases h
  | [e] => fun g X sc W ok p o e' h => by
    unfold cB at h
    have s := snd_e e g X sc W ok e' h
    refine ⟨pe_one s.pe, ?_⟩
    cases o with
    | And => exact pw_and1 s.pt
    | Or => exact pw_or1 s.pt
  | e :: f :: es => fun g X sc W ok p o e' h => by
    unfold cB at h
    obtain ⟨x, y, h1, h2, rfl⟩ := o2_some h
    have s := snd_e e g X sc W ok x h1
    obtain ⟨q1, q2⟩ := snd_b (f :: es) g X sc W ok p o y h2
    cases o with
    | And => exact ⟨re_and s.pe q1, rt_and s.pt q2⟩
    | Or => exact ⟨re_or s.pe q1, rt_or s.pt q2⟩
end
/-- a comprehension's parts -/
theorem lc_parts {X : Cx} {sc : Scope} {W : WX} (ok : Ok X g N sc Γ W k) {e : Expr} {gs : List Comprehension} {scope : Scope} {pos : Pos} {e' : IE} (h : cE g N sc (.ListComp e gs scope pos) = some e') :
    ∃ (tg it : Expr) (ifs : List Expr) (own : List (Str × Nat)) (t : Tg) (i : IE) (fs : List IE) (x : IE), gs = [⟨tg, it, ifs, 0⟩] ∧ e' = .lc (own.map (·.2)) t i fs x ∧ PI X tg it (RI X Γ W i) ∧ BlkOk X.N X.env.scope scope own ∧
      (∀ (s : Shared) (H : Hp) (C : Addr) (cl : List (Str × Addr)) (fp : List Addr), PG (X.blk s H scope (compEnvC scope cl C X.env) fp) tg (RG X t)) ∧ (∀ (s : Shared) (H : Hp) (C : Addr) (cl : List (Str × Addr)) (fp : List Addr), PTs (X.blk s H scope (compEnvC scope cl C X.env) fp) ifs (RTs X Γ W0 fs)) ∧
      (∀ (s : Shared) (H : Hp) (C : Addr) (cl : List (Str × Addr)) (fp : List Addr), PE (X.blk s H scope (compEnvC scope cl C X.env) fp) e (RE X Γ W0 x)) ∧ (∀ y, foldedSetIterable it X.env y = pure y) ∧ ∀ j ∈ tgSlots t, j ∈ own.map (·.2) := by
  cases gs with
  | nil => unfold cE at h; cases h
  | cons gen rest =>
    cases rest with
    | cons => cases gen; unfold cE at h; cases h
    | nil =>
      cases gen with
      | mk tg it ifs as =>
        unfold cE at h
        dsimp only at h
        split at h
        · rename_i own t i fs x h1 h2 h3 h4 h5
          split at h
          · rename_i h0
            subst h0
            split at h
            · rename_i hh
              cases h
              simp only [Bool.and_eq_true, decide_eq_true_eq, List.all_eq_true, List.contains_iff_mem] at hh
              obtain ⟨⟨hl, hb⟩, ht⟩ := hh
              have bo : BlkOk X.N X.env.scope scope own := by
                rw [ok.hN, ok.hsc]; exact blk_ok hb
              refine ⟨tg, it, ifs, own, t, i, fs, x, rfl, rfl, (snd_e it g X sc W ok i h3).pi tg, bo, fun s H C cl fp => rg_of ok.blkT tg t h2, fun s H C cl fp => ?_, fun s H C cl fp => (snd_e e g.nl _ (relC scope sc) W0 ok.blk x h5).pe, no_fold h3, ht⟩
              have q := snd_es ifs g.nl _ (relC scope sc) W0 (ok.blk (scope := scope) (s := s) (H := H) (C := C) (cl := cl) (fp := fp))
              match ifs, hl with
              | [], _ => unfold cEs at h4; cases h4; exact rts_nil
              | [a], _ =>
                unfold cEs at h4
                obtain ⟨y, ys, h6, h7, rfl⟩ := o2_some h4
                unfold cEs at h7
                cases h7
                exact rts_one (q.all.1 _ h6).pt
              | _ :: _ :: _, hl => simp at hl
            · cases h
          · cases h
        · cases h
theorem cT_name {sc : Scope} {x : Str} {p : Pos} {t : Tg} (h : cT N sc (.Name x p) = some t) : ∃ i, N[i]? = some x ∧ t = .v i := by
  unfold cT at h
  split at h
  · obtain ⟨i, h1, rfl⟩ := o1_some h
    exact ⟨i, slot_get h1, rfl⟩
  · cases h
end
end G
end

section
set_option Elab.async false
set_option linter.all false
set_option maxRecDepth 100000
set_option maxHeartbeats 4000000
set_option autoImplicit false
/-! GStmt: statements do what the evaluator says. -/
namespace G
open PySem L2
variable [Tables]
section
variable {X : Cx} {g : GI} {N : List Str} {sc : Scope} {Γ : Ctx} {W : WX} {k : Nat} {pos : Pos}
/-! ### readings -/
theorem PostS.of {K : PySem.W.Frag} {mg : Str → Option Value} {ι : List (Addr × Bool)} {H : Hp} {r : R D} {ρ : Lo} {f : D → Cells → SR} {E : Ends} {σ : St} (h : PostS K mg W ι H (ofE r ρ f) E) (hσ : SRep K ι H σ ρ) :
    Post K mg W σ ι H r fun d c ι' H' => PostS K mg W ι' H' (f d c) E := by
  cases r with
  | ok d c => exact fun ι' H' e1 _ => PostS.mono h e1
  | ex x c => exact fun ι' H' C e1 h1 g => h ι' H' σ C e1 h1 (hσ.mono e1) g
  | no => exact h
theorem PostS.nx {K : PySem.W.Frag} {mg : Str → Option Value} {ι : List (Addr × Bool)} {H : Hp} {c : Cells} {ρ : Lo} {E : Ends} {σ : St} (h : PostS K mg W ι H (.nx ρ c) E) (hH : HRep K ι H c) (hσ : SRep K ι H σ ρ) : E.nx σ H := h ι H σ .refl hH hσ
/-- t = e: the value, then the targets -/
theorem set_read {t : Tg} {e' : IE} {E : Ends} {σ : St} {H : Hp} (h : RS X Γ W (.set t e') E σ H) : tAsg (RE X Γ W e') (RG X t) E σ H := by
  obtain ⟨ι, ρ, c, hσ, hH, hp⟩ := h
  unfold dS at hp
  refine ⟨ι, ρ, c, hσ, hH, (PostS.of hp hσ).imp fun d c1 ι1 H1 e1 h1 hp1 v rv => ?_⟩
  split at hp1
  · rename_i ρ' ha
    exact ⟨ι1, ρ, c1, d, ρ', hσ.mono e1, h1, rv, ha, fun σ' hs _ => hp1.nx h1 hs⟩
  · exact hp1.elim
theorem setV_read {i : Nat} {e' : IE} {E : Ends} {σ : St} {H : Hp} (h : RS X Γ W (.set (.v i) e') E σ H) : tAsg (RE X Γ W e') (gName i) E σ H := by
  obtain ⟨ι, ρ, c, hσ, hH, hp⟩ := h
  unfold dS at hp
  refine ⟨ι, ρ, c, hσ, hH, (PostS.of hp hσ).imp fun d c1 ι1 H1 e1 h1 hp1 v rv => ?_⟩
  unfold asg at hp1
  exact hp1.nx h1 ((hσ.mono e1).set rv)
theorem expr_read {e' : IE} {E : Ends} {σ : St} {H : Hp} (h : RS X Γ W (.expr e') E σ H) : tDrop (RE X Γ W e') E σ H := by
  obtain ⟨ι, ρ, c, hσ, hH, hp⟩ := h
  unfold dS at hp
  exact ⟨ι, ρ, c, hσ, hH, (PostS.of hp hσ).imp fun d c1 ι1 H1 e1 h1 hp1 v rv => hp1.nx h1 (hσ.mono e1)⟩
theorem ret_read {e' : IE} {E : Ends} {σ : St} {H : Hp} (h : RS X Γ W (.ret e') E σ H) : tRet (RE X Γ W e') E σ H := by
  obtain ⟨ι, ρ, c, hσ, hH, hp⟩ := h
  unfold dS at hp
  exact ⟨ι, ρ, c, hσ, hH, (PostS.of hp hσ).imp fun d c1 ι1 H1 e1 h1 hp1 v rv => hp1 ι1 H1 v .refl h1 rv⟩
theorem ife_read {t : IE} {a b : List IS} {E : Ends} {σ : St} {H : Hp} (h : RS X Γ W (.ife t a b) E σ H) : tIfS (RT X Γ W t) (RSs X Γ W a) (RSs X Γ W b) E σ H := by
  obtain ⟨ι, ρ, c, hσ, hH, hp⟩ := h
  unfold dS at hp
  refine ⟨ι, ρ, c, hσ, hH, (PostS.of hp hσ).imp fun d c1 ι1 H1 e1 h1 hp1 => ?_⟩
  split at hp1
  · rename_i q
    exact ⟨true, q, by simp only [if_true]; exact ⟨ι1, ρ, c1, hσ.mono e1, h1, hp1⟩⟩
  · rename_i q
    exact ⟨false, q, by simp only [Bool.false_eq_true, if_false]; exact ⟨ι1, ρ, c1, hσ.mono e1, h1, hp1⟩⟩
  · exact hp1.elim
theorem setIx_read {o i e' : IE} {E : Ends} {σ : St} {H : Hp} (h : RS X Γ W (.setIx o i e') E σ H) : tAsg (RE X Γ W e') (gSub (RE X Γ W o) (RE X Γ W i) rSetL) E σ H := by
  obtain ⟨ι, ρ, c, hσ, hH, hp⟩ := h
  unfold dS at hp
  refine ⟨ι, ρ, c, hσ, hH, (PostS.of hp hσ).imp fun z c1 ι1 H1 e1 h1 hp1 v rv => ⟨ι1, ρ, c1, hσ.mono e1, h1, (PostS.of hp1 (hσ.mono e1)).imp fun x c2 ι2 H2 e2 h2 hp2 ov ro =>
    ⟨ι2, ρ, c2, hσ.mono (e1.trans e2), h2, (PostS.of hp2 (hσ.mono (e1.trans e2))).imp fun y c3 ι3 H3 e3 h3 hp3 iv ri => ?_⟩⟩⟩
  split at hp3
  · rename_i n kk
    split at hp3
    · rename_i xs gq
      split at hp3
      · rename_i j hj
        obtain ⟨ad, us, g1, q1, r1⟩ := h3.lstW gq
        cases rep_fn (ro.mono e3) ⟨true, g1⟩
        cases ri
        have hlt : j < xs.length := (ixN_seq (n := xs.length) (show L2.ixN xs.length kk = some j from hj)).2.1
        obtain ⟨e4, h4⟩ := h3.write g1 gq q1 (Reps.set (rv.mono (e2.trans e3)) j r1)
        exact ⟨ad, us, kk, j, rfl, rfl, q1, by rw [r1.length]; exact hj, hp3 ι3 _ σ e4 h4 (hσ.mono (e1.trans (e2.trans (e3.trans e4))))⟩
      · exact hp3.elim
    · exact hp3.elim
  · exact hp3.elim
theorem aug_read {o : Operator} {f : Int → Int → Int} (ho : (o = .Add ∧ f = fun i j => i + j) ∨ (o = .Sub ∧ f = fun i j => i - j)) {i : Nat} {e' : IE} {E : Ends} {σ : St} {H : Hp} (h : RS X Γ W (.aug o i e') E σ H) : tAug i (RE X Γ W e') (ipI f) E σ H := by
  obtain ⟨ι, ρ, c, hσ, hH, hp⟩ := h
  unfold dS at hp
  split at hp
  · rename_i x hx
    obtain ⟨v, hv, rv⟩ := hσ.get i _ hx
    cases rv
    refine ⟨_, hv, ι, ρ, c, hσ, hH, (PostS.of hp hσ).imp fun y c1 ι1 H1 e1 h1 hp1 u ru => ?_⟩
    rcases ho with ⟨rfl, rfl⟩ | ⟨rfl, rfl⟩
    · cases y with
      | int z => cases ru; exact ⟨x, z, rfl, rfl, hp1.nx h1 ((hσ.mono e1).set rfl)⟩
      | _ => exact hp1.elim
    · cases y with
      | int z => cases ru; exact ⟨x, z, rfl, rfl, hp1.nx h1 ((hσ.mono e1).set rfl)⟩
      | _ => exact hp1.elim
  · exact hp.elim
theorem seq_read {s : IS} {r : List IS} {E : Ends} {σ : St} {H : Hp} (h : RSs X Γ W (s :: r) E σ H) : tSeq (RS X Γ W s) (RSs X Γ W r) E σ H := by
  obtain ⟨ι, ρ, c, hσ, hH, hp⟩ := h
  unfold dSs at hp
  refine ⟨ι, ρ, c, hσ, hH, ?_⟩
  cases q : dS Γ s ρ c with
  | nx ρ' c' =>
    rw [q] at hp
    intro ι' H' σ' e1 h1 s1
    exact ⟨ι', ρ', c', s1, h1, PostS.mono hp e1⟩
  | _ => rw [q] at hp; exact hp
theorem nil_read {E : Ends} {σ : St} {H : Hp} (h : RSs X Γ W [] E σ H) : tNext E σ H := by
  obtain ⟨ι, ρ, c, hσ, hH, hp⟩ := h
  unfold dSs at hp
  exact hp.nx hH hσ
/-! ### loops -/
noncomputable def whF (Γ : Ctx) (t : IE) (b : List IS) : Lo → Cells → Lo × Cells ⊕ SR := fun ρ c => match dE Γ t ρ c with
  | .ok x c1 => (match truth c1 x with
    | some true => (match dSs Γ b ρ c1 with
      | .nx ρ' c' => .inl (ρ', c')
      | .ct ρ' c' => .inl (ρ', c')
      | .bk ρ' c' => .inr (.nx ρ' c')
      | r => .inr r)
    | some false => .inr (.nx ρ c1)
    | none => .inr .no)
  | .ex e c1 => .inr (.ex e ρ c1)
  | .no => .inr .no
theorem whl_read {t : IE} {b : List IS} {E : Ends} {σ : St} {H : Hp} (h : RS X Γ W (.whl t b) E σ H) : tWhile (RT X Γ W t) (RSs X Γ W b) E σ H := by
  obtain ⟨ι, ρ, c, hσ, hH, hp⟩ := h
  have hp : PostS X.K X.mg W ι H (whlGo (whF Γ t b) ρ c) E := by unfold dS at hp; exact hp
  obtain ⟨m, r, hm, hr⟩ : ∃ m r, whlN (whF Γ t b) m ρ c = some r ∧ PostS X.K X.mg W ι H r E := by
    by_cases q : ∃ r n, whlN (whF Γ t b) n ρ c = some r
    · obtain ⟨r, n, q⟩ := q
      rw [whlGo_of q] at hp
      exact ⟨n, r, q, hp⟩
    · unfold whlGo at hp
      rw [dif_neg q] at hp
      exact hp.elim
  refine ⟨fun m σ H => ∃ ι ρ c r, SRep X.K ι H σ ρ ∧ HRep X.K ι H c ∧ whlN (whF Γ t b) m ρ c = some r ∧ PostS X.K X.mg W ι H r E, ⟨m, ι, ρ, c, r, hσ, hH, hm, hr⟩, ?_⟩
  clear hσ hH hp hm hr
  rintro m σ H ⟨ι, ρ, c, r, hσ, hH, hm, hr⟩
  cases m with
  | zero => cases hm
  | succ m =>
  unfold whlN at hm
  refine ⟨ι, ρ, c, hσ, hH, ?_⟩
  cases q : dE Γ t ρ c with
  | no =>
    have : whF Γ t b ρ c = .inr .no := by unfold whF; rw [q]
    rw [this] at hm
    cases hm
    exact hr.elim
  | ex x c1 =>
    have : whF Γ t b ρ c = .inr (.ex x ρ c1) := by unfold whF; rw [q]
    rw [this] at hm
    cases hm
    exact fun ι' H' C e1 h1 g => hr ι' H' σ C e1 h1 (hσ.mono e1) g
  | ok d c1 =>
    intro ι1 H1 e1 h1
    cases qt : truth c1 d with
    | none =>
      have : whF Γ t b ρ c = .inr .no := by unfold whF; rw [q]; dsimp only; rw [qt]
      rw [this] at hm
      cases hm
      exact hr.elim
    | some bb =>
    refine ⟨bb, rfl, ?_⟩
    cases bb with
    | false =>
      have : whF Γ t b ρ c = .inr (.nx ρ c1) := by unfold whF; rw [q]; dsimp only; rw [qt]
      rw [this] at hm
      cases hm
      simp only [Bool.false_eq_true, if_false]
      exact hr ι1 H1 σ e1 h1 (hσ.mono e1)
    | true =>
      simp only [if_true]
      refine ⟨fun σ' H' => ∃ ι ρ c r, SRep X.K ι H' σ' ρ ∧ HRep X.K ι H' c ∧ whlN (whF Γ t b) m ρ c = some r ∧ PostS X.K X.mg W ι H' r E, fun σ' H' n => ⟨m, Nat.lt_succ_self m, n⟩, ι1, ρ, c1, hσ.mono e1, h1, ?_⟩
      have hr := PostS.mono hr e1
      cases qs : dSs Γ b ρ c1 with
      | nx ρ' c' =>
        have : whF Γ t b ρ c = .inl (ρ', c') := by unfold whF; rw [q]; dsimp only; rw [qt]; dsimp only; rw [qs]
        rw [this] at hm
        exact fun ι' H' σ' e2 h2 s2 => ⟨ι', ρ', c', r, s2, h2, hm, PostS.mono hr e2⟩
      | ct ρ' c' =>
        have : whF Γ t b ρ c = .inl (ρ', c') := by unfold whF; rw [q]; dsimp only; rw [qt]; dsimp only; rw [qs]
        rw [this] at hm
        exact fun ι' H' σ' e2 h2 s2 => ⟨ι', ρ', c', r, s2, h2, hm, PostS.mono hr e2⟩
      | bk ρ' c' =>
        have : whF Γ t b ρ c = .inr (.nx ρ' c') := by unfold whF; rw [q]; dsimp only; rw [qt]; dsimp only; rw [qs]
        rw [this] at hm
        cases hm
        exact fun ι' H' σ' e2 h2 s2 => hr ι' H' σ' e2 h2 s2
      | rt dd c' =>
        have : whF Γ t b ρ c = .inr (.rt dd c') := by unfold whF; rw [q]; dsimp only; rw [qt]; dsimp only; rw [qs]
        rw [this] at hm
        cases hm
        exact hr
      | ex x ρ' c' =>
        have : whF Γ t b ρ c = .inr (.ex x ρ' c') := by unfold whF; rw [q]; dsimp only; rw [qt]; dsimp only; rw [qs]
        rw [this] at hm
        cases hm
        exact hr
      | no =>
        have : whF Γ t b ρ c = .inr .no := by unfold whF; rw [q]; dsimp only; rw [qt]; dsimp only; rw [qs]
        rw [this] at hm
        cases hm
        exact hr.elim
noncomputable def foF (Γ : Ctx) (t : Tg) (b : List IS) : D → Lo → Cells → SR := fun x ρ c => match asg c t x ρ with
  | none => .no
  | some ρ' => dSs Γ b ρ' c
theorem for_read {t : Tg} {it : IE} {b : List IS} {E : Ends} {σ : St} {H : Hp} (h : RS X Γ W (.for t it b) E σ H) : tFor (RI X Γ W it) (RG X t) (RSs X Γ W b) E σ H := by
  obtain ⟨ι, ρ, c, hσ, hH, hp⟩ := h
  have hp : PostS X.K X.mg W ι H (match dI Γ it ρ c with
    | .ok p c1 => forGo (foF Γ t b) p.2 p.1 ρ c1
    | .ex e c1 => .ex e ρ c1
    | .no => .no) E := by unfold dS at hp; exact hp
  refine ⟨ι, ρ, c, hσ, hH, ?_⟩
  cases q : dI Γ it ρ c with
  | no => rw [q] at hp; exact hp.elim
  | ex x c1 => rw [q] at hp; exact fun ι' H' C e1 h1 g => hp ι' H' σ C e1 h1 (hσ.mono e1) g
  | ok p c1 =>
  rw [q] at hp
  dsimp only at hp
  intro ι1 H1 e1 h1 J hw
  obtain ⟨xs, ws⟩ := p
  dsimp only at hp hw
  refine ⟨fun i m σ H => m = xs.length - i ∧ i ≤ xs.length ∧ ∃ ι ρ c, Ext ι1 H1 ι H ∧ SRep X.K ι H σ ρ ∧ HRep X.K ι H c ∧ same ws c1 c = true ∧ PostS X.K X.mg W ι H (forGo (foF Γ t b) ws (xs.drop i) ρ c) E,
    ⟨xs.length, by simp, Nat.zero_le _, ι1, ρ, c1, .refl, hσ.mono e1, h1, same_refl, by simpa using PostS.mono hp e1⟩, ?_⟩
  rintro i m σ5 H5 ⟨rfl, hi, ι5, ρ5, c5, e5, s5, h5, sm5, q5⟩
  by_cases hlt : i < xs.length
  · have hx : xs[i]? = some xs[i] := List.getElem?_eq_getElem hlt
    obtain ⟨hgo, hyld⟩ := (hw ι5 H5 c5 i e5 h5 sm5).1 _ hx
    refine .inr ⟨hgo, fun σ' H' => ∃ ι ρ c, Ext ι1 H1 ι H' ∧ SRep X.K ι H' σ' ρ ∧ HRep X.K ι H' c ∧ same ws c1 c = true ∧ PostS X.K X.mg W ι H' (forGo (foF Γ t b) ws (xs.drop (i + 1)) ρ c) E, fun σ' H' n => ⟨xs.length - (i + 1), by omega, rfl, hlt, n⟩, fun x H6 hy => ?_⟩
    obtain ⟨e6, h6, rx⟩ := hyld x H6 hy
    rw [List.drop_eq_getElem_cons hlt] at q5
    generalize xs[i] = d at q5 rx
    unfold forGo at q5
    cases ha : asg c5 t d ρ5 with
    | none =>
      have : foF Γ t b d ρ5 c5 = .no := by unfold foF; rw [ha]
      rw [this] at q5
      exact q5.elim
    | some ρ' =>
    have hf : foF Γ t b d ρ5 c5 = dSs Γ b ρ' c5 := by unfold foF; rw [ha]
    rw [hf] at q5
    have q5 := PostS.mono q5 e6
    refine ⟨ι5, ρ5, c5, d, ρ', s5.mono e6, h6, rx, ha, fun σ2 hσ2 _ => ⟨ι5, ρ', c5, hσ2, h6, ?_⟩⟩
    cases qs : dSs Γ b ρ' c5 with
    | nx ρ2 c' =>
      rw [qs] at q5
      dsimp only at q5
      split at q5
      · rename_i sm
        exact fun ι' H' σ' e2 h2 s2 => ⟨ι', ρ2, c', (e5.trans e6).trans e2, s2, h2, same_trans sm5 sm, PostS.mono q5 e2⟩
      · exact q5.elim
    | ct ρ2 c' =>
      rw [qs] at q5
      dsimp only at q5
      split at q5
      · rename_i sm
        exact fun ι' H' σ' e2 h2 s2 => ⟨ι', ρ2, c', (e5.trans e6).trans e2, s2, h2, same_trans sm5 sm, PostS.mono q5 e2⟩
      · exact q5.elim
    | bk ρ2 c' => rw [qs] at q5; exact fun ι' H' σ' e2 h2 s2 => q5 ι' H' σ' e2 h2 s2
    | rt dd c' => rw [qs] at q5; exact q5
    | ex x ρ2 c' => rw [qs] at q5; exact q5
    | no => rw [qs] at q5; exact q5.elim
  · have e' : i = xs.length := by omega
    subst e'
    refine .inl ⟨(hw ι5 H5 c5 _ e5 h5 sm5).2 (Nat.le_refl _), ?_⟩
    rw [List.drop_length] at q5
    unfold forGo at q5
    exact q5.nx h5 s5
/-! ### a pair of names -/
theorem par_read {i j : Nat} {es : List IE} {E : Ends} {σ : St} {H : Hp} (h : RS X Γ W (.set (.tup [.v i, .v j]) (.tup es)) E σ H) : tPar i j (RA X Γ W es) E σ H := by
  obtain ⟨ι, ρ, c, hσ, hH, hp⟩ := h
  unfold dS at hp
  have hp1 := PostS.of hp hσ
  unfold dE at hp1
  refine ⟨ι, ρ, c, hσ, hH, (Post.bind hp1).imp fun xs c1 ι1 H1 e1 h1 hp2 vs rv => ?_⟩
  split at hp2
  · have hp3 := hp2.ok h1
    split at hp3
    · rename_i ρ' ha
      unfold asg at ha
      have hl := asgs_len ha
      obtain ⟨x, y, rfl⟩ : ∃ x y, xs = [x, y] := by
        match xs, hl with
        | [x, y], _ => exact ⟨x, y, rfl⟩
      obtain ⟨v, r, rfl, r1, w, z, rfl, r2, rfl⟩ := rv
      simp only [asgs, asg, Option.some.injEq] at ha
      subst ha
      exact ⟨v, w, rfl, hp3.nx h1 (((hσ.mono e1).set r1).set r2)⟩
    · exact hp3.elim
  · exact hp2.elim
theorem par3_read {i j l : Nat} {es : List IE} {E : Ends} {σ : St} {H : Hp} (h : RS X Γ W (.set (.tup [.v i, .v j, .v l]) (.tup es)) E σ H) : tPar3 i j l (RA X Γ W es) E σ H := by
  obtain ⟨ι, ρ, c, hσ, hH, hp⟩ := h
  unfold dS at hp
  have hp1 := PostS.of hp hσ
  unfold dE at hp1
  refine ⟨ι, ρ, c, hσ, hH, (Post.bind hp1).imp fun xs c1 ι1 H1 e1 h1 hp2 vs rv => ?_⟩
  split at hp2
  · have hp3 := hp2.ok h1
    split at hp3
    · rename_i ρ' ha
      unfold asg at ha
      have hl := asgs_len ha
      obtain ⟨x, y, z, rfl⟩ : ∃ x y z, xs = [x, y, z] := by
        match xs, hl with
        | [x, y, z], _ => exact ⟨x, y, z, rfl⟩
      obtain ⟨v, r, rfl, r1, w, t, rfl, r2, u, o, rfl, r3, rfl⟩ := rv
      simp only [asgs, asg, Option.some.injEq] at ha
      subst ha
      exact ⟨v, w, u, rfl, hp3.nx h1 ((((hσ.mono e1).set r1).set r2).set r3)⟩
    · exact hp3.elim
  · exact hp2.elim
/-! ### exceptions -/
theorem raise_read {x : String} {C : Addr} (hC : X.mg (Str.ofString x) = some (.ref C)) {E : Ends} {σ : St} {H : Hp} (h : RS X Γ W (.raise x) E σ H) : W (.ref C) none σ H := by
  obtain ⟨ι, ρ, c, hσ, hH, hp⟩ := h
  unfold dS at hp
  exact hp ι H σ C .refl hH hσ hC
theorem try_read {b : List IS} {hs : List (String × D)} {L : List (Value × (Addr → Value → Option Addr → TS))} {E : Ends} {σ : St} {H : Hp} (hex : Γ.excs = g.excs) (hv : ∀ y d, hs.lookup y = some d → ∀ (K : PySem.W.Frag) (ι : List (Addr × Bool)) (H : Hp), Rep K ι H d (vD d))
    (hm : ∀ (x : String) (C : Addr) (dd : Option Addr) (σ : St) (H : Hp), x ∈ g.excs → X.mg (Str.ofString x) = some (.ref C) → (∀ d, hs.lookup x = some d → E.rt (vD d) H → wMany X.K W E L (.ref C) dd σ H) ∧ (hs.lookup x = none → W (.ref C) dd σ H → wMany X.K W E L (.ref C) dd σ H))
    (h : RS X Γ W (.try b hs) E σ H) : RSs X Γ (wMany X.K W E L) b E σ H := by
  obtain ⟨ι, ρ, c, hσ, hH, hp⟩ := h
  unfold dS at hp
  refine ⟨ι, ρ, c, hσ, hH, ?_⟩
  cases q : dSs Γ b ρ c with
  | ex x ρ' c' =>
    rw [q] at hp
    dsimp only at hp
    split at hp
    · rename_i hx
      rw [hex] at hx
      intro ι' H' σ' C e1 h1 s1 hC
      split at hp
      · rename_i d hd
        exact (hm x C none σ' H' hx hC).1 d hd (hp ι' H' _ e1 h1 (hv x d hd _ _ _))
      · rename_i hd
        exact (hm x C none σ' H' hx hC).2 hd (hp ι' H' σ' C e1 h1 s1 hC)
    · exact hp.elim
  | _ => rw [q] at hp; exact hp
/-- X(), X an own exception class without own __init__ -/
theorem pmk_own0 {C : Addr} {bmB : List Value} {B newId initId : String} {x : Str} {p : Pos} (F : ExcBaseFacts B newId initId bmB) (q : PySem.W.excIn X.K C bmB newId = true) (gC : X.mg x = some (.ref C))
    (kC : PySem.W.keepIn X.K (.ref C) = true) (r : Raises X (.ref C)) (hg : Gl X x) (hdb : (x == ("__debug__" : Str)) = false) : PMk X (.Call (.Name x p) [] [] pos) (fun σ H Q => Q (.ref C) none H) := by
  intro pins s σ H Q I h
  refine wpAny_Call_Name_kw (ld_glob I hg gC ?_ hdb)
  refine PySem.W.callWith_K0 I.kIn kC ?_
  show wpAny _ _ (call (.ref C) []) _ _ _
  obtain ⟨bm, N, nm, qn, bs, hdct, sn, sub, ab, col, dd, k0, k1, k2, k3, k5, mN, hC, hN, hni, T⟩ := exc_obj I.kIn q
  refine wpAny_call_exc_subT F T hC hN hni (fun h' e hm => ?_) (Nat.zero_le _)
  exact mk_of I hm r h (I.hok.gone hm.new)
/-! ### the statements -/
structure SOk (X : Cx) (g : GI) (N : List Str) (sc : Scope) (Γ : Ctx) (W : WX) (k : Nat) : Prop where
  ok : Ok X g N sc Γ W k
  tok : TOk X N sc
  stack : X.stack = X.env :: X.outer
  frame : X.env.frame = some X.env.locals
theorem SOk.tr {W' : WX} (s : SOk X g N sc Γ W k) {pn : List (Addr × Obj)} {xe : Value → Shared → Prop} (tk : Takes (X.tr pn xe) W') (ps : PassesOwn (model X.prog X.w) X.A X.env xe) : SOk (X.tr pn xe) g N sc Γ W' k :=
  ⟨⟨s.ok.hN, s.ok.nd, s.ok.hsc, s.ok.calm, tk, ps, s.ok.room, s.ok.cst, s.ok.blt, s.ok.fns, s.ok.exc, s.ok.hex, s.ok.thks, s.ok.deep⟩, ⟨s.tok.hN, s.tok.nd, s.tok.calm, s.tok.loc⟩, s.stack, s.frame⟩
theorem sw_none {e : Expr} {l : Nat} {env : Env} (h : isComp e = false) {e' : IE} (hc : cE g N sc e = some e') (t : Option Expr) : swapsWith e t l env = pure false := by
  cases e with
  | ListComp => cases h
  | SetComp => unfold cE at hc; cases hc
  | DictComp => unfold cE at hc; cases hc
  | _ => rfl
theorem sw_other {e t : Expr} {l : Nat} {env : Env} (ht : ∀ x p, t ≠ .Name x p) : swapsWith e (some t) l env = pure false := by
  cases t with
  | Name x p => exact absurd rfl (ht x p)
  | _ => cases e <;> rfl
theorem stored_env {t e : Expr} {env : Env} : swappedStores [t] e env = swappedStores [t] e (envD env.scope) := rfl
theorem swC_some {t e : Expr} {env : Env} {r : Option (List Str)} (hs : env.scope = sc) (h : swC sc t e = some r) : swappedStores [t] e env = pure r := by
  rw [stored_env, hs]
  unfold swC at h
  split at h
  · rename_i q
    cases h
    exact q
  · cases h
theorem snd_set {x : Str} {px : Pos} {e : Expr} {is : IS} (s : SOk X g N sc Γ W k) (h : cS g N sc (.Assign [.Name x px] e pos) = some is) : PS X (.Assign [.Name x px] e pos) (RS X Γ W is) := by
  unfold cS at h
  split at h
  case isFalse => cases h
  rename_i hl
  obtain ⟨i, e', h1, h2, rfl⟩ := o2_some h
  have hi : X.N[i]? = some x := by rw [s.ok.hN]; exact slot_get h1
  have hN : X.N.Nodup := by rw [s.ok.hN]; exact s.ok.nd
  obtain ⟨q1, q2⟩ := s.tok.loc x hl
  have he := snd_e e g X sc W s.ok e' h2
  have gen : swapsWith e (some (.Name x px)) pos.line X.env = pure false → PS X (.Assign [.Name x px] e pos) (RS X Γ W (.set (.v i) e')) := fun hs => PS.imp (ps_set hN hi q1 he.pe hs q2) fun _ _ _ h => setV_read h
  cases e
  case ListComp elt gs scope lp =>
    have hb : ∃ b : Bool, swapsWith (.ListComp elt gs scope lp) (some (.Name x px)) pos.line X.env = pure b := ⟨_, rfl⟩
    obtain ⟨b, hb⟩ := hb
    cases b with
    | false => exact gen hb
    | true =>
      have hloc : X.env.scope.names.lookup x = some .local := by
        have hb2 : (X.env.blockKind == .function && X.env.kindOf x == some .local && px.line == lp.line && !(scope.names.any fun (n, k) => n == x && (k == .local || k == .cell))) = true := by
          have : (pure (X.env.blockKind == .function && X.env.kindOf x == some .local && px.line == lp.line && !(scope.names.any fun (n, k) => n == x && (k == .local || k == .cell))) : Sem Bool) = pure true := hb
          injection this
        simp only [Bool.and_eq_true, beq_iff_eq] at hb2
        exact hb2.1.1.2
      obtain ⟨tg, it, ifs, own, t, i', fs, x', rfl, rfl, L⟩ := lc_parts s.ok h2
      obtain ⟨l1, l2, l3, l4, l5, l6, l7⟩ := L
      refine PS.imp (ps_setLc s.ok.calm hN hi hloc hb l1 l2 l3 l4 l5 l6) fun E σ H h => ?_
      exact lc_read l7 (setV_read h)
  all_goals exact gen (sw_none rfl h2 _)
theorem tup_targets {es : List Expr} {j : Nat} {tp : Pos} {env : Env} : (assignEach [.Tuple es j tp] env).map (·.2) = [assign (.Tuple es j tp) env] := rfl
theorem parT_some {es : List Expr} {e : Expr} {names : List Str} (h : parT sc es e names = true) :
    (∃ x px y py a b k2 pt2, es = [.Name x px, .Name y py] ∧ e = .Tuple [a, b] k2 pt2 ∧ names = [x, y] ∧ sc.names.lookup x = some .local ∧ sc.names.lookup y = some .local ∧ x ≠ y) ∨
    (∃ x px y py z pz a b c k2 pt2, es = [.Name x px, .Name y py, .Name z pz] ∧ e = .Tuple [a, b, c] k2 pt2 ∧ names = [x, y, z] ∧ sc.names.lookup x = some .local ∧ sc.names.lookup y = some .local ∧ sc.names.lookup z = some .local ∧ x ≠ y ∧ x ≠ z ∧ y ≠ z) := by
  unfold parT at h
  split at h
  · simp only [Bool.and_eq_true, beq_iff_eq, Bool.not_eq_true', beq_eq_false_iff_ne] at h
    obtain ⟨⟨hn, hl⟩, hxy⟩ := h
    split at hl
    · rename_i l1 l2
      exact .inl ⟨_, _, _, _, _, _, _, _, rfl, rfl, hn, l1, l2, hxy⟩
    · cases hl
  · simp only [Bool.and_eq_true, beq_iff_eq, Bool.not_eq_true', beq_eq_false_iff_ne] at h
    obtain ⟨⟨⟨⟨hn, hl⟩, hxy⟩, hxz⟩, hyz⟩ := h
    split at hl
    · rename_i l1 l2 l3
      exact .inr ⟨_, _, _, _, _, _, _, _, _, _, _, rfl, rfl, hn, l1, l2, l3, hxy, hxz, hyz⟩
    · cases hl
  · cases h
theorem snd_tup {es : List Expr} {j : Nat} {tp : Pos} {e : Expr} {is : IS} (s : SOk X g N sc Γ W k) (h : cS g N sc (.Assign [.Tuple es j tp] e pos) = some is) : PS X (.Assign [.Tuple es j tp] e pos) (RS X Γ W is) := by
  unfold cS at h
  have hN : X.N.Nodup := by rw [s.ok.hN]; exact s.ok.nd
  split at h
  · rename_i hsw
    obtain ⟨t, e', h1, h2, rfl⟩ := o2_some h
    exact PS.imp (ps_asg (snd_e e g X sc W s.ok e' h2).pe (rg_of s.tok _ t h1) (sw_other (env := X.env) (l := pos.line) (t := .Tuple es j tp) (by intro _ _ z; cases z)) (swC_some s.ok.hsc hsw) tup_targets) fun _ _ _ h => set_read h
  · rename_i names hsw
    split at h
    case isFalse => cases h
    rename_i hpar
    obtain ⟨t, e', h1, h2, rfl⟩ := o2_some h
    have hsw := swC_some s.ok.hsc hsw
    rcases parT_some hpar with ⟨x, px, y, py, a, b, k2, pt2, rfl, rfl, rfl, lx, ly, hxy⟩ | ⟨x, px, y, py, z, pz, a, b, c, k2, pt2, rfl, rfl, rfl, lx, ly, lz, hxy, hxz, hyz⟩
    · unfold cT at h1
      obtain ⟨ts, h3, rfl⟩ := o1_some h1
      unfold cTs at h3
      obtain ⟨t1, r1, h4, h5, rfl⟩ := o2_some h3
      unfold cTs at h5
      obtain ⟨t2, r2, h6, h7, rfl⟩ := o2_some h5
      unfold cTs at h7
      cases h7
      obtain ⟨i, hi, rfl⟩ := cT_name h4
      obtain ⟨jj, hj, rfl⟩ := cT_name h6
      unfold cE at h2
      obtain ⟨es', h8, rfl⟩ := o1_some h2
      have hij : i ≠ jj := fun z => hxy (by
        rw [z, hj] at hi
        exact (Option.some.inj hi).symm)
      have hsole : ∀ (l : Nat), swapsWithSole [.Tuple [.Name x px, .Name y py] j tp] (.Tuple [a, b] k2 pt2) l X.env = pure false := fun _ => rfl
      exact PS.imp (ps_par s.ok.calm hN (by rw [s.ok.hN]; exact hi) (by rw [s.ok.hN]; exact hj) hij (by rw [s.ok.hsc]; exact lx) (by rw [s.ok.hsc]; exact ly) ((snd_es _ g X sc W s.ok).pa h8) hsw (hsole _)) fun _ _ _ h => par_read h
    · unfold cT at h1
      obtain ⟨ts, h3, rfl⟩ := o1_some h1
      unfold cTs at h3
      obtain ⟨t1, r1, h4, h5, rfl⟩ := o2_some h3
      unfold cTs at h5
      obtain ⟨t2, r2, h6, h7, rfl⟩ := o2_some h5
      unfold cTs at h7
      obtain ⟨t3, r3, h9, h10, rfl⟩ := o2_some h7
      unfold cTs at h10
      cases h10
      obtain ⟨i, hi, rfl⟩ := cT_name h4
      obtain ⟨jj, hj, rfl⟩ := cT_name h6
      obtain ⟨ll, hl', rfl⟩ := cT_name h9
      unfold cE at h2
      obtain ⟨es', h8, rfl⟩ := o1_some h2
      have ne : ∀ {a b : Nat} {u v : Str}, N[a]? = some u → N[b]? = some v → u ≠ v → a ≠ b := fun h1 h2 hne z => hne (by
        rw [z, h2] at h1
        exact (Option.some.inj h1).symm)
      have hsole : ∀ (l : Nat), swapsWithSole [.Tuple [.Name x px, .Name y py, .Name z pz] j tp] (.Tuple [a, b, c] k2 pt2) l X.env = pure false := fun _ => rfl
      exact PS.imp (ps_par3 s.ok.calm hN (by rw [s.ok.hN]; exact hi) (by rw [s.ok.hN]; exact hj) (by rw [s.ok.hN]; exact hl') (ne hi hj hxy) (ne hi hl' hxz) (ne hj hl' hyz) (by rw [s.ok.hsc]; exact lx) (by rw [s.ok.hsc]; exact ly) (by rw [s.ok.hsc]; exact lz)
        ((snd_es _ g X sc W s.ok).pa h8) hsw (hsole _)) fun _ _ _ h => par3_read h
  · cases h
theorem snd_sub {o i : Expr} {sp : Pos} {e : Expr} {is : IS} (s : SOk X g N sc Γ W k) (h : cS g N sc (.Assign [.Subscript o i sp] e pos) = some is) : PS X (.Assign [.Subscript o i sp] e pos) (RS X Γ W is) := by
  unfold cS at h
  obtain ⟨o', i', e', h1, h2, h3, rfl⟩ := o3_some h
  have ha : ∀ v, assign (.Subscript o i sp) X.env v = (do
      let ov ← holding [v] (eval o X.env)
      let iv ← holding [v, ov] (eval i X.env)
      standAt sp
      holding [v, ov, iv] (setItem ov iv v)
      release [v, ov, iv] []) := by
    intro v
    cases i with
    | Slice => unfold cE at h2; cases h2
    | _ => rfl
  exact PS.imp (ps_asg (snd_e e g X sc W s.ok e' h3).pe (pg_sub (snd_e o g X sc W s.ok o' h1).pe (snd_e i g X sc W s.ok i' h2).pe set_list ha) (sw_other (env := X.env) (l := pos.line) (t := .Subscript o i sp) (by intro _ _ z; cases z)) rfl rfl) fun _ _ _ h => setIx_read h
theorem snd_aug {x : Str} {px : Pos} {o : Operator} {e : Expr} {is : IS} (s : SOk X g N sc Γ W k) (h : cS g N sc (.AugAssign (.Name x px) o e pos) = some is) : PS X (.AugAssign (.Name x px) o e pos) (RS X Γ W is) := by
  unfold cS at h
  split at h
  case isFalse => cases h
  rename_i hl
  have hN : X.N.Nodup := by rw [s.ok.hN]; exact s.ok.nd
  obtain ⟨q1, q2⟩ := s.tok.loc x hl
  cases o
  case Add =>
    obtain ⟨i, e', h1, h2, rfl⟩ := o2_some h
    exact PS.imp (ps_aug hN (by rw [s.ok.hN]; exact slot_get h1) q1 (snd_e e g X sc W s.ok e' h2).pe ip_add q2) fun _ _ _ h => aug_read (.inl ⟨rfl, rfl⟩) h
  case Sub =>
    obtain ⟨i, e', h1, h2, rfl⟩ := o2_some h
    exact PS.imp (ps_aug hN (by rw [s.ok.hN]; exact slot_get h1) q1 (snd_e e g X sc W s.ok e' h2).pe ip_sub q2) fun _ _ _ h => aug_read (.inr ⟨rfl, rfl⟩) h
  all_goals cases h
theorem snd_raise {e : Expr} {is : IS} (s : SOk X g N sc Γ W k) (h : cS g N sc (.Raise (some e) none pos) = some is) : PS X (.Raise (some e) none pos) (RS X Γ W is) := by
  unfold cS at h
  split at h
  all_goals first
    | (rename_i z; cases z; done)
    | skip
  · rename_i x p1 p2 p3 z
    cases z
    obtain ⟨y, h1, rfl⟩ := o1_some h
    obtain ⟨hy, C, hC, hn, hg, hx, hp⟩ := exc_names s.ok.hsc s.ok.exc h1
    obtain ⟨B, newId, initId, bmB, F, q, kC, r1, r2⟩ := s.ok.exc.own y hy C hC
    exact PS.imp (ps_raise s.ok.calm s.ok.tk (pmk_own0 F q (by rw [← hx]; exact hC) kC (raises_own r1 r2) hg (plain_dbg hp))) fun _ _ _ h => raise_read hC h
  all_goals cases h
theorem cS_from {e f : Expr} : cS g N sc (.Raise (some e) (some f) pos) = none := by
  cases e with
  | Call f2 as kws p =>
    cases f2 with
    | Name x p2 =>
      cases as with
      | nil => cases kws <;> (unfold cS; rfl)
      | cons => unfold cS; rfl
    | _ => unfold cS; rfl
  | _ => unfold cS; rfl
mutual
theorem snd_s (s : Stmt) : ∀ (X : Cx) (W : WX) (ok : SOk X g N sc Γ W k) (is : IS), cS g N sc s = some is → PS X s (RS X Γ W is) :=
  match s with
  | .Assign ts e p => fun X W ok is h => by
    match ts, h with
    | [], h => unfold cS at h; cases h
    | t :: _ :: _, h => cases t <;> (unfold cS at h; cases h)
    | [t], h =>
      cases t
      case Name => exact snd_set ok h
      case Tuple => exact snd_tup ok h
      case Subscript => exact snd_sub ok h
      all_goals (unfold cS at h; cases h)
  | .AugAssign t o e p => fun X W ok is h => by
    cases t
    case Name x px => exact snd_aug ok h
    all_goals (unfold cS at h; cases h)
  | .Expr e p => fun X W ok is h => by
    unfold cS at h
    split at h
    · cases h
    · rename_i hc
      obtain ⟨e', h1, rfl⟩ := o1_some h
      exact PS.imp (ps_expr (snd_e e g X sc W ok.ok e' h1).pe (sw_none (by simpa using hc) h1 none)) fun _ _ _ h => expr_read h
  | .Return none p => fun X W ok is h => by
    unfold cS at h
    cases h
    exact PS.imp ps_retN fun E σ H ⟨ι, ρ, c, hσ, hH, hp⟩ => by
      unfold dS at hp
      exact hp ι H _ .refl hH rfl
  | .Return (some e) p => fun X W ok is h => by
    unfold cS at h
    obtain ⟨e', h1, rfl⟩ := o1_some h
    exact PS.imp (ps_ret (snd_e e g X sc W ok.ok e' h1).pe) fun _ _ _ h => ret_read h
  | .If t a b p => fun X W ok is h => by
    unfold cS at h
    obtain ⟨x, y, z, h1, h2, h3, rfl⟩ := o3_some h
    exact PS.imp (ps_if (snd_e t g X sc W ok.ok x h1).pt (snd_ss a X W ok y h2) (snd_ss b X W ok z h3)) fun _ _ _ h => ife_read h
  | .While t b oe p => fun X W ok is h => by
    cases oe with
    | cons => unfold cS at h; cases h
    | nil =>
      unfold cS at h
      obtain ⟨x, y, h1, h2, rfl⟩ := o2_some h
      exact PS.imp (ps_while ok.ok.pass (snd_e t g X sc W ok.ok x h1).pt (snd_ss b X W ok y h2)) fun _ _ _ h => whl_read h
  | .For t it b oe p => fun X W ok is h => by
    cases oe with
    | cons => unfold cS at h; cases h
    | nil =>
      unfold cS at h
      obtain ⟨x, y, z, h1, h2, h3, rfl⟩ := o3_some h
      exact PS.imp (ps_for ok.ok.pass ok.ok.calm ((snd_e it g X sc W ok.ok y h2).pi t) (rg_of ok.tok t x h1) (snd_ss b X W ok z h3) (no_fold h2)) fun _ _ _ h => for_read h
  | .Break p => fun X W ok is h => by
    unfold cS at h
    cases h
    exact PS.imp ps_break fun E σ H ⟨ι, ρ, c, hσ, hH, hp⟩ => by
      unfold dS at hp
      exact hp ι H _ .refl hH hσ
  | .Continue p => fun X W ok is h => by
    unfold cS at h
    cases h
    exact PS.imp ps_continue fun E σ H ⟨ι, ρ, c, hσ, hH, hp⟩ => by
      unfold dS at hp
      exact hp ι H _ .refl hH hσ
  | .Pass p => fun X W ok is h => by
    unfold cS at h
    cases h
    exact PS.imp ps_pass fun E σ H ⟨ι, ρ, c, hσ, hH, hp⟩ => by
      unfold dS at hp
      exact hp ι H _ .refl hH hσ
  | .Raise e f p => fun X W ok is h => by
    cases e with
    | none => unfold cS at h; cases h
    | some e =>
      cases f with
      | some f =>
        rw [cS_from] at h
        cases h
      | none => exact snd_raise ok h
  | .Try b hs oe fb p => fun X W ok is h => by
    have hb := fun X' W' => snd_ss b X' W'
    cases hs with
    | nil => unfold cS at h; cases h
    | cons h0 hs =>
      cases oe with
      | cons => unfold cS at h; cases h
      | nil =>
        cases fb with
        | cons => unfold cS at h; cases h
        | nil =>
          unfold cS at h
          obtain ⟨b', l, h1, h2, rfl⟩ := o2_some h
          obtain ⟨L, k1, k2⟩ := hds_ok ok.ok.hsc ok.ok.exc (h0 :: hs) l h2
          refine PS.imp (ps_try_many (tb := fun W' => RSs X Γ W' b') ok.stack ok.frame ok.ok.tk (fun W' pn xe tk ps => hb _ _ (ok.tr tk ps) b' h1) k1) fun E σ H h => ?_
          exact try_read ok.ok.hex (cHs_vD h2) (fun x C dd σ H h1 h2 => k2 W E x C dd σ H h1 h2) h
  | .FunctionDef .. => fun X W ok is h => by unfold cS at h; cases h
  | .AsyncFunctionDef .. => fun X W ok is h => by unfold cS at h; cases h
  | .ClassDef .. => fun X W ok is h => by unfold cS at h; cases h
  | .Delete .. => fun X W ok is h => by unfold cS at h; cases h
  | .TypeAlias .. => fun X W ok is h => by unfold cS at h; cases h
  | .AnnAssign .. => fun X W ok is h => by unfold cS at h; cases h
  | .AsyncFor .. => fun X W ok is h => by unfold cS at h; cases h
  | .With .. => fun X W ok is h => by unfold cS at h; cases h
  | .AsyncWith .. => fun X W ok is h => by unfold cS at h; cases h
  | .Match .. => fun X W ok is h => by unfold cS at h; cases h
  | .TryStar .. => fun X W ok is h => by unfold cS at h; cases h
  | .Assert .. => fun X W ok is h => by unfold cS at h; cases h
  | .Import .. => fun X W ok is h => by unfold cS at h; cases h
  | .ImportFrom .. => fun X W ok is h => by unfold cS at h; cases h
  | .Global .. => fun X W ok is h => by unfold cS at h; cases h
  | .Nonlocal .. => fun X W ok is h => by unfold cS at h; cases h
theorem snd_ss (ss : List Stmt) : ∀ (X : Cx) (W : WX) (ok : SOk X g N sc Γ W k) (is : List IS), cSs g N sc ss = some is → PSs X ss (RSs X Γ W is) :=
  match ss with
  | [] => fun X W ok is h => by
    unfold cSs at h
    cases h
    exact PSs.imp pss_nil fun _ _ _ h => nil_read h
  | s :: r => fun X W ok is h => by
    unfold cSs at h
    obtain ⟨x, y, h1, h2, rfl⟩ := o2_some h
    exact PSs.imp (pss_cons (snd_s s X W ok x h1) (snd_ss r X W ok y h2)) fun _ _ _ h => seq_read h
end
end
end G
end

section
set_option Elab.async false
set_option linter.all false
set_option maxRecDepth 100000
set_option maxHeartbeats 4000000
set_option autoImplicit false
namespace G
open PySem L2
theorem lookup_zip : ∀ {ps : List Str} {us : List Value} {x : Str}, us.length = ps.length → x ∈ ps → ((ps.zip us).lookup x).isSome = true
  | [], _, _, _, h => nomatch h
  | p :: ps, [], _, h, _ => by cases h
  | p :: ps, u :: us, x, h, hx => by
    rw [List.zip_cons_cons, List.lookup_cons]
    by_cases e : x = p
    · subst e; simp
    · rw [beq_false_of_ne e]
      exact lookup_zip (by simpa using h) ((List.mem_cons.mp hx).resolve_left e)
theorem fm_congr {α β : Type} {f g : α → Option β} : ∀ {l : List α}, (∀ x ∈ l, f x = g x) → l.filterMap f = l.filterMap g
  | [], _ => rfl
  | a :: l, h => by
    rw [List.filterMap_cons, List.filterMap_cons, h a List.mem_cons_self, fm_congr fun x hx => h x (List.mem_cons_of_mem _ hx)]
theorem zip_back : ∀ {ps : List Str} {us : List Value}, us.length = ps.length → ps.Nodup → (ps.filterMap fun n => ((ps.zip us).lookup n).map (n, ·)) = ps.zip us
  | [], us, h, _ => by simp
  | p :: ps, [], h, _ => by cases h
  | p :: ps, u :: us, h, hn => by
    have hn' := List.nodup_cons.mp hn
    rw [List.zip_cons_cons, List.filterMap_cons]
    rw [List.lookup_cons, beq_self_eq_true]
    dsimp only [Option.map]
    congr 1
    refine Eq.trans (fm_congr fun x hx => ?_) (zip_back (ps := ps) (us := us) (by simpa using h) hn'.2)
    rw [List.lookup_cons, beq_false_of_ne (fun e => hn'.1 (by rw [← e]; exact hx))]
    dsimp only
    cases List.lookup x (ps.zip us) <;> rfl
theorem bind_all {name qual : Str} {args : List Arg} {body : List Stmt} {scope : Scope} {kV doc pm cdv ct : Value} {an : Option Addr} {us : List Value} (hn : (args.map (·.arg)).Nodup) (h : us.length = (args.map (·.arg)).length) :
    bindArgs (PySem.W.fnOf name qual ⟨[], args, none, [], [], none, []⟩ body scope .none kV doc pm an cdv ct) ⟨us, []⟩ = pure ((args.map (·.arg)).zip us) := by
  have hz := zip_back h hn
  have hm : ((args.map (·.arg)).filter fun n => (((args.map (·.arg)).zip us).lookup n).isNone) = [] := by
    rw [List.filter_eq_nil_iff]
    intro x hx
    have := lookup_zip h hx
    simpa using this
  unfold bindArgs
  have hl : ¬ (args.length < us.length) := by
    simp at h
    omega
  generalize hP : args.map (·.arg) = P at *
  have hPl : P.length = us.length := h.symm
  have hs : seqItems? Value.none = pure none := rfl
  simp only [PySem.W.fnOf, hs, List.map_nil, List.nil_append, List.append_nil, hP]
  have pb : ∀ {α β : Type} (a : α) (f : α → Sem β), (pure a >>= f) = f a := fun _ _ => rfl
  simp only [pb, Option.getD_none, List.forIn_nil, Array.toList_empty, List.drop_nil, List.length_nil, Nat.sub_zero, Option.isNone_none, Bool.and_true, hPl, List.zip_nil_right, List.take_of_length_le (Nat.le_of_eq hPl), hm, List.isEmpty_nil, Bool.not_true, Bool.false_eq_true, if_false, hz]
  rw [if_neg (by simp)]
/-! ### what the head's heap tells of a def -/
structure Spec where
  fns : List (String × List Str)
  lams : List (String × Addr × Addr)
  thks : List (String × List Str)
  consts : List (String × D)
  excs : List String
def Spec.gi (S : Spec) (lam : Bool) : GI := ⟨S.fns.map (·.1), S.thks.map (·.1), lam, S.consts, S.excs⟩
structure Df where
  fa : Addr
  name : Str
  qual : Str
  args : List Arg
  body : List Stmt
  scope : Scope
  cdv : Value
def dfIn (K : PySem.W.Frag) (f : String) : Option Df := match PySem.W.nsIn K mainGlobals (Str.ofString f) with
  | some (some (.ref fa)) => (match K.lookup fa with
    | some ⟨_, _, .func ⟨name, qual, ⟨[], args, none, [], [], none, []⟩, .stmts body, scope, gl, [], .none, _, _, _, _, cdv, _, bl⟩, _⟩ =>
      if (gl == mainGlobals && bl == builtinsNs && PySem.W.keepIn K (.ref fa) && PySem.W.codeIn K cdv qual && decide (args.map (·.arg)).Nodup) = true then some ⟨fa, name, qual, args, body, scope, cdv⟩ else none
    | _ => none)
  | _ => none
structure Df.Ok (K : PySem.W.Frag) (f : String) (d : Df) (kV doc pm ct oc : Value) (an od : Option Addr) (osl : Array (Option Value)) : Prop where
  ns : PySem.W.nsIn K mainGlobals (Str.ofString f) = some (some (.ref d.fa))
  lk : K.lookup d.fa = some ⟨oc, od, .func (PySem.W.fnOf d.name d.qual ⟨[], d.args, none, [], [], none, []⟩ d.body d.scope .none kV doc pm an d.cdv ct), osl⟩
  keep : PySem.W.keepIn K (.ref d.fa) = true
  code : PySem.W.codeIn K d.cdv d.qual = true
  nd : (d.args.map (·.arg)).Nodup
theorem dfIn_some {K : PySem.W.Frag} {f : String} {d : Df} (h : dfIn K f = some d) : ∃ kV doc pm ct oc an od osl, d.Ok K f kV doc pm ct oc an od osl := by
  unfold dfIn at h
  split at h
  · rename_i fa h1
    split at h
    · rename_i oc od name qual args body scope gl kV doc pm an cdv ct bl osl h2
      split at h
      · rename_i h3
        simp only [Bool.and_eq_true, beq_iff_eq, decide_eq_true_eq] at h3
        obtain ⟨⟨⟨⟨rfl, rfl⟩, h4⟩, h5⟩, h6⟩ := h3
        cases h
        exact ⟨kV, doc, pm, ct, oc, an, od, osl, h1, h2, h4, h5, h6⟩
      · cases h
    · cases h
  · cases h
theorem Df.Ok.binds {K : PySem.W.Frag} {f : String} {d : Df} {kV doc pm ct oc : Value} {an od : Option Addr} {osl : Array (Option Value)} (o : d.Ok K f kV doc pm ct oc an od osl) :
    Binds K (PySem.W.fnOf d.name d.qual ⟨[], d.args, none, [], [], none, []⟩ d.body d.scope .none kV doc pm an d.cdv ct) (d.args.map (·.arg)) [] := .all fun us h => bind_all o.nd h
/-- a def's form -/
def cDef (K : PySem.W.Frag) (S : Spec) (f : String) (N : List Str) : Option Fn := match dfIn K f with
  | some d => (match S.lams.lookup f with
    | none => cFn (S.gi false) N ⟨[], d.args, none, [], [], none, []⟩ d.body d.scope
    | some (c, P) => if (d.cdv == .ref c && PySem.W.codeHdIn K c P && d.qual == Str.ofString f && (K.lookup P).isNone) = true then cFn (S.gi true) N ⟨[], d.args, none, [], [], none, []⟩ d.body d.scope else none)
  | none => none
def cThkIn (K : PySem.W.Frag) (S : Spec) (f : String) (N : List Str) : Option Thk := match dfIn K f with
  | some d => (match d.args with
    | [a] => if (d.name == Str.ofString f && d.qual == Str.ofString f && fnScB N [a.arg] d.scope && decide (N[0]? = some a.arg) && plainN a.arg) = true then cThk S.excs d.scope a.arg d.body else none
    | _ => none)
  | none => none
def constIn (K : PySem.W.Frag) (p : String × D) : Bool := match PySem.W.nsIn K mainGlobals (Str.ofString p.1), p.2 with
  | some (some .none), .non => true
  | some (some (.bool b)), .bl b' => b == b'
  | some (some (.int i _)), .int j => i == j
  | some (some (.str x _)), .str y => x == y
  | _, _ => false
def excAd (K : PySem.W.Frag) (x : String) : Option Addr := match PySem.W.nsIn K mainGlobals (Str.ofString x) with
  | some (some (.ref C)) => if (PySem.W.excIn K C [.type "ValueError", .type "Exception", .type "BaseException", .type "object"] "ValueError.__new__" && PySem.W.keepIn K (.ref C) && PySem.W.subIn K (.ref C) (.type "BaseException") == some true && PySem.W.typeIn K (.ref C) == some (.type "type")) = true then some C else none
  | _ => none
def excsIn (K : PySem.W.Frag) (ex : List String) : Bool := ex.all fun x => match excAd K x with
  | some C => ex.all fun y => match excAd K y with
    | some C' => PySem.W.exmOne K (.ref C) (.ref C') == some (decide (x = y))
    | none => false
  | none => false
def lawIn (K : PySem.W.Frag) : Bool := match dfIn K "law" with
  | some d => d.args.map (·.arg) == [("script" : Str)]
  | none => false
def restIn (K : PySem.W.Frag) (S : Spec) : Bool := lawIn K && (S.lams.all fun p => PySem.W.codeHdIn K p.2.1 p.2.2 && (K.lookup p.2.2).isNone) && S.consts.all (constIn K) && bltNames.all (fun b => PySem.W.nsIn K mainGlobals (Str.ofString b) == some none) && excsIn K S.excs && decide (S.lams.map (·.2.2)).Nodup
def cAll {α β : Type} (f : String → α → Option β) : List (String × α) → Option (List (String × β))
  | [] => some []
  | (x, a) :: r => o2 (fun b l => (x, b) :: l) (f x a) (cAll f r)
def compile (K : PySem.W.Frag) (S : Spec) : Option Tab := if restIn K S = true then o2 (fun a b => ⟨a, b, S.excs⟩) (cAll (cDef K S) S.fns) (cAll (cThkIn K S) S.thks) else none
theorem cAll_look {α β : Type} {f : String → α → Option β} : ∀ {l : List (String × α)} {r : List (String × β)}, cAll f l = some r → ∀ x ∈ l.map (·.1), ∃ a b, f x a = some b ∧ r.lookup x = some b
  | [], r, h, x, hx => nomatch hx
  | (y, a) :: l, r, h, x, hx => by
    unfold cAll at h
    obtain ⟨b, r', h1, h2, rfl⟩ := o2_some h
    by_cases e : x = y
    · subst e
      exact ⟨a, b, h1, by rw [List.lookup_cons, beq_self_eq_true]⟩
    · rw [List.map_cons] at hx
      obtain ⟨a', b', h3, h4⟩ := cAll_look h2 x ((List.mem_cons.mp hx).resolve_left e)
      exact ⟨a', b', h3, by rw [List.lookup_cons, beq_false_of_ne e]; exact h4⟩
def Spec.tabs (S : Spec) : List (Addr × Str) := S.lams.map fun p => (p.2.2, Str.ofString p.1 ++ ".<locals>." ++ "<lambda>")
variable [Tables]
theorem fnSc_some {N P : List Str} {sc : Scope} (h : fnScB N P sc = true) : FnScope N P sc := by
  unfold fnScB at h
  simp only [Bool.and_eq_true, Bool.not_eq_true', decide_eq_true_eq, List.all_eq_true] at h
  obtain ⟨⟨⟨⟨⟨⟨h1, h2⟩, h3⟩, h4⟩, h5⟩, h6⟩, h7⟩ := h
  refine ⟨?_, h2, h3, h4, h5, fun x hx => loc_of (h6 x hx), fun y hy z => ?_⟩
  · split at h1
    · assumption
    · cases h1
  · have := h7 y hy
    rw [z] at this
    cases this
theorem cFn_some {g : GI} {N : List Str} {args : List Arg} {body : List Stmt} {sc : Scope} {fn : Fn} (h : cFn g N ⟨[], args, none, [], [], none, []⟩ body sc = some fn) :
    FnScope N (args.map (·.arg)) sc ∧ ∃ b, cSs g N sc body = some b ∧ fn = ⟨args.length, N.length, b⟩ := by
  unfold cFn at h
  split at h
  · rename_i hh
    obtain ⟨b, h1, rfl⟩ := o1_some h
    simp only [Bool.and_eq_true] at hh
    exact ⟨fnSc_some hh.2, b, h1, rfl⟩
  · cases h
section
variable {P : Program} {w : World} {K : PySem.W.Frag} {mg : Str → Option Value} {base : Heap} {S : Spec} {T : Tab}
theorem consts_ok (KX : K.In base) (G : base.Ns mainGlobals mg) (h : S.consts.all (constIn K) = true) : ∀ x d, lookC S.consts x = some d → ∃ u v, mg x = some u ∧ RelV v u ∧ ∀ ι H, Rep K ι H d v := by
  intro x d hx
  unfold lookC at hx
  obtain ⟨p, hp, rfl⟩ := Option.map_eq_some_iff.mp hx
  have hm := List.mem_of_find?_eq_some hp
  have he : Str.ofString p.1 = x := beq_iff_eq.mp (List.find?_some (p := fun p : String × D => Str.ofString p.1 == x) hp)
  subst he
  have hk := List.all_eq_true.mp h p hm
  unfold constIn at hk
  split at hk
  · rename_i h1 h2
    rw [h2]
    exact ⟨_, .non, PySem.W.mg_of KX G h1, rfl, fun _ _ => rfl⟩
  · rename_i b b' h1 h2
    rw [h2]
    cases beq_iff_eq.mp hk
    exact ⟨_, .bl b, PySem.W.mg_of KX G h1, rfl, fun _ _ => rfl⟩
  · rename_i i t j h1 h2
    rw [h2]
    cases beq_iff_eq.mp hk
    exact ⟨_, .int i, PySem.W.mg_of KX G h1, ⟨_, rfl⟩, fun _ _ => rfl⟩
  · rename_i x t y h1 h2
    rw [h2]
    cases beq_iff_eq.mp hk
    exact ⟨_, .str x, PySem.W.mg_of KX G h1, ⟨_, rfl⟩, fun _ _ => rfl⟩
  · cases hk
theorem excAd_some (KX : K.In base) (G : base.Ns mainGlobals mg) {x : String} {C : Addr} (h : excAd K x = some C) : mg (Str.ofString x) = some (.ref C) ∧ PySem.W.excIn K C [.type "ValueError", .type "Exception", .type "BaseException", .type "object"] "ValueError.__new__" = true ∧ PySem.W.keepIn K (.ref C) = true ∧
    PySem.W.subIn K (.ref C) (.type "BaseException") = some true ∧ PySem.W.typeIn K (.ref C) = some (.type "type") := by
  unfold excAd at h
  split at h
  · rename_i C' h1
    split at h
    · rename_i hh
      cases h
      simp only [Bool.and_eq_true, beq_iff_eq] at hh
      exact ⟨PySem.W.mg_of KX G h1, hh.1.1.1, hh.1.1.2, hh.1.2, hh.2⟩
    · cases h
  · cases h
theorem excs_ok (KX : K.In base) (G : base.Ns mainGlobals mg) (h : excsIn K S.excs = true) : ExcOk K mg S.excs := by
  unfold excsIn at h
  have ad : ∀ x ∈ S.excs, ∃ C, excAd K x = some C := fun x hx => by
    have := List.all_eq_true.mp h x hx
    split at this
    · exact ⟨_, by assumption⟩
    · cases this
  refine ⟨fun x hx => ?_, fun x hx y hy C C' h1 h2 => ?_, fun x hx C h1 => ?_⟩
  · obtain ⟨C, hC⟩ := ad x hx
    exact ⟨C, (excAd_some KX G hC).1⟩
  · have hk := List.all_eq_true.mp h x hx
    obtain ⟨C1, hC1⟩ := ad x hx
    obtain ⟨C2, hC2⟩ := ad y hy
    rw [hC1] at hk
    have hk2 := List.all_eq_true.mp hk y hy
    rw [hC2] at hk2
    have e1 := (excAd_some KX G hC1).1
    have e2 := (excAd_some KX G hC2).1
    rw [h1] at e1
    rw [h2] at e2
    cases e1
    cases e2
    exact beq_iff_eq.mp hk2
  · obtain ⟨C1, hC1⟩ := ad x hx
    obtain ⟨e1, e2, e3, e4, e5⟩ := excAd_some KX G hC1
    rw [h1] at e1
    cases e1
    exact ⟨_, _, _, _, PySem.F.excBase_ValueError, e2, e3, e4, e5⟩
theorem thks_ok (KX : K.In base) (G : base.Ns mainGlobals mg) (h : cAll (cThkIn K S) S.thks = some T.thks) : ∀ f ∈ S.thks.map (·.1), ∃ t, T.thks.lookup f = some t ∧ ThkHas K mg S.excs f t := by
  intro f hf
  obtain ⟨N, t, h1, h2⟩ := cAll_look h f hf
  refine ⟨t, h2, ?_⟩
  unfold cThkIn at h1
  split at h1
  · rename_i d hd
    obtain ⟨kV, doc, pm, ct, oc, an, od, osl, o⟩ := dfIn_some hd
    split at h1
    · rename_i a ha
      split at h1
      · rename_i hh
        simp only [Bool.and_eq_true, beq_iff_eq, decide_eq_true_eq] at hh
        obtain ⟨⟨⟨⟨q1, q2⟩, q3⟩, q4⟩, q5⟩ := hh
        have lk := o.lk
        have bd := o.binds
        have cd := o.code
        rw [q1, q2] at lk bd
        rw [q2] at cd
        exact ⟨d.fa, a.arg, _, d.body, d.scope, _, kV, doc, pm, d.cdv, ct, oc, an, od, osl, N, PySem.W.mg_of KX G o.ns, o.keep, lk, cd, by rw [ha] at bd ⊢; exact bd, fnSc_some q3, q4, q5, h1⟩
      · cases h1
    · cases h1
  · cases h1
theorem look_mem {β : Type} : ∀ {l : List (String × β)} {x : String} {b : β}, l.lookup x = some b → (x, b) ∈ l
  | (y, c) :: l, x, b, h => by
    rw [List.lookup_cons] at h
    split at h
    · rename_i e
      cases h
      rw [beq_iff_eq.mp e]
      exact List.mem_cons_self
    · exact List.mem_cons_of_mem _ (look_mem h)
theorem nodup_snd {α β : Type} : ∀ {l : List (α × β)}, (l.map (·.2)).Nodup → ∀ p ∈ l, ∀ q ∈ l, p.2 = q.2 → p = q
  | [], _, _, h, _, _, _ => nomatch h
  | x :: l, hn, p, hp, q, hq, e => by
    have hn' := List.nodup_cons.mp hn
    rcases List.mem_cons.mp hp with e1 | hp1
    · rcases List.mem_cons.mp hq with e2 | hq1
      · rw [e1, e2]
      · exact absurd (by show x.2 ∈ _; rw [← e1, e]; exact List.mem_map_of_mem hq1) hn'.1
    · rcases List.mem_cons.mp hq with e2 | hq1
      · exact absurd (by show x.2 ∈ _; rw [← e2, ← e]; exact List.mem_map_of_mem hp1) hn'.1
      · exact nodup_snd hn'.2 p hp1 q hq1 e
theorem Reps.len {ι : List (Addr × Bool)} {H : Hp} {xs : List D} {vs : List V} (h : Reps K ι H xs vs) : vs.length = xs.length := h.length
theorem start_rep {ι : List (Addr × Bool)} {H : Hp} {N : List Str} {fn : Fn} (hl : fn.nl = N.length) : ∀ {xs : List D} {vs : List V}, Reps K ι H xs vs → SRep K ι H (L2.start N vs) (start fn xs) := by
  intro xs vs h
  have hlen := h.length
  refine ⟨by unfold L2.start G.start; simp [hlen, hl], fun i d hd => ?_⟩
  unfold G.start at hd
  by_cases hi : i < xs.length
  · rw [List.getElem?_append_left (by simpa using hi), List.getElem?_map] at hd
    obtain ⟨x, h1, h2⟩ := Option.map_eq_some_iff.mp hd
    cases h2
    obtain ⟨v, h3, h4⟩ := h.get h1
    refine ⟨v, ?_, h4⟩
    unfold L2.start
    rw [List.getElem?_append_left (by simpa [hlen] using hi), List.getElem?_map, h3]
    rfl
  · rw [List.getElem?_append_right (by simpa using hi)] at hd
    have := List.mem_of_getElem? hd
    rw [List.mem_replicate] at this
    cases this.2
/-- the def f of the head's heap, and its promise -/
def FnHas2 (P : Program) (w : World) (K : PySem.W.Frag) (mg : Str → Option Value) (base : Heap) (call : String → List D → Cells → R D) (k : Nat) (f : String) : Prop :=
  ∃ (d : Df) (kV doc pm ct oc : Value) (an od : Option Addr) (osl : Array (Option Value)), dfIn K f = some d ∧ d.Ok K f kV doc pm ct oc an od osl ∧
    FnOk P w K mg base (L2.CX P w) k d.fa (PySem.W.fnOf d.name d.qual ⟨[], d.args, none, [], [], none, []⟩ d.body d.scope .none kV doc pm an d.cdv ct) (d.args.map (·.arg)) (spOf K mg call f)
theorem FnHas2.has (KX : K.In base) (G : base.Ns mainGlobals mg) {call : String → List D → Cells → R D} {k : Nat} {f : String} (h : FnHas2 P w K mg base call k f) : FnHas P w K mg base call k f := by
  obtain ⟨d, kV, doc, pm, ct, oc, an, od, osl, _, o, F⟩ := h
  exact ⟨d.fa, _, _, PySem.W.mg_of KX G o.ns, o.keep, o.binds, F⟩
theorem fns_ok (KX : K.In base) (G : base.Ns mainGlobals mg) (hc : compile K S = some T) (hT : Tables.T = S.tabs) (hB : ∀ p ∈ S.lams, LamX.TabB base mg p.2.1 p.2.2) : ∀ k, ∀ f ∈ S.fns.map (·.1), FnHas2 P w K mg base (callD T k) (3 * k) f := by
  unfold compile at hc
  split at hc
  case isFalse => cases hc
  rename_i hr
  obtain ⟨a, b, h1, h2, rfl⟩ := o2_some hc
  unfold restIn at hr
  simp only [Bool.and_eq_true, decide_eq_true_eq] at hr
  obtain ⟨⟨⟨⟨_, r1⟩, r2⟩, r3⟩, r4⟩ := hr
  intro k
  induction k with
  | zero =>
    intro f hf
    obtain ⟨N, fn, h3, h4⟩ := cAll_look h1 f hf
    unfold cDef at h3
    split at h3
    · rename_i d hd
      obtain ⟨kV, doc, pm, ct, oc, an, od, osl, o⟩ := dfIn_some hd
      refine ⟨d, kV, doc, pm, ct, oc, an, od, osl, hd, o, fun vs H Q E ⟨ι, c, ds, _, _, hp⟩ => hp.elim, fun A outer s H args us vs Q E hr he hb hv hs => ?_⟩
      obtain ⟨ι, c, ds, _, _, hp⟩ := hs
      exact hp.elim
    · cases h3
  | succ k ih =>
    intro f hf
    obtain ⟨N, fn, h3, h4⟩ := cAll_look h1 f hf
    unfold cDef at h3
    split at h3
    case h_2 => cases h3
    rename_i d hd
    obtain ⟨kV, doc, pm, ct, oc, an, od, osl, o⟩ := dfIn_some hd
    obtain ⟨lam, hfn, hlam⟩ : ∃ lam, cFn (S.gi lam) N ⟨[], d.args, none, [], [], none, []⟩ d.body d.scope = some fn ∧ (lam = true → ∃ c P, d.cdv = .ref c ∧ LamX.TabB base mg c P ∧ (P, d.qual ++ ".<locals>." ++ "<lambda>") ∈ Tables.T ∧ ∀ p ∈ Tables.T, p.1 = P → p.2 = d.qual ++ ".<locals>." ++ "<lambda>") := by
      split at h3
      · exact ⟨false, h3, nofun⟩
      · rename_i c P hl
        split at h3
        · rename_i hh
          simp only [Bool.and_eq_true, beq_iff_eq] at hh
          have hm : (f, c, P) ∈ S.lams := look_mem hl
          refine ⟨true, h3, fun _ => ⟨c, P, hh.1.1.1, hB _ hm, ?_, fun p hp e => ?_⟩⟩
          · rw [hT, hh.1.2]
            exact List.mem_map.mpr ⟨_, hm, rfl⟩
          · rw [hT] at hp
            obtain ⟨q, hq, rfl⟩ := List.mem_map.mp hp
            have nd : (S.lams.map fun p => p.2.2).Nodup := r4
            have e2 : q = (f, c, P) := by
              have n2 : ((S.lams.map fun p => ((p.1, p.2.1), p.2.2)).map (·.2)).Nodup := by rw [List.map_map]; exact nd
              have := nodup_snd n2 ((q.1, q.2.1), q.2.2) (List.mem_map.mpr ⟨q, hq, rfl⟩) ((f, c), P) (List.mem_map.mpr ⟨_, hm, rfl⟩) e
              cases q with
              | mk q1 q2 => cases q2; cases this; rfl
            rw [e2, hh.1.2]
        · cases h3
    obtain ⟨sc, b', hb', rfl⟩ := cFn_some hfn
    refine ⟨d, kV, doc, pm, ct, oc, an, od, osl, hd, o, ?_⟩
    have len : ∀ vs H Q E, spOf K mg (callD ⟨a, b, S.excs⟩ (k + 1)) f vs H Q E → vs.length = (d.args.map (·.arg)).length := by
      rintro vs H Q E ⟨ι, c, ds, hH, hR, hp⟩
      unfold callD at hp
      rw [h4] at hp
      dsimp only at hp
      split at hp
      · rename_i hl
        rw [hR.length, hl, List.length_map]
      · exact hp.elim
    refine (L2.fn_of (CX := L2.CX P w) (k := 3 * k + 2) o.lk o.code sc len fun A outer s H vs Q E hr hsp => ?_ : FnOk P w K mg base (L2.CX P w) (3 * k + 2 + 1) d.fa _ _ _)
    obtain ⟨ι, c, ds, hH, hR, hp⟩ := hsp
    unfold callD at hp
    rw [h4] at hp
    dsimp only at hp
    split at hp
    case isFalse => exact hp.elim
    rename_i hl
    let X := cxOf (L2.CX P w) P w K mg base N d.qual d.scope d.fa d.cdv A outer s H E
    let Γ : Ctx := ⟨callD ⟨a, b, S.excs⟩ k, b, S.excs⟩
    have tk : Takes X (fun cls d _ H => E cls d H) := L2.takes_of rfl rfl rfl rfl
    have ok : Ok X (S.gi lam) N d.scope Γ (fun cls d _ H => E cls d H) (3 * k) :=
      ⟨rfl, sc.nd, rfl, rfl, tk, L2.passes_of rfl, hr.mono (by omega), consts_ok KX G r1, fun x bb hx => by
        obtain ⟨q1, q2⟩ := look_get hx
        have := List.all_eq_true.mp r2 bb q2
        rw [← q1]
        exact PySem.W.mg_none_of KX G (beq_iff_eq.mp this), fun f hf => (ih f hf).has KX G, excs_ok KX G r3, rfl, thks_ok (T := ⟨a, b, S.excs⟩) KX G h2, fun hlm => by
        obtain ⟨c1, P1, e1, e2, e3, e4⟩ := hlam hlm
        exact ⟨hr, c1, P1, e1, e2, e3, e4⟩⟩
    have sok : SOk X (S.gi lam) N d.scope Γ (fun cls d _ H => E cls d H) (3 * k) :=
      ⟨ok, ⟨rfl, sc.nd, rfl, fun x hx => ⟨loc_of hx, .inl rfl⟩⟩, rfl, rfl⟩
    refine ⟨RSs X Γ (fun cls d _ H => E cls d H) b', snd_ss d.body X _ sok b' hb', ι, _, c, start_rep (fn := ⟨d.args.length, N.length, b'⟩) rfl hR, hH, ?_⟩
    show PostS K mg (fun cls d _ H => E cls d H) ι H (dSs Γ b' (start ⟨d.args.length, N.length, b'⟩ ds) c) _
    cases q : dSs Γ b' (start ⟨d.args.length, N.length, b'⟩ ds) c with
    | nx ρ c' =>
      have : ofS (dSs Γ b' (start ⟨d.args.length, N.length, b'⟩ ds) c) = .ok .non c' := by rw [q]; rfl
      rw [this] at hp
      exact fun ι' H' σ' e1 h1 s1 => hp ι' H' e1 h1 _ rfl
    | rt dd c' =>
      have : ofS (dSs Γ b' (start ⟨d.args.length, N.length, b'⟩ ds) c) = .ok dd c' := by rw [q]; rfl
      rw [this] at hp
      exact fun ι' H' v e1 h1 r1 => hp ι' H' e1 h1 v r1
    | ex x ρ c' =>
      have : ofS (dSs Γ b' (start ⟨d.args.length, N.length, b'⟩ ds) c) = .ex x c' := by rw [q]; rfl
      rw [this] at hp
      exact fun ι' H' σ' C e1 h1 s1 g => hp ι' H' C e1 h1 g
    | bk ρ c' =>
      have : ofS (dSs Γ b' (start ⟨d.args.length, N.length, b'⟩ ds) c) = .no := by rw [q]; rfl
      rw [this] at hp
      exact hp.elim
    | ct ρ c' =>
      have : ofS (dSs Γ b' (start ⟨d.args.length, N.length, b'⟩ ds) c) = .no := by rw [q]; rfl
      rw [this] at hp
      exact hp.elim
    | no =>
      have : ofS (dSs Γ b' (start ⟨d.args.length, N.length, b'⟩ ds) c) = .no := by rw [q]; rfl
      rw [this] at hp
      exact hp.elim
end
/-! ### the end of a law -/
section
open PySem.Spec PyProof.Rows
omit [Tables] in
theorem law_end {l : PySem.W.OpenLaw} {n k : Nat} {q : Program} {loose : List Str} {XP : (Str → Option Value) → Heap → Prop} {YP : World → Heap → Prop} {d : DefRec} {K : Params → PySem.W.Frag} (S : Spec) (T : Tab)
    (hn : l.most = some n) (hn2 : n ≤ sizeLine) (hdf : d.params.defaults = []) (hdn : d.name = "law") (hr : Room (3 * k) callerA) (hY : ∀ (w : World) (h : Heap), YP w h → (K w.params).In h)
    (hTab : ∀ (w : World) (h : Heap), YP w h → ∀ p ∈ S.lams, h.get? p.2.2 = some (PySem.W.tabObj #[])) (hc : ∀ P : Params, compile (K P) S = some T) (hm : "law" ∈ S.fns.map (·.1))
    (hp : ∀ ns : List Int, ns.length ≤ n → (∀ z ∈ ns, Builtin.Int.intBits z ≤ 1048576) → ∀ s, (s = Cell.frz (ns.map D.int) ∨ s = Cell.lst (ns.map D.int)) → ∃ c, callD T k "law" [.ref 0] [s] = .ok (.bl true) c) :
    PySem.W.WalkO q loose XP YP l.row.toRowW d [] (fun f vs => PySem.call f vs) := by
  letI : Tables := ⟨S.tabs⟩
  refine LamX.walk_ofTs (k := 3 * k) (x := "script") (CX := fun w => L2.CX l.prog w) hn hn2 hdf hr hY (fun w mg fa h Y KX G hmg => ?_) fun w H s e s' hcx => ?_
  · have hc := hc w.params
    have hr2 : restIn (K w.params) S = true := by
      unfold compile at hc
      split at hc
      · assumption
      · cases hc
    have hr2' := hr2
    unfold restIn at hr2'
    simp only [Bool.and_eq_true, List.all_eq_true] at hr2'
    obtain ⟨⟨⟨⟨⟨k1, k2⟩, _⟩, _⟩, _⟩, _⟩ := hr2'
    unfold lawIn at k1
    split at k1
    case h_2 => cases k1
    rename_i d' hd'
    have hargs : d'.args.map (·.arg) = [("script" : Str)] := beq_iff_eq.mp k1
    obtain ⟨kV, doc, pm, ct, oc, an, od, osl, o⟩ := dfIn_some hd'
    have hfa : d'.fa = fa := by
      have := PySem.W.mg_of KX G o.ns
      rw [← show d.name = Str.ofString "law" from hdn, hmg] at this
      cases this
      rfl
    refine ⟨PySem.W.fnOf d'.name d'.qual ⟨[], d'.args, none, [], [], none, []⟩ d'.body d'.scope .none kV doc pm an d'.cdv ct, S.lams.map (·.2), spOf (K w.params) mg (callD T k) "law", ?_, ?_, ?_, ?_, ?_, ?_⟩
    · intro p hp'
      obtain ⟨q, hq, rfl⟩ := List.mem_map.mp hp'
      exact hTab w h Y q hq
    · intro p hp'
      obtain ⟨q, hq, rfl⟩ := List.mem_map.mp hp'
      exact Option.isNone_iff_eq_none.mp (k2 q hq).2
    · intro p hp'
      obtain ⟨q, hq, rfl⟩ := List.mem_map.mp hp'
      exact PySem.W.codeHd_of_K KX (k2 q hq).1
    · intro s u
      have := bind_all (name := d'.name) (qual := d'.qual) (body := d'.body) (scope := d'.scope) (kV := kV) (doc := doc) (pm := pm) (cdv := d'.cdv) (ct := ct) (an := an) (us := [u]) o.nd (by rw [hargs]; rfl)
      rw [hargs] at this
      exact BindsTo.of_eq this
    · intro H a ns hl hb hH hS
      have rints : ∀ (ι : List (Addr × Bool)) (H : Hp) (ns : List Int), Reps (K w.params) ι H (ns.map D.int) (ns.map V.int) := fun ι H ns => by
        induction ns with
        | nil => rfl
        | cons z ns ih => exact ⟨_, _, rfl, rfl, ih⟩
      have htab : LamX.Tabs Tables.T H := fun p hp' => by
        obtain ⟨q, hq, rfl⟩ := List.mem_map.mp hp'
        exact LamX.TabS.nil (hH q.2 (List.mem_map.mpr ⟨q, hq, rfl⟩))
      have fin : ∀ (s : Cell) (b : Bool), (s = Cell.frz (ns.map D.int) ∨ s = Cell.lst (ns.map D.int)) → CellRep (K w.params) [(a, b)] H a s → ((b = true → Mu s) ∧ (b = false → ¬ Mu s)) →
          spOf (K w.params) mg (callD T k) "law" [.ref a] H (fun v _ => v = .bl true) fun _ _ _ => False := fun s b hs hcell hmu => by
        obtain ⟨c, hc2⟩ := hp ns hl hb s hs
        refine ⟨[(a, b)], [s], [.ref 0], ⟨rfl, fun n m x h1 h2 => ?_, fun n x b' u h1 h2 => ?_, htab⟩, ⟨.ref a, [], rfl, ⟨a, rfl, b, rfl⟩, rfl⟩, ?_⟩
        · have := (List.getElem?_eq_some_iff.mp h1).1
          have := (List.getElem?_eq_some_iff.mp h2).1
          simp at *
          omega
        · have hz := (List.getElem?_eq_some_iff.mp h1).1
          have : n = 0 := by simpa using hz
          subst this
          cases h1
          cases h2
          exact ⟨hcell, hmu⟩
        · rw [hc2]
          intro ι' H' e1 h1 v rv
          exact rv
      rcases hS with (hS | ⟨ob, hS⟩) | hS
      · exact fin (.lst (ns.map D.int)) true (.inr rfl) ⟨_, hS, rints _ _ _⟩ ⟨fun _ => mu_lst _, nofun⟩
      · exact fin (.frz (ns.map D.int)) false (.inl rfl) ⟨_, .inl ⟨ob, hS⟩, rints _ _ _⟩ ⟨nofun, fun _ z => z _ rfl⟩
      · exact fin (.frz (ns.map D.int)) false (.inl rfl) ⟨_, .inr hS, rints _ _ _⟩ ⟨nofun, fun _ z => z _ rfl⟩
    · intro base KB GB hB
      obtain ⟨d2, kV2, doc2, pm2, ct2, oc2, an2, od2, osl2, e1, o2', F⟩ := fns_ok (P := l.prog) (w := w) KB GB hc rfl (fun p hp' => hB p.2 (List.mem_map.mpr ⟨p, hp', rfl⟩)) k "law" hm
      rw [hd'] at e1
      cases e1
      have lk1 := o.lk
      rw [o2'.lk] at lk1
      cases lk1
      rw [← hfa, ← hargs]
      exact F
  · obtain ⟨_, _, _, _, _, _, _, _, _, _, _, _, z⟩ := hcx
    exact z
end
end G
end

section
set_option linter.all false
set_option autoImplicit false
set_option maxRecDepth 20000
/-! GW: what an evaluation is wanted to end with. -/
namespace G
open PySem (Str Operator CmpOp)

abbrev QD := D → Cells → Prop
abbrev QX := String → Cells → Prop
def wR {α : Type} (r : R α) (Q : α → Cells → Prop) (E : QX) : Prop := match r with
  | .ok a c => Q a c
  | .ex x c => E x c
  | .no => False
structure SK where
  nx : Lo → Cells → Prop
  rt : QD
  bk : Lo → Cells → Prop
  ct : Lo → Cells → Prop
  ex : QX
def wS (r : SR) (K : SK) : Prop := match r with
  | .nx ρ c => K.nx ρ c
  | .rt d c => K.rt d c
  | .bk ρ c => K.bk ρ c
  | .ct ρ c => K.ct ρ c
  | .ex x _ c => K.ex x c
  | .no => False
def pick (o : Option Bool) (A B : Prop) : Prop := match o with
  | some true => A
  | some false => B
  | none => False
theorem pick_some (b : Bool) (A B : Prop) : pick (some b) A B = if b = true then A else B := by cases b <;> rfl
theorem pick_t (A B : Prop) : pick (some true) A B = A := rfl
theorem pick_f (A B : Prop) : pick (some false) A B = B := rfl
theorem wR_imp {α : Type} {r : R α} {Q Q' : α → Cells → Prop} {E E' : QX} (h : wR r Q E) (k : ∀ a c, Q a c → Q' a c) (k2 : ∀ x c, E x c → E' x c) : wR r Q' E' := by
  cases r with
  | ok a c => exact k a c h
  | ex x c => exact k2 x c h
  | no => exact h
theorem wR_q {α : Type} {r : R α} {Q Q' : α → Cells → Prop} {E : QX} (h : wR r Q E) (k : ∀ a c, Q a c → Q' a c) : wR r Q' E := wR_imp h k fun _ _ h => h
theorem wR_bind {α β : Type} (r : R α) (f : α → Cells → R β) (Q : β → Cells → Prop) (E : QX) : wR (r.bind f) Q E = wR r (fun a c => wR (f a c) Q E) E := by cases r <;> rfl
theorem wR_ok {α : Type} (a : α) (c : Cells) (Q : α → Cells → Prop) (E : QX) : wR (.ok a c) Q E = Q a c := rfl
theorem wR_ex {α : Type} (x : String) (c : Cells) (Q : α → Cells → Prop) (E : QX) : wR (.ex x c) Q E = E x c := rfl
theorem wR_alloc (x : Cell) (c : Cells) (Q : QD) (E : QX) : wR (alloc x c) Q E = Q (.ref c.length) (c ++ [x]) := rfl
theorem wR_if {α : Type} {p : Prop} [Decidable p] (a : R α) (Q : α → Cells → Prop) (E : QX) : wR (if p then a else .no) Q E = (p ∧ wR a Q E) := by
  by_cases h : p
  · rw [if_pos h]; simp [h]
  · rw [if_neg h]; simp [h, wR]
theorem wS_ofE (r : R D) (ρ : Lo) (f : D → Cells → SR) (K : SK) : wS (ofE r ρ f) K = wR r (fun d c => wS (f d c) K) K.ex := by cases r <;> rfl
theorem wS_nx (ρ : Lo) (c : Cells) (K : SK) : wS (.nx ρ c) K = K.nx ρ c := rfl
theorem wS_rt (d : D) (c : Cells) (K : SK) : wS (.rt d c) K = K.rt d c := rfl
theorem wS_imp {r : SR} {K K' : SK} (h : wS r K) (h1 : ∀ ρ c, K.nx ρ c → K'.nx ρ c) (h2 : ∀ d c, K.rt d c → K'.rt d c) (h3 : ∀ ρ c, K.bk ρ c → K'.bk ρ c) (h4 : ∀ ρ c, K.ct ρ c → K'.ct ρ c) (h5 : ∀ x c, K.ex x c → K'.ex x c) : wS r K' := by
  cases r with
  | nx ρ c => exact h1 _ _ h
  | rt d c => exact h2 _ _ h
  | bk ρ c => exact h3 _ _ h
  | ct ρ c => exact h4 _ _ h
  | ex x ρ c => exact h5 _ _ h
  | no => exact h
/-! ### expressions -/
section
variable (Γ : Ctx) (ρ : Lo) (c : Cells) (Q : QD) (E : QX)
theorem e_k (d : D) : wR (dE Γ (.k d) ρ c) Q E = Q d c := by rw [dE]; rfl
def wO (o : Option (Option D)) (Q : D → Prop) : Prop := match o with
  | some (some d) => Q d
  | _ => False
theorem wO_some (d : D) (Q : D → Prop) : wO (some (some d)) Q = Q d := rfl
theorem e_v (i : Nat) : wR (dE Γ (.v i) ρ c) Q E = wO ρ[i]? fun d => Q d c := by
  rw [dE]
  cases ρ[i]? with
  | none => rfl
  | some o => cases o <;> rfl
theorem e_bin (o : Operator) (a b : IE) : wR (dE Γ (.bin o a b) ρ c) Q E = wR (dE Γ a ρ c) (fun x c1 => wR (dE Γ b ρ c1) (fun y c2 => wR (opBin o x y c2) Q E) E) E := by
  rw [dE, wR_bind]; simp only [wR_bind]
theorem e_cmp (o : CmpOp) (a b : IE) : wR (dE Γ (.cmp o a b) ρ c) Q E = wR (dE Γ a ρ c) (fun x c1 => wR (dE Γ b ρ c1) (fun y c2 => wR (opCmp o x y c2) Q E) E) E := by
  rw [dE, wR_bind]; simp only [wR_bind]
theorem e_ix (a b : IE) : wR (dE Γ (.ix a b) ρ c) Q E = wR (dE Γ a ρ c) (fun x c1 => wR (dE Γ b ρ c1) (fun y c2 => wR (opIx x y c2) Q E) E) E := by
  rw [dE, wR_bind]; simp only [wR_bind]
def wI (x : D) (Q : Int → Prop) : Prop := match x with
  | .int i => Q i
  | _ => False
theorem wI_int (i : Int) (Q : Int → Prop) : wI (.int i) Q = Q i := rfl
theorem e_neg (a : IE) : wR (dE Γ (.neg a) ρ c) Q E = wR (dE Γ a ρ c) (fun x c1 => wI x fun i => Q (.int (-i)) c1) E := by
  rw [dE, wR_bind]; congr 1; funext x c1; cases x <;> rfl
theorem e_and (a b : IE) : wR (dE Γ (.and a b) ρ c) Q E = wR (dE Γ a ρ c) (fun x c1 => pick (truth c1 x) (wR (dE Γ b ρ c1) Q E) (Q x c1)) E := by
  rw [dE, wR_bind]; congr 1; funext x c1; cases truth c1 x with | none => rfl | some t => cases t <;> rfl
theorem e_or (a b : IE) : wR (dE Γ (.or a b) ρ c) Q E = wR (dE Γ a ρ c) (fun x c1 => pick (truth c1 x) (Q x c1) (wR (dE Γ b ρ c1) Q E)) E := by
  rw [dE, wR_bind]; congr 1; funext x c1; cases truth c1 x with | none => rfl | some t => cases t <;> rfl
def wB (o : Option Bool) (Q : Bool → Prop) : Prop := match o with
  | some b => Q b
  | none => False
theorem wB_some (b : Bool) (Q : Bool → Prop) : wB (some b) Q = Q b := rfl
theorem e_not (a : IE) : wR (dE Γ (.not a) ρ c) Q E = wR (dE Γ a ρ c) (fun x c1 => wB (truth c1 x) fun b => Q (.bl (!b)) c1) E := by
  rw [dE, wR_bind]; congr 1; funext x c1; cases truth c1 x <;> rfl
theorem e_ite (t a b : IE) : wR (dE Γ (.ite t a b) ρ c) Q E = wR (dE Γ t ρ c) (fun x c1 => pick (truth c1 x) (wR (dE Γ a ρ c1) Q E) (wR (dE Γ b ρ c1) Q E)) E := by
  rw [dE, wR_bind]; congr 1; funext x c1; cases truth c1 x with | none => rfl | some t => cases t <;> rfl
def wT (x : D) (A B : Prop) : Prop := match x with
  | .bl true => A
  | .bl false => B
  | _ => False
theorem wT_bl (b : Bool) (A B : Prop) : wT (.bl b) A B = if b = true then A else B := by cases b <;> rfl
theorem e_chain (o1 o2 : CmpOp) (a b e : IE) : wR (dE Γ (.chain o1 o2 a b e) ρ c) Q E = wR (dE Γ a ρ c) (fun x c1 => wR (dE Γ b ρ c1) (fun y c2 => wR (opCmp o1 x y c2) (fun t c3 => wT t (wR (dE Γ e ρ c3) (fun z c4 => wR (opCmp o2 y z c4) Q E) E) (Q (.bl false) c3)) E) E) E := by
  rw [dE, wR_bind]; congr 1; funext x c1; rw [wR_bind]; congr 1; funext y c2; rw [wR_bind]; congr 1; funext t c3
  cases t with
  | bl t => cases t with
    | true => rw [wR_bind]; rfl
    | false => rfl
  | _ => rfl
theorem es_nil (Q : List D → Cells → Prop) : wR (dEs Γ [] ρ c) Q E = Q [] c := by rw [dEs]; rfl
theorem es_cons (e : IE) (es : List IE) (Q : List D → Cells → Prop) : wR (dEs Γ (e :: es) ρ c) Q E = wR (dE Γ e ρ c) (fun x c1 => wR (dEs Γ es ρ c1) (fun xs c2 => Q (x :: xs) c2) E) E := by
  rw [dEs, wR_bind]; simp only [wR_bind, wR_ok]
theorem e_tup (es : List IE) : wR (dE Γ (.tup es) ρ c) Q E = wR (dEs Γ es ρ c) (fun xs c1 => xs.length ≤ lim ∧ Q (.tup xs) c1) E := by
  rw [dE, wR_bind]; congr 1; funext xs c1; rw [wR_if]; rfl
theorem e_lst (es : List IE) : wR (dE Γ (.lst es) ρ c) Q E = wR (dEs Γ es ρ c) (fun xs c1 => xs.length ≤ lim ∧ Q (.ref c1.length) (c1 ++ [.lst xs])) E := by
  rw [dE, wR_bind]; congr 1; funext xs c1; rw [wR_if]; rfl
theorem e_call (f : String) (es : List IE) : wR (dE Γ (.call f es) ρ c) Q E = wR (dEs Γ es ρ c) (fun xs c1 => wR (Γ.call f xs c1) Q E) E := by
  rw [dE, wR_bind]
theorem e_blt (b : Blt) (es : List IE) : wR (dE Γ (.blt b es) ρ c) Q E = wR (dEs Γ es ρ c) (fun xs c1 => wR (opBlt b xs c1) Q E) E := by
  rw [dE, wR_bind]
def wTy (o : Option String) (Q : String → Prop) : Prop := match o with
  | some t => Q t
  | none => False
theorem wTy_some (t : String) (Q : String → Prop) : wTy (some t) Q = Q t := rfl
theorem e_isi (e : IE) (ts : List String) : wR (dE Γ (.isi e ts) ρ c) Q E = wR (dE Γ e ρ c) (fun x c1 => wTy (tyOf c1 x) fun t => Q (.bl (isTy t ts)) c1) E := by
  rw [dE, wR_bind]; congr 1; funext x c1; cases tyOf c1 x <;> rfl
theorem e_meth (m : Me) (o : IE) (es : List IE) : wR (dE Γ (.meth m o es) ρ c) Q E = wR (dE Γ o ρ c) (fun x c1 => tyOf c1 x = some (meT m) ∧ wR (dEs Γ es ρ c1) (fun xs c2 => wR (opMeth m x xs c2) Q E) E) E := by
  rw [dE, wR_bind]; congr 1; funext x c1; rw [wR_if, wR_bind]
theorem o_no (Q : Option Int → Cells → Prop) : wR (dO Γ .no ρ c) Q E = Q none c := by rw [dO]; rfl
theorem o_some (e : IE) (h : e ≠ .no) (Q : Option Int → Cells → Prop) : wR (dO Γ e ρ c) Q E = wR (dE Γ e ρ c) (fun x c1 => wI x fun i => Q (some i) c1) E := by
  have : dO Γ e ρ c = (dE Γ e ρ c).bind fun x c1 => match x with | .int i => .ok (some i) c1 | _ => .no := by
    cases e <;> first | exact absurd rfl h | (rw [dO] <;> first | rfl | nofun)
  rw [this, wR_bind]; congr 1; funext x c1; cases x <;> rfl
theorem e_sl (a lo hi : IE) : wR (dE Γ (.sl a lo hi) ρ c) Q E = wR (dE Γ a ρ c) (fun x c1 => wR (dO Γ lo ρ c1) (fun l c2 => wR (dO Γ hi ρ c2) (fun h c3 => wR (opSl x l h c3) Q E) E) E) E := by
  rw [dE, wR_bind]; simp only [wR_bind]
/-- a call is held by a def that tells how it ended -/
def wL (t : Option Thk) (ex : List String) (Q : QD) (r : R D) : Prop := match t with
  | some t => wR r (fun _ c1 => Q t.d c1) (fun x c1 => x ∈ ex ∧ wO ((t.hs.lookup x).map some) fun d => Q d c1)
  | none => False
theorem wL_some (t : Thk) (ex : List String) (Q : QD) (r : R D) : wL (some t) ex Q r = wR r (fun _ c1 => Q t.d c1) (fun x c1 => x ∈ ex ∧ wO ((t.hs.lookup x).map some) fun d => Q d c1) := rfl
theorem e_lam (f : String) (e : IE) : wR (dE Γ (.lam f e) ρ c) Q E = wL (Γ.thks.lookup f) Γ.excs Q (dE Γ e ρ c) := by
  rw [dE]
  cases Γ.thks.lookup f with
  | none => rfl
  | some t =>
    cases dE Γ e ρ c with
    | ok d c1 => rfl
    | no => rfl
    | ex x c1 =>
      dsimp only [wL, wR]
      by_cases h : x ∈ Γ.excs
      · rw [if_pos h]
        cases t.hs.lookup x with
        | none => simp [wO]
        | some d => simp [wO, h]
      · rw [if_neg h]
        simp [h]
/-! ### statements -/
variable (K : SK)
def wA (o : Option Lo) (Q : Lo → Prop) : Prop := match o with
  | some ρ => Q ρ
  | none => False
theorem wA_some (ρ : Lo) (Q : Lo → Prop) : wA (some ρ) Q = Q ρ := rfl
theorem s_set (t : Tg) (e : IE) : wS (dS Γ (.set t e) ρ c) K = wR (dE Γ e ρ c) (fun x c1 => wA (asg c1 t x ρ) fun ρ' => K.nx ρ' c1) K.ex := by
  rw [dS, wS_ofE]; congr 1; funext x c1; cases asg c1 t x ρ <;> rfl
theorem s_expr (e : IE) : wS (dS Γ (.expr e) ρ c) K = wR (dE Γ e ρ c) (fun _ c1 => K.nx ρ c1) K.ex := by rw [dS, wS_ofE]; rfl
theorem s_ret (e : IE) : wS (dS Γ (.ret e) ρ c) K = wR (dE Γ e ρ c) (fun x c1 => K.rt x c1) K.ex := by rw [dS, wS_ofE]; rfl
theorem s_retN : wS (dS Γ .retN ρ c) K = K.rt .non c := by rw [dS]; rfl
theorem s_brk : wS (dS Γ .brk ρ c) K = K.bk ρ c := by rw [dS]; rfl
theorem s_cnt : wS (dS Γ .cnt ρ c) K = K.ct ρ c := by rw [dS]; rfl
theorem s_pass : wS (dS Γ .pass ρ c) K = K.nx ρ c := by rw [dS]; rfl
theorem s_raise (x : String) : wS (dS Γ (.raise x) ρ c) K = K.ex x c := by rw [dS]; rfl
theorem s_ife (t : IE) (a b : List IS) : wS (dS Γ (.ife t a b) ρ c) K = wR (dE Γ t ρ c) (fun x c1 => pick (truth c1 x) (wS (dSs Γ a ρ c1) K) (wS (dSs Γ b ρ c1) K)) K.ex := by
  rw [dS, wS_ofE]; congr 1; funext x c1; cases truth c1 x with | none => rfl | some t => cases t <;> rfl
theorem ss_nil : wS (dSs Γ [] ρ c) K = K.nx ρ c := by rw [dSs]; rfl
theorem ss_cons (s : IS) (r : List IS) : wS (dSs Γ (s :: r) ρ c) K = wS (dS Γ s ρ c) { K with nx := fun ρ' c' => wS (dSs Γ r ρ' c') K } := by
  rw [dSs]; cases dS Γ s ρ c <;> rfl
def wX (c : Cells) (x : D) (Q : Nat → List D → Prop) : Prop := match x with
  | .ref n => (match c[n]? with
    | some (.lst xs) => Q n xs
    | _ => False)
  | _ => False
theorem wX_ref {c : Cells} {n : Nat} {xs : List D} (h : c[n]? = some (.lst xs)) (Q : Nat → List D → Prop) : wX c (.ref n) Q = Q n xs := by unfold wX; dsimp only; rw [h]
def wN (o : Option Nat) (Q : Nat → Prop) : Prop := match o with
  | some n => Q n
  | none => False
theorem wN_some (n : Nat) (Q : Nat → Prop) : wN (some n) Q = Q n := rfl
theorem s_setIx (o i e : IE) : wS (dS Γ (.setIx o i e) ρ c) K = wR (dE Γ e ρ c) (fun z c1 => wR (dE Γ o ρ c1) (fun x c2 => wR (dE Γ i ρ c2) (fun y c3 => wI y fun k => wX c3 x fun n xs => wN (ixN xs.length k) fun j => K.nx ρ (c3.set n (.lst (xs.set j z)))) K.ex) K.ex) K.ex := by
  rw [dS, wS_ofE]; congr 1; funext z c1; rw [wS_ofE]; congr 1; funext x c2; rw [wS_ofE]; congr 1; funext y c3
  cases y with
  | int k =>
    cases x with
    | ref n =>
      dsimp only [wI, wX]
      cases h : c3[n]? with
      | none => rfl
      | some u =>
        cases u with
        | lst xs =>
          dsimp only
          cases ixN xs.length k <;> rfl
        | _ => rfl
    | _ => rfl
  | _ => cases x <;> rfl
def wZ (o : Option (Option D)) (Q : Int → Prop) : Prop := match o with
  | some (some (.int i)) => Q i
  | _ => False
theorem wZ_int (i : Int) (Q : Int → Prop) : wZ (some (some (.int i))) Q = Q i := rfl
theorem s_augA (i : Nat) (e : IE) : wS (dS Γ (.aug .Add i e) ρ c) K = wZ ρ[i]? fun x => wR (dE Γ e ρ c) (fun y c1 => wI y fun z => K.nx (ρ.set i (some (.int (x + z)))) c1) K.ex := by
  rw [dS]
  cases ρ[i]? with
  | none => rfl
  | some o =>
    cases o with
    | none => rfl
    | some d =>
      cases d with
      | int x =>
        show wS (ofE _ _ _) K = _
        rw [wS_ofE]
        show _ = wR (dE Γ e ρ c) _ _
        congr 1; funext y c1; cases y <;> rfl
      | _ => rfl
theorem s_augS (i : Nat) (e : IE) : wS (dS Γ (.aug .Sub i e) ρ c) K = wZ ρ[i]? fun x => wR (dE Γ e ρ c) (fun y c1 => wI y fun z => K.nx (ρ.set i (some (.int (x - z)))) c1) K.ex := by
  rw [dS]
  cases ρ[i]? with
  | none => rfl
  | some o =>
    cases o with
    | none => rfl
    | some d =>
      cases d with
      | int x =>
        show wS (ofE _ _ _) K = _
        rw [wS_ofE]
        show _ = wR (dE Γ e ρ c) _ _
        congr 1; funext y c1; cases y <;> rfl
      | _ => rfl
/-- except clauses -/
theorem s_try (b : List IS) (hs : List (String × D)) : wS (dS Γ (.try b hs) ρ c) K = wS (dSs Γ b ρ c) { K with ex := fun x c1 => x ∈ Γ.excs ∧ ((∃ d, hs.lookup x = some d ∧ K.rt d c1) ∨ (hs.lookup x = none ∧ K.ex x c1)) } := by
  rw [dS]
  cases dSs Γ b ρ c with
  | ex x ρ' c' =>
    dsimp only [wS]
    by_cases h : x ∈ Γ.excs
    · rw [if_pos h]
      cases hs.lookup x with
      | none => simp [h]
      | some d => simp [h]
    · rw [if_neg h]; simp [h]
  | _ => rfl
end
/-! ### calls -/
def wC (T : Tab) (k : Nat) (f : String) (xs : List D) (c : Cells) (Q : QD) (E : QX) : Prop := wR (callD T k f xs c) Q E
theorem call_body {T : Tab} {k : Nat} {f : String} {fn : Fn} {xs : List D} {c : Cells} {Q : QD} {E : QX} (h : T.fns.lookup f = some fn) (hn : xs.length = fn.np)
    (hb : wS (dSs ⟨callD T k, T.thks, T.excs⟩ fn.body (start fn xs) c) ⟨fun _ c => Q .non c, Q, fun _ _ => False, fun _ _ => False, E⟩) : wR (callD T (k + 1) f xs c) Q E := by
  unfold callD
  rw [h]
  dsimp only
  rw [if_pos hn]
  cases q : dSs ⟨callD T k, T.thks, T.excs⟩ fn.body (start fn xs) c with
  | nx ρ c' => rw [q] at hb; exact hb
  | rt d c' => rw [q] at hb; exact hb
  | ex x ρ c' => rw [q] at hb; exact hb
  | bk ρ c' => rw [q] at hb; exact hb.elim
  | ct ρ c' => rw [q] at hb; exact hb.elim
  | no => rw [q] at hb; exact hb.elim
/-- the end as law_end asks it -/
theorem ends_of {r : R D} (h : wR r (fun d _ => d = .bl true) (fun _ _ => False)) : ∃ c, r = .ok (.bl true) c := by
  cases r with
  | ok d c => cases (show d = .bl true from h); exact ⟨c, rfl⟩
  | ex x c => exact h.elim
  | no => exact h.elim
/-! ### loops -/
theorem s_whl {Γ : Ctx} {t : IE} {b : List IS} {K : SK} (I : Nat → Lo → Cells → Prop) {m : Nat} {ρ : Lo} {c : Cells} (h0 : I m ρ c)
    (step : ∀ m ρ c, I m ρ c → wR (dE Γ t ρ c) (fun x c1 => pick (truth c1 x) (wS (dSs Γ b ρ c1) ⟨fun ρ' c' => ∃ m', m' < m ∧ I m' ρ' c', K.rt, K.nx, fun ρ' c' => ∃ m', m' < m ∧ I m' ρ' c', K.ex⟩) (K.nx ρ c1)) K.ex) : wS (dS Γ (.whl t b) ρ c) K := by
  rw [dS]
  induction m using Nat.strongRecOn generalizing ρ c with
  | ind m ih =>
  have st := step m ρ c h0
  rw [whlGo_eq]
  cases q : dE Γ t ρ c with
  | no => rw [q] at st; exact st.elim
  | ex x c1 => rw [q] at st; exact st
  | ok d c1 =>
    rw [q] at st
    dsimp only [wR] at st ⊢
    cases qt : truth c1 d with
    | none => rw [qt] at st; exact st.elim
    | some bb =>
      rw [qt] at st
      cases bb with
      | false => exact st
      | true =>
        dsimp only [pick] at st ⊢
        cases qs : dSs Γ b ρ c1 with
        | nx ρ' c' => rw [qs] at st; obtain ⟨m', hm, hI⟩ := st; exact ih m' hm hI
        | ct ρ' c' => rw [qs] at st; obtain ⟨m', hm, hI⟩ := st; exact ih m' hm hI
        | bk ρ' c' => rw [qs] at st; exact st
        | rt d' c' => rw [qs] at st; exact st
        | ex x ρ' c' => rw [qs] at st; exact st
        | no => rw [qs] at st; exact st.elim
/-- what is walked -/
def itemsD (c : Cells) (x : D) : Option (List D × List Nat) := match x with
  | .tup xs => some (xs, [])
  | .ref n => (match c[n]? with
    | some (.lst xs) => some (xs, [n])
    | some (.frz xs) => some (xs, [n])
    | _ => none)
  | _ => none
def wP (o : Option (List D × List Nat)) (Q : List D × List Nat → Prop) : Prop := match o with
  | some p => Q p
  | none => False
theorem wP_some (p : List D × List Nat) (Q : List D × List Nat → Prop) : wP (some p) Q = Q p := rfl
theorem i_rng {Γ : Ctx} {es : List IE} {ρ : Lo} {c : Cells} {Q : List D × List Nat → Cells → Prop} {E : QX} : wR (dI Γ (.rng es) ρ c) Q E = wR (dEs Γ es ρ c) (fun xs c1 => wP ((rngOf xs).map fun ys => (ys, [])) fun p => Q p c1) E := by
  rw [dI, wR_bind]; congr 1; funext xs c1; cases rngOf xs <;> rfl
theorem i_val {Γ : Ctx} {e : IE} {ρ : Lo} {c : Cells} {Q : List D × List Nat → Cells → Prop} {E : QX} (h1 : ∀ es, e ≠ .rng es) (h2 : ∀ a, e ≠ .enum a) (h3 : ∀ x y, e ≠ .zip x y) :
    wR (dI Γ e ρ c) Q E = wR (dE Γ e ρ c) (fun x c1 => wP (itemsD c1 x) fun p => Q p c1) E := by
  have : dI Γ e ρ c = (dE Γ e ρ c).bind fun x c1 => match x with
    | .tup xs => .ok (xs, []) c1
    | .ref n => (match c1[n]? with
      | some (.lst xs) => .ok (xs, [n]) c1
      | some (.frz xs) => .ok (xs, [n]) c1
      | _ => .no)
    | _ => .no := by
    cases e <;> first | exact absurd rfl (h1 _) | exact absurd rfl (h2 _) | exact absurd rfl (h3 _ _) | (rw [dI] <;> first | rfl | nofun)
  rw [this, wR_bind]; congr 1; funext x c1
  cases x with
  | tup xs => rfl
  | ref n =>
    unfold itemsD
    dsimp only
    cases c1[n]? with
    | none => rfl
    | some u => cases u <;> rfl
  | _ => rfl
/-- a for: I of the items still to come -/
theorem go_for {F : D → Lo → Cells → SR} {ws : List Nat} {K : SK} (I : List D → Lo → Cells → Prop) {c0 : Cells} : ∀ {xs : List D} {ρ : Lo} {c : Cells}, I xs ρ c → same ws c0 c = true →
    (∀ x xs ρ c, I (x :: xs) ρ c → same ws c0 c = true → wS (F x ρ c) ⟨fun ρ' c' => I xs ρ' c' ∧ same ws c0 c' = true, K.rt, K.nx, fun ρ' c' => I xs ρ' c' ∧ same ws c0 c' = true, K.ex⟩) →
    (∀ ρ c, I [] ρ c → same ws c0 c = true → K.nx ρ c) → wS (forGo F ws xs ρ c) K
  | [], ρ, c, h, hs, st, en => en ρ c h hs
  | x :: xs, ρ, c, h, hs, st, en => by
    have h1 := st x xs ρ c h hs
    unfold forGo
    have sm : ∀ {c'}, same ws c0 c' = true → same ws c c' = true := fun {c'} z => by
      simp only [same, List.all_eq_true, decide_eq_true_eq] at *
      exact fun n hn => (hs n hn).symm.trans (z n hn)
    cases q : F x ρ c with
    | nx ρ' c' =>
      rw [q] at h1
      obtain ⟨a, b⟩ := h1
      dsimp only
      rw [if_pos (sm b)]
      exact go_for I a b st en
    | ct ρ' c' =>
      rw [q] at h1
      obtain ⟨a, b⟩ := h1
      dsimp only
      rw [if_pos (sm b)]
      exact go_for I a b st en
    | bk ρ' c' => rw [q] at h1; exact h1
    | rt d c' => rw [q] at h1; exact h1
    | ex e ρ' c' => rw [q] at h1; exact h1
    | no => rw [q] at h1; exact h1.elim
noncomputable def foS (Γ : Ctx) (t : Tg) (b : List IS) : D → Lo → Cells → SR := fun x ρ c => match asg c t x ρ with
  | none => .no
  | some ρ' => dSs Γ b ρ' c
theorem s_for (Γ : Ctx) (t : Tg) (it : IE) (b : List IS) (ρ : Lo) (c : Cells) (K : SK) : wS (dS Γ (.for t it b) ρ c) K = wR (dI Γ it ρ c) (fun p c1 => wS (forGo (foS Γ t b) p.2 p.1 ρ c1) K) K.ex := by
  rw [dS]
  cases dI Γ it ρ c <;> rfl
theorem s_foS (Γ : Ctx) (t : Tg) (b : List IS) (x : D) (ρ : Lo) (c : Cells) (K : SK) : wS (foS Γ t b x ρ c) K = wA (asg c t x ρ) fun ρ' => wS (dSs Γ b ρ' c) K := by
  unfold foS
  cases asg c t x ρ <;> rfl
/-! ### comprehensions -/
theorem ts_nil (Γ : Ctx) (ρ : Lo) (c : Cells) (Q : Bool → Cells → Prop) (E : QX) : wR (dT Γ [] ρ c) Q E = Q true c := by rw [dT]; rfl
theorem ts_cons (Γ : Ctx) (e : IE) (es : List IE) (ρ : Lo) (c : Cells) (Q : Bool → Cells → Prop) (E : QX) : wR (dT Γ (e :: es) ρ c) Q E = wR (dE Γ e ρ c) (fun x c1 => pick (truth c1 x) (wR (dT Γ es ρ c1) Q E) (Q false c1)) E := by
  rw [dT, wR_bind]; congr 1; funext x c1; cases truth c1 x with | none => rfl | some t => cases t <;> rfl
def lcB (Γ : Ctx) (t : Tg) (own : List Nat) (ifs : List IE) (e : IE) (ρ : Lo) : D → Cells → R (Option D) := fun x c2 => match asg c2 t x (wipe ρ own) with
  | none => .no
  | some ρ' => (match dT Γ ifs ρ' c2 with
    | .ok true c3 => (match dE Γ e ρ' c3 with
      | .ok y c4 => .ok (some y) c4
      | _ => .no)
    | .ok false c3 => .ok none c3
    | _ => .no)
theorem e_lc (Γ : Ctx) (own : List Nat) (t : Tg) (it : IE) (ifs : List IE) (e : IE) (ρ : Lo) (c : Cells) (Q : QD) (E : QX) : wR (dE Γ (.lc own t it ifs e) ρ c) Q E =
    wR (dI Γ it ρ c) (fun p c1 => wR (lcGo (lcB Γ t own ifs e ρ) p.2 p.1 c1) (fun ys c2 => ys.length ≤ lim ∧ Q (.ref c2.length) (c2 ++ [.lst ys])) E) E := by
  rw [dE, wR_bind]; congr 1; funext p c1; rw [wR_bind]; congr 1; funext ys c2; rw [wR_if]; rfl
theorem w_lcB (Γ : Ctx) (t : Tg) (own : List Nat) (ifs : List IE) (e : IE) (ρ : Lo) (x : D) (c : Cells) (Q : Option D → Cells → Prop) (E : QX) : wR (lcB Γ t own ifs e ρ x c) Q E =
    wA (asg c t x (wipe ρ own)) fun ρ' => wR (dT Γ ifs ρ' c) (fun b c3 => if b = true then wR (dE Γ e ρ' c3) (fun y c4 => Q (some y) c4) (fun _ _ => False) else Q none c3) (fun _ _ => False) := by
  unfold lcB
  cases asg c t x (wipe ρ own) with
  | none => rfl
  | some ρ' =>
    dsimp only [wA]
    cases dT Γ ifs ρ' c with
    | ok b c3 =>
      cases b with
      | true =>
        dsimp only [wR]
        rw [if_pos rfl]
        cases dE Γ e ρ' c3 <;> rfl
      | false => simp [wR]
    | ex => rfl
    | no => rfl
/-- the turns of a comprehension, by what is kept of the items: J of the state -/
theorem go_lc {F : D → Cells → R (Option D)} {ws : List Nat} {c0 : Cells} {E : QX} (J : Cells → Prop) (g : D → Option D) : ∀ {xs : List D} {c : Cells} {Q : List D → Cells → Prop}, J c → same ws c0 c = true →
    (∀ x ∈ xs, ∀ c, J c → same ws c0 c = true → wR (F x c) (fun o c' => o = g x ∧ J c' ∧ same ws c0 c' = true) E) → (∀ c', J c' → same ws c0 c' = true → Q (xs.filterMap g) c') → wR (lcGo F ws xs c) Q E
  | [], c, Q, h, hs, st, en => en c h hs
  | x :: xs, c, Q, h, hs, st, en => by
    have h1 := st x List.mem_cons_self c h hs
    unfold lcGo
    have sm : ∀ {c'}, same ws c0 c' = true → same ws c c' = true := fun {c'} z => by
      simp only [same, List.all_eq_true, decide_eq_true_eq] at *
      exact fun n hn => (hs n hn).symm.trans (z n hn)
    rw [wR_bind]
    cases q : F x c with
    | ok o c1 =>
      rw [q] at h1
      obtain ⟨rfl, a, b⟩ := h1
      dsimp only [wR]
      rw [if_pos (sm b)]
      show wR (R.bind _ _) Q E
      rw [wR_bind]
      refine go_lc J g a b (fun y hy => st y (List.mem_cons_of_mem _ hy)) fun c' j s => ?_
      rw [List.filterMap_cons] at en
      cases qg : g x with
      | none => rw [qg] at en; exact en c' j s
      | some y => rw [qg] at en; exact en c' j s
    | ex e c1 => rw [q] at h1; exact h1
    | no => rw [q] at h1; exact h1.elim
end G
end

section
set_option linter.all false
set_option autoImplicit false
set_option maxRecDepth 20000
/-! GLib: operations as rewriting. -/
namespace G
open PySem (Str Operator CmpOp PyData)

/-! ### equal data -/
mutual
def D.fl : D → Bool
  | .str x => PyData.strOk x
  | .tup xs => D.fls xs
  | .ref _ => false
  | _ => true
def D.fls : List D → Bool
  | [] => true
  | x :: xs => D.fl x && D.fls xs
end
mutual
def D.dep : D → Nat
  | .tup xs => D.deps xs + 1
  | _ => 0
def D.deps : List D → Nat
  | [] => 0
  | x :: xs => max (D.dep x) (D.deps xs)
end
mutual
def eqD : D → D → Bool
  | .non, .non => true
  | .bl a, .bl b => a == b
  | .bl a, .int j => (if a then 1 else 0) == j
  | .int i, .bl b => i == (if b then 1 else 0)
  | .int i, .int j => i == j
  | .str x, .str y => x == y
  | .tup xs, .tup ys => eqDs xs ys
  | _, _ => false
def eqDs : List D → List D → Bool
  | [], [] => true
  | x :: xs, y :: ys => eqD x y && eqDs xs ys
  | _, _ => false
end
mutual
def toP : D → PyData
  | .non => .none
  | .bl b => .bool b
  | .int i => .int i
  | .str x => .str x
  | .tup xs => .tuple (toPs xs)
  | .ref _ => .none
def toPs : List D → List PyData
  | [] => []
  | x :: xs => toP x :: toPs xs
end
mutual
theorem pyD_fl (f : Nat → Option PyData) : ∀ x : D, x.fl = true → pyD f x = some (toP x)
  | .non, _ => by simp [pyD, toP]
  | .bl b, _ => by simp [pyD, toP]
  | .int b, _ => by simp [pyD, toP]
  | .str b, _ => by simp [pyD, toP]
  | .tup xs, h => by
    have h' : D.fls xs = true := by simpa [D.fl] using h
    simp [pyD, toP, pyDs_fl f xs h']
  | .ref _, h => by simp [D.fl] at h
theorem pyDs_fl (f : Nat → Option PyData) : ∀ xs : List D, D.fls xs = true → pyDs f xs = some (toPs xs)
  | [], _ => by simp [pyDs, toPs]
  | x :: xs, h => by
    have h' : D.fl x = true ∧ D.fls xs = true := by simpa [D.fls] using h
    simp [pyDs, toPs, pyD_fl f x h'.1, pyDs_fl f xs h'.2]
end
mutual
theorem lay_fl : ∀ x : D, x.fl = true → (toP x).canLay0 = true ∧ (toP x).depth = x.dep
  | .non, _ => by simp [toP, PyData.canLay0, PyData.depth, D.dep]
  | .bl b, _ => by simp [toP, PyData.canLay0, PyData.depth, D.dep]
  | .int b, _ => by simp [toP, PyData.canLay0, PyData.depth, D.dep]
  | .str b, h => by
    have h' : PyData.strOk b = true := by simpa [D.fl] using h
    simp [toP, PyData.canLay0, PyData.depth, D.dep, h']
  | .tup xs, h => by
    have h' : D.fls xs = true := by simpa [D.fl] using h
    obtain ⟨a, b⟩ := lays_fl xs h'
    simp [toP, PyData.canLay0, PyData.depth, D.dep, a, b]
  | .ref _, h => by simp [D.fl] at h
theorem lays_fl : ∀ xs : List D, D.fls xs = true → PyData.canLayAll0 (toPs xs) = true ∧ PyData.depthAll (toPs xs) = D.deps xs
  | [], _ => by simp [toPs, PyData.canLayAll0, PyData.depthAll, D.deps]
  | x :: xs, h => by
    have h' : D.fl x = true ∧ D.fls xs = true := by simpa [D.fls] using h
    obtain ⟨a, b⟩ := lay_fl x h'.1
    obtain ⟨a2, b2⟩ := lays_fl xs h'.2
    simp [toPs, PyData.canLayAll0, PyData.depthAll, D.deps, a, b, a2, b2]
end
mutual
theorem eqv_toP : ∀ x y : D, x.fl = true → y.fl = true → PyData.eqv (toP x) (toP y) = eqD x y
  | .non, y, _, h => by cases y <;> simp_all [toP, PyData.eqv, eqD, D.fl]
  | .bl b, y, _, h => by cases y <;> simp_all [toP, PyData.eqv, eqD, D.fl]
  | .int b, y, _, h => by cases y <;> simp_all [toP, PyData.eqv, eqD, D.fl]
  | .str b, y, _, h => by cases y <;> simp_all [toP, PyData.eqv, eqD, D.fl]
  | .tup xs, y, h1, h => by
    cases y with
    | tup ys => simp [toP, PyData.eqv, eqD, eqvs_toP xs ys (by simpa [D.fl] using h1) (by simpa [D.fl] using h)]
    | ref _ => simp [D.fl] at h
    | _ => simp [toP, PyData.eqv, eqD]
  | .ref _, _, h, _ => by simp [D.fl] at h
theorem eqvs_toP : ∀ xs ys : List D, D.fls xs = true → D.fls ys = true → PyData.eqvAll (toPs xs) (toPs ys) = eqDs xs ys
  | [], [], _, _ => by simp [toPs, PyData.eqvAll, eqDs]
  | [], _ :: _, _, _ => by simp [toPs, PyData.eqvAll, eqDs]
  | _ :: _, [], _, _ => by simp [toPs, PyData.eqvAll, eqDs]
  | x :: xs, y :: ys, h1, h2 => by
    have h1' : D.fl x = true ∧ D.fls xs = true := by simpa [D.fls] using h1
    have h2' : D.fl y = true ∧ D.fls ys = true := by simpa [D.fls] using h2
    simp [toPs, PyData.eqvAll, eqDs, eqv_toP x y h1'.1 h2'.1, eqvs_toP xs ys h1'.2 h2'.2]
end
/-- flat enough: no lists within -/
def D.ok (x : D) : Bool := x.fl && decide (x.dep ≤ 64)
theorem py_ok' {c : Cells} {x : D} (h : x.ok = true) : py c x = some (toP x) := by
  unfold D.ok at h
  simp only [Bool.and_eq_true, decide_eq_true_eq] at h
  obtain ⟨a, b⟩ := lay_fl x h.1
  unfold py
  rw [pyD_fl _ x h.1]
  dsimp only
  rw [if_pos]
  unfold PySem.SeqAt.shaped
  simp [a, b, h.2]
theorem eqv_ok {c : Cells} {x y : D} (h1 : x.ok = true) (h2 : y.ok = true) : eqv c x y = some (eqD x y) := by
  unfold eqv
  rw [py_ok' h1, py_ok' h2]
  dsimp only
  rw [eqv_toP x y (by unfold D.ok at h1; simp at h1; exact h1.1) (by unfold D.ok at h2; simp at h2; exact h2.1)]
mutual
def D.it : D → Bool
  | .bl _ => false
  | .tup xs => D.its xs
  | .ref _ => false
  | _ => true
def D.its : List D → Bool
  | [] => true
  | x :: xs => D.it x && D.its xs
end
mutual
theorem eqD_it : ∀ x y : D, x.it = true → y.it = true → (eqD x y = true ↔ x = y)
  | .non, y, _, h => by cases y <;> simp_all [eqD, D.it]
  | .bl b, y, h1, h => by simp [D.it] at h1
  | .int b, y, _, h => by cases y <;> simp_all [eqD, D.it]
  | .str b, y, _, h => by cases y <;> simp_all [eqD, D.it]
  | .tup xs, y, h1, h => by
    cases y with
    | tup ys => simp [eqD, eqDs_it xs ys (by simpa [D.it] using h1) (by simpa [D.it] using h)]
    | _ => simp_all [eqD, D.it]
  | .ref _, _, h, _ => by simp [D.it] at h
theorem eqDs_it : ∀ xs ys : List D, D.its xs = true → D.its ys = true → (eqDs xs ys = true ↔ xs = ys)
  | [], [], _, _ => by simp [eqDs]
  | [], _ :: _, _, _ => by simp [eqDs]
  | _ :: _, [], _, _ => by simp [eqDs]
  | x :: xs, y :: ys, h1, h2 => by
    have h1' : D.it x = true ∧ D.its xs = true := by simpa [D.its] using h1
    have h2' : D.it y = true ∧ D.its ys = true := by simpa [D.its] using h2
    simp [eqDs, eqD_it x y h1'.1 h2'.1, eqDs_it xs ys h1'.2 h2'.2]
end
mutual
theorem eqD_self : ∀ x : D, x.fl = true → eqD x x = true
  | .non, _ => by simp [eqD]
  | .bl _, _ => by simp [eqD]
  | .int _, _ => by simp [eqD]
  | .str _, _ => by simp [eqD]
  | .tup xs, h => by simp [eqD, eqDs_self xs (by simpa [D.fl] using h)]
  | .ref _, h => by simp [D.fl] at h
theorem eqDs_self : ∀ x : List D, D.fls x = true → eqDs x x = true
  | [], _ => by simp [eqDs]
  | x :: xs, h => by
    have h' : D.fl x = true ∧ D.fls xs = true := by simpa [D.fls] using h
    simp [eqDs, eqD_self x h'.1, eqDs_self xs h'.2]
end

/-! ### small ints -/
class Sm (n : outParam Nat) (x : Int) : Prop where
  lt : x.natAbs < 2 ^ n
theorem Sm.mono {n m : Nat} {x : Int} (h : Sm n x) (k : n ≤ m) : Sm m x := ⟨Nat.lt_of_lt_of_le h.lt (Nat.pow_le_pow_right (by decide) k)⟩
instance (n m : Nat) (a b : Int) [h : Sm n a] [k : Sm m b] : Sm (n + m) (a * b) := ⟨by
  rw [Int.natAbs_mul, Nat.pow_add]
  exact Nat.mul_lt_mul'' h.lt k.lt⟩
theorem two_pow_max {n m a b : Nat} (h : a < 2 ^ n) (k : b < 2 ^ m) : a + b < 2 ^ (max n m + 1) := by
  have h1 : 2 ^ n ≤ 2 ^ max n m := Nat.pow_le_pow_right (by decide) (Nat.le_max_left _ _)
  have h2 : 2 ^ m ≤ 2 ^ max n m := Nat.pow_le_pow_right (by decide) (Nat.le_max_right _ _)
  rw [Nat.pow_succ]
  omega
instance (n m : Nat) (a b : Int) [h : Sm n a] [k : Sm m b] : Sm (max n m + 1) (a + b) := ⟨Nat.lt_of_le_of_lt (Int.natAbs_add_le a b) (two_pow_max h.lt k.lt)⟩
instance (n : Nat) (a : Int) [h : Sm n a] : Sm n (-a) := ⟨by rw [Int.natAbs_neg]; exact h.lt⟩
instance (n m : Nat) (a b : Int) [h : Sm n a] [k : Sm m b] : Sm (max n m + 1) (a - b) := ⟨by
  have := Int.natAbs_sub_le a b
  exact Nat.lt_of_le_of_lt this (two_pow_max h.lt k.lt)⟩
instance (k : Nat) : Sm (k.log2 + 1) (no_index (OfNat.ofNat k) : Int) := ⟨by
  show (Int.ofNat k).natAbs < _
  exact Nat.lt_log2_self⟩
theorem sm_of {n : Nat} {x : Int} (h : x.natAbs < 2 ^ n) : Sm n x := ⟨h⟩
theorem mulOk_sm {n m : Nat} {x y : Int} [h : Sm n x] [k : Sm m y] (hl : n + m ≤ 999999) : mulOk x y = true := by
  unfold mulOk
  have key : ∀ {n a : Nat}, a < 2 ^ n → a.log2 ≤ n := fun {n a} h => by
    by_cases z : a = 0
    · subst z; simp
    · exact Nat.le_of_lt ((Nat.log2_lt z).mpr h)
  have h1 := key h.lt
  have h2 := key k.lt
  simp only [decide_eq_true_eq]
  omega
instance (n : Nat) (x d : Int) [h : Sm n x] : Sm n (x / d) := ⟨Nat.lt_of_le_of_lt (Int.natAbs_ediv_le_natAbs x d) h.lt⟩
end G
end

section
set_option linter.all false
set_option autoImplicit false
set_option maxRecDepth 20000
/-! GOp: operations as rewriting, second part. -/
namespace G
open PySem (Str Operator CmpOp PyData)
section
variable (c : Cells) (Q : QD) (E : QX)
theorem b_add (i j : Int) : wR (opBin .Add (.int i) (.int j) c) Q E = Q (.int (i + j)) c := rfl
theorem b_sub (i j : Int) : wR (opBin .Sub (.int i) (.int j) c) Q E = Q (.int (i - j)) c := rfl
theorem b_subB (i j : Bool) : wR (opBin .Sub (.bl i) (.bl j) c) Q E = Q (.int (b2i i - b2i j)) c := rfl
theorem b_addB (i : Int) (j : Bool) : wR (opBin .Add (.int i) (.bl j) c) Q E = Q (.int (i + b2i j)) c := rfl
theorem b_mul (i j : Int) : wR (opBin .Mult (.int i) (.int j) c) Q E = (mulOk i j = true ∧ Q (.int (i * j)) c) := by
  show wR (if mulOk i j = true then _ else _) Q E = _
  rw [wR_if]; rfl
theorem b_div (i j : Int) : wR (opBin .FloorDiv (.int i) (.int j) c) Q E = ((0 < j ∧ j.natAbs.log2 < 9000) ∧ Q (.int (i / j)) c) := by
  show wR (if _ then _ else _) Q E = _
  rw [wR_if]; rfl
theorem b_mod (i j : Int) : wR (opBin .Mod (.int i) (.int j) c) Q E = (0 < j ∧ Q (.int (i % j)) c) := by
  show wR (if _ then _ else _) Q E = _
  rw [wR_if]; rfl
theorem b_pow (i j : Int) : wR (opBin .Pow (.int i) (.int j) c) Q E = ((0 ≤ j ∧ j ≤ 1000000 ∧ i.natAbs < 2 ^ 64) ∧ Q (.int (i ^ j.toNat)) c) := by
  show wR (if _ then _ else _) Q E = _
  rw [wR_if]; rfl
theorem b_addT (a b : List D) : wR (opBin .Add (.tup a) (.tup b) c) Q E = (a.length + b.length ≤ lim ∧ Q (.tup (a ++ b)) c) := by
  show wR (if _ then _ else _) Q E = _
  rw [wR_if]; rfl
theorem b_mulT (a : List D) (k : Int) : wR (opBin .Mult (.tup a) (.int k) c) Q E = ((a ≠ [] ∧ 2 ≤ k ∧ k ≤ 1000 ∧ a.length ≤ 1000) ∧ Q (.tup (List.replicate k.toNat a).flatten) c) := by
  show wR (if _ then _ else _) Q E = _
  rw [wR_if]; rfl
theorem wR_obl (o : Option Bool) : wR (obl o c) Q E = wB o fun b => Q (.bl b) c := by cases o <;> rfl
theorem c_eq (x y : D) : wR (opCmp .Eq x y c) Q E = wB (eqv c x y) fun b => Q (.bl b) c := wR_obl _ _ _ _
theorem c_ne (x y : D) : wR (opCmp .NotEq x y c) Q E = wB (eqv c x y) fun b => Q (.bl (!b)) c := by
  show wR (obl _ c) Q E = _
  rw [wR_obl]; cases eqv c x y <;> rfl
theorem c_in (x y : D) : wR (opCmp .In x y c) Q E = wB (inD c x y) fun b => Q (.bl b) c := wR_obl _ _ _ _
theorem c_notIn (x y : D) : wR (opCmp .NotIn x y c) Q E = wB (inD c x y) fun b => Q (.bl (!b)) c := by
  show wR (obl _ c) Q E = _
  rw [wR_obl]; cases inD c x y <;> rfl
theorem c_lt (i j : Int) : wR (opCmp .Lt (.int i) (.int j) c) Q E = Q (.bl (decide (i < j))) c := rfl
theorem c_le (i j : Int) : wR (opCmp .LtE (.int i) (.int j) c) Q E = Q (.bl (decide (i ≤ j))) c := rfl
theorem c_gt (i j : Int) : wR (opCmp .Gt (.int i) (.int j) c) Q E = Q (.bl (decide (j < i))) c := rfl
theorem c_ge (i j : Int) : wR (opCmp .GtE (.int i) (.int j) c) Q E = Q (.bl (decide (j ≤ i))) c := rfl
theorem c_isB (a b : Bool) : wR (opCmp .Is (.bl a) (.bl b) c) Q E = Q (.bl (decide (a = b))) c := rfl
theorem c_isNotB (a b : Bool) : wR (opCmp .IsNot (.bl a) (.bl b) c) Q E = Q (.bl (!decide (a = b))) c := rfl
theorem c_isN (x : D) : wR (opCmp .Is x .non c) Q E = Q (.bl (decide (x = .non))) c := by cases x <;> rfl
theorem c_isNotN (x : D) : wR (opCmp .IsNot x .non c) Q E = Q (.bl (!decide (x = .non))) c := by cases x <;> rfl
theorem x_tup (xs : List D) (i : Int) : wR (opIx (.tup xs) (.int i) c) Q E = wO ((atI xs i).map some) fun d => Q d c := by
  show wR (match atI xs i with | some d => R.ok d c | none => .no) Q E = _
  cases atI xs i <;> rfl
theorem x_ref (n : Nat) (i : Int) : wR (opIx (.ref n) (.int i) c) Q E = wO (((getL c n).bind fun xs => atI xs i).map some) fun d => Q d c := by
  show wR (match getL c n with | some xs => (match atI xs i with | some d => R.ok d c | none => .no) | none => .no) Q E = _
  cases getL c n with
  | none => rfl
  | some xs =>
    dsimp only [Option.bind]
    cases atI xs i <;> rfl
theorem sl_tup (xs : List D) (lo hi : Option Int) : wR (opSl (.tup xs) lo hi c) Q E = Q (.tup (cut xs lo hi)) c := rfl
theorem t_abs (i : Int) : wR (opBlt .abs [.int i] c) Q E = Q (.int (if i < 0 then -i else i)) c := rfl
theorem t_int (i : Int) : wR (opBlt .int [.int i] c) Q E = Q (.int i) c := rfl
theorem t_intB (b : Bool) : wR (opBlt .int [.bl b] c) Q E = Q (.int (b2i b)) c := rfl
theorem t_len (xs : List D) : wR (opBlt .len [.tup xs] c) Q E = Q (.int xs.length) c := rfl
theorem t_min (i j : Int) : wR (opBlt .min [.int i, .int j] c) Q E = Q (.int (if j < i then j else i)) c := rfl
theorem t_max (i j : Int) : wR (opBlt .max [.int i, .int j] c) Q E = Q (.int (if j > i then j else i)) c := rfl
theorem t_tupT (xs : List D) : wR (opBlt .tuple [.tup xs] c) Q E = Q (.tup xs) c := rfl
theorem t_lstT (xs : List D) : wR (opBlt .list [.tup xs] c) Q E = Q (.ref c.length) (c ++ [.lst xs]) := rfl
/-- the list just made -/
theorem last_cell (x : Cell) : (c ++ [x])[c.length]? = some x := List.getElem?_concat_length ..
def wBs (o : Option (List Bool)) (Q : List Bool → Prop) : Prop := match o with
  | some b => Q b
  | none => False
theorem wBs_some (b : List Bool) (Q : List Bool → Prop) : wBs (some b) Q = Q b := rfl
theorem t_allR (n : Nat) (xs : List D) (h : c[n]? = some (.lst xs)) : wR (opBlt .all [.ref n] c) Q E = wBs (bls xs) fun bs => Q (.bl (bs.all id)) c := by
  unfold opBlt; dsimp only; rw [h]; dsimp only
  cases bls xs <;> rfl
theorem t_anyR (n : Nat) (xs : List D) (h : c[n]? = some (.lst xs)) : wR (opBlt .any [.ref n] c) Q E = wBs (bls xs) fun bs => Q (.bl (bs.any id)) c := by
  unfold opBlt; dsimp only; rw [h]; dsimp only
  cases bls xs <;> rfl
theorem t_all (xs : List D) : wR (opBlt .all [.ref c.length] (c ++ [.lst xs])) Q E = wBs (bls xs) fun bs => Q (.bl (bs.all id)) (c ++ [.lst xs]) := t_allR _ _ _ _ _ (last_cell _ _)
theorem t_any (xs : List D) : wR (opBlt .any [.ref c.length] (c ++ [.lst xs])) Q E = wBs (bls xs) fun bs => Q (.bl (bs.any id)) (c ++ [.lst xs]) := t_anyR _ _ _ _ _ (last_cell _ _)
theorem t_lenR (n : Nat) (xs : List D) (h : c[n]? = some (.lst xs)) : wR (opBlt .len [.ref n] c) Q E = Q (.int xs.length) c := by
  unfold opBlt; dsimp only; rw [h]; rfl
theorem t_tupR (n : Nat) (xs : List D) (h : c[n]? = some (.lst xs)) : wR (opBlt .tuple [.ref n] c) Q E = Q (.tup xs) c := by
  unfold opBlt; dsimp only; rw [h]; rfl
theorem t_tup (xs : List D) : wR (opBlt .tuple [.ref c.length] (c ++ [.lst xs])) Q E = Q (.tup xs) (c ++ [.lst xs]) := t_tupR _ _ _ _ _ (last_cell _ _)
end
/-! ### small ends -/
theorem tr_bl (c : Cells) (b : Bool) : truth c (.bl b) = some b := rfl
theorem tr_int (c : Cells) (i : Int) : truth c (.int i) = some (i != 0) := rfl
theorem tr_tup (c : Cells) (xs : List D) : truth c (.tup xs) = some (!xs.isEmpty) := rfl
theorem tr_non (c : Cells) : truth c .non = some false := rfl
theorem ty_non (c : Cells) : tyOf c .non = some "NoneType" := rfl
theorem ty_bl (c : Cells) (b : Bool) : tyOf c (.bl b) = some "bool" := rfl
theorem ty_int (c : Cells) (b : Int) : tyOf c (.int b) = some "int" := rfl
theorem ty_str (c : Cells) (b : Str) : tyOf c (.str b) = some "str" := rfl
theorem ty_tup (c : Cells) (b : List D) : tyOf c (.tup b) = some "tuple" := rfl
theorem is_ii : isTy "int" ["int"] = true := by decide
theorem is_ib : isTy "int" ["bool"] = false := by decide
theorem is_bi : isTy "bool" ["int"] = true := by decide
theorem is_bb : isTy "bool" ["bool"] = true := by decide
theorem is_tt : isTy "tuple" ["tuple"] = true := by decide
theorem is_lt : isTy "list" ["tuple"] = false := by decide
theorem is_it : isTy "int" ["tuple"] = false := by decide
theorem is_nt : isTy "NoneType" ["tuple"] = false := by decide
theorem is_st : isTy "str" ["tuple"] = false := by decide
theorem is_ni : isTy "NoneType" ["int"] = false := by decide
theorem is_si : isTy "str" ["int"] = false := by decide
theorem is_ti : isTy "tuple" ["int"] = false := by decide
theorem is_li : isTy "list" ["int"] = false := by decide
theorem a2_0 (x y : D) : atI [x, y] 0 = some x := rfl
theorem a2_1 (x y : D) : atI [x, y] 1 = some y := rfl
theorem a3_0 (x y z : D) : atI [x, y, z] 0 = some x := rfl
theorem a3_1 (x y z : D) : atI [x, y, z] 1 = some y := rfl
theorem a3_2 (x y z : D) : atI [x, y, z] 2 = some z := rfl
theorem a4_0 (x y z w : D) : atI [x, y, z, w] 0 = some x := rfl
theorem a4_1 (x y z w : D) : atI [x, y, z, w] 1 = some y := rfl
theorem a4_2 (x y z w : D) : atI [x, y, z, w] 2 = some z := rfl
theorem a4_3 (x y z w : D) : atI [x, y, z, w] 3 = some w := rfl
theorem asg_v (c : Cells) (i : Nat) (d : D) (ρ : Lo) : asg c (.v i) d ρ = some (ρ.set i (some d)) := by rw [asg]
theorem asg_t (c : Cells) (ts : List Tg) (xs : List D) (ρ : Lo) : asg c (.tup ts) (.tup xs) ρ = asgs c ts xs ρ := by rw [asg]
theorem asgs_n (c : Cells) (ρ : Lo) : asgs c [] [] ρ = some ρ := by rw [asgs]
theorem asgs_c (c : Cells) (t : Tg) (ts : List Tg) (x : D) (xs : List D) (ρ : Lo) : asgs c (t :: ts) (x :: xs) ρ = (asg c t x ρ).bind fun ρ' => asgs c ts xs ρ' := by
  rw [asgs]; cases asg c t x ρ <;> rfl
theorem log2_sm {n : Nat} {x : Int} [h : Sm n x] (hl : n ≤ 8999) : (x.natAbs.log2 < 9000) = True := by
  have key : ∀ {n a : Nat}, a < 2 ^ n → a.log2 ≤ n := fun {n a} h => by
    by_cases z : a = 0
    · subst z; simp
    · exact Nat.le_of_lt ((Nat.log2_lt z).mpr h)
  have := key h.lt
  simp only [eq_iff_iff, iff_true]
  omega
theorem abs_eq (i : Int) : (if i < 0 then -i else i) = (i.natAbs : Int) := by omega
/-! ### walks of literal rows -/
section
variable (Γ : Ctx) (ρ : Lo) (c : Cells) (Q : List D × List Nat → Cells → Prop) (E : QX)
theorem i_v (i : Nat) : wR (dI Γ (.v i) ρ c) Q E = wR (dE Γ (.v i) ρ c) (fun x c1 => wP (itemsD c1 x) fun p => Q p c1) E := i_val nofun nofun nofun
theorem i_tup (es : List IE) : wR (dI Γ (.tup es) ρ c) Q E = wR (dE Γ (.tup es) ρ c) (fun x c1 => wP (itemsD c1 x) fun p => Q p c1) E := i_val nofun nofun nofun
theorem i_lst (es : List IE) : wR (dI Γ (.lst es) ρ c) Q E = wR (dE Γ (.lst es) ρ c) (fun x c1 => wP (itemsD c1 x) fun p => Q p c1) E := i_val nofun nofun nofun
theorem i_call (f : String) (es : List IE) : wR (dI Γ (.call f es) ρ c) Q E = wR (dE Γ (.call f es) ρ c) (fun x c1 => wP (itemsD c1 x) fun p => Q p c1) E := i_val nofun nofun nofun
theorem i_ix (a b : IE) : wR (dI Γ (.ix a b) ρ c) Q E = wR (dE Γ (.ix a b) ρ c) (fun x c1 => wP (itemsD c1 x) fun p => Q p c1) E := i_val nofun nofun nofun
theorem i_sl (a b d : IE) : wR (dI Γ (.sl a b d) ρ c) Q E = wR (dE Γ (.sl a b d) ρ c) (fun x c1 => wP (itemsD c1 x) fun p => Q p c1) E := i_val nofun nofun nofun
theorem it_tup (xs : List D) : itemsD c (.tup xs) = some (xs, []) := rfl
end
theorem same_nil' (c c' : Cells) : same [] c c' = true := rfl
theorem lc_nil (f : D → Cells → R (Option D)) (ws : List Nat) (c : Cells) (Q : List D → Cells → Prop) (E : QX) : wR (lcGo f ws [] c) Q E = Q [] c := rfl
def oc (o : Option D) (ys : List D) : List D := match o with
  | some y => y :: ys
  | none => ys
theorem oc_some (y : D) (ys : List D) : oc (some y) ys = y :: ys := rfl
theorem oc_none (ys : List D) : oc none ys = ys := rfl
theorem lc_cons (f : D → Cells → R (Option D)) (ws : List Nat) (x : D) (xs : List D) (c : Cells) (Q : List D → Cells → Prop) (E : QX) :
    wR (lcGo f ws (x :: xs) c) Q E = wR (f x c) (fun o c1 => same ws c c1 = true ∧ wR (lcGo f ws xs c1) (fun ys c2 => Q (oc o ys) c2) E) E := by
  rw [lcGo, wR_bind]; congr 1; funext o c1
  by_cases h : same ws c c1 = true
  · rw [if_pos h, wR_bind]; simp only [h, true_and]; congr 1; funext ys c2; cases o <;> rfl
  · rw [if_neg h]; simp [h, wR]
theorem fo_nil (F : D → Lo → Cells → SR) (ws : List Nat) (ρ : Lo) (c : Cells) (K : SK) : wS (forGo F ws [] ρ c) K = K.nx ρ c := rfl
theorem fo_cons (F : D → Lo → Cells → SR) (ws : List Nat) (x : D) (xs : List D) (ρ : Lo) (c : Cells) (K : SK) :
    wS (forGo F ws (x :: xs) ρ c) K = wS (F x ρ c) ⟨fun ρ' c' => same ws c c' = true ∧ wS (forGo F ws xs ρ' c') K, K.rt, K.nx, fun ρ' c' => same ws c c' = true ∧ wS (forGo F ws xs ρ' c') K, K.ex⟩ := by
  rw [forGo]
  cases F x ρ c with
  | nx ρ' c' => by_cases h : same ws c c' = true <;> simp [wS, h]
  | ct ρ' c' => by_cases h : same ws c c' = true <;> simp [wS, h]
  | _ => rfl
theorem eq_of {r : R D} {d : D} {c : Cells} (h : ∀ (Q : QD) (E : QX), Q d c → wR r Q E) : r = .ok d c := by
  have := h (fun d' c' => d' = d ∧ c' = c) (fun _ _ => False) ⟨rfl, rfl⟩
  cases r with
  | ok d' c' => obtain ⟨rfl, rfl⟩ := this; rfl
  | ex _ _ => exact this.elim
  | no => exact this.elim
theorem ex_of {r : R D} {x : String} {c : Cells} (h : ∀ (Q : QD) (E : QX), E x c → wR r Q E) : r = .ex x c := by
  have := h (fun _ _ => False) (fun d' c' => d' = x ∧ c' = c) ⟨rfl, rfl⟩
  cases r with
  | ex d' c' => obtain ⟨rfl, rfl⟩ := this; rfl
  | ok _ _ => exact this.elim
  | no => exact this.elim
section
variable (c : Cells)
theorem q_ii (i j : Int) : eqv c (.int i) (.int j) = some (i == j) := by rw [eqv_ok rfl rfl]; simp [eqD]
theorem q_bb (i j : Bool) : eqv c (.bl i) (.bl j) = some (i == j) := by rw [eqv_ok rfl rfl]; simp [eqD]
theorem q_2 (i j k l : Int) : eqv c (.tup [.int i, .int j]) (.tup [.int k, .int l]) = some (i == k && j == l) := by rw [eqv_ok rfl rfl]; simp [eqD, eqDs]
theorem q_3 (i j k l m n : Int) : eqv c (.tup [.int i, .int j, .int k]) (.tup [.int l, .int m, .int n]) = some (i == l && (j == m && k == n)) := by rw [eqv_ok rfl rfl]; simp [eqD, eqDs]
end
end G
end

section
set_option linter.all false
set_option autoImplicit false
set_option maxRecDepth 20000
/-! GRul: rules for literal slots, outermost first. -/
namespace G
open PySem (Str Operator CmpOp PyData)
section
variable (Γ : Ctx) (c : Cells) (Q : QD) (E : QX) (P : Lo → Prop)

theorem v_0 (d : D) (ρ : Lo) : wR (dE Γ (.v 0) (some d :: ρ) c) Q E = Q d c := by rw [dE]; rfl
theorem v_1 (a0 : Option D) (d : D) (ρ : Lo) : wR (dE Γ (.v 1) (a0 :: some d :: ρ) c) Q E = Q d c := by rw [dE]; rfl
theorem v_2 (a0 a1 : Option D) (d : D) (ρ : Lo) : wR (dE Γ (.v 2) (a0 :: a1 :: some d :: ρ) c) Q E = Q d c := by rw [dE]; rfl
theorem v_3 (a0 a1 a2 : Option D) (d : D) (ρ : Lo) : wR (dE Γ (.v 3) (a0 :: a1 :: a2 :: some d :: ρ) c) Q E = Q d c := by rw [dE]; rfl
theorem v_4 (a0 a1 a2 a3 : Option D) (d : D) (ρ : Lo) : wR (dE Γ (.v 4) (a0 :: a1 :: a2 :: a3 :: some d :: ρ) c) Q E = Q d c := by rw [dE]; rfl
theorem v_5 (a0 a1 a2 a3 a4 : Option D) (d : D) (ρ : Lo) : wR (dE Γ (.v 5) (a0 :: a1 :: a2 :: a3 :: a4 :: some d :: ρ) c) Q E = Q d c := by rw [dE]; rfl
theorem v_6 (a0 a1 a2 a3 a4 a5 : Option D) (d : D) (ρ : Lo) : wR (dE Γ (.v 6) (a0 :: a1 :: a2 :: a3 :: a4 :: a5 :: some d :: ρ) c) Q E = Q d c := by rw [dE]; rfl
theorem v_7 (a0 a1 a2 a3 a4 a5 a6 : Option D) (d : D) (ρ : Lo) : wR (dE Γ (.v 7) (a0 :: a1 :: a2 :: a3 :: a4 :: a5 :: a6 :: some d :: ρ) c) Q E = Q d c := by rw [dE]; rfl
theorem v_8 (a0 a1 a2 a3 a4 a5 a6 a7 : Option D) (d : D) (ρ : Lo) : wR (dE Γ (.v 8) (a0 :: a1 :: a2 :: a3 :: a4 :: a5 :: a6 :: a7 :: some d :: ρ) c) Q E = Q d c := by rw [dE]; rfl
theorem v_9 (a0 a1 a2 a3 a4 a5 a6 a7 a8 : Option D) (d : D) (ρ : Lo) : wR (dE Γ (.v 9) (a0 :: a1 :: a2 :: a3 :: a4 :: a5 :: a6 :: a7 :: a8 :: some d :: ρ) c) Q E = Q d c := by rw [dE]; rfl
theorem v_10 (a0 a1 a2 a3 a4 a5 a6 a7 a8 a9 : Option D) (d : D) (ρ : Lo) : wR (dE Γ (.v 10) (a0 :: a1 :: a2 :: a3 :: a4 :: a5 :: a6 :: a7 :: a8 :: a9 :: some d :: ρ) c) Q E = Q d c := by rw [dE]; rfl
theorem v_11 (a0 a1 a2 a3 a4 a5 a6 a7 a8 a9 a10 : Option D) (d : D) (ρ : Lo) : wR (dE Γ (.v 11) (a0 :: a1 :: a2 :: a3 :: a4 :: a5 :: a6 :: a7 :: a8 :: a9 :: a10 :: some d :: ρ) c) Q E = Q d c := by rw [dE]; rfl
theorem v_12 (a0 a1 a2 a3 a4 a5 a6 a7 a8 a9 a10 a11 : Option D) (d : D) (ρ : Lo) : wR (dE Γ (.v 12) (a0 :: a1 :: a2 :: a3 :: a4 :: a5 :: a6 :: a7 :: a8 :: a9 :: a10 :: a11 :: some d :: ρ) c) Q E = Q d c := by rw [dE]; rfl
theorem v_13 (a0 a1 a2 a3 a4 a5 a6 a7 a8 a9 a10 a11 a12 : Option D) (d : D) (ρ : Lo) : wR (dE Γ (.v 13) (a0 :: a1 :: a2 :: a3 :: a4 :: a5 :: a6 :: a7 :: a8 :: a9 :: a10 :: a11 :: a12 :: some d :: ρ) c) Q E = Q d c := by rw [dE]; rfl
theorem v_14 (a0 a1 a2 a3 a4 a5 a6 a7 a8 a9 a10 a11 a12 a13 : Option D) (d : D) (ρ : Lo) : wR (dE Γ (.v 14) (a0 :: a1 :: a2 :: a3 :: a4 :: a5 :: a6 :: a7 :: a8 :: a9 :: a10 :: a11 :: a12 :: a13 :: some d :: ρ) c) Q E = Q d c := by rw [dE]; rfl
theorem v_15 (a0 a1 a2 a3 a4 a5 a6 a7 a8 a9 a10 a11 a12 a13 a14 : Option D) (d : D) (ρ : Lo) : wR (dE Γ (.v 15) (a0 :: a1 :: a2 :: a3 :: a4 :: a5 :: a6 :: a7 :: a8 :: a9 :: a10 :: a11 :: a12 :: a13 :: a14 :: some d :: ρ) c) Q E = Q d c := by rw [dE]; rfl
theorem as_0 (x : Option D) (d : D) (ρ : Lo) : wA (asg c (.v 0) d (x :: ρ)) P = P (some d :: ρ) := by rw [asg]; rfl
theorem as_1 (a0 : Option D) (x : Option D) (d : D) (ρ : Lo) : wA (asg c (.v 1) d (a0 :: x :: ρ)) P = P (a0 :: some d :: ρ) := by rw [asg]; rfl
theorem as_2 (a0 a1 : Option D) (x : Option D) (d : D) (ρ : Lo) : wA (asg c (.v 2) d (a0 :: a1 :: x :: ρ)) P = P (a0 :: a1 :: some d :: ρ) := by rw [asg]; rfl
theorem as_3 (a0 a1 a2 : Option D) (x : Option D) (d : D) (ρ : Lo) : wA (asg c (.v 3) d (a0 :: a1 :: a2 :: x :: ρ)) P = P (a0 :: a1 :: a2 :: some d :: ρ) := by rw [asg]; rfl
theorem as_4 (a0 a1 a2 a3 : Option D) (x : Option D) (d : D) (ρ : Lo) : wA (asg c (.v 4) d (a0 :: a1 :: a2 :: a3 :: x :: ρ)) P = P (a0 :: a1 :: a2 :: a3 :: some d :: ρ) := by rw [asg]; rfl
theorem as_5 (a0 a1 a2 a3 a4 : Option D) (x : Option D) (d : D) (ρ : Lo) : wA (asg c (.v 5) d (a0 :: a1 :: a2 :: a3 :: a4 :: x :: ρ)) P = P (a0 :: a1 :: a2 :: a3 :: a4 :: some d :: ρ) := by rw [asg]; rfl
theorem as_6 (a0 a1 a2 a3 a4 a5 : Option D) (x : Option D) (d : D) (ρ : Lo) : wA (asg c (.v 6) d (a0 :: a1 :: a2 :: a3 :: a4 :: a5 :: x :: ρ)) P = P (a0 :: a1 :: a2 :: a3 :: a4 :: a5 :: some d :: ρ) := by rw [asg]; rfl
theorem as_7 (a0 a1 a2 a3 a4 a5 a6 : Option D) (x : Option D) (d : D) (ρ : Lo) : wA (asg c (.v 7) d (a0 :: a1 :: a2 :: a3 :: a4 :: a5 :: a6 :: x :: ρ)) P = P (a0 :: a1 :: a2 :: a3 :: a4 :: a5 :: a6 :: some d :: ρ) := by rw [asg]; rfl
theorem as_8 (a0 a1 a2 a3 a4 a5 a6 a7 : Option D) (x : Option D) (d : D) (ρ : Lo) : wA (asg c (.v 8) d (a0 :: a1 :: a2 :: a3 :: a4 :: a5 :: a6 :: a7 :: x :: ρ)) P = P (a0 :: a1 :: a2 :: a3 :: a4 :: a5 :: a6 :: a7 :: some d :: ρ) := by rw [asg]; rfl
theorem as_9 (a0 a1 a2 a3 a4 a5 a6 a7 a8 : Option D) (x : Option D) (d : D) (ρ : Lo) : wA (asg c (.v 9) d (a0 :: a1 :: a2 :: a3 :: a4 :: a5 :: a6 :: a7 :: a8 :: x :: ρ)) P = P (a0 :: a1 :: a2 :: a3 :: a4 :: a5 :: a6 :: a7 :: a8 :: some d :: ρ) := by rw [asg]; rfl
theorem as_10 (a0 a1 a2 a3 a4 a5 a6 a7 a8 a9 : Option D) (x : Option D) (d : D) (ρ : Lo) : wA (asg c (.v 10) d (a0 :: a1 :: a2 :: a3 :: a4 :: a5 :: a6 :: a7 :: a8 :: a9 :: x :: ρ)) P = P (a0 :: a1 :: a2 :: a3 :: a4 :: a5 :: a6 :: a7 :: a8 :: a9 :: some d :: ρ) := by rw [asg]; rfl
theorem as_11 (a0 a1 a2 a3 a4 a5 a6 a7 a8 a9 a10 : Option D) (x : Option D) (d : D) (ρ : Lo) : wA (asg c (.v 11) d (a0 :: a1 :: a2 :: a3 :: a4 :: a5 :: a6 :: a7 :: a8 :: a9 :: a10 :: x :: ρ)) P = P (a0 :: a1 :: a2 :: a3 :: a4 :: a5 :: a6 :: a7 :: a8 :: a9 :: a10 :: some d :: ρ) := by rw [asg]; rfl
theorem as_12 (a0 a1 a2 a3 a4 a5 a6 a7 a8 a9 a10 a11 : Option D) (x : Option D) (d : D) (ρ : Lo) : wA (asg c (.v 12) d (a0 :: a1 :: a2 :: a3 :: a4 :: a5 :: a6 :: a7 :: a8 :: a9 :: a10 :: a11 :: x :: ρ)) P = P (a0 :: a1 :: a2 :: a3 :: a4 :: a5 :: a6 :: a7 :: a8 :: a9 :: a10 :: a11 :: some d :: ρ) := by rw [asg]; rfl
theorem as_13 (a0 a1 a2 a3 a4 a5 a6 a7 a8 a9 a10 a11 a12 : Option D) (x : Option D) (d : D) (ρ : Lo) : wA (asg c (.v 13) d (a0 :: a1 :: a2 :: a3 :: a4 :: a5 :: a6 :: a7 :: a8 :: a9 :: a10 :: a11 :: a12 :: x :: ρ)) P = P (a0 :: a1 :: a2 :: a3 :: a4 :: a5 :: a6 :: a7 :: a8 :: a9 :: a10 :: a11 :: a12 :: some d :: ρ) := by rw [asg]; rfl
theorem as_14 (a0 a1 a2 a3 a4 a5 a6 a7 a8 a9 a10 a11 a12 a13 : Option D) (x : Option D) (d : D) (ρ : Lo) : wA (asg c (.v 14) d (a0 :: a1 :: a2 :: a3 :: a4 :: a5 :: a6 :: a7 :: a8 :: a9 :: a10 :: a11 :: a12 :: a13 :: x :: ρ)) P = P (a0 :: a1 :: a2 :: a3 :: a4 :: a5 :: a6 :: a7 :: a8 :: a9 :: a10 :: a11 :: a12 :: a13 :: some d :: ρ) := by rw [asg]; rfl
theorem as_15 (a0 a1 a2 a3 a4 a5 a6 a7 a8 a9 a10 a11 a12 a13 a14 : Option D) (x : Option D) (d : D) (ρ : Lo) : wA (asg c (.v 15) d (a0 :: a1 :: a2 :: a3 :: a4 :: a5 :: a6 :: a7 :: a8 :: a9 :: a10 :: a11 :: a12 :: a13 :: a14 :: x :: ρ)) P = P (a0 :: a1 :: a2 :: a3 :: a4 :: a5 :: a6 :: a7 :: a8 :: a9 :: a10 :: a11 :: a12 :: a13 :: a14 :: some d :: ρ) := by rw [asg]; rfl
theorem as_t (ts : List Tg) (xs : List D) (ρ : Lo) : wA (asg c (.tup ts) (.tup xs) ρ) P = wA (asgs c ts xs ρ) P := by rw [asg_t]
theorem as_n (ρ : Lo) : wA (asgs c [] [] ρ) P = P ρ := by rw [asgs_n]; rfl
theorem as_c (t : Tg) (ts : List Tg) (x : D) (xs : List D) (ρ : Lo) : wA (asgs c (t :: ts) (x :: xs) ρ) P = wA (asg c t x ρ) fun ρ1 => wA (asgs c ts xs ρ1) P := by
  rw [asgs_c]; cases asg c t x ρ <;> rfl
theorem x1_0 (a0 : D) : wR (opIx (.tup [a0]) (.int 0) c) Q E = Q a0 c := rfl
theorem x2_0 (a0 a1 : D) : wR (opIx (.tup [a0, a1]) (.int 0) c) Q E = Q a0 c := rfl
theorem x2_1 (a0 a1 : D) : wR (opIx (.tup [a0, a1]) (.int 1) c) Q E = Q a1 c := rfl
theorem x3_0 (a0 a1 a2 : D) : wR (opIx (.tup [a0, a1, a2]) (.int 0) c) Q E = Q a0 c := rfl
theorem x3_1 (a0 a1 a2 : D) : wR (opIx (.tup [a0, a1, a2]) (.int 1) c) Q E = Q a1 c := rfl
theorem x3_2 (a0 a1 a2 : D) : wR (opIx (.tup [a0, a1, a2]) (.int 2) c) Q E = Q a2 c := rfl
theorem x4_0 (a0 a1 a2 a3 : D) : wR (opIx (.tup [a0, a1, a2, a3]) (.int 0) c) Q E = Q a0 c := rfl
theorem x4_1 (a0 a1 a2 a3 : D) : wR (opIx (.tup [a0, a1, a2, a3]) (.int 1) c) Q E = Q a1 c := rfl
theorem x4_2 (a0 a1 a2 a3 : D) : wR (opIx (.tup [a0, a1, a2, a3]) (.int 2) c) Q E = Q a2 c := rfl
theorem x4_3 (a0 a1 a2 a3 : D) : wR (opIx (.tup [a0, a1, a2, a3]) (.int 3) c) Q E = Q a3 c := rfl
theorem x5_0 (a0 a1 a2 a3 a4 : D) : wR (opIx (.tup [a0, a1, a2, a3, a4]) (.int 0) c) Q E = Q a0 c := rfl
theorem x5_1 (a0 a1 a2 a3 a4 : D) : wR (opIx (.tup [a0, a1, a2, a3, a4]) (.int 1) c) Q E = Q a1 c := rfl
theorem x5_2 (a0 a1 a2 a3 a4 : D) : wR (opIx (.tup [a0, a1, a2, a3, a4]) (.int 2) c) Q E = Q a2 c := rfl
theorem x5_3 (a0 a1 a2 a3 a4 : D) : wR (opIx (.tup [a0, a1, a2, a3, a4]) (.int 3) c) Q E = Q a3 c := rfl
theorem x5_4 (a0 a1 a2 a3 a4 : D) : wR (opIx (.tup [a0, a1, a2, a3, a4]) (.int 4) c) Q E = Q a4 c := rfl
theorem ce_ii (i j : Int) : wR (opCmp .Eq (.int i) (.int j) c) Q E = Q (.bl (i == j)) c := by rw [c_eq, q_ii]; rfl
theorem ce_bb (i j : Bool) : wR (opCmp .Eq (.bl i) (.bl j) c) Q E = Q (.bl (i == j)) c := by rw [c_eq, q_bb]; rfl
theorem ce_2 (i j k l : Int) : wR (opCmp .Eq (.tup [.int i, .int j]) (.tup [.int k, .int l]) c) Q E = Q (.bl (i == k && j == l)) c := by rw [c_eq, q_2]; rfl
theorem ce_3 (i j k l m n : Int) : wR (opCmp .Eq (.tup [.int i, .int j, .int k]) (.tup [.int l, .int m, .int n]) c) Q E = Q (.bl (i == l && (j == m && k == n))) c := by rw [c_eq, q_3]; rfl
theorem cn_ii (i j : Int) : wR (opCmp .NotEq (.int i) (.int j) c) Q E = Q (.bl (!(i == j))) c := by rw [c_ne, q_ii]; rfl
theorem cn_bb (i j : Bool) : wR (opCmp .NotEq (.bl i) (.bl j) c) Q E = Q (.bl (!(i == j))) c := by rw [c_ne, q_bb]; rfl
theorem cn_2 (i j k l : Int) : wR (opCmp .NotEq (.tup [.int i, .int j]) (.tup [.int k, .int l]) c) Q E = Q (.bl (!(i == k && j == l))) c := by rw [c_ne, q_2]; rfl
theorem cn_3 (i j k l m n : Int) : wR (opCmp .NotEq (.tup [.int i, .int j, .int k]) (.tup [.int l, .int m, .int n]) c) Q E = Q (.bl (!(i == l && (j == m && k == n)))) c := by rw [c_ne, q_3]; rfl
variable (A B : Prop) (PB : Bool → Prop)
theorem pk_bl (b : Bool) : pick (truth c (.bl b)) A B = if b = true then A else B := by cases b <;> rfl
theorem pk_true : pick (truth c (.bl true)) A B = A := rfl
theorem pk_false : pick (truth c (.bl false)) A B = B := rfl
theorem pk_dec (p : Prop) [Decidable p] : pick (truth c (.bl (decide p))) A B = if p then A else B := by
  by_cases h : p <;> simp [h, truth, pick]
theorem pk_not (b : Bool) : pick (truth c (.bl (!b))) A B = if b = true then B else A := by cases b <;> rfl
theorem pk_int (i : Int) : pick (truth c (.int i)) A B = if i = 0 then B else A := by
  rw [tr_int, pick_some]
  by_cases h : i = 0 <;> simp [h]
theorem pk_tn : pick (truth c (.tup [])) A B = B := rfl
theorem pk_tc (x : D) (xs : List D) : pick (truth c (.tup (x :: xs))) A B = A := rfl
theorem pk_non : pick (truth c .non) A B = B := rfl
theorem nb_bl (b : Bool) : wB (truth c (.bl b)) PB = PB b := rfl
theorem nb_int (i : Int) : wB (truth c (.int i)) PB = PB (i != 0) := rfl
variable (PS : String → Prop)
theorem yt_non : wTy (tyOf c .non) PS = PS "NoneType" := rfl
theorem yt_bl (b : Bool) : wTy (tyOf c (.bl b)) PS = PS "bool" := rfl
theorem yt_int (i : Int) : wTy (tyOf c (.int i)) PS = PS "int" := rfl
theorem yt_str (x : Str) : wTy (tyOf c (.str x)) PS = PS "str" := rfl
theorem yt_tup (xs : List D) : wTy (tyOf c (.tup xs)) PS = PS "tuple" := rfl
theorem wp_tup (xs : List D) (PP : List D × List Nat → Prop) : wP (itemsD c (.tup xs)) PP = PP (xs, []) := rfl
/-- o[i] = v -/
def wSX (c : Cells) (x y z : D) (P : Cells → Prop) : Prop := wI y fun k => wX c x fun n xs => wN (ixN xs.length k) fun j => P (c.set n (.lst (xs.set j z)))
theorem s_setX (ρ : Lo) (K : SK) (o i e : IE) : wS (dS Γ (.setIx o i e) ρ c) K = wR (dE Γ e ρ c) (fun z c1 => wR (dE Γ o ρ c1) (fun x c2 => wR (dE Γ i ρ c2) (fun y c3 => wSX c3 x y z fun c' => K.nx ρ c') K.ex) K.ex) K.ex := s_setIx Γ ρ c K o i e
theorem w_of {r : R D} {d : D} {c' : Cells} (h : r = .ok d c') : wR r Q E = Q d c' := by rw [h]; rfl
theorem w_ex {r : R D} {x : String} {c' : Cells} (h : r = .ex x c') : wR r Q E = E x c' := by rw [h]; rfl
end
end G
end

section
set_option maxRecDepth 100000
set_option autoImplicit false
namespace K02
open G
abbrev s : String → PySem.Str := PySem.Str.ofString
/-- ["x"] -/
def fn_is_number : Fn := ⟨1, 1, [
  .ret (.and (.isi (.v 0) ["int"]) (.not (.isi (.v 0) ["bool"])))]⟩
/-- ["a", "b"] -/
def fn_common : Fn := ⟨2, 2, [
  .set (.tup [(.v 0), (.v 1)]) (.tup [(.blt .abs [(.v 0)]), (.blt .abs [(.v 1)])]),
  .whl (.cmp .Gt (.v 1) (.k (.int (0)))) [
    .set (.tup [(.v 0), (.v 1)]) (.tup [(.v 1), (.bin .Mod (.v 0) (.v 1))])],
  .ret (.v 0)]⟩
/-- ["n", "d", "by"] -/
def fn_fraction : Fn := ⟨2, 3, [
  .ife (.cmp .Lt (.v 1) (.k (.int (0)))) [
    .set (.tup [(.v 0), (.v 1)]) (.tup [(.neg (.v 0)), (.neg (.v 1))])] [],
  .set (.v 2) (.call "common" [(.v 0), (.v 1)]),
  .ret (.tup [(.bin .FloorDiv (.v 0) (.v 2)), (.bin .FloorDiv (.v 1) (.v 2))])]⟩
/-- ["x"] -/
def fn_is_fraction : Fn := ⟨1, 1, [
  .ife (.or (.not (.isi (.v 0) ["tuple"])) (.or (.cmp .NotEq (.blt .len [(.v 0)]) (.k (.int (2)))) (.or (.not (.call "is_number" [(.ix (.v 0) (.k (.int (0))))])) (.not (.call "is_number" [(.ix (.v 0) (.k (.int (1))))]))))) [
    .ret (.k (.bl false))] [],
  .ret (.and (.cmp .GtE (.ix (.v 0) (.k (.int (1)))) (.k (.int (1)))) (.cmp .Eq (.call "common" [(.ix (.v 0) (.k (.int (0)))), (.ix (.v 0) (.k (.int (1))))]) (.k (.int (1)))))]⟩
/-- ["x"] -/
def fn_check_fraction : Fn := ⟨1, 1, [
  .ife (.not (.call "is_fraction" [(.v 0)])) [
    .raise "BadShape"] []]⟩
/-- ["a", "b"] -/
def fn_check_both : Fn := ⟨2, 2, [
  .expr (.call "check_fraction" [(.v 0)]),
  .expr (.call "check_fraction" [(.v 1)])]⟩
/-- ["x", "y", "w", "by"] -/
def fn_made : Fn := ⟨3, 4, [
  .ife (.cmp .Lt (.v 2) (.k (.int (0)))) [
    .set (.tup [(.v 0), (.v 1), (.v 2)]) (.tup [(.neg (.v 0)), (.neg (.v 1)), (.neg (.v 2))])] [],
  .set (.v 3) (.call "common" [(.call "common" [(.v 0), (.v 1)]), (.v 2)]),
  .ret (.tup [(.bin .FloorDiv (.v 0) (.v 3)), (.bin .FloorDiv (.v 1) (.v 3)), (.bin .FloorDiv (.v 2) (.v 3))])]⟩
/-- ["x", ".0", "one"] -/
def fn_is_point : Fn := ⟨1, 3, [
  .ife (.or (.not (.isi (.v 0) ["tuple"])) (.or (.cmp .NotEq (.blt .len [(.v 0)]) (.k (.int (3)))) (.not (.blt .all [(.lc [1, 2] (.v 2) (.v 0) [] (.call "is_number" [(.v 2)]))])))) [
    .ret (.k (.bl false))] [],
  .ret (.and (.cmp .GtE (.ix (.v 0) (.k (.int (2)))) (.k (.int (1)))) (.cmp .Eq (.call "common" [(.call "common" [(.ix (.v 0) (.k (.int (0)))), (.ix (.v 0) (.k (.int (1))))]), (.ix (.v 0) (.k (.int (2))))]) (.k (.int (1)))))]⟩
/-- ["x"] -/
def fn_check_point : Fn := ⟨1, 1, [
  .ife (.not (.call "is_point" [(.v 0)])) [
    .raise "BadShape"] []]⟩
/-- ["points", "p"] -/
def fn_check_points : Fn := ⟨1, 2, [
  .for (.v 1) (.v 0) [
    .expr (.call "check_point" [(.v 1)])]]⟩
/-- ["x", ".0", "p"] -/
def fn_is_lot : Fn := ⟨1, 3, [
  .ret (.and (.isi (.v 0) ["tuple"]) (.and (.cmp .LtE (.blt .len [(.v 0)]) (.k (.int (40)))) (.blt .all [(.lc [1, 2] (.v 2) (.v 0) [] (.call "is_point" [(.v 2)]))])))]⟩
/-- ["a", "b"] -/
def fn_point : Fn := ⟨2, 2, [
  .expr (.call "check_both" [(.v 0), (.v 1)]),
  .ret (.call "made" [(.bin .Mult (.ix (.v 0) (.k (.int (0)))) (.ix (.v 1) (.k (.int (1))))), (.bin .Mult (.ix (.v 1) (.k (.int (0)))) (.ix (.v 0) (.k (.int (1))))), (.bin .Mult (.ix (.v 0) (.k (.int (1)))) (.ix (.v 1) (.k (.int (1)))))])]⟩
/-- ["p"] -/
def fn_right : Fn := ⟨1, 1, [
  .expr (.call "check_point" [(.v 0)]),
  .ret (.call "fraction" [(.ix (.v 0) (.k (.int (0)))), (.ix (.v 0) (.k (.int (2))))])]⟩
/-- ["p"] -/
def fn_up : Fn := ⟨1, 1, [
  .expr (.call "check_point" [(.v 0)]),
  .ret (.call "fraction" [(.ix (.v 0) (.k (.int (1)))), (.ix (.v 0) (.k (.int (2))))])]⟩
/-- ["p", "q", "k", "one", "other"] -/
def fn_compared : Fn := ⟨2, 5, [
  .for (.v 2) (.tup [(.k (.int (0))), (.k (.int (1)))]) [
    .set (.tup [(.v 3), (.v 4)]) (.tup [(.bin .Mult (.ix (.v 0) (.v 2)) (.ix (.v 1) (.k (.int (2))))), (.bin .Mult (.ix (.v 1) (.v 2)) (.ix (.v 0) (.k (.int (2)))))]),
    .ife (.cmp .NotEq (.v 3) (.v 4)) [
      .ret (.ite (.cmp .Lt (.v 3) (.v 4)) (.neg (.k (.int (1)))) (.k (.int (1))))] []],
  .ret (.k (.int (0)))]⟩
/-- ["p", "q"] -/
def fn_ahead : Fn := ⟨2, 2, [
  .expr (.call "check_points" [(.tup [(.v 0), (.v 1)])]),
  .ret (.cmp .Lt (.call "compared" [(.v 0), (.v 1)]) (.k (.int (0))))]⟩
/-- ["a", "b", "c", "worth"] -/
def fn_side : Fn := ⟨3, 4, [
  .set (.v 3) (.bin .Add (.bin .Sub (.bin .Mult (.ix (.v 0) (.k (.int (0)))) (.bin .Sub (.bin .Mult (.ix (.v 1) (.k (.int (1)))) (.ix (.v 2) (.k (.int (2))))) (.bin .Mult (.ix (.v 1) (.k (.int (2)))) (.ix (.v 2) (.k (.int (1))))))) (.bin .Mult (.ix (.v 0) (.k (.int (1)))) (.bin .Sub (.bin .Mult (.ix (.v 1) (.k (.int (0)))) (.ix (.v 2) (.k (.int (2))))) (.bin .Mult (.ix (.v 1) (.k (.int (2)))) (.ix (.v 2) (.k (.int (0)))))))) (.bin .Mult (.ix (.v 0) (.k (.int (2)))) (.bin .Sub (.bin .Mult (.ix (.v 1) (.k (.int (0)))) (.ix (.v 2) (.k (.int (1))))) (.bin .Mult (.ix (.v 1) (.k (.int (1)))) (.ix (.v 2) (.k (.int (0)))))))),
  .ret (.bin .Sub (.cmp .Gt (.v 3) (.k (.int (0)))) (.cmp .Lt (.v 3) (.k (.int (0)))))]⟩
/-- ["a", "b", "c"] -/
def fn_turn : Fn := ⟨3, 3, [
  .expr (.call "check_points" [(.tup [(.v 0), (.v 1), (.v 2)])]),
  .ret (.call "side" [(.v 0), (.v 1), (.v 2)])]⟩
/-- ["a", "b", "w", "x", "y"] -/
def fn_square : Fn := ⟨2, 5, [
  .set (.v 2) (.bin .Mult (.ix (.v 0) (.k (.int (2)))) (.ix (.v 1) (.k (.int (2))))),
  .set (.tup [(.v 3), (.v 4)]) (.tup [(.bin .Sub (.bin .Mult (.ix (.v 0) (.k (.int (0)))) (.ix (.v 1) (.k (.int (2))))) (.bin .Mult (.ix (.v 1) (.k (.int (0)))) (.ix (.v 0) (.k (.int (2)))))), (.bin .Sub (.bin .Mult (.ix (.v 0) (.k (.int (1)))) (.ix (.v 1) (.k (.int (2))))) (.bin .Mult (.ix (.v 1) (.k (.int (1)))) (.ix (.v 0) (.k (.int (2))))))]),
  .ret (.call "fraction" [(.bin .Add (.bin .Mult (.v 3) (.v 3)) (.bin .Mult (.v 4) (.v 4))), (.bin .Mult (.v 2) (.v 2))])]⟩
/-- ["a", "b"] -/
def fn_length : Fn := ⟨2, 2, [
  .expr (.call "check_points" [(.tup [(.v 0), (.v 1)])]),
  .ret (.call "square" [(.v 0), (.v 1)])]⟩
/-- ["a", "b", "p", "low", "high"] -/
def fn_lies : Fn := ⟨3, 5, [
  .ife (.cmp .NotEq (.call "side" [(.v 0), (.v 1), (.v 2)]) (.k (.int (0)))) [
    .ret (.k (.bl false))] [],
  .set (.tup [(.v 3), (.v 4)]) (.ite (.cmp .LtE (.call "compared" [(.v 0), (.v 1)]) (.k (.int (0)))) (.tup [(.v 0), (.v 1)]) (.tup [(.v 1), (.v 0)])),
  .ret (.and (.cmp .LtE (.call "compared" [(.v 3), (.v 2)]) (.k (.int (0)))) (.cmp .LtE (.call "compared" [(.v 2), (.v 4)]) (.k (.int (0)))))]⟩
/-- ["a", "b", "p"] -/
def fn_between : Fn := ⟨3, 3, [
  .expr (.call "check_points" [(.tup [(.v 0), (.v 1), (.v 2)])]),
  .ret (.call "lies" [(.v 0), (.v 1), (.v 2)])]⟩
/-- ["a", "b"] -/
def fn_middle : Fn := ⟨2, 2, [
  .expr (.call "check_points" [(.tup [(.v 0), (.v 1)])]),
  .ret (.call "made" [(.bin .Add (.bin .Mult (.ix (.v 0) (.k (.int (0)))) (.ix (.v 1) (.k (.int (2))))) (.bin .Mult (.ix (.v 1) (.k (.int (0)))) (.ix (.v 0) (.k (.int (2)))))), (.bin .Add (.bin .Mult (.ix (.v 0) (.k (.int (1)))) (.ix (.v 1) (.k (.int (2))))) (.bin .Mult (.ix (.v 1) (.k (.int (1)))) (.ix (.v 0) (.k (.int (2)))))), (.bin .Mult (.bin .Mult (.k (.int (2))) (.ix (.v 0) (.k (.int (2))))) (.ix (.v 1) (.k (.int (2)))))])]⟩
/-- ["p", "q"] -/
def fn_added : Fn := ⟨2, 2, [
  .ret (.call "made" [(.bin .Add (.bin .Mult (.ix (.v 0) (.k (.int (0)))) (.ix (.v 1) (.k (.int (2))))) (.bin .Mult (.ix (.v 1) (.k (.int (0)))) (.ix (.v 0) (.k (.int (2)))))), (.bin .Add (.bin .Mult (.ix (.v 0) (.k (.int (1)))) (.ix (.v 1) (.k (.int (2))))) (.bin .Mult (.ix (.v 1) (.k (.int (1)))) (.ix (.v 0) (.k (.int (2)))))), (.bin .Mult (.ix (.v 0) (.k (.int (2)))) (.ix (.v 1) (.k (.int (2)))))])]⟩
/-- ["p", "q"] -/
def fn_shifted : Fn := ⟨2, 2, [
  .expr (.call "check_points" [(.tup [(.v 0), (.v 1)])]),
  .ret (.call "added" [(.v 0), (.v 1)])]⟩
/-- ["p", "k", "_turn"] -/
def fn_turned : Fn := ⟨2, 3, [
  .expr (.call "check_point" [(.v 0)]),
  .for (.v 2) (.rng [(.bin .Mod (.v 1) (.k (.int (4))))]) [
    .set (.v 0) (.tup [(.neg (.ix (.v 0) (.k (.int (1))))), (.ix (.v 0) (.k (.int (0)))), (.ix (.v 0) (.k (.int (2))))])],
  .ret (.v 0)]⟩
/-- ["p"] -/
def fn_mirrored : Fn := ⟨1, 1, [
  .expr (.call "check_point" [(.v 0)]),
  .ret (.tup [(.neg (.ix (.v 0) (.k (.int (0))))), (.ix (.v 0) (.k (.int (1)))), (.ix (.v 0) (.k (.int (2))))])]⟩
/-- ["script", ".0", "x"] -/
def fn__law_box : Fn := ⟨1, 3, [
  .ret (.lst [(.k (.int (0))), (.k (.int (0))), (.k (.int (0))), (.lc [1, 2] (.v 2) (.v 0) [] (.blt .abs [(.blt .int [(.v 2)])]))])]⟩
/-- ["box", "m", "at", "cell", "told"] -/
def fn__law_take : Fn := ⟨2, 5, [
  .ife (.cmp .Eq (.ix (.v 0) (.k (.int (1)))) (.k (.int (0)))) [
    .set (.v 2) (.ix (.v 0) (.k (.int (2)))),
    .set (.v 3) (.k (.int (0))),
    .ife (.cmp .Lt (.v 2) (.blt .len [(.ix (.v 0) (.k (.int (3))))])) [
      .set (.v 3) (.ix (.ix (.v 0) (.k (.int (3)))) (.v 2)),
      .setIx (.v 0) (.k (.int (1))) (.ite (.cmp .GtE (.v 3) (.bin .Pow (.k (.int (10))) (.k (.int (18))))) (.k (.int (60))) (.neg (.k (.int (9)))))] [],
    .setIx (.v 0) (.k (.int (2))) (.bin .Add (.v 2) (.k (.int (1)))),
    .setIx (.v 0) (.k (.int (0))) (.v 3),
    .ife (.cmp .Eq (.ix (.v 0) (.k (.int (1)))) (.k (.int (0)))) [
      .ret (.k (.int (0)))] []] [],
  .ife (.cmp .Gt (.ix (.v 0) (.k (.int (1)))) (.k (.int (0)))) [
    .set (.v 4) (.bin .Mod (.blt .int [(.ix (.v 0) (.k (.int (0))))]) (.v 1)),
    .setIx (.v 0) (.k (.int (0))) (.bin .FloorDiv (.ix (.v 0) (.k (.int (0)))) (.v 1)),
    .setIx (.v 0) (.k (.int (1))) (.ite (.cmp .Gt (.ix (.v 0) (.k (.int (0)))) (.k (.int (0)))) (.bin .Sub (.ix (.v 0) (.k (.int (1)))) (.k (.int (1)))) (.k (.int (0)))),
    .ret (.v 4)] [],
  .setIx (.v 0) (.k (.int (1))) (.bin .Add (.ix (.v 0) (.k (.int (1)))) (.k (.int (1)))),
  .setIx (.v 0) (.k (.int (0))) (.bin .Mod (.blt .int [(.bin .Add (.bin .Mult (.ix (.v 0) (.k (.int (0)))) (.k (.int (48271)))) (.bin .Mult (.k (.int (69621))) (.bin .Add (.ix (.v 0) (.k (.int (1)))) (.k (.int (20))))))]) (.k (.int (2147483647)))),
  .ret (.bin .Mod (.bin .Mod (.blt .int [(.bin .Add (.bin .FloorDiv (.ix (.v 0) (.k (.int (0)))) (.k (.int (7)))) (.ix (.v 0) (.k (.int (0)))))]) (.k (.int (1000003)))) (.v 1))]⟩
/-- ["box", "menu"] -/
def fn__law_pick : Fn := ⟨2, 2, [
  .ret (.ix (.v 1) (.call "_law_take" [(.v 0), (.blt .len [(.v 1)])]))]⟩
/-- ["a", "b"] -/
def fn__law_common : Fn := ⟨2, 2, [
  .set (.tup [(.v 0), (.v 1)]) (.tup [(.blt .abs [(.v 0)]), (.blt .abs [(.v 1)])]),
  .whl (.cmp .Gt (.v 1) (.k (.int (0)))) [
    .set (.tup [(.v 0), (.v 1)]) (.tup [(.v 1), (.bin .Mod (.v 0) (.v 1))])],
  .ret (.v 0)]⟩
/-- ["n", "d", "by"] -/
def fn__law_fraction : Fn := ⟨2, 3, [
  .ife (.cmp .Lt (.v 1) (.k (.int (0)))) [
    .set (.tup [(.v 0), (.v 1)]) (.tup [(.neg (.v 0)), (.neg (.v 1))])] [],
  .set (.v 2) (.call "_law_common" [(.v 0), (.v 1)]),
  .ret (.tup [(.bin .FloorDiv (.v 0) (.v 2)), (.bin .FloorDiv (.v 1) (.v 2))])]⟩
/-- ["x", "y", "w", "by"] -/
def fn__law_made : Fn := ⟨3, 4, [
  .ife (.cmp .Lt (.v 2) (.k (.int (0)))) [
    .set (.tup [(.v 0), (.v 1), (.v 2)]) (.tup [(.neg (.v 0)), (.neg (.v 1)), (.neg (.v 2))])] [],
  .set (.v 3) (.call "_law_common" [(.call "_law_common" [(.v 0), (.v 1)]), (.v 2)]),
  .ret (.tup [(.bin .FloorDiv (.v 0) (.v 3)), (.bin .FloorDiv (.v 1) (.v 3)), (.bin .FloorDiv (.v 2) (.v 3))])]⟩
/-- ["box", "far", "x", "y"] -/
def fn__law_point : Fn := ⟨2, 4, [
  .set (.tup [(.v 2), (.v 3)]) (.tup [(.bin .Sub (.call "_law_take" [(.v 0), (.bin .Add (.bin .Mult (.k (.int (2))) (.v 1)) (.k (.int (1))))]) (.v 1)), (.bin .Sub (.call "_law_take" [(.v 0), (.bin .Add (.bin .Mult (.k (.int (2))) (.v 1)) (.k (.int (1))))]) (.v 1))]),
  .ret (.ite (.cmp .Gt (.call "_law_take" [(.v 0), (.k (.int (5)))]) (.k (.int (0)))) (.tup [(.v 2), (.v 3), (.k (.int (1)))]) (.call "_law_made" [(.v 2), (.v 3), (.bin .Add (.k (.int (1))) (.call "_law_take" [(.v 0), (.k (.int (4)))]))]))]⟩
/-- ["a", "b", "c", "worth"] -/
def fn__law_side : Fn := ⟨3, 4, [
  .set (.v 3) (.bin .Sub (.bin .Mult (.bin .Sub (.bin .Mult (.ix (.v 1) (.k (.int (0)))) (.ix (.v 0) (.k (.int (2))))) (.bin .Mult (.ix (.v 0) (.k (.int (0)))) (.ix (.v 1) (.k (.int (2)))))) (.bin .Sub (.bin .Mult (.ix (.v 2) (.k (.int (1)))) (.ix (.v 0) (.k (.int (2))))) (.bin .Mult (.ix (.v 0) (.k (.int (1)))) (.ix (.v 2) (.k (.int (2))))))) (.bin .Mult (.bin .Sub (.bin .Mult (.ix (.v 1) (.k (.int (1)))) (.ix (.v 0) (.k (.int (2))))) (.bin .Mult (.ix (.v 0) (.k (.int (1)))) (.ix (.v 1) (.k (.int (2)))))) (.bin .Sub (.bin .Mult (.ix (.v 2) (.k (.int (0)))) (.ix (.v 0) (.k (.int (2))))) (.bin .Mult (.ix (.v 0) (.k (.int (0)))) (.ix (.v 2) (.k (.int (2)))))))),
  .ret (.ite (.cmp .Gt (.v 3) (.k (.int (0)))) (.k (.int (1))) (.ite (.cmp .Lt (.v 3) (.k (.int (0)))) (.neg (.k (.int (1)))) (.k (.int (0)))))]⟩
/-- ["p", "q", "k"] -/
def fn__law_compared : Fn := ⟨2, 3, [
  .for (.v 2) (.tup [(.k (.int (0))), (.k (.int (1)))]) [
    .ife (.cmp .NotEq (.bin .Mult (.ix (.v 0) (.v 2)) (.ix (.v 1) (.k (.int (2))))) (.bin .Mult (.ix (.v 1) (.v 2)) (.ix (.v 0) (.k (.int (2)))))) [
      .ret (.ite (.cmp .Lt (.bin .Mult (.ix (.v 0) (.v 2)) (.ix (.v 1) (.k (.int (2))))) (.bin .Mult (.ix (.v 1) (.v 2)) (.ix (.v 0) (.k (.int (2)))))) (.neg (.k (.int (1)))) (.k (.int (1))))] []],
  .ret (.k (.int (0)))]⟩
/-- ["a", "b", "p", "low", "high"] -/
def fn__law_lies : Fn := ⟨3, 5, [
  .ife (.cmp .NotEq (.call "_law_side" [(.v 0), (.v 1), (.v 2)]) (.k (.int (0)))) [
    .ret (.k (.bl false))] [],
  .set (.tup [(.v 3), (.v 4)]) (.ite (.cmp .LtE (.call "_law_compared" [(.v 0), (.v 1)]) (.k (.int (0)))) (.tup [(.v 0), (.v 1)]) (.tup [(.v 1), (.v 0)])),
  .ret (.and (.cmp .LtE (.call "_law_compared" [(.v 3), (.v 2)]) (.k (.int (0)))) (.cmp .LtE (.call "_law_compared" [(.v 2), (.v 4)]) (.k (.int (0)))))]⟩
/-- ["a", "b", "x", "y"] -/
def fn__law_square : Fn := ⟨2, 4, [
  .set (.tup [(.v 2), (.v 3)]) (.tup [(.call "_law_fraction" [(.bin .Sub (.bin .Mult (.ix (.v 0) (.k (.int (0)))) (.ix (.v 1) (.k (.int (2))))) (.bin .Mult (.ix (.v 1) (.k (.int (0)))) (.ix (.v 0) (.k (.int (2)))))), (.bin .Mult (.ix (.v 0) (.k (.int (2)))) (.ix (.v 1) (.k (.int (2)))))]), (.call "_law_fraction" [(.bin .Sub (.bin .Mult (.ix (.v 0) (.k (.int (1)))) (.ix (.v 1) (.k (.int (2))))) (.bin .Mult (.ix (.v 1) (.k (.int (1)))) (.ix (.v 0) (.k (.int (2)))))), (.bin .Mult (.ix (.v 0) (.k (.int (2)))) (.ix (.v 1) (.k (.int (2)))))])]),
  .ret (.call "_law_fraction" [(.bin .Add (.bin .Mult (.bin .Mult (.bin .Mult (.ix (.v 2) (.k (.int (0)))) (.ix (.v 2) (.k (.int (0))))) (.ix (.v 3) (.k (.int (1))))) (.ix (.v 3) (.k (.int (1))))) (.bin .Mult (.bin .Mult (.bin .Mult (.ix (.v 3) (.k (.int (0)))) (.ix (.v 3) (.k (.int (0))))) (.ix (.v 2) (.k (.int (1))))) (.ix (.v 2) (.k (.int (1)))))), (.bin .Mult (.bin .Mult (.bin .Mult (.ix (.v 2) (.k (.int (1)))) (.ix (.v 2) (.k (.int (1))))) (.ix (.v 3) (.k (.int (1))))) (.ix (.v 3) (.k (.int (1)))))])]⟩
/-- ["a", "b", "by", "x", "y"] -/
def fn__law_sum : Fn := ⟨3, 5, [
  .set (.v 3) (.call "_law_fraction" [(.bin .Add (.bin .Mult (.ix (.v 0) (.k (.int (0)))) (.ix (.v 1) (.k (.int (2))))) (.bin .Mult (.ix (.v 1) (.k (.int (0)))) (.ix (.v 0) (.k (.int (2)))))), (.bin .Mult (.bin .Mult (.ix (.v 0) (.k (.int (2)))) (.ix (.v 1) (.k (.int (2))))) (.v 2))]),
  .set (.v 4) (.call "_law_fraction" [(.bin .Add (.bin .Mult (.ix (.v 0) (.k (.int (1)))) (.ix (.v 1) (.k (.int (2))))) (.bin .Mult (.ix (.v 1) (.k (.int (1)))) (.ix (.v 0) (.k (.int (2)))))), (.bin .Mult (.bin .Mult (.ix (.v 0) (.k (.int (2)))) (.ix (.v 1) (.k (.int (2))))) (.v 2))]),
  .ret (.call "_law_made" [(.bin .Mult (.ix (.v 3) (.k (.int (0)))) (.ix (.v 4) (.k (.int (1))))), (.bin .Mult (.ix (.v 4) (.k (.int (0)))) (.ix (.v 3) (.k (.int (1))))), (.bin .Mult (.ix (.v 3) (.k (.int (1)))) (.ix (.v 4) (.k (.int (1)))))])]⟩
/-- ["script", "box", "k", "a", "b", "bad", "c"] -/
def fn_law : Fn := ⟨1, 7, [
  .set (.v 1) (.call "_law_box" [(.v 0)]),
  .set (.tup [(.v 3), (.v 4)]) (.tup [(.call "_law_point" [(.v 1), (.k (.int (6)))]), (.call "_law_point" [(.v 1), (.k (.int (6)))])]),
  .set (.v 6) (.call "_law_pick" [(.v 1), (.lst [(.call "_law_point" [(.v 1), (.k (.int (6)))]), (.v 3), (.call "_law_sum" [(.v 3), (.v 4), (.k (.int (2)))]), (.call "_law_sum" [(.call "_law_sum" [(.v 4), (.v 4), (.k (.int (1)))]), (.call "_law_made" [(.neg (.ix (.v 3) (.k (.int (0))))), (.neg (.ix (.v 3) (.k (.int (1))))), (.ix (.v 3) (.k (.int (2))))]), (.k (.int (1)))])])]),
  .ife (.or (.cmp .IsNot (.call "is_point" [(.v 6)]) (.k (.bl true))) (.or (.cmp .NotEq (.call "right" [(.v 6)]) (.call "_law_fraction" [(.ix (.v 6) (.k (.int (0)))), (.ix (.v 6) (.k (.int (2))))])) (.or (.cmp .NotEq (.call "up" [(.v 6)]) (.call "_law_fraction" [(.ix (.v 6) (.k (.int (1)))), (.ix (.v 6) (.k (.int (2))))])) (.cmp .NotEq (.call "point" [(.call "right" [(.v 6)]), (.call "up" [(.v 6)])]) (.v 6))))) [
    .ret (.k (.bl false))] [],
  .ife (.or (.cmp .NotEq (.call "ahead" [(.v 3), (.v 4)]) (.cmp .Lt (.call "_law_compared" [(.v 3), (.v 4)]) (.k (.int (0))))) (.or (.cmp .NotEq (.call "turn" [(.v 3), (.v 4), (.v 6)]) (.call "_law_side" [(.v 3), (.v 4), (.v 6)])) (.or (.cmp .NotEq (.call "turn" [(.v 4), (.v 3), (.v 6)]) (.neg (.call "turn" [(.v 3), (.v 4), (.v 6)]))) (.cmp .NotEq (.call "turn" [(.v 4), (.v 6), (.v 3)]) (.call "turn" [(.v 3), (.v 4), (.v 6)]))))) [
    .ret (.k (.bl false))] [],
  .ife (.or (.cmp .NotEq (.call "length" [(.v 3), (.v 6)]) (.call "_law_square" [(.v 3), (.v 6)])) (.or (.cmp .NotEq (.call "length" [(.v 6), (.v 3)]) (.call "length" [(.v 3), (.v 6)])) (.or (.cmp .NotEq (.call "between" [(.v 3), (.v 4), (.v 6)]) (.call "_law_lies" [(.v 3), (.v 4), (.v 6)])) (.cmp .NotEq (.call "between" [(.v 4), (.v 3), (.v 6)]) (.call "_law_lies" [(.v 3), (.v 4), (.v 6)]))))) [
    .ret (.k (.bl false))] [],
  .ife (.or (.cmp .NotEq (.call "middle" [(.v 3), (.v 4)]) (.call "_law_sum" [(.v 3), (.v 4), (.k (.int (2)))])) (.or (.cmp .NotEq (.call "shifted" [(.v 3), (.v 6)]) (.call "_law_sum" [(.v 3), (.v 6), (.k (.int (1)))])) (.or (.cmp .NotEq (.call "mirrored" [(.v 6)]) (.tup [(.neg (.ix (.v 6) (.k (.int (0))))), (.ix (.v 6) (.k (.int (1)))), (.ix (.v 6) (.k (.int (2))))])) (.cmp .NotEq (.call "turned" [(.v 6), (.k (.int (1)))]) (.tup [(.neg (.ix (.v 6) (.k (.int (1))))), (.ix (.v 6) (.k (.int (0)))), (.ix (.v 6) (.k (.int (2))))]))))) [
    .ret (.k (.bl false))] [],
  .set (.v 2) (.bin .Sub (.call "_law_take" [(.v 1), (.k (.int (40)))]) (.k (.int (20)))),
  .ife (.or (.cmp .NotEq (.call "turned" [(.call "turned" [(.v 6), (.v 2)]), (.bin .Sub (.bin .Mult (.k (.int (4))) (.bin .Pow (.k (.int (10))) (.k (.int (12))))) (.v 2))]) (.v 6)) (.or (.cmp .NotEq (.call "turned" [(.v 6), (.k (.int (2)))]) (.tup [(.neg (.ix (.v 6) (.k (.int (0))))), (.neg (.ix (.v 6) (.k (.int (1))))), (.ix (.v 6) (.k (.int (2))))])) (.cmp .NotEq (.call "turn" [(.call "turned" [(.v 3), (.v 2)]), (.call "turned" [(.v 4), (.v 2)]), (.call "turned" [(.v 6), (.v 2)])]) (.call "turn" [(.v 3), (.v 4), (.v 6)])))) [
    .ret (.k (.bl false))] [],
  .ife (.or (.cmp .NotEq (.call "length" [(.call "shifted" [(.v 3), (.v 6)]), (.call "shifted" [(.v 4), (.v 6)])]) (.call "length" [(.v 3), (.v 4)])) (.cmp .NotEq (.call "turn" [(.call "mirrored" [(.v 3)]), (.call "mirrored" [(.v 4)]), (.call "mirrored" [(.v 6)])]) (.neg (.call "turn" [(.v 3), (.v 4), (.v 6)])))) [
    .ret (.k (.bl false))] [],
  .set (.v 5) (.call "_law_pick" [(.v 1), (.lst [(.blt .list [(.v 3)]), (.tup [(.k (.int (2))), (.k (.int (2))), (.k (.int (2)))]), (.tup [(.k (.int (1))), (.k (.int (1))), (.k (.int (0)))]), (.tup [(.k (.int (1))), (.k (.int (1))), (.neg (.k (.int (1))))]), (.tup [(.k (.int (1))), (.k (.int (1)))]), (.tup [(.k (.bl true)), (.k (.int (0))), (.k (.int (1)))]), (.tup [(.k (.int (0))), (.k (.int (0))), (.k (.bl true))]), (.k .non), (.tup [(.k (.str (s "0"))), (.k (.int (0))), (.k (.int (1)))]), (.tup [(.k (.int (0))), (.k (.int (0))), (.k (.int (2)))]), (.tup [(.k (.int (1))), (.k (.int (1))), (.k (.int (1))), (.k (.int (1)))])])]),
  .ife (.or (.cmp .IsNot (.call "is_point" [(.v 5)]) (.k (.bl false))) (.or (.cmp .IsNot (.call "is_lot" [(.tup [(.v 3), (.v 5)])]) (.k (.bl false))) (.or (.cmp .IsNot (.call "is_lot" [(.tup [(.v 3), (.v 4), (.v 6)])]) (.k (.bl true))) (.or (.cmp .IsNot (.call "is_lot" [(.bin .Mult (.tup [(.v 3)]) (.k (.int (41))))]) (.k (.bl false))) (.cmp .IsNot (.call "is_lot" [(.lst [(.v 3)])]) (.k (.bl false))))))) [
    .ret (.k (.bl false))] [],
  .ife (.not (.lam "_law_refused" (.call "turn" [(.v 3), (.v 5), (.v 6)]))) [
    .ret (.k (.bl false))] [],
  .ife (.not (.lam "_law_refused" (.call "between" [(.v 3), (.v 4), (.v 5)]))) [
    .ret (.k (.bl false))] [],
  .ret (.lam "_law_refused" (.call "turned" [(.v 5), (.k (.int (1)))]))]⟩
def T : Tab := ⟨[("is_number", fn_is_number), ("common", fn_common), ("fraction", fn_fraction), ("is_fraction", fn_is_fraction), ("check_fraction", fn_check_fraction), ("check_both", fn_check_both), ("made", fn_made), ("is_point", fn_is_point), ("check_point", fn_check_point), ("check_points", fn_check_points), ("is_lot", fn_is_lot), ("point", fn_point), ("right", fn_right), ("up", fn_up), ("compared", fn_compared), ("ahead", fn_ahead), ("side", fn_side), ("turn", fn_turn), ("square", fn_square), ("length", fn_length), ("lies", fn_lies), ("between", fn_between), ("middle", fn_middle), ("added", fn_added), ("shifted", fn_shifted), ("turned", fn_turned), ("mirrored", fn_mirrored), ("_law_box", fn__law_box), ("_law_take", fn__law_take), ("_law_pick", fn__law_pick), ("_law_common", fn__law_common), ("_law_fraction", fn__law_fraction), ("_law_made", fn__law_made), ("_law_point", fn__law_point), ("_law_side", fn__law_side), ("_law_compared", fn__law_compared), ("_law_lies", fn__law_lies), ("_law_square", fn__law_square), ("_law_sum", fn__law_sum), ("law", fn_law)], [("_law_refused", ⟨[("BadShape", (.bl true))], (.bl false)⟩)], ["BadShape"]⟩
def S : Spec := ⟨[("is_number", [(s "x")]), ("common", [(s "a"), (s "b")]), ("fraction", [(s "n"), (s "d"), (s "by")]), ("is_fraction", [(s "x")]), ("check_fraction", [(s "x")]), ("check_both", [(s "a"), (s "b")]), ("made", [(s "x"), (s "y"), (s "w"), (s "by")]), ("is_point", [(s "x"), (s ".0"), (s "one")]), ("check_point", [(s "x")]), ("check_points", [(s "points"), (s "p")]), ("is_lot", [(s "x"), (s ".0"), (s "p")]), ("point", [(s "a"), (s "b")]), ("right", [(s "p")]), ("up", [(s "p")]), ("compared", [(s "p"), (s "q"), (s "k"), (s "one"), (s "other")]), ("ahead", [(s "p"), (s "q")]), ("side", [(s "a"), (s "b"), (s "c"), (s "worth")]), ("turn", [(s "a"), (s "b"), (s "c")]), ("square", [(s "a"), (s "b"), (s "w"), (s "x"), (s "y")]), ("length", [(s "a"), (s "b")]), ("lies", [(s "a"), (s "b"), (s "p"), (s "low"), (s "high")]), ("between", [(s "a"), (s "b"), (s "p")]), ("middle", [(s "a"), (s "b")]), ("added", [(s "p"), (s "q")]), ("shifted", [(s "p"), (s "q")]), ("turned", [(s "p"), (s "k"), (s "_turn")]), ("mirrored", [(s "p")]), ("_law_box", [(s "script"), (s ".0"), (s "x")]), ("_law_take", [(s "box"), (s "m"), (s "at"), (s "cell"), (s "told")]), ("_law_pick", [(s "box"), (s "menu")]), ("_law_common", [(s "a"), (s "b")]), ("_law_fraction", [(s "n"), (s "d"), (s "by")]), ("_law_made", [(s "x"), (s "y"), (s "w"), (s "by")]), ("_law_point", [(s "box"), (s "far"), (s "x"), (s "y")]), ("_law_side", [(s "a"), (s "b"), (s "c"), (s "worth")]), ("_law_compared", [(s "p"), (s "q"), (s "k")]), ("_law_lies", [(s "a"), (s "b"), (s "p"), (s "low"), (s "high")]), ("_law_square", [(s "a"), (s "b"), (s "x"), (s "y")]), ("_law_sum", [(s "a"), (s "b"), (s "by"), (s "x"), (s "y")]), ("law", [(s "script"), (s "box"), (s "k"), (s "a"), (s "b"), (s "bad"), (s "c")])], [("law", 319, 315)], [("_law_refused", [(s "call")])], [("MOST_POINTS", (.int (40)))], ["BadShape"]⟩


end K02
end

section
set_option linter.all false
set_option autoImplicit false
set_option maxRecDepth 20000
namespace G
/-! ### fractions and points in lowest terms -/
def sg (d : Int) : Int := if d < 0 then -1 else 1
def fr1 (n d : Int) : Int := sg d * n / Int.gcd n d
def fr2 (n d : Int) : Int := sg d * d / Int.gcd n d
def g3 (x y w : Int) : Int := Int.gcd (Int.gcd x y) w
def m1 (x y w : Int) : Int := sg w * x / g3 x y w
def m2 (x y w : Int) : Int := sg w * y / g3 x y w
def m3 (x y w : Int) : Int := sg w * w / g3 x y w
theorem sg_mul (d : Int) : sg d * d = d.natAbs := by unfold sg; split <;> omega
theorem sg_sq (d : Int) : sg d * sg d = 1 := by unfold sg; split <;> rfl
theorem sg_dvd {d k n : Int} (h : k ∣ n) : k ∣ sg d * n := Int.dvd_trans h (Int.dvd_mul_left _ _)
/-- what makes a fraction in lowest terms -/
structure Fr (n d p q : Int) : Prop where
  pos : 0 < q
  cop : Int.gcd p q = 1
  eq : p * d = n * q
theorem fr_ok (n : Int) {d : Int} (h : d ≠ 0) : Fr n d (fr1 n d) (fr2 n d) := by
  have hg : 0 < (Int.gcd n d : Int) := by have := Int.gcd_pos_of_ne_zero_right n h; omega
  have d1 : (Int.gcd n d : Int) ∣ n := Int.gcd_dvd_left ..
  have d2 : (Int.gcd n d : Int) ∣ d := Int.gcd_dvd_right ..
  obtain ⟨a, ha⟩ := d1
  obtain ⟨b, hb⟩ := d2
  have hgn : (Int.gcd n d : Int) ≠ 0 := by omega
  have e1 : fr1 n d = sg d * a := by
    unfold fr1
    rw [show sg d * n = Int.gcd n d * (sg d * a) by rw [Int.mul_left_comm, ← ha], Int.mul_ediv_cancel_left _ hgn]
  have e2 : fr2 n d = sg d * b := by
    unfold fr2
    rw [show sg d * d = Int.gcd n d * (sg d * b) by rw [Int.mul_left_comm, ← hb], Int.mul_ediv_cancel_left _ hgn]
  have hcop : Int.gcd a b = 1 := by
    have h1 : Int.gcd n d = Int.gcd n d * Int.gcd a b := by
      have h5 : Int.gcd (Int.gcd n d * a) (Int.gcd n d * b) = Int.gcd n d * Int.gcd a b := by rw [Int.gcd_mul_left]; simp
      rwa [← ha, ← hb] at h5
    have h2 : 0 < Int.gcd n d := by omega
    exact Nat.eq_of_mul_eq_mul_left h2 (by omega)
  refine ⟨?_, ?_, ?_⟩
  · have h3 : 0 < Int.gcd n d * (sg d * b) := by
      rw [Int.mul_left_comm, ← hb, sg_mul]; omega
    rw [e2]
    exact Int.lt_of_mul_lt_mul_left (a := Int.gcd n d) (by rw [Int.mul_zero]; exact h3) (by omega)
  · rw [e1, e2, Int.gcd_mul_left, hcop]
    unfold sg; split <;> rfl
  · rw [e1, e2, ha, hb]
    grind
theorem cop_scale {a b k : Int} (h : Int.gcd a b = 1) : Int.gcd (k * a) (k * b) = k.natAbs := by rw [Int.gcd_mul_left, h, Nat.mul_one]
theorem dvd_cop {k m n : Int} (h : k ∣ m * n) (c : Int.gcd k m = 1) : k ∣ n := by
  rw [← Int.natAbs_dvd_natAbs] at h ⊢
  rw [Int.natAbs_mul] at h
  exact Nat.Coprime.dvd_of_dvd_mul_left c h
/-- one fraction has one lowest form -/
theorem Fr.uniq {n d p q p' q' : Int} (hd : d ≠ 0) (a : Fr n d p q) (b : Fr n d p' q') : p = p' ∧ q = q' := by
  have e1 : p * q' = p' * q := by
    have h1 := a.eq
    have h2 := b.eq
    have : d * (p * q') = d * (p' * q) := by grind
    exact Int.eq_of_mul_eq_mul_left hd this
  have h1 : q ∣ q' := by
    have : q ∣ p * q' := ⟨p', by rw [e1, Int.mul_comm]⟩
    exact dvd_cop this (by rw [Int.gcd_comm]; exact a.cop)
  have h2 : q' ∣ q := by
    have : q' ∣ p' * q := ⟨p, by rw [← e1, Int.mul_comm]⟩
    exact dvd_cop this (by rw [Int.gcd_comm]; exact b.cop)
  have e2 : q = q' := Int.dvd_antisymm (Int.le_of_lt a.pos) (Int.le_of_lt b.pos) h1 h2
  subst e2
  exact ⟨Int.eq_of_mul_eq_mul_right (by have := a.pos; omega) e1, rfl⟩
/-- points in lowest terms -/
structure Pt (x y w : Int) : Prop where
  pos : 0 < w
  cop : g3 x y w = 1
/-- the same point -/
structure Mk (x y w p q r : Int) : Prop where
  pt : Pt p q r
  ex : p * w = x * r
  ey : q * w = y * r
theorem g3_pos {x y w : Int} (h : w ≠ 0) : 0 < g3 x y w := by
  unfold g3
  have := Int.gcd_pos_of_ne_zero_right (Int.gcd x y : Int) h
  omega
theorem g3_dvd (x y w : Int) : g3 x y w ∣ x ∧ g3 x y w ∣ y ∧ g3 x y w ∣ w := by
  unfold g3
  have h1 : ((Int.gcd (Int.gcd x y) w : Nat) : Int) ∣ (Int.gcd x y : Int) := Int.gcd_dvd_left ..
  exact ⟨Int.dvd_trans h1 (Int.gcd_dvd_left ..), Int.dvd_trans h1 (Int.gcd_dvd_right ..), Int.gcd_dvd_right ..⟩
theorem g3_mul (k x y w : Int) : g3 (k * x) (k * y) (k * w) = k.natAbs * g3 x y w := by
  unfold g3
  rw [Int.gcd_mul_left]
  have : ((k.natAbs * Int.gcd x y : Nat) : Int) = k.natAbs * (Int.gcd x y : Int) := by simp
  rw [this]
  have h2 : Int.gcd ((k.natAbs : Int) * Int.gcd x y) (k * w) = Int.gcd ((k.natAbs : Int) * Int.gcd x y) ((k.natAbs : Int) * w) := by
    rcases Int.natAbs_eq k with h | h
    · rw [← h]
    · rw [show k * w = -((k.natAbs : Int) * w) by rw [← Int.neg_mul, ← h], Int.gcd_neg]
  rw [h2, Int.gcd_mul_left]
  simp
theorem m_ok (x y : Int) {w : Int} (h : w ≠ 0) : Mk x y w (m1 x y w) (m2 x y w) (m3 x y w) := by
  have hg := g3_pos (x := x) (y := y) h
  obtain ⟨⟨a, ha⟩, ⟨b, hb⟩, ⟨c, hc⟩⟩ := g3_dvd x y w
  have hgn : g3 x y w ≠ 0 := by omega
  have e1 : m1 x y w = sg w * a := by
    unfold m1
    rw [show sg w * x = g3 x y w * (sg w * a) by rw [Int.mul_left_comm, ← ha], Int.mul_ediv_cancel_left _ hgn]
  have e2 : m2 x y w = sg w * b := by
    unfold m2
    rw [show sg w * y = g3 x y w * (sg w * b) by rw [Int.mul_left_comm, ← hb], Int.mul_ediv_cancel_left _ hgn]
  have e3 : m3 x y w = sg w * c := by
    unfold m3
    rw [show sg w * w = g3 x y w * (sg w * c) by rw [Int.mul_left_comm, ← hc], Int.mul_ediv_cancel_left _ hgn]
  have hcop : g3 a b c = 1 := by
    have h5 := g3_mul (g3 x y w) a b c
    rw [← ha, ← hb, ← hc] at h5
    have h6 : g3 x y w * 1 = g3 x y w * g3 a b c := by
      rw [Int.mul_one]
      exact h5.trans (by rw [Int.natAbs_of_nonneg (by omega)])
    exact (Int.eq_of_mul_eq_mul_left hgn h6).symm
  refine ⟨⟨?_, ?_⟩, ?_, ?_⟩
  · have h3 : 0 < g3 x y w * (sg w * c) := by
      rw [Int.mul_left_comm, ← hc, sg_mul]; omega
    rw [e3]
    exact Int.lt_of_mul_lt_mul_left (a := g3 x y w) (by rw [Int.mul_zero]; exact h3) (by omega)
  · rw [e1, e2, e3, g3_mul, hcop]
    unfold sg; split <;> rfl
  · rw [e1, e3]
    have h7 := hc
    have h8 := ha
    generalize g3 x y w = g at *
    subst h7 h8
    grind
  · rw [e2, e3]
    have h7 := hc
    have h8 := hb
    generalize g3 x y w = g at *
    subst h7 h8
    grind
theorem Mk.uniq {x y w p q r p' q' r' : Int} (hd : w ≠ 0) (a : Mk x y w p q r) (b : Mk x y w p' q' r') : p = p' ∧ q = q' ∧ r = r' := by
  have e1 : p * r' = p' * r := by
    have h1 := a.ex
    have h2 := b.ex
    have : w * (p * r') = w * (p' * r) := by grind
    exact Int.eq_of_mul_eq_mul_left hd this
  have e2 : q * r' = q' * r := by
    have h1 := a.ey
    have h2 := b.ey
    have : w * (q * r') = w * (q' * r) := by grind
    exact Int.eq_of_mul_eq_mul_left hd this
  have hrr : r = r' := by
    have h1 := g3_mul r' p q r
    have h2 := g3_mul r p' q' r'
    rw [a.pt.cop] at h1
    rw [b.pt.cop] at h2
    have h3 : g3 (r' * p) (r' * q) (r' * r) = g3 (r * p') (r * q') (r * r') := by
      rw [Int.mul_comm r' p, Int.mul_comm r' q, Int.mul_comm r' r, e1, e2, Int.mul_comm p' r, Int.mul_comm q' r]
    have := a.pt.pos
    have := b.pt.pos
    omega
  subst hrr
  have h0 : r ≠ 0 := by have := a.pt.pos; omega
  exact ⟨Int.eq_of_mul_eq_mul_right h0 e1, Int.eq_of_mul_eq_mul_right h0 e2, rfl⟩
theorem Pt.mk_self {x y w : Int} (h : Pt x y w) : Mk x y w x y w := ⟨h, rfl, rfl⟩
end G
end

section
set_option linter.all false
set_option autoImplicit false
set_option maxRecDepth 20000
namespace K02
open G
theorem common_e (k : Nat) (a b : Int) (c : Cells) : callD T (k + 1) "common" [.int a, .int b] c = .ok (.int (Int.gcd a b)) c := by
  refine eq_of fun Q E hQ => call_body (fn := fn_common) rfl rfl ?_
  unfold fn_common
  show wS (dSs _ _ [some (.int a), some (.int b)] c) _
  simp only [ss_cons, ss_nil, s_set, s_ret, s_retN, s_expr, s_ife, s_raise, s_cnt, s_brk, s_pass, s_setIx, s_for, s_foS, s_augA, s_augS, e_k, e_v, e_tup, e_lst, e_call, e_blt, e_cmp, e_bin, e_neg, e_and, e_or, e_not, e_ite, e_chain, e_ix, e_isi, e_meth, e_sl, e_lam, e_lc, es_cons, es_nil, o_no, List.getElem?_cons_zero, List.getElem?_cons_succ, wO_some, asg_t, asgs_c, asgs_n, asg_v, Option.bind_some, Option.map_some, wA_some, wI_int, wB_some, wT_bl, wTy_some, wBs_some, wN_some, wP_some, wR_ok, List.length_cons, List.length_nil, List.set_cons_zero, List.set_cons_succ, lim, Nat.reduceAdd, Nat.reduceLeDiff, true_and, and_true, tr_bl, tr_int, tr_tup, tr_non, pick_some, pick_t, pick_f, decide_eq_true_eq, b_add, b_sub, b_subB, b_addB, b_mul, b_div, b_mod, b_pow, b_addT, b_mulT, c_eq, c_ne, c_lt, c_le, c_gt, c_ge, c_isB, c_isNotB, c_isN, c_isNotN, x_tup, a2_0, a2_1, a3_0, a3_1, a3_2, a4_0, a4_1, a4_2, a4_3, t_abs, t_int, t_intB, t_len, t_min, t_max, t_tupT, t_lstT, ty_non, ty_bl, ty_int, ty_str, ty_tup, is_ii, is_ib, is_bi, is_bb, is_tt, is_lt, is_it, is_nt, is_st, is_ni, is_si, is_ti, is_li, Bool.not_true, Bool.not_false, Bool.false_eq_true, if_true, if_false, abs_eq, i_v, i_tup, i_lst, i_call, i_ix, i_sl, it_tup, same_nil', lc_nil, lc_cons, oc_some, oc_none, w_lcB, fo_nil, fo_cons, ts_nil, ts_cons, t_all, t_any, t_tup, wipe, bls, q_ii, q_bb, q_2, q_3, BEq.rfl, beq_iff_eq, Int.reduceBEq, Int.reduceLT, Int.reduceLE, Int.reduceNeg, Int.reduceEq, List.all_cons, List.all_nil, id, Bool.and_true, Bool.true_and, Bool.and_self, Int.cast_ofNat_Int]
  refine s_whl (I := fun m ρ c' => ∃ x y : Nat, ρ = [some (.int x), some (.int y)] ∧ c' = c ∧ Nat.gcd x y = Int.gcd a b ∧ y = m) (m := b.natAbs) ⟨a.natAbs, b.natAbs, rfl, rfl, rfl, rfl⟩ ?_
  rintro m ρ c' ⟨x, y, rfl, rfl, hg, rfl⟩
  simp only [ss_cons, ss_nil, s_set, s_ret, s_retN, s_expr, s_ife, s_raise, s_cnt, s_brk, s_pass, s_setIx, s_for, s_foS, s_augA, s_augS, e_k, e_v, e_tup, e_lst, e_call, e_blt, e_cmp, e_bin, e_neg, e_and, e_or, e_not, e_ite, e_chain, e_ix, e_isi, e_meth, e_sl, e_lam, e_lc, es_cons, es_nil, o_no, List.getElem?_cons_zero, List.getElem?_cons_succ, wO_some, asg_t, asgs_c, asgs_n, asg_v, Option.bind_some, Option.map_some, wA_some, wI_int, wB_some, wT_bl, wTy_some, wBs_some, wN_some, wP_some, wR_ok, List.length_cons, List.length_nil, List.set_cons_zero, List.set_cons_succ, lim, Nat.reduceAdd, Nat.reduceLeDiff, true_and, and_true, tr_bl, tr_int, tr_tup, tr_non, pick_some, pick_t, pick_f, decide_eq_true_eq, b_add, b_sub, b_subB, b_addB, b_mul, b_div, b_mod, b_pow, b_addT, b_mulT, c_eq, c_ne, c_lt, c_le, c_gt, c_ge, c_isB, c_isNotB, c_isN, c_isNotN, x_tup, a2_0, a2_1, a3_0, a3_1, a3_2, a4_0, a4_1, a4_2, a4_3, t_abs, t_int, t_intB, t_len, t_min, t_max, t_tupT, t_lstT, ty_non, ty_bl, ty_int, ty_str, ty_tup, is_ii, is_ib, is_bi, is_bb, is_tt, is_lt, is_it, is_nt, is_st, is_ni, is_si, is_ti, is_li, Bool.not_true, Bool.not_false, Bool.false_eq_true, if_true, if_false, abs_eq, i_v, i_tup, i_lst, i_call, i_ix, i_sl, it_tup, same_nil', lc_nil, lc_cons, oc_some, oc_none, w_lcB, fo_nil, fo_cons, ts_nil, ts_cons, t_all, t_any, t_tup, wipe, bls, q_ii, q_bb, q_2, q_3, BEq.rfl, beq_iff_eq, Int.reduceBEq, Int.reduceLT, Int.reduceLE, Int.reduceNeg, Int.reduceEq, List.all_cons, List.all_nil, id, Bool.and_true, Bool.true_and, Bool.and_self, Int.cast_ofNat_Int]
  by_cases hy : (0 : Int) < y
  · rw [if_pos hy]
    refine ⟨hy, x % y, Nat.mod_lt _ (by omega), y, x % y, by simp, ?_, rfl⟩
    rw [← hg, Nat.gcd_comm y, ← Nat.gcd_rec, Nat.gcd_comm]
  · rw [if_neg hy]
    have : y = 0 := by omega
    subst this
    rw [Nat.gcd_zero_right] at hg
    rw [hg]
    exact hQ
theorem lcommon_e (k : Nat) (a b : Int) (c : Cells) : callD T (k + 1) "_law_common" [.int a, .int b] c = .ok (.int (Int.gcd a b)) c := common_e k a b c
theorem gcd_sm {n : Nat} {a b : Int} (h : Sm n b) (hb : b ≠ 0) : Sm n (Int.gcd a b : Int) := ⟨by
  have h1 : Int.gcd a b ≤ b.natAbs := Nat.le_of_dvd (by omega) (Int.gcd_dvd_natAbs_right a b)
  have := h.lt
  simp only [Int.natAbs_natCast]
  omega⟩
theorem fraction_e (k : Nat) (a b : Int) (c : Cells) {n : Nat} [hs : Sm n b] (hn : n ≤ 8999) (hb : b ≠ 0) : callD T (k + 2) "fraction" [.int a, .int b] c = .ok (.tup [.int (fr1 a b), .int (fr2 a b)]) c := by
  refine eq_of fun Q E hQ => call_body (fn := fn_fraction) rfl rfl ?_
  unfold fn_fraction
  show wS (dSs _ _ [some (.int a), some (.int b), none] c) _
  have hg : 0 < (Int.gcd a b : Int) := by have := Int.gcd_pos_of_ne_zero_right a hb; omega
  haveI := gcd_sm (a := a) hs hb
  have hl : ((Int.gcd a b : Int).natAbs.log2 < 9000) = True := log2_sm hn
  by_cases h : b < 0
  · simp only [ss_cons, ss_nil, s_set, s_ret, s_retN, s_expr, s_ife, s_raise, s_cnt, s_brk, s_pass, s_setIx, s_for, s_foS, s_augA, s_augS, e_k, e_v, e_tup, e_lst, e_call, e_blt, e_cmp, e_bin, e_neg, e_and, e_or, e_not, e_ite, e_chain, e_ix, e_isi, e_meth, e_sl, e_lam, e_lc, es_cons, es_nil, o_no, List.getElem?_cons_zero, List.getElem?_cons_succ, wO_some, asg_t, asgs_c, asgs_n, asg_v, Option.bind_some, Option.map_some, wA_some, wI_int, wB_some, wT_bl, wTy_some, wBs_some, wN_some, wP_some, wR_ok, List.length_cons, List.length_nil, List.set_cons_zero, List.set_cons_succ, lim, Nat.reduceAdd, Nat.reduceLeDiff, true_and, and_true, tr_bl, tr_int, tr_tup, tr_non, pick_some, pick_t, pick_f, decide_eq_true_eq, b_add, b_sub, b_subB, b_addB, b_mul, b_div, b_mod, b_pow, b_addT, b_mulT, c_eq, c_ne, c_lt, c_le, c_gt, c_ge, c_isB, c_isNotB, c_isN, c_isNotN, x_tup, a2_0, a2_1, a3_0, a3_1, a3_2, a4_0, a4_1, a4_2, a4_3, t_abs, t_int, t_intB, t_len, t_min, t_max, t_tupT, t_lstT, ty_non, ty_bl, ty_int, ty_str, ty_tup, is_ii, is_ib, is_bi, is_bb, is_tt, is_lt, is_it, is_nt, is_st, is_ni, is_si, is_ti, is_li, Bool.not_true, Bool.not_false, Bool.false_eq_true, if_true, if_false, abs_eq, i_v, i_tup, i_lst, i_call, i_ix, i_sl, it_tup, same_nil', lc_nil, lc_cons, oc_some, oc_none, w_lcB, fo_nil, fo_cons, ts_nil, ts_cons, t_all, t_any, t_tup, wipe, bls, q_ii, q_bb, q_2, q_3, BEq.rfl, beq_iff_eq, Int.reduceBEq, Int.reduceLT, Int.reduceLE, Int.reduceNeg, Int.reduceEq, List.all_cons, List.all_nil, id, Bool.and_true, Bool.true_and, Bool.and_self, Int.cast_ofNat_Int, h, common_e, Int.gcd_neg, Int.neg_gcd, hl, hg]
    have e1 : fr1 a b = -a / Int.gcd a b := by unfold fr1 sg; rw [if_pos h]; simp
    have e2 : fr2 a b = -b / Int.gcd a b := by unfold fr2 sg; rw [if_pos h]; simp
    rw [← e1, ← e2]
    exact hQ
  · simp only [ss_cons, ss_nil, s_set, s_ret, s_retN, s_expr, s_ife, s_raise, s_cnt, s_brk, s_pass, s_setIx, s_for, s_foS, s_augA, s_augS, e_k, e_v, e_tup, e_lst, e_call, e_blt, e_cmp, e_bin, e_neg, e_and, e_or, e_not, e_ite, e_chain, e_ix, e_isi, e_meth, e_sl, e_lam, e_lc, es_cons, es_nil, o_no, List.getElem?_cons_zero, List.getElem?_cons_succ, wO_some, asg_t, asgs_c, asgs_n, asg_v, Option.bind_some, Option.map_some, wA_some, wI_int, wB_some, wT_bl, wTy_some, wBs_some, wN_some, wP_some, wR_ok, List.length_cons, List.length_nil, List.set_cons_zero, List.set_cons_succ, lim, Nat.reduceAdd, Nat.reduceLeDiff, true_and, and_true, tr_bl, tr_int, tr_tup, tr_non, pick_some, pick_t, pick_f, decide_eq_true_eq, b_add, b_sub, b_subB, b_addB, b_mul, b_div, b_mod, b_pow, b_addT, b_mulT, c_eq, c_ne, c_lt, c_le, c_gt, c_ge, c_isB, c_isNotB, c_isN, c_isNotN, x_tup, a2_0, a2_1, a3_0, a3_1, a3_2, a4_0, a4_1, a4_2, a4_3, t_abs, t_int, t_intB, t_len, t_min, t_max, t_tupT, t_lstT, ty_non, ty_bl, ty_int, ty_str, ty_tup, is_ii, is_ib, is_bi, is_bb, is_tt, is_lt, is_it, is_nt, is_st, is_ni, is_si, is_ti, is_li, Bool.not_true, Bool.not_false, Bool.false_eq_true, if_true, if_false, abs_eq, i_v, i_tup, i_lst, i_call, i_ix, i_sl, it_tup, same_nil', lc_nil, lc_cons, oc_some, oc_none, w_lcB, fo_nil, fo_cons, ts_nil, ts_cons, t_all, t_any, t_tup, wipe, bls, q_ii, q_bb, q_2, q_3, BEq.rfl, beq_iff_eq, Int.reduceBEq, Int.reduceLT, Int.reduceLE, Int.reduceNeg, Int.reduceEq, List.all_cons, List.all_nil, id, Bool.and_true, Bool.true_and, Bool.and_self, Int.cast_ofNat_Int, h, common_e, Int.gcd_neg, Int.neg_gcd, hl, hg]
    have e1 : fr1 a b = a / Int.gcd a b := by unfold fr1 sg; rw [if_neg h]; simp
    have e2 : fr2 a b = b / Int.gcd a b := by unfold fr2 sg; rw [if_neg h]; simp
    rw [← e1, ← e2]
    exact hQ
theorem lfraction_e (k : Nat) (a b : Int) (c : Cells) {n : Nat} [hs : Sm n b] (hn : n ≤ 8999) (hb : b ≠ 0) : callD T (k + 2) "_law_fraction" [.int a, .int b] c = .ok (.tup [.int (fr1 a b), .int (fr2 a b)]) c := by
  refine eq_of fun Q E hQ => call_body (fn := fn__law_fraction) rfl rfl ?_
  unfold fn__law_fraction
  show wS (dSs _ _ [some (.int a), some (.int b), none] c) _
  have hg : 0 < (Int.gcd a b : Int) := by have := Int.gcd_pos_of_ne_zero_right a hb; omega
  haveI := gcd_sm (a := a) hs hb
  have hl : ((Int.gcd a b : Int).natAbs.log2 < 9000) = True := log2_sm hn
  by_cases h : b < 0
  · simp only [ss_cons, ss_nil, s_set, s_ret, s_retN, s_expr, s_ife, s_raise, s_cnt, s_brk, s_pass, s_setIx, s_for, s_foS, s_augA, s_augS, e_k, e_v, e_tup, e_lst, e_call, e_blt, e_cmp, e_bin, e_neg, e_and, e_or, e_not, e_ite, e_chain, e_ix, e_isi, e_meth, e_sl, e_lam, e_lc, es_cons, es_nil, o_no, List.getElem?_cons_zero, List.getElem?_cons_succ, wO_some, asg_t, asgs_c, asgs_n, asg_v, Option.bind_some, Option.map_some, wA_some, wI_int, wB_some, wT_bl, wTy_some, wBs_some, wN_some, wP_some, wR_ok, List.length_cons, List.length_nil, List.set_cons_zero, List.set_cons_succ, lim, Nat.reduceAdd, Nat.reduceLeDiff, true_and, and_true, tr_bl, tr_int, tr_tup, tr_non, pick_some, pick_t, pick_f, decide_eq_true_eq, b_add, b_sub, b_subB, b_addB, b_mul, b_div, b_mod, b_pow, b_addT, b_mulT, c_eq, c_ne, c_lt, c_le, c_gt, c_ge, c_isB, c_isNotB, c_isN, c_isNotN, x_tup, a2_0, a2_1, a3_0, a3_1, a3_2, a4_0, a4_1, a4_2, a4_3, t_abs, t_int, t_intB, t_len, t_min, t_max, t_tupT, t_lstT, ty_non, ty_bl, ty_int, ty_str, ty_tup, is_ii, is_ib, is_bi, is_bb, is_tt, is_lt, is_it, is_nt, is_st, is_ni, is_si, is_ti, is_li, Bool.not_true, Bool.not_false, Bool.false_eq_true, if_true, if_false, abs_eq, i_v, i_tup, i_lst, i_call, i_ix, i_sl, it_tup, same_nil', lc_nil, lc_cons, oc_some, oc_none, w_lcB, fo_nil, fo_cons, ts_nil, ts_cons, t_all, t_any, t_tup, wipe, bls, q_ii, q_bb, q_2, q_3, BEq.rfl, beq_iff_eq, Int.reduceBEq, Int.reduceLT, Int.reduceLE, Int.reduceNeg, Int.reduceEq, List.all_cons, List.all_nil, id, Bool.and_true, Bool.true_and, Bool.and_self, Int.cast_ofNat_Int, h, lcommon_e, Int.gcd_neg, Int.neg_gcd, hl, hg]
    have e1 : fr1 a b = -a / Int.gcd a b := by unfold fr1 sg; rw [if_pos h]; simp
    have e2 : fr2 a b = -b / Int.gcd a b := by unfold fr2 sg; rw [if_pos h]; simp
    rw [← e1, ← e2]
    exact hQ
  · simp only [ss_cons, ss_nil, s_set, s_ret, s_retN, s_expr, s_ife, s_raise, s_cnt, s_brk, s_pass, s_setIx, s_for, s_foS, s_augA, s_augS, e_k, e_v, e_tup, e_lst, e_call, e_blt, e_cmp, e_bin, e_neg, e_and, e_or, e_not, e_ite, e_chain, e_ix, e_isi, e_meth, e_sl, e_lam, e_lc, es_cons, es_nil, o_no, List.getElem?_cons_zero, List.getElem?_cons_succ, wO_some, asg_t, asgs_c, asgs_n, asg_v, Option.bind_some, Option.map_some, wA_some, wI_int, wB_some, wT_bl, wTy_some, wBs_some, wN_some, wP_some, wR_ok, List.length_cons, List.length_nil, List.set_cons_zero, List.set_cons_succ, lim, Nat.reduceAdd, Nat.reduceLeDiff, true_and, and_true, tr_bl, tr_int, tr_tup, tr_non, pick_some, pick_t, pick_f, decide_eq_true_eq, b_add, b_sub, b_subB, b_addB, b_mul, b_div, b_mod, b_pow, b_addT, b_mulT, c_eq, c_ne, c_lt, c_le, c_gt, c_ge, c_isB, c_isNotB, c_isN, c_isNotN, x_tup, a2_0, a2_1, a3_0, a3_1, a3_2, a4_0, a4_1, a4_2, a4_3, t_abs, t_int, t_intB, t_len, t_min, t_max, t_tupT, t_lstT, ty_non, ty_bl, ty_int, ty_str, ty_tup, is_ii, is_ib, is_bi, is_bb, is_tt, is_lt, is_it, is_nt, is_st, is_ni, is_si, is_ti, is_li, Bool.not_true, Bool.not_false, Bool.false_eq_true, if_true, if_false, abs_eq, i_v, i_tup, i_lst, i_call, i_ix, i_sl, it_tup, same_nil', lc_nil, lc_cons, oc_some, oc_none, w_lcB, fo_nil, fo_cons, ts_nil, ts_cons, t_all, t_any, t_tup, wipe, bls, q_ii, q_bb, q_2, q_3, BEq.rfl, beq_iff_eq, Int.reduceBEq, Int.reduceLT, Int.reduceLE, Int.reduceNeg, Int.reduceEq, List.all_cons, List.all_nil, id, Bool.and_true, Bool.true_and, Bool.and_self, Int.cast_ofNat_Int, h, lcommon_e, Int.gcd_neg, Int.neg_gcd, hl, hg]
    have e1 : fr1 a b = a / Int.gcd a b := by unfold fr1 sg; rw [if_neg h]; simp
    have e2 : fr2 a b = b / Int.gcd a b := by unfold fr2 sg; rw [if_neg h]; simp
    rw [← e1, ← e2]
    exact hQ
theorem made_e (k : Nat) (x y w : Int) (c : Cells) {n : Nat} [hs : Sm n w] (hn : n ≤ 8999) (hw : w ≠ 0) : callD T (k + 2) "made" [.int x, .int y, .int w] c = .ok (.tup [.int (m1 x y w), .int (m2 x y w), .int (m3 x y w)]) c := by
  refine eq_of fun Q E hQ => call_body (fn := fn_made) rfl rfl ?_
  unfold fn_made
  show wS (dSs _ _ [some (.int x), some (.int y), some (.int w), none] c) _
  have hg : 0 < (Int.gcd (Int.gcd x y : Int) w : Int) := g3_pos hw
  haveI := gcd_sm (a := (Int.gcd x y : Int)) hs hw
  have hl : ((Int.gcd (Int.gcd x y : Int) w : Int).natAbs.log2 < 9000) = True := log2_sm hn
  by_cases h : w < 0
  · simp only [ss_cons, ss_nil, s_set, s_ret, s_retN, s_expr, s_ife, s_raise, s_cnt, s_brk, s_pass, s_setIx, s_for, s_foS, s_augA, s_augS, e_k, e_v, e_tup, e_lst, e_call, e_blt, e_cmp, e_bin, e_neg, e_and, e_or, e_not, e_ite, e_chain, e_ix, e_isi, e_meth, e_sl, e_lam, e_lc, es_cons, es_nil, o_no, List.getElem?_cons_zero, List.getElem?_cons_succ, wO_some, asg_t, asgs_c, asgs_n, asg_v, Option.bind_some, Option.map_some, wA_some, wI_int, wB_some, wT_bl, wTy_some, wBs_some, wN_some, wP_some, wR_ok, List.length_cons, List.length_nil, List.set_cons_zero, List.set_cons_succ, lim, Nat.reduceAdd, Nat.reduceLeDiff, true_and, and_true, tr_bl, tr_int, tr_tup, tr_non, pick_some, pick_t, pick_f, decide_eq_true_eq, b_add, b_sub, b_subB, b_addB, b_mul, b_div, b_mod, b_pow, b_addT, b_mulT, c_eq, c_ne, c_lt, c_le, c_gt, c_ge, c_isB, c_isNotB, c_isN, c_isNotN, x_tup, a2_0, a2_1, a3_0, a3_1, a3_2, a4_0, a4_1, a4_2, a4_3, t_abs, t_int, t_intB, t_len, t_min, t_max, t_tupT, t_lstT, ty_non, ty_bl, ty_int, ty_str, ty_tup, is_ii, is_ib, is_bi, is_bb, is_tt, is_lt, is_it, is_nt, is_st, is_ni, is_si, is_ti, is_li, Bool.not_true, Bool.not_false, Bool.false_eq_true, if_true, if_false, abs_eq, i_v, i_tup, i_lst, i_call, i_ix, i_sl, it_tup, same_nil', lc_nil, lc_cons, oc_some, oc_none, w_lcB, fo_nil, fo_cons, ts_nil, ts_cons, t_all, t_any, t_tup, wipe, bls, q_ii, q_bb, q_2, q_3, BEq.rfl, beq_iff_eq, Int.reduceBEq, Int.reduceLT, Int.reduceLE, Int.reduceNeg, Int.reduceEq, List.all_cons, List.all_nil, id, Bool.and_true, Bool.true_and, Bool.and_self, Int.cast_ofNat_Int, h, common_e, Int.gcd_neg, Int.neg_gcd, hl, hg]
    have e1 : m1 x y w = -x / Int.gcd (Int.gcd x y : Int) w := by unfold m1 sg g3; rw [if_pos h]; simp
    have e2 : m2 x y w = -y / Int.gcd (Int.gcd x y : Int) w := by unfold m2 sg g3; rw [if_pos h]; simp
    have e3 : m3 x y w = -w / Int.gcd (Int.gcd x y : Int) w := by unfold m3 sg g3; rw [if_pos h]; simp
    rw [← e1, ← e2, ← e3]
    exact hQ
  · simp only [ss_cons, ss_nil, s_set, s_ret, s_retN, s_expr, s_ife, s_raise, s_cnt, s_brk, s_pass, s_setIx, s_for, s_foS, s_augA, s_augS, e_k, e_v, e_tup, e_lst, e_call, e_blt, e_cmp, e_bin, e_neg, e_and, e_or, e_not, e_ite, e_chain, e_ix, e_isi, e_meth, e_sl, e_lam, e_lc, es_cons, es_nil, o_no, List.getElem?_cons_zero, List.getElem?_cons_succ, wO_some, asg_t, asgs_c, asgs_n, asg_v, Option.bind_some, Option.map_some, wA_some, wI_int, wB_some, wT_bl, wTy_some, wBs_some, wN_some, wP_some, wR_ok, List.length_cons, List.length_nil, List.set_cons_zero, List.set_cons_succ, lim, Nat.reduceAdd, Nat.reduceLeDiff, true_and, and_true, tr_bl, tr_int, tr_tup, tr_non, pick_some, pick_t, pick_f, decide_eq_true_eq, b_add, b_sub, b_subB, b_addB, b_mul, b_div, b_mod, b_pow, b_addT, b_mulT, c_eq, c_ne, c_lt, c_le, c_gt, c_ge, c_isB, c_isNotB, c_isN, c_isNotN, x_tup, a2_0, a2_1, a3_0, a3_1, a3_2, a4_0, a4_1, a4_2, a4_3, t_abs, t_int, t_intB, t_len, t_min, t_max, t_tupT, t_lstT, ty_non, ty_bl, ty_int, ty_str, ty_tup, is_ii, is_ib, is_bi, is_bb, is_tt, is_lt, is_it, is_nt, is_st, is_ni, is_si, is_ti, is_li, Bool.not_true, Bool.not_false, Bool.false_eq_true, if_true, if_false, abs_eq, i_v, i_tup, i_lst, i_call, i_ix, i_sl, it_tup, same_nil', lc_nil, lc_cons, oc_some, oc_none, w_lcB, fo_nil, fo_cons, ts_nil, ts_cons, t_all, t_any, t_tup, wipe, bls, q_ii, q_bb, q_2, q_3, BEq.rfl, beq_iff_eq, Int.reduceBEq, Int.reduceLT, Int.reduceLE, Int.reduceNeg, Int.reduceEq, List.all_cons, List.all_nil, id, Bool.and_true, Bool.true_and, Bool.and_self, Int.cast_ofNat_Int, h, common_e, Int.gcd_neg, Int.neg_gcd, hl, hg]
    have e1 : m1 x y w = x / Int.gcd (Int.gcd x y : Int) w := by unfold m1 sg g3; rw [if_neg h]; simp
    have e2 : m2 x y w = y / Int.gcd (Int.gcd x y : Int) w := by unfold m2 sg g3; rw [if_neg h]; simp
    have e3 : m3 x y w = w / Int.gcd (Int.gcd x y : Int) w := by unfold m3 sg g3; rw [if_neg h]; simp
    rw [← e1, ← e2, ← e3]
    exact hQ
theorem lmade_e (k : Nat) (x y w : Int) (c : Cells) {n : Nat} [hs : Sm n w] (hn : n ≤ 8999) (hw : w ≠ 0) : callD T (k + 2) "_law_made" [.int x, .int y, .int w] c = .ok (.tup [.int (m1 x y w), .int (m2 x y w), .int (m3 x y w)]) c := by
  refine eq_of fun Q E hQ => call_body (fn := fn__law_made) rfl rfl ?_
  unfold fn__law_made
  show wS (dSs _ _ [some (.int x), some (.int y), some (.int w), none] c) _
  have hg : 0 < (Int.gcd (Int.gcd x y : Int) w : Int) := g3_pos hw
  haveI := gcd_sm (a := (Int.gcd x y : Int)) hs hw
  have hl : ((Int.gcd (Int.gcd x y : Int) w : Int).natAbs.log2 < 9000) = True := log2_sm hn
  by_cases h : w < 0
  · simp only [ss_cons, ss_nil, s_set, s_ret, s_retN, s_expr, s_ife, s_raise, s_cnt, s_brk, s_pass, s_setIx, s_for, s_foS, s_augA, s_augS, e_k, e_v, e_tup, e_lst, e_call, e_blt, e_cmp, e_bin, e_neg, e_and, e_or, e_not, e_ite, e_chain, e_ix, e_isi, e_meth, e_sl, e_lam, e_lc, es_cons, es_nil, o_no, List.getElem?_cons_zero, List.getElem?_cons_succ, wO_some, asg_t, asgs_c, asgs_n, asg_v, Option.bind_some, Option.map_some, wA_some, wI_int, wB_some, wT_bl, wTy_some, wBs_some, wN_some, wP_some, wR_ok, List.length_cons, List.length_nil, List.set_cons_zero, List.set_cons_succ, lim, Nat.reduceAdd, Nat.reduceLeDiff, true_and, and_true, tr_bl, tr_int, tr_tup, tr_non, pick_some, pick_t, pick_f, decide_eq_true_eq, b_add, b_sub, b_subB, b_addB, b_mul, b_div, b_mod, b_pow, b_addT, b_mulT, c_eq, c_ne, c_lt, c_le, c_gt, c_ge, c_isB, c_isNotB, c_isN, c_isNotN, x_tup, a2_0, a2_1, a3_0, a3_1, a3_2, a4_0, a4_1, a4_2, a4_3, t_abs, t_int, t_intB, t_len, t_min, t_max, t_tupT, t_lstT, ty_non, ty_bl, ty_int, ty_str, ty_tup, is_ii, is_ib, is_bi, is_bb, is_tt, is_lt, is_it, is_nt, is_st, is_ni, is_si, is_ti, is_li, Bool.not_true, Bool.not_false, Bool.false_eq_true, if_true, if_false, abs_eq, i_v, i_tup, i_lst, i_call, i_ix, i_sl, it_tup, same_nil', lc_nil, lc_cons, oc_some, oc_none, w_lcB, fo_nil, fo_cons, ts_nil, ts_cons, t_all, t_any, t_tup, wipe, bls, q_ii, q_bb, q_2, q_3, BEq.rfl, beq_iff_eq, Int.reduceBEq, Int.reduceLT, Int.reduceLE, Int.reduceNeg, Int.reduceEq, List.all_cons, List.all_nil, id, Bool.and_true, Bool.true_and, Bool.and_self, Int.cast_ofNat_Int, h, lcommon_e, Int.gcd_neg, Int.neg_gcd, hl, hg]
    have e1 : m1 x y w = -x / Int.gcd (Int.gcd x y : Int) w := by unfold m1 sg g3; rw [if_pos h]; simp
    have e2 : m2 x y w = -y / Int.gcd (Int.gcd x y : Int) w := by unfold m2 sg g3; rw [if_pos h]; simp
    have e3 : m3 x y w = -w / Int.gcd (Int.gcd x y : Int) w := by unfold m3 sg g3; rw [if_pos h]; simp
    rw [← e1, ← e2, ← e3]
    exact hQ
  · simp only [ss_cons, ss_nil, s_set, s_ret, s_retN, s_expr, s_ife, s_raise, s_cnt, s_brk, s_pass, s_setIx, s_for, s_foS, s_augA, s_augS, e_k, e_v, e_tup, e_lst, e_call, e_blt, e_cmp, e_bin, e_neg, e_and, e_or, e_not, e_ite, e_chain, e_ix, e_isi, e_meth, e_sl, e_lam, e_lc, es_cons, es_nil, o_no, List.getElem?_cons_zero, List.getElem?_cons_succ, wO_some, asg_t, asgs_c, asgs_n, asg_v, Option.bind_some, Option.map_some, wA_some, wI_int, wB_some, wT_bl, wTy_some, wBs_some, wN_some, wP_some, wR_ok, List.length_cons, List.length_nil, List.set_cons_zero, List.set_cons_succ, lim, Nat.reduceAdd, Nat.reduceLeDiff, true_and, and_true, tr_bl, tr_int, tr_tup, tr_non, pick_some, pick_t, pick_f, decide_eq_true_eq, b_add, b_sub, b_subB, b_addB, b_mul, b_div, b_mod, b_pow, b_addT, b_mulT, c_eq, c_ne, c_lt, c_le, c_gt, c_ge, c_isB, c_isNotB, c_isN, c_isNotN, x_tup, a2_0, a2_1, a3_0, a3_1, a3_2, a4_0, a4_1, a4_2, a4_3, t_abs, t_int, t_intB, t_len, t_min, t_max, t_tupT, t_lstT, ty_non, ty_bl, ty_int, ty_str, ty_tup, is_ii, is_ib, is_bi, is_bb, is_tt, is_lt, is_it, is_nt, is_st, is_ni, is_si, is_ti, is_li, Bool.not_true, Bool.not_false, Bool.false_eq_true, if_true, if_false, abs_eq, i_v, i_tup, i_lst, i_call, i_ix, i_sl, it_tup, same_nil', lc_nil, lc_cons, oc_some, oc_none, w_lcB, fo_nil, fo_cons, ts_nil, ts_cons, t_all, t_any, t_tup, wipe, bls, q_ii, q_bb, q_2, q_3, BEq.rfl, beq_iff_eq, Int.reduceBEq, Int.reduceLT, Int.reduceLE, Int.reduceNeg, Int.reduceEq, List.all_cons, List.all_nil, id, Bool.and_true, Bool.true_and, Bool.and_self, Int.cast_ofNat_Int, h, lcommon_e, Int.gcd_neg, Int.neg_gcd, hl, hg]
    have e1 : m1 x y w = x / Int.gcd (Int.gcd x y : Int) w := by unfold m1 sg g3; rw [if_neg h]; simp
    have e2 : m2 x y w = y / Int.gcd (Int.gcd x y : Int) w := by unfold m2 sg g3; rw [if_neg h]; simp
    have e3 : m3 x y w = w / Int.gcd (Int.gcd x y : Int) w := by unfold m3 sg g3; rw [if_neg h]; simp
    rw [← e1, ← e2, ← e3]
    exact hQ
theorem isnum_i (k : Nat) (x : Int) (c : Cells) : callD T (k + 1) "is_number" [.int x] c = .ok (.bl true) c := by
  refine eq_of fun Q E hQ => call_body (fn := fn_is_number) rfl rfl ?_
  unfold fn_is_number
  show wS (dSs _ _ [some (.int x)] c) _
  simp only [ss_cons, ss_nil, s_set, s_ret, s_retN, s_expr, s_ife, s_raise, s_cnt, s_brk, s_pass, s_setIx, s_for, s_foS, s_augA, s_augS, e_k, e_v, e_tup, e_lst, e_call, e_blt, e_cmp, e_bin, e_neg, e_and, e_or, e_not, e_ite, e_chain, e_ix, e_isi, e_meth, e_sl, e_lam, e_lc, es_cons, es_nil, o_no, List.getElem?_cons_zero, List.getElem?_cons_succ, wO_some, asg_t, asgs_c, asgs_n, asg_v, Option.bind_some, Option.map_some, wA_some, wI_int, wB_some, wT_bl, wTy_some, wBs_some, wN_some, wP_some, wR_ok, List.length_cons, List.length_nil, List.set_cons_zero, List.set_cons_succ, lim, Nat.reduceAdd, Nat.reduceLeDiff, true_and, and_true, tr_bl, tr_int, tr_tup, tr_non, pick_some, pick_t, pick_f, decide_eq_true_eq, b_add, b_sub, b_subB, b_addB, b_mul, b_div, b_mod, b_pow, b_addT, b_mulT, c_eq, c_ne, c_lt, c_le, c_gt, c_ge, c_isB, c_isNotB, c_isN, c_isNotN, x_tup, a2_0, a2_1, a3_0, a3_1, a3_2, a4_0, a4_1, a4_2, a4_3, t_abs, t_int, t_intB, t_len, t_min, t_max, t_tupT, t_lstT, ty_non, ty_bl, ty_int, ty_str, ty_tup, is_ii, is_ib, is_bi, is_bb, is_tt, is_lt, is_it, is_nt, is_st, is_ni, is_si, is_ti, is_li, Bool.not_true, Bool.not_false, Bool.false_eq_true, if_true, if_false, abs_eq, i_v, i_tup, i_lst, i_call, i_ix, i_sl, it_tup, same_nil', lc_nil, lc_cons, oc_some, oc_none, w_lcB, fo_nil, fo_cons, ts_nil, ts_cons, t_all, t_any, t_tup, wipe, bls, q_ii, q_bb, q_2, q_3, BEq.rfl, beq_iff_eq, Int.reduceBEq, Int.reduceLT, Int.reduceLE, Int.reduceNeg, Int.reduceEq, List.all_cons, List.all_nil, id, Bool.and_true, Bool.true_and, Bool.and_self, Int.cast_ofNat_Int]
  exact hQ
/-- three numbers alone -/
abbrev pt (x y w : Int) : D := .tup [.int x, .int y, .int w]
abbrev tr3 : Cell := .lst [.bl true, .bl true, .bl true]
theorem ispoint_e (k : Nat) (x y w : Int) (c : Cells) : callD T (k + 2) "is_point" [pt x y w] c = .ok (.bl (decide (1 ≤ w) && decide (Int.gcd (Int.gcd x y : Int) w = 1))) (c ++ [tr3]) := by
  refine eq_of fun Q E hQ => call_body (fn := fn_is_point) rfl rfl ?_
  unfold fn_is_point
  show wS (dSs _ _ [some (pt x y w), none, none] c) _
  simp only [ss_cons, ss_nil, s_set, s_ret, s_retN, s_expr, s_ife, s_raise, s_cnt, s_brk, s_pass, s_setIx, s_for, s_foS, s_augA, s_augS, e_k, e_v, e_tup, e_lst, e_call, e_blt, e_cmp, e_bin, e_neg, e_and, e_or, e_not, e_ite, e_chain, e_ix, e_isi, e_meth, e_sl, e_lam, e_lc, es_cons, es_nil, o_no, List.getElem?_cons_zero, List.getElem?_cons_succ, wO_some, asg_t, asgs_c, asgs_n, asg_v, Option.bind_some, Option.map_some, wA_some, wI_int, wB_some, wT_bl, wTy_some, wBs_some, wN_some, wP_some, wR_ok, List.length_cons, List.length_nil, List.set_cons_zero, List.set_cons_succ, lim, Nat.reduceAdd, Nat.reduceLeDiff, true_and, and_true, tr_bl, tr_int, tr_tup, tr_non, pick_some, pick_t, pick_f, decide_eq_true_eq, b_add, b_sub, b_subB, b_addB, b_mul, b_div, b_mod, b_pow, b_addT, b_mulT, c_eq, c_ne, c_lt, c_le, c_gt, c_ge, c_isB, c_isNotB, c_isN, c_isNotN, x_tup, a2_0, a2_1, a3_0, a3_1, a3_2, a4_0, a4_1, a4_2, a4_3, t_abs, t_int, t_intB, t_len, t_min, t_max, t_tupT, t_lstT, ty_non, ty_bl, ty_int, ty_str, ty_tup, is_ii, is_ib, is_bi, is_bb, is_tt, is_lt, is_it, is_nt, is_st, is_ni, is_si, is_ti, is_li, Bool.not_true, Bool.not_false, Bool.false_eq_true, if_true, if_false, abs_eq, i_v, i_tup, i_lst, i_call, i_ix, i_sl, it_tup, same_nil', lc_nil, lc_cons, oc_some, oc_none, w_lcB, fo_nil, fo_cons, ts_nil, ts_cons, t_all, t_any, t_tup, wipe, bls, q_ii, q_bb, q_2, q_3, BEq.rfl, beq_iff_eq, Int.reduceBEq, Int.reduceLT, Int.reduceLE, Int.reduceNeg, Int.reduceEq, List.all_cons, List.all_nil, id, Bool.and_true, Bool.true_and, Bool.and_self, Int.cast_ofNat_Int, isnum_i, common_e]
  by_cases h : 1 ≤ w
  · rw [if_pos h]
    have : ((Int.gcd (Int.gcd x y : Int) w : Int) == 1) = decide (Int.gcd (Int.gcd x y : Int) w = 1) := by
      rw [Bool.eq_iff_iff]; simp; omega
    rw [this]
    simpa [h] using hQ
  · rw [if_neg h]
    simpa [h] using hQ
theorem ispoint_p (k : Nat) {x y w : Int} (h : Pt x y w) (c : Cells) : callD T (k + 2) "is_point" [pt x y w] c = .ok (.bl true) (c ++ [tr3]) := by
  rw [ispoint_e]
  have h1 := h.pos
  have h2 : Int.gcd (Int.gcd x y : Int) w = 1 := by have := h.cop; unfold g3 at this; omega
  simp [h2]
  omega
theorem checkpoint_p (k : Nat) {x y w : Int} (h : Pt x y w) (c : Cells) : callD T (k + 3) "check_point" [pt x y w] c = .ok .non (c ++ [tr3]) := by
  refine eq_of fun Q E hQ => call_body (fn := fn_check_point) rfl rfl ?_
  unfold fn_check_point
  show wS (dSs _ _ [some (pt x y w)] c) _
  simp only [ss_cons, ss_nil, s_set, s_ret, s_retN, s_expr, s_ife, s_raise, s_cnt, s_brk, s_pass, s_setIx, s_for, s_foS, s_augA, s_augS, e_k, e_v, e_tup, e_lst, e_call, e_blt, e_cmp, e_bin, e_neg, e_and, e_or, e_not, e_ite, e_chain, e_ix, e_isi, e_meth, e_sl, e_lam, e_lc, es_cons, es_nil, o_no, List.getElem?_cons_zero, List.getElem?_cons_succ, wO_some, asg_t, asgs_c, asgs_n, asg_v, Option.bind_some, Option.map_some, wA_some, wI_int, wB_some, wT_bl, wTy_some, wBs_some, wN_some, wP_some, wR_ok, List.length_cons, List.length_nil, List.set_cons_zero, List.set_cons_succ, lim, Nat.reduceAdd, Nat.reduceLeDiff, true_and, and_true, tr_bl, tr_int, tr_tup, tr_non, pick_some, pick_t, pick_f, decide_eq_true_eq, b_add, b_sub, b_subB, b_addB, b_mul, b_div, b_mod, b_pow, b_addT, b_mulT, c_eq, c_ne, c_lt, c_le, c_gt, c_ge, c_isB, c_isNotB, c_isN, c_isNotN, x_tup, a2_0, a2_1, a3_0, a3_1, a3_2, a4_0, a4_1, a4_2, a4_3, t_abs, t_int, t_intB, t_len, t_min, t_max, t_tupT, t_lstT, ty_non, ty_bl, ty_int, ty_str, ty_tup, is_ii, is_ib, is_bi, is_bb, is_tt, is_lt, is_it, is_nt, is_st, is_ni, is_si, is_ti, is_li, Bool.not_true, Bool.not_false, Bool.false_eq_true, if_true, if_false, abs_eq, i_v, i_tup, i_lst, i_call, i_ix, i_sl, it_tup, same_nil', lc_nil, lc_cons, oc_some, oc_none, w_lcB, fo_nil, fo_cons, ts_nil, ts_cons, t_all, t_any, t_tup, wipe, bls, q_ii, q_bb, q_2, q_3, BEq.rfl, beq_iff_eq, Int.reduceBEq, Int.reduceLT, Int.reduceLE, Int.reduceNeg, Int.reduceEq, List.all_cons, List.all_nil, id, Bool.and_true, Bool.true_and, Bool.and_self, Int.cast_ofNat_Int, ispoint_p _ h]
  exact hQ
theorem checkpoints_2 (k : Nat) {x y w x' y' w' : Int} (h : Pt x y w) (h' : Pt x' y' w') (c : Cells) : callD T (k + 4) "check_points" [.tup [pt x y w, pt x' y' w']] c = .ok .non (c ++ [tr3] ++ [tr3]) := by
  refine eq_of fun Q E hQ => call_body (fn := fn_check_points) rfl rfl ?_
  unfold fn_check_points
  show wS (dSs _ _ [some (.tup [pt x y w, pt x' y' w']), none] c) _
  simp only [ss_cons, ss_nil, s_set, s_ret, s_retN, s_expr, s_ife, s_raise, s_cnt, s_brk, s_pass, s_setIx, s_for, s_foS, s_augA, s_augS, e_k, e_v, e_tup, e_lst, e_call, e_blt, e_cmp, e_bin, e_neg, e_and, e_or, e_not, e_ite, e_chain, e_ix, e_isi, e_meth, e_sl, e_lam, e_lc, es_cons, es_nil, o_no, List.getElem?_cons_zero, List.getElem?_cons_succ, wO_some, asg_t, asgs_c, asgs_n, asg_v, Option.bind_some, Option.map_some, wA_some, wI_int, wB_some, wT_bl, wTy_some, wBs_some, wN_some, wP_some, wR_ok, List.length_cons, List.length_nil, List.set_cons_zero, List.set_cons_succ, lim, Nat.reduceAdd, Nat.reduceLeDiff, true_and, and_true, tr_bl, tr_int, tr_tup, tr_non, pick_some, pick_t, pick_f, decide_eq_true_eq, b_add, b_sub, b_subB, b_addB, b_mul, b_div, b_mod, b_pow, b_addT, b_mulT, c_eq, c_ne, c_lt, c_le, c_gt, c_ge, c_isB, c_isNotB, c_isN, c_isNotN, x_tup, a2_0, a2_1, a3_0, a3_1, a3_2, a4_0, a4_1, a4_2, a4_3, t_abs, t_int, t_intB, t_len, t_min, t_max, t_tupT, t_lstT, ty_non, ty_bl, ty_int, ty_str, ty_tup, is_ii, is_ib, is_bi, is_bb, is_tt, is_lt, is_it, is_nt, is_st, is_ni, is_si, is_ti, is_li, Bool.not_true, Bool.not_false, Bool.false_eq_true, if_true, if_false, abs_eq, i_v, i_tup, i_lst, i_call, i_ix, i_sl, it_tup, same_nil', lc_nil, lc_cons, oc_some, oc_none, w_lcB, fo_nil, fo_cons, ts_nil, ts_cons, t_all, t_any, t_tup, wipe, bls, q_ii, q_bb, q_2, q_3, BEq.rfl, beq_iff_eq, Int.reduceBEq, Int.reduceLT, Int.reduceLE, Int.reduceNeg, Int.reduceEq, List.all_cons, List.all_nil, id, Bool.and_true, Bool.true_and, Bool.and_self, Int.cast_ofNat_Int, checkpoint_p _ h, checkpoint_p _ h']
  exact hQ
theorem checkpoints_3 (k : Nat) {x y w x' y' w' x2 y2 w2 : Int} (h : Pt x y w) (h' : Pt x' y' w') (h2 : Pt x2 y2 w2) (c : Cells) : callD T (k + 4) "check_points" [.tup [pt x y w, pt x' y' w', pt x2 y2 w2]] c = .ok .non (c ++ [tr3] ++ [tr3] ++ [tr3]) := by
  refine eq_of fun Q E hQ => call_body (fn := fn_check_points) rfl rfl ?_
  unfold fn_check_points
  show wS (dSs _ _ [some (.tup [pt x y w, pt x' y' w', pt x2 y2 w2]), none] c) _
  simp only [ss_cons, ss_nil, s_set, s_ret, s_retN, s_expr, s_ife, s_raise, s_cnt, s_brk, s_pass, s_setIx, s_for, s_foS, s_augA, s_augS, e_k, e_v, e_tup, e_lst, e_call, e_blt, e_cmp, e_bin, e_neg, e_and, e_or, e_not, e_ite, e_chain, e_ix, e_isi, e_meth, e_sl, e_lam, e_lc, es_cons, es_nil, o_no, List.getElem?_cons_zero, List.getElem?_cons_succ, wO_some, asg_t, asgs_c, asgs_n, asg_v, Option.bind_some, Option.map_some, wA_some, wI_int, wB_some, wT_bl, wTy_some, wBs_some, wN_some, wP_some, wR_ok, List.length_cons, List.length_nil, List.set_cons_zero, List.set_cons_succ, lim, Nat.reduceAdd, Nat.reduceLeDiff, true_and, and_true, tr_bl, tr_int, tr_tup, tr_non, pick_some, pick_t, pick_f, decide_eq_true_eq, b_add, b_sub, b_subB, b_addB, b_mul, b_div, b_mod, b_pow, b_addT, b_mulT, c_eq, c_ne, c_lt, c_le, c_gt, c_ge, c_isB, c_isNotB, c_isN, c_isNotN, x_tup, a2_0, a2_1, a3_0, a3_1, a3_2, a4_0, a4_1, a4_2, a4_3, t_abs, t_int, t_intB, t_len, t_min, t_max, t_tupT, t_lstT, ty_non, ty_bl, ty_int, ty_str, ty_tup, is_ii, is_ib, is_bi, is_bb, is_tt, is_lt, is_it, is_nt, is_st, is_ni, is_si, is_ti, is_li, Bool.not_true, Bool.not_false, Bool.false_eq_true, if_true, if_false, abs_eq, i_v, i_tup, i_lst, i_call, i_ix, i_sl, it_tup, same_nil', lc_nil, lc_cons, oc_some, oc_none, w_lcB, fo_nil, fo_cons, ts_nil, ts_cons, t_all, t_any, t_tup, wipe, bls, q_ii, q_bb, q_2, q_3, BEq.rfl, beq_iff_eq, Int.reduceBEq, Int.reduceLT, Int.reduceLE, Int.reduceNeg, Int.reduceEq, List.all_cons, List.all_nil, id, Bool.and_true, Bool.true_and, Bool.and_self, Int.cast_ofNat_Int, checkpoint_p _ h, checkpoint_p _ h', checkpoint_p _ h2]
  exact hQ
abbrev f2 (p q : Int) : D := .tup [.int p, .int q]
theorem isfraction_e (k : Nat) {n d p q : Int} (h : Fr n d p q) (c : Cells) : callD T (k + 2) "is_fraction" [f2 p q] c = .ok (.bl true) c := by
  refine eq_of fun Q E hQ => call_body (fn := fn_is_fraction) rfl rfl ?_
  unfold fn_is_fraction
  show wS (dSs _ _ [some (f2 p q)] c) _
  have h1 : (1 ≤ q) = True := by have := h.pos; simp; omega
  simp only [ss_cons, ss_nil, s_set, s_ret, s_retN, s_expr, s_ife, s_raise, s_cnt, s_brk, s_pass, s_setIx, s_for, s_foS, s_augA, s_augS, e_k, e_v, e_tup, e_lst, e_call, e_blt, e_cmp, e_bin, e_neg, e_and, e_or, e_not, e_ite, e_chain, e_ix, e_isi, e_meth, e_sl, e_lam, e_lc, es_cons, es_nil, o_no, List.getElem?_cons_zero, List.getElem?_cons_succ, wO_some, asg_t, asgs_c, asgs_n, asg_v, Option.bind_some, Option.map_some, wA_some, wI_int, wB_some, wT_bl, wTy_some, wBs_some, wN_some, wP_some, wR_ok, List.length_cons, List.length_nil, List.set_cons_zero, List.set_cons_succ, lim, Nat.reduceAdd, Nat.reduceLeDiff, true_and, and_true, tr_bl, tr_int, tr_tup, tr_non, pick_some, pick_t, pick_f, decide_eq_true_eq, b_add, b_sub, b_subB, b_addB, b_mul, b_div, b_mod, b_pow, b_addT, b_mulT, c_eq, c_ne, c_lt, c_le, c_gt, c_ge, c_isB, c_isNotB, c_isN, c_isNotN, x_tup, a2_0, a2_1, a3_0, a3_1, a3_2, a4_0, a4_1, a4_2, a4_3, t_abs, t_int, t_intB, t_len, t_min, t_max, t_tupT, t_lstT, ty_non, ty_bl, ty_int, ty_str, ty_tup, is_ii, is_ib, is_bi, is_bb, is_tt, is_lt, is_it, is_nt, is_st, is_ni, is_si, is_ti, is_li, Bool.not_true, Bool.not_false, Bool.false_eq_true, if_true, if_false, abs_eq, i_v, i_tup, i_lst, i_call, i_ix, i_sl, it_tup, same_nil', lc_nil, lc_cons, oc_some, oc_none, w_lcB, fo_nil, fo_cons, ts_nil, ts_cons, t_all, t_any, t_tup, wipe, bls, q_ii, q_bb, q_2, q_3, BEq.rfl, beq_iff_eq, Int.reduceBEq, Int.reduceLT, Int.reduceLE, Int.reduceNeg, Int.reduceEq, List.all_cons, List.all_nil, id, Bool.and_true, Bool.true_and, Bool.and_self, Int.cast_ofNat_Int, isnum_i, common_e, h.cop, h1]
  exact hQ
theorem checkfraction_e (k : Nat) {n d p q : Int} (h : Fr n d p q) (c : Cells) : callD T (k + 3) "check_fraction" [f2 p q] c = .ok .non c := by
  refine eq_of fun Q E hQ => call_body (fn := fn_check_fraction) rfl rfl ?_
  unfold fn_check_fraction
  show wS (dSs _ _ [some (f2 p q)] c) _
  simp only [ss_cons, ss_nil, s_set, s_ret, s_retN, s_expr, s_ife, s_raise, s_cnt, s_brk, s_pass, s_setIx, s_for, s_foS, s_augA, s_augS, e_k, e_v, e_tup, e_lst, e_call, e_blt, e_cmp, e_bin, e_neg, e_and, e_or, e_not, e_ite, e_chain, e_ix, e_isi, e_meth, e_sl, e_lam, e_lc, es_cons, es_nil, o_no, List.getElem?_cons_zero, List.getElem?_cons_succ, wO_some, asg_t, asgs_c, asgs_n, asg_v, Option.bind_some, Option.map_some, wA_some, wI_int, wB_some, wT_bl, wTy_some, wBs_some, wN_some, wP_some, wR_ok, List.length_cons, List.length_nil, List.set_cons_zero, List.set_cons_succ, lim, Nat.reduceAdd, Nat.reduceLeDiff, true_and, and_true, tr_bl, tr_int, tr_tup, tr_non, pick_some, pick_t, pick_f, decide_eq_true_eq, b_add, b_sub, b_subB, b_addB, b_mul, b_div, b_mod, b_pow, b_addT, b_mulT, c_eq, c_ne, c_lt, c_le, c_gt, c_ge, c_isB, c_isNotB, c_isN, c_isNotN, x_tup, a2_0, a2_1, a3_0, a3_1, a3_2, a4_0, a4_1, a4_2, a4_3, t_abs, t_int, t_intB, t_len, t_min, t_max, t_tupT, t_lstT, ty_non, ty_bl, ty_int, ty_str, ty_tup, is_ii, is_ib, is_bi, is_bb, is_tt, is_lt, is_it, is_nt, is_st, is_ni, is_si, is_ti, is_li, Bool.not_true, Bool.not_false, Bool.false_eq_true, if_true, if_false, abs_eq, i_v, i_tup, i_lst, i_call, i_ix, i_sl, it_tup, same_nil', lc_nil, lc_cons, oc_some, oc_none, w_lcB, fo_nil, fo_cons, ts_nil, ts_cons, t_all, t_any, t_tup, wipe, bls, q_ii, q_bb, q_2, q_3, BEq.rfl, beq_iff_eq, Int.reduceBEq, Int.reduceLT, Int.reduceLE, Int.reduceNeg, Int.reduceEq, List.all_cons, List.all_nil, id, Bool.and_true, Bool.true_and, Bool.and_self, Int.cast_ofNat_Int, isfraction_e _ h]
  exact hQ
theorem checkboth_e (k : Nat) {n d p q n' d' p' q' : Int} (h : Fr n d p q) (h' : Fr n' d' p' q') (c : Cells) : callD T (k + 4) "check_both" [f2 p q, f2 p' q'] c = .ok .non c := by
  refine eq_of fun Q E hQ => call_body (fn := fn_check_both) rfl rfl ?_
  unfold fn_check_both
  show wS (dSs _ _ [some (f2 p q), some (f2 p' q')] c) _
  simp only [ss_cons, ss_nil, s_set, s_ret, s_retN, s_expr, s_ife, s_raise, s_cnt, s_brk, s_pass, s_setIx, s_for, s_foS, s_augA, s_augS, e_k, e_v, e_tup, e_lst, e_call, e_blt, e_cmp, e_bin, e_neg, e_and, e_or, e_not, e_ite, e_chain, e_ix, e_isi, e_meth, e_sl, e_lam, e_lc, es_cons, es_nil, o_no, List.getElem?_cons_zero, List.getElem?_cons_succ, wO_some, asg_t, asgs_c, asgs_n, asg_v, Option.bind_some, Option.map_some, wA_some, wI_int, wB_some, wT_bl, wTy_some, wBs_some, wN_some, wP_some, wR_ok, List.length_cons, List.length_nil, List.set_cons_zero, List.set_cons_succ, lim, Nat.reduceAdd, Nat.reduceLeDiff, true_and, and_true, tr_bl, tr_int, tr_tup, tr_non, pick_some, pick_t, pick_f, decide_eq_true_eq, b_add, b_sub, b_subB, b_addB, b_mul, b_div, b_mod, b_pow, b_addT, b_mulT, c_eq, c_ne, c_lt, c_le, c_gt, c_ge, c_isB, c_isNotB, c_isN, c_isNotN, x_tup, a2_0, a2_1, a3_0, a3_1, a3_2, a4_0, a4_1, a4_2, a4_3, t_abs, t_int, t_intB, t_len, t_min, t_max, t_tupT, t_lstT, ty_non, ty_bl, ty_int, ty_str, ty_tup, is_ii, is_ib, is_bi, is_bb, is_tt, is_lt, is_it, is_nt, is_st, is_ni, is_si, is_ti, is_li, Bool.not_true, Bool.not_false, Bool.false_eq_true, if_true, if_false, abs_eq, i_v, i_tup, i_lst, i_call, i_ix, i_sl, it_tup, same_nil', lc_nil, lc_cons, oc_some, oc_none, w_lcB, fo_nil, fo_cons, ts_nil, ts_cons, t_all, t_any, t_tup, wipe, bls, q_ii, q_bb, q_2, q_3, BEq.rfl, beq_iff_eq, Int.reduceBEq, Int.reduceLT, Int.reduceLE, Int.reduceNeg, Int.reduceEq, List.all_cons, List.all_nil, id, Bool.and_true, Bool.true_and, Bool.and_self, Int.cast_ofNat_Int, checkfraction_e _ h, checkfraction_e _ h']
  exact hQ
theorem right_e (k : Nat) {x y w : Int} {n : Nat} [Sm n w] (hn : n ≤ 8999) (h : Pt x y w) (c : Cells) : callD T (k + 4) "right" [pt x y w] c = .ok (f2 (fr1 x w) (fr2 x w)) (c ++ [tr3]) := by
  refine eq_of fun Q E hQ => call_body (fn := fn_right) rfl rfl ?_
  unfold fn_right
  show wS (dSs _ _ [some (pt x y w)] c) _
  have hw : w ≠ 0 := by have := h.pos; omega
  simp only [ss_cons, ss_nil, s_set, s_ret, s_retN, s_expr, s_ife, s_raise, s_cnt, s_brk, s_pass, s_setIx, s_for, s_foS, s_augA, s_augS, e_k, e_v, e_tup, e_lst, e_call, e_blt, e_cmp, e_bin, e_neg, e_and, e_or, e_not, e_ite, e_chain, e_ix, e_isi, e_meth, e_sl, e_lam, e_lc, es_cons, es_nil, o_no, List.getElem?_cons_zero, List.getElem?_cons_succ, wO_some, asg_t, asgs_c, asgs_n, asg_v, Option.bind_some, Option.map_some, wA_some, wI_int, wB_some, wT_bl, wTy_some, wBs_some, wN_some, wP_some, wR_ok, List.length_cons, List.length_nil, List.set_cons_zero, List.set_cons_succ, lim, Nat.reduceAdd, Nat.reduceLeDiff, true_and, and_true, tr_bl, tr_int, tr_tup, tr_non, pick_some, pick_t, pick_f, decide_eq_true_eq, b_add, b_sub, b_subB, b_addB, b_mul, b_div, b_mod, b_pow, b_addT, b_mulT, c_eq, c_ne, c_lt, c_le, c_gt, c_ge, c_isB, c_isNotB, c_isN, c_isNotN, x_tup, a2_0, a2_1, a3_0, a3_1, a3_2, a4_0, a4_1, a4_2, a4_3, t_abs, t_int, t_intB, t_len, t_min, t_max, t_tupT, t_lstT, ty_non, ty_bl, ty_int, ty_str, ty_tup, is_ii, is_ib, is_bi, is_bb, is_tt, is_lt, is_it, is_nt, is_st, is_ni, is_si, is_ti, is_li, Bool.not_true, Bool.not_false, Bool.false_eq_true, if_true, if_false, abs_eq, i_v, i_tup, i_lst, i_call, i_ix, i_sl, it_tup, same_nil', lc_nil, lc_cons, oc_some, oc_none, w_lcB, fo_nil, fo_cons, ts_nil, ts_cons, t_all, t_any, t_tup, wipe, bls, q_ii, q_bb, q_2, q_3, BEq.rfl, beq_iff_eq, Int.reduceBEq, Int.reduceLT, Int.reduceLE, Int.reduceNeg, Int.reduceEq, List.all_cons, List.all_nil, id, Bool.and_true, Bool.true_and, Bool.and_self, Int.cast_ofNat_Int, checkpoint_p _ h, fraction_e _ x w _ hn hw]
  exact hQ
theorem up_e (k : Nat) {x y w : Int} {n : Nat} [Sm n w] (hn : n ≤ 8999) (h : Pt x y w) (c : Cells) : callD T (k + 4) "up" [pt x y w] c = .ok (f2 (fr1 y w) (fr2 y w)) (c ++ [tr3]) := by
  refine eq_of fun Q E hQ => call_body (fn := fn_up) rfl rfl ?_
  unfold fn_up
  show wS (dSs _ _ [some (pt x y w)] c) _
  have hw : w ≠ 0 := by have := h.pos; omega
  simp only [ss_cons, ss_nil, s_set, s_ret, s_retN, s_expr, s_ife, s_raise, s_cnt, s_brk, s_pass, s_setIx, s_for, s_foS, s_augA, s_augS, e_k, e_v, e_tup, e_lst, e_call, e_blt, e_cmp, e_bin, e_neg, e_and, e_or, e_not, e_ite, e_chain, e_ix, e_isi, e_meth, e_sl, e_lam, e_lc, es_cons, es_nil, o_no, List.getElem?_cons_zero, List.getElem?_cons_succ, wO_some, asg_t, asgs_c, asgs_n, asg_v, Option.bind_some, Option.map_some, wA_some, wI_int, wB_some, wT_bl, wTy_some, wBs_some, wN_some, wP_some, wR_ok, List.length_cons, List.length_nil, List.set_cons_zero, List.set_cons_succ, lim, Nat.reduceAdd, Nat.reduceLeDiff, true_and, and_true, tr_bl, tr_int, tr_tup, tr_non, pick_some, pick_t, pick_f, decide_eq_true_eq, b_add, b_sub, b_subB, b_addB, b_mul, b_div, b_mod, b_pow, b_addT, b_mulT, c_eq, c_ne, c_lt, c_le, c_gt, c_ge, c_isB, c_isNotB, c_isN, c_isNotN, x_tup, a2_0, a2_1, a3_0, a3_1, a3_2, a4_0, a4_1, a4_2, a4_3, t_abs, t_int, t_intB, t_len, t_min, t_max, t_tupT, t_lstT, ty_non, ty_bl, ty_int, ty_str, ty_tup, is_ii, is_ib, is_bi, is_bb, is_tt, is_lt, is_it, is_nt, is_st, is_ni, is_si, is_ti, is_li, Bool.not_true, Bool.not_false, Bool.false_eq_true, if_true, if_false, abs_eq, i_v, i_tup, i_lst, i_call, i_ix, i_sl, it_tup, same_nil', lc_nil, lc_cons, oc_some, oc_none, w_lcB, fo_nil, fo_cons, ts_nil, ts_cons, t_all, t_any, t_tup, wipe, bls, q_ii, q_bb, q_2, q_3, BEq.rfl, beq_iff_eq, Int.reduceBEq, Int.reduceLT, Int.reduceLE, Int.reduceNeg, Int.reduceEq, List.all_cons, List.all_nil, id, Bool.and_true, Bool.true_and, Bool.and_self, Int.cast_ofNat_Int, checkpoint_p _ h, fraction_e _ y w _ hn hw]
  exact hQ
theorem point_e (k : Nat) {n d p q n' d' p' q' : Int} {s1 s2 s3 s4 : Nat} [Sm s1 p] [Sm s2 q] [Sm s3 p'] [Sm s4 q'] (hs : s1 + s2 + s3 + s4 ≤ 8000) (h : Fr n d p q) (h' : Fr n' d' p' q') (c : Cells) :
    callD T (k + 5) "point" [f2 p q, f2 p' q'] c = .ok (pt (m1 (p * q') (p' * q) (q * q')) (m2 (p * q') (p' * q) (q * q')) (m3 (p * q') (p' * q) (q * q'))) c := by
  refine eq_of fun Q E hQ => call_body (fn := fn_point) rfl rfl ?_
  unfold fn_point
  show wS (dSs _ _ [some (f2 p q), some (f2 p' q')] c) _
  have hw : q * q' ≠ 0 := by have := Int.mul_pos h.pos h'.pos; omega
  have k1 : mulOk p q' = true := mulOk_sm (n := s1) (m := s4) (by omega)
  have k2 : mulOk p' q = true := mulOk_sm (n := s3) (m := s2) (by omega)
  have k3 : mulOk q q' = true := mulOk_sm (n := s2) (m := s4) (by omega)
  simp only [ss_cons, ss_nil, s_set, s_ret, s_retN, s_expr, s_ife, s_raise, s_cnt, s_brk, s_pass, s_setIx, s_for, s_foS, s_augA, s_augS, e_k, e_v, e_tup, e_lst, e_call, e_blt, e_cmp, e_bin, e_neg, e_and, e_or, e_not, e_ite, e_chain, e_ix, e_isi, e_meth, e_sl, e_lam, e_lc, es_cons, es_nil, o_no, List.getElem?_cons_zero, List.getElem?_cons_succ, wO_some, asg_t, asgs_c, asgs_n, asg_v, Option.bind_some, Option.map_some, wA_some, wI_int, wB_some, wT_bl, wTy_some, wBs_some, wN_some, wP_some, wR_ok, List.length_cons, List.length_nil, List.set_cons_zero, List.set_cons_succ, lim, Nat.reduceAdd, Nat.reduceLeDiff, true_and, and_true, tr_bl, tr_int, tr_tup, tr_non, pick_some, pick_t, pick_f, decide_eq_true_eq, b_add, b_sub, b_subB, b_addB, b_mul, b_div, b_mod, b_pow, b_addT, b_mulT, c_eq, c_ne, c_lt, c_le, c_gt, c_ge, c_isB, c_isNotB, c_isN, c_isNotN, x_tup, a2_0, a2_1, a3_0, a3_1, a3_2, a4_0, a4_1, a4_2, a4_3, t_abs, t_int, t_intB, t_len, t_min, t_max, t_tupT, t_lstT, ty_non, ty_bl, ty_int, ty_str, ty_tup, is_ii, is_ib, is_bi, is_bb, is_tt, is_lt, is_it, is_nt, is_st, is_ni, is_si, is_ti, is_li, Bool.not_true, Bool.not_false, Bool.false_eq_true, if_true, if_false, abs_eq, i_v, i_tup, i_lst, i_call, i_ix, i_sl, it_tup, same_nil', lc_nil, lc_cons, oc_some, oc_none, w_lcB, fo_nil, fo_cons, ts_nil, ts_cons, t_all, t_any, t_tup, wipe, bls, q_ii, q_bb, q_2, q_3, BEq.rfl, beq_iff_eq, Int.reduceBEq, Int.reduceLT, Int.reduceLE, Int.reduceNeg, Int.reduceEq, List.all_cons, List.all_nil, id, Bool.and_true, Bool.true_and, Bool.and_self, Int.cast_ofNat_Int, checkboth_e _ h h', k1, k2, k3, made_e _ _ _ _ _ (n := s2 + s4) (by omega) hw]
  exact hQ
end K02
end

section
set_option linter.all false
set_option autoImplicit false
set_option maxRecDepth 20000
namespace G
theorem natAbs_sg (d x : Int) : (sg d * x).natAbs = x.natAbs := by unfold sg; split <;> omega
theorem ediv_sm {n : Nat} {x g : Int} (h : x.natAbs < 2 ^ n) : (x / g).natAbs < 2 ^ n := Nat.lt_of_le_of_lt (Int.natAbs_ediv_le_natAbs x g) h
instance (n : Nat) (x y w : Int) [h : Sm n x] : Sm n (m1 x y w) := ⟨ediv_sm (by rw [natAbs_sg]; exact h.lt)⟩
instance (n : Nat) (x y w : Int) [h : Sm n y] : Sm n (m2 x y w) := ⟨ediv_sm (by rw [natAbs_sg]; exact h.lt)⟩
instance (n : Nat) (x y w : Int) [h : Sm n w] : Sm n (m3 x y w) := ⟨ediv_sm (by rw [natAbs_sg]; exact h.lt)⟩
instance (n : Nat) (x y : Int) [h : Sm n x] : Sm n (fr1 x y) := ⟨ediv_sm (by rw [natAbs_sg]; exact h.lt)⟩
instance (n : Nat) (x y : Int) [h : Sm n y] : Sm n (fr2 x y) := ⟨ediv_sm (by rw [natAbs_sg]; exact h.lt)⟩
/-- bounded -/
structure B3 (x y w : Int) : Prop where
  x : Sm 1000 x
  y : Sm 1000 y
  w : Sm 1000 w
theorem B3.of {x y w : Int} {a b c : Nat} [h1 : Sm a x] [h2 : Sm b y] [h3 : Sm c w] (h : a ≤ 1000 ∧ b ≤ 1000 ∧ c ≤ 1000) : B3 x y w := ⟨h1.mono h.1, h2.mono h.2.1, h3.mono h.2.2⟩
def sgn (i : Int) : Int := b2i (decide (0 < i)) - b2i (decide (i < 0))
theorem sgn_scale {k i : Int} (h : 0 < k) : sgn (k * i) = sgn i := by
  unfold sgn
  have e1 : (0 < k * i) = (0 < i) := by
    rw [eq_iff_iff]
    exact ⟨fun z => Int.lt_of_mul_lt_mul_left (a := k) (by rw [Int.mul_zero]; exact z) (by omega), fun z => Int.mul_pos h z⟩
  have e2 : (k * i < 0) = (i < 0) := by
    rw [eq_iff_iff]
    exact ⟨fun z => Int.lt_of_mul_lt_mul_left (a := k) (by rw [Int.mul_zero]; exact z) (by omega), fun z => Int.mul_neg_of_pos_of_neg h z⟩
  simp only [e1, e2]
theorem sgn_neg (i : Int) : sgn (-i) = -sgn i := by
  unfold sgn b2i
  by_cases h1 : 0 < i
  · have : ¬ (i < 0) := by omega
    simp [h1, this]
  · by_cases h2 : i < 0
    · simp [h1, h2]
    · have : i = 0 := by omega
      subst this; rfl
theorem sgn_if (i : Int) : (if 0 < i then (1 : Int) else if i < 0 then -1 else 0) = sgn i := by
  unfold sgn b2i
  by_cases h1 : 0 < i
  · have : ¬ (i < 0) := by omega
    simp [h1, this]
  · by_cases h2 : i < 0
    · simp [h1, h2]
    · simp [h1, h2]
/-- which of two is ahead -/
def cmpv (x y w x' y' w' : Int) : Int := if x * w' ≠ x' * w then (if x * w' < x' * w then -1 else 1) else if y * w' ≠ y' * w then (if y * w' < y' * w then -1 else 1) else 0
def det (x0 y0 w0 x1 y1 w1 x2 y2 w2 : Int) : Int := x0 * (y1 * w2 - w1 * y2) - y0 * (x1 * w2 - w1 * x2) + w0 * (x1 * y2 - y1 * x2)
end G
namespace K02
open G
theorem compared_e (k : Nat) {x y w x' y' w' : Int} (hb : B3 x y w) (hb' : B3 x' y' w') (c : Cells) : callD T (k + 1) "compared" [pt x y w, pt x' y' w'] c = .ok (.int (cmpv x y w x' y' w')) c := by
  obtain ⟨_, _, _⟩ := hb
  obtain ⟨_, _, _⟩ := hb'
  refine eq_of fun Q E hQ => call_body (fn := fn_compared) rfl rfl ?_
  unfold fn_compared
  show wS (dSs _ _ [some (pt x y w), some (pt x' y' w'), none, none, none] c) _
  simp (decide := true) only [ss_cons, ss_nil, s_set, s_ret, s_retN, s_expr, s_ife, s_raise, s_cnt, s_brk, s_pass, s_setIx, s_for, s_foS, s_augA, s_augS, e_k, e_v, e_tup, e_lst, e_call, e_blt, e_cmp, e_bin, e_neg, e_and, e_or, e_not, e_ite, e_chain, e_ix, e_isi, e_meth, e_sl, e_lam, e_lc, es_cons, es_nil, o_no, List.getElem?_cons_zero, List.getElem?_cons_succ, wO_some, asg_t, asgs_c, asgs_n, asg_v, Option.bind_some, Option.map_some, wA_some, wI_int, wB_some, wT_bl, wTy_some, wBs_some, wN_some, wP_some, wR_ok, List.length_cons, List.length_nil, List.set_cons_zero, List.set_cons_succ, lim, Nat.reduceAdd, Nat.reduceLeDiff, true_and, and_true, tr_bl, tr_int, tr_tup, tr_non, pick_some, pick_t, pick_f, decide_eq_true_eq, b_add, b_sub, b_subB, b_addB, b_mul, b_div, b_mod, b_pow, b_addT, b_mulT, c_eq, c_ne, c_lt, c_le, c_gt, c_ge, c_isB, c_isNotB, c_isN, c_isNotN, x_tup, a2_0, a2_1, a3_0, a3_1, a3_2, a4_0, a4_1, a4_2, a4_3, t_abs, t_int, t_intB, t_len, t_min, t_max, t_tupT, t_lstT, ty_non, ty_bl, ty_int, ty_str, ty_tup, is_ii, is_ib, is_bi, is_bb, is_tt, is_lt, is_it, is_nt, is_st, is_ni, is_si, is_ti, is_li, Bool.not_true, Bool.not_false, Bool.false_eq_true, if_true, if_false, abs_eq, i_v, i_tup, i_lst, i_call, i_ix, i_sl, it_tup, same_nil', lc_nil, lc_cons, oc_some, oc_none, w_lcB, fo_nil, fo_cons, ts_nil, ts_cons, t_all, t_any, t_tup, wipe, bls, q_ii, q_bb, q_2, q_3, BEq.rfl, beq_iff_eq, Int.reduceBEq, Int.reduceLT, Int.reduceLE, Int.reduceNeg, Int.reduceEq, List.all_cons, List.all_nil, id, Bool.and_true, Bool.true_and, Bool.and_self, Int.cast_ofNat_Int, mulOk_sm]
  unfold cmpv at hQ
  grind
theorem lcompared_e (k : Nat) {x y w x' y' w' : Int} (hb : B3 x y w) (hb' : B3 x' y' w') (c : Cells) : callD T (k + 1) "_law_compared" [pt x y w, pt x' y' w'] c = .ok (.int (cmpv x y w x' y' w')) c := by
  obtain ⟨_, _, _⟩ := hb
  obtain ⟨_, _, _⟩ := hb'
  refine eq_of fun Q E hQ => call_body (fn := fn__law_compared) rfl rfl ?_
  unfold fn__law_compared
  show wS (dSs _ _ [some (pt x y w), some (pt x' y' w'), none] c) _
  simp (decide := true) only [ss_cons, ss_nil, s_set, s_ret, s_retN, s_expr, s_ife, s_raise, s_cnt, s_brk, s_pass, s_setIx, s_for, s_foS, s_augA, s_augS, e_k, e_v, e_tup, e_lst, e_call, e_blt, e_cmp, e_bin, e_neg, e_and, e_or, e_not, e_ite, e_chain, e_ix, e_isi, e_meth, e_sl, e_lam, e_lc, es_cons, es_nil, o_no, List.getElem?_cons_zero, List.getElem?_cons_succ, wO_some, asg_t, asgs_c, asgs_n, asg_v, Option.bind_some, Option.map_some, wA_some, wI_int, wB_some, wT_bl, wTy_some, wBs_some, wN_some, wP_some, wR_ok, List.length_cons, List.length_nil, List.set_cons_zero, List.set_cons_succ, lim, Nat.reduceAdd, Nat.reduceLeDiff, true_and, and_true, tr_bl, tr_int, tr_tup, tr_non, pick_some, pick_t, pick_f, decide_eq_true_eq, b_add, b_sub, b_subB, b_addB, b_mul, b_div, b_mod, b_pow, b_addT, b_mulT, c_eq, c_ne, c_lt, c_le, c_gt, c_ge, c_isB, c_isNotB, c_isN, c_isNotN, x_tup, a2_0, a2_1, a3_0, a3_1, a3_2, a4_0, a4_1, a4_2, a4_3, t_abs, t_int, t_intB, t_len, t_min, t_max, t_tupT, t_lstT, ty_non, ty_bl, ty_int, ty_str, ty_tup, is_ii, is_ib, is_bi, is_bb, is_tt, is_lt, is_it, is_nt, is_st, is_ni, is_si, is_ti, is_li, Bool.not_true, Bool.not_false, Bool.false_eq_true, if_true, if_false, abs_eq, i_v, i_tup, i_lst, i_call, i_ix, i_sl, it_tup, same_nil', lc_nil, lc_cons, oc_some, oc_none, w_lcB, fo_nil, fo_cons, ts_nil, ts_cons, t_all, t_any, t_tup, wipe, bls, q_ii, q_bb, q_2, q_3, BEq.rfl, beq_iff_eq, Int.reduceBEq, Int.reduceLT, Int.reduceLE, Int.reduceNeg, Int.reduceEq, List.all_cons, List.all_nil, id, Bool.and_true, Bool.true_and, Bool.and_self, Int.cast_ofNat_Int, mulOk_sm]
  unfold cmpv at hQ
  grind
theorem side_e (k : Nat) {x0 y0 w0 x1 y1 w1 x2 y2 w2 : Int} (h0 : B3 x0 y0 w0) (h1 : B3 x1 y1 w1) (h2 : B3 x2 y2 w2) (c : Cells) :
    callD T (k + 1) "side" [pt x0 y0 w0, pt x1 y1 w1, pt x2 y2 w2] c = .ok (.int (sgn (det x0 y0 w0 x1 y1 w1 x2 y2 w2))) c := by
  obtain ⟨_, _, _⟩ := h0
  obtain ⟨_, _, _⟩ := h1
  obtain ⟨_, _, _⟩ := h2
  refine eq_of fun Q E hQ => call_body (fn := fn_side) rfl rfl ?_
  unfold fn_side
  show wS (dSs _ _ [some (pt x0 y0 w0), some (pt x1 y1 w1), some (pt x2 y2 w2), none] c) _
  simp (decide := true) only [ss_cons, ss_nil, s_set, s_ret, s_retN, s_expr, s_ife, s_raise, s_cnt, s_brk, s_pass, s_setIx, s_for, s_foS, s_augA, s_augS, e_k, e_v, e_tup, e_lst, e_call, e_blt, e_cmp, e_bin, e_neg, e_and, e_or, e_not, e_ite, e_chain, e_ix, e_isi, e_meth, e_sl, e_lam, e_lc, es_cons, es_nil, o_no, List.getElem?_cons_zero, List.getElem?_cons_succ, wO_some, asg_t, asgs_c, asgs_n, asg_v, Option.bind_some, Option.map_some, wA_some, wI_int, wB_some, wT_bl, wTy_some, wBs_some, wN_some, wP_some, wR_ok, List.length_cons, List.length_nil, List.set_cons_zero, List.set_cons_succ, lim, Nat.reduceAdd, Nat.reduceLeDiff, true_and, and_true, tr_bl, tr_int, tr_tup, tr_non, pick_some, pick_t, pick_f, decide_eq_true_eq, b_add, b_sub, b_subB, b_addB, b_mul, b_div, b_mod, b_pow, b_addT, b_mulT, c_eq, c_ne, c_lt, c_le, c_gt, c_ge, c_isB, c_isNotB, c_isN, c_isNotN, x_tup, a2_0, a2_1, a3_0, a3_1, a3_2, a4_0, a4_1, a4_2, a4_3, t_abs, t_int, t_intB, t_len, t_min, t_max, t_tupT, t_lstT, ty_non, ty_bl, ty_int, ty_str, ty_tup, is_ii, is_ib, is_bi, is_bb, is_tt, is_lt, is_it, is_nt, is_st, is_ni, is_si, is_ti, is_li, Bool.not_true, Bool.not_false, Bool.false_eq_true, if_true, if_false, abs_eq, i_v, i_tup, i_lst, i_call, i_ix, i_sl, it_tup, same_nil', lc_nil, lc_cons, oc_some, oc_none, w_lcB, fo_nil, fo_cons, ts_nil, ts_cons, t_all, t_any, t_tup, wipe, bls, q_ii, q_bb, q_2, q_3, BEq.rfl, beq_iff_eq, Int.reduceBEq, Int.reduceLT, Int.reduceLE, Int.reduceNeg, Int.reduceEq, List.all_cons, List.all_nil, id, Bool.and_true, Bool.true_and, Bool.and_self, Int.cast_ofNat_Int, mulOk_sm]
  exact hQ
theorem lside_e (k : Nat) {x0 y0 w0 x1 y1 w1 x2 y2 w2 : Int} (h0 : B3 x0 y0 w0) (h1 : B3 x1 y1 w1) (h2 : B3 x2 y2 w2) (hw : 0 < w0) (c : Cells) :
    callD T (k + 1) "_law_side" [pt x0 y0 w0, pt x1 y1 w1, pt x2 y2 w2] c = .ok (.int (sgn (det x0 y0 w0 x1 y1 w1 x2 y2 w2))) c := by
  obtain ⟨_, _, _⟩ := h0
  obtain ⟨_, _, _⟩ := h1
  obtain ⟨_, _, _⟩ := h2
  refine eq_of fun Q E hQ => call_body (fn := fn__law_side) rfl rfl ?_
  unfold fn__law_side
  show wS (dSs _ _ [some (pt x0 y0 w0), some (pt x1 y1 w1), some (pt x2 y2 w2), none] c) _
  simp (decide := true) only [ss_cons, ss_nil, s_set, s_ret, s_retN, s_expr, s_ife, s_raise, s_cnt, s_brk, s_pass, s_setIx, s_for, s_foS, s_augA, s_augS, e_k, e_v, e_tup, e_lst, e_call, e_blt, e_cmp, e_bin, e_neg, e_and, e_or, e_not, e_ite, e_chain, e_ix, e_isi, e_meth, e_sl, e_lam, e_lc, es_cons, es_nil, o_no, List.getElem?_cons_zero, List.getElem?_cons_succ, wO_some, asg_t, asgs_c, asgs_n, asg_v, Option.bind_some, Option.map_some, wA_some, wI_int, wB_some, wT_bl, wTy_some, wBs_some, wN_some, wP_some, wR_ok, List.length_cons, List.length_nil, List.set_cons_zero, List.set_cons_succ, lim, Nat.reduceAdd, Nat.reduceLeDiff, true_and, and_true, tr_bl, tr_int, tr_tup, tr_non, pick_some, pick_t, pick_f, decide_eq_true_eq, b_add, b_sub, b_subB, b_addB, b_mul, b_div, b_mod, b_pow, b_addT, b_mulT, c_eq, c_ne, c_lt, c_le, c_gt, c_ge, c_isB, c_isNotB, c_isN, c_isNotN, x_tup, a2_0, a2_1, a3_0, a3_1, a3_2, a4_0, a4_1, a4_2, a4_3, t_abs, t_int, t_intB, t_len, t_min, t_max, t_tupT, t_lstT, ty_non, ty_bl, ty_int, ty_str, ty_tup, is_ii, is_ib, is_bi, is_bb, is_tt, is_lt, is_it, is_nt, is_st, is_ni, is_si, is_ti, is_li, Bool.not_true, Bool.not_false, Bool.false_eq_true, if_true, if_false, abs_eq, i_v, i_tup, i_lst, i_call, i_ix, i_sl, it_tup, same_nil', lc_nil, lc_cons, oc_some, oc_none, w_lcB, fo_nil, fo_cons, ts_nil, ts_cons, t_all, t_any, t_tup, wipe, bls, q_ii, q_bb, q_2, q_3, BEq.rfl, beq_iff_eq, Int.reduceBEq, Int.reduceLT, Int.reduceLE, Int.reduceNeg, Int.reduceEq, List.all_cons, List.all_nil, id, Bool.and_true, Bool.true_and, Bool.and_self, Int.cast_ofNat_Int, mulOk_sm]
  have e : (x1 * w0 - x0 * w1) * (y2 * w0 - y0 * w2) - (y1 * w0 - y0 * w1) * (x2 * w0 - x0 * w2) = w0 * det x0 y0 w0 x1 y1 w1 x2 y2 w2 := by unfold det; grind
  rw [e]
  rw [← sgn_scale hw, ← sgn_if] at hQ
  grind
theorem ahead_e (k : Nat) {x y w x' y' w' : Int} (h : Pt x y w) (h' : Pt x' y' w') (hb : B3 x y w) (hb' : B3 x' y' w') (c : Cells) :
    callD T (k + 5) "ahead" [pt x y w, pt x' y' w'] c = .ok (.bl (decide (cmpv x y w x' y' w' < 0))) (c ++ [tr3] ++ [tr3]) := by
  refine eq_of fun Q E hQ => call_body (fn := fn_ahead) rfl rfl ?_
  unfold fn_ahead
  show wS (dSs _ _ [some (pt x y w), some (pt x' y' w')] c) _
  simp (decide := true) only [ss_cons, ss_nil, s_set, s_ret, s_retN, s_expr, s_ife, s_raise, s_cnt, s_brk, s_pass, s_setIx, s_for, s_foS, s_augA, s_augS, e_k, e_v, e_tup, e_lst, e_call, e_blt, e_cmp, e_bin, e_neg, e_and, e_or, e_not, e_ite, e_chain, e_ix, e_isi, e_meth, e_sl, e_lam, e_lc, es_cons, es_nil, o_no, List.getElem?_cons_zero, List.getElem?_cons_succ, wO_some, asg_t, asgs_c, asgs_n, asg_v, Option.bind_some, Option.map_some, wA_some, wI_int, wB_some, wT_bl, wTy_some, wBs_some, wN_some, wP_some, wR_ok, List.length_cons, List.length_nil, List.set_cons_zero, List.set_cons_succ, lim, Nat.reduceAdd, Nat.reduceLeDiff, true_and, and_true, tr_bl, tr_int, tr_tup, tr_non, pick_some, pick_t, pick_f, decide_eq_true_eq, b_add, b_sub, b_subB, b_addB, b_mul, b_div, b_mod, b_pow, b_addT, b_mulT, c_eq, c_ne, c_lt, c_le, c_gt, c_ge, c_isB, c_isNotB, c_isN, c_isNotN, x_tup, a2_0, a2_1, a3_0, a3_1, a3_2, a4_0, a4_1, a4_2, a4_3, t_abs, t_int, t_intB, t_len, t_min, t_max, t_tupT, t_lstT, ty_non, ty_bl, ty_int, ty_str, ty_tup, is_ii, is_ib, is_bi, is_bb, is_tt, is_lt, is_it, is_nt, is_st, is_ni, is_si, is_ti, is_li, Bool.not_true, Bool.not_false, Bool.false_eq_true, if_true, if_false, abs_eq, i_v, i_tup, i_lst, i_call, i_ix, i_sl, it_tup, same_nil', lc_nil, lc_cons, oc_some, oc_none, w_lcB, fo_nil, fo_cons, ts_nil, ts_cons, t_all, t_any, t_tup, wipe, bls, q_ii, q_bb, q_2, q_3, BEq.rfl, beq_iff_eq, Int.reduceBEq, Int.reduceLT, Int.reduceLE, Int.reduceNeg, Int.reduceEq, List.all_cons, List.all_nil, id, Bool.and_true, Bool.true_and, Bool.and_self, Int.cast_ofNat_Int, checkpoints_2 _ h h', compared_e _ hb hb']
  exact hQ
theorem turn_e (k : Nat) {x0 y0 w0 x1 y1 w1 x2 y2 w2 : Int} (p0 : Pt x0 y0 w0) (p1 : Pt x1 y1 w1) (p2 : Pt x2 y2 w2) (h0 : B3 x0 y0 w0) (h1 : B3 x1 y1 w1) (h2 : B3 x2 y2 w2) (c : Cells) :
    callD T (k + 5) "turn" [pt x0 y0 w0, pt x1 y1 w1, pt x2 y2 w2] c = .ok (.int (sgn (det x0 y0 w0 x1 y1 w1 x2 y2 w2))) (c ++ [tr3] ++ [tr3] ++ [tr3]) := by
  refine eq_of fun Q E hQ => call_body (fn := fn_turn) rfl rfl ?_
  unfold fn_turn
  show wS (dSs _ _ [some (pt x0 y0 w0), some (pt x1 y1 w1), some (pt x2 y2 w2)] c) _
  simp (decide := true) only [ss_cons, ss_nil, s_set, s_ret, s_retN, s_expr, s_ife, s_raise, s_cnt, s_brk, s_pass, s_setIx, s_for, s_foS, s_augA, s_augS, e_k, e_v, e_tup, e_lst, e_call, e_blt, e_cmp, e_bin, e_neg, e_and, e_or, e_not, e_ite, e_chain, e_ix, e_isi, e_meth, e_sl, e_lam, e_lc, es_cons, es_nil, o_no, List.getElem?_cons_zero, List.getElem?_cons_succ, wO_some, asg_t, asgs_c, asgs_n, asg_v, Option.bind_some, Option.map_some, wA_some, wI_int, wB_some, wT_bl, wTy_some, wBs_some, wN_some, wP_some, wR_ok, List.length_cons, List.length_nil, List.set_cons_zero, List.set_cons_succ, lim, Nat.reduceAdd, Nat.reduceLeDiff, true_and, and_true, tr_bl, tr_int, tr_tup, tr_non, pick_some, pick_t, pick_f, decide_eq_true_eq, b_add, b_sub, b_subB, b_addB, b_mul, b_div, b_mod, b_pow, b_addT, b_mulT, c_eq, c_ne, c_lt, c_le, c_gt, c_ge, c_isB, c_isNotB, c_isN, c_isNotN, x_tup, a2_0, a2_1, a3_0, a3_1, a3_2, a4_0, a4_1, a4_2, a4_3, t_abs, t_int, t_intB, t_len, t_min, t_max, t_tupT, t_lstT, ty_non, ty_bl, ty_int, ty_str, ty_tup, is_ii, is_ib, is_bi, is_bb, is_tt, is_lt, is_it, is_nt, is_st, is_ni, is_si, is_ti, is_li, Bool.not_true, Bool.not_false, Bool.false_eq_true, if_true, if_false, abs_eq, i_v, i_tup, i_lst, i_call, i_ix, i_sl, it_tup, same_nil', lc_nil, lc_cons, oc_some, oc_none, w_lcB, fo_nil, fo_cons, ts_nil, ts_cons, t_all, t_any, t_tup, wipe, bls, q_ii, q_bb, q_2, q_3, BEq.rfl, beq_iff_eq, Int.reduceBEq, Int.reduceLT, Int.reduceLE, Int.reduceNeg, Int.reduceEq, List.all_cons, List.all_nil, id, Bool.and_true, Bool.true_and, Bool.and_self, Int.cast_ofNat_Int, checkpoints_3 _ p0 p1 p2, side_e _ h0 h1 h2]
  exact hQ
/-- the square of how far -/
abbrev sqn (x0 y0 w0 x1 y1 w1 : Int) : Int := (x0 * w1 - x1 * w0) * (x0 * w1 - x1 * w0) + (y0 * w1 - y1 * w0) * (y0 * w1 - y1 * w0)
abbrev sqd (w0 w1 : Int) : Int := w0 * w1 * (w0 * w1)
theorem square_e (k : Nat) {x0 y0 w0 x1 y1 w1 : Int} (h0 : B3 x0 y0 w0) (h1 : B3 x1 y1 w1) (hw0 : 0 < w0) (hw1 : 0 < w1) (c : Cells) :
    callD T (k + 3) "square" [pt x0 y0 w0, pt x1 y1 w1] c = .ok (f2 (fr1 (sqn x0 y0 w0 x1 y1 w1) (sqd w0 w1)) (fr2 (sqn x0 y0 w0 x1 y1 w1) (sqd w0 w1))) c := by
  obtain ⟨_, _, _⟩ := h0
  obtain ⟨_, _, _⟩ := h1
  refine eq_of fun Q E hQ => call_body (fn := fn_square) rfl rfl ?_
  unfold fn_square
  show wS (dSs _ _ [some (pt x0 y0 w0), some (pt x1 y1 w1), none, none, none] c) _
  have hd : sqd w0 w1 ≠ 0 := by have := Int.mul_pos (Int.mul_pos hw0 hw1) (Int.mul_pos hw0 hw1); unfold sqd; omega
  have hf := fun c => fraction_e k (sqn x0 y0 w0 x1 y1 w1) (sqd w0 w1) c (by decide) hd
  unfold sqn sqd at hf
  simp (decide := true) only [ss_cons, ss_nil, s_set, s_ret, s_retN, s_expr, s_ife, s_raise, s_cnt, s_brk, s_pass, s_setIx, s_for, s_foS, s_augA, s_augS, e_k, e_v, e_tup, e_lst, e_call, e_blt, e_cmp, e_bin, e_neg, e_and, e_or, e_not, e_ite, e_chain, e_ix, e_isi, e_meth, e_sl, e_lam, e_lc, es_cons, es_nil, o_no, List.getElem?_cons_zero, List.getElem?_cons_succ, wO_some, asg_t, asgs_c, asgs_n, asg_v, Option.bind_some, Option.map_some, wA_some, wI_int, wB_some, wT_bl, wTy_some, wBs_some, wN_some, wP_some, wR_ok, List.length_cons, List.length_nil, List.set_cons_zero, List.set_cons_succ, lim, Nat.reduceAdd, Nat.reduceLeDiff, true_and, and_true, tr_bl, tr_int, tr_tup, tr_non, pick_some, pick_t, pick_f, decide_eq_true_eq, b_add, b_sub, b_subB, b_addB, b_mul, b_div, b_mod, b_pow, b_addT, b_mulT, c_eq, c_ne, c_lt, c_le, c_gt, c_ge, c_isB, c_isNotB, c_isN, c_isNotN, x_tup, a2_0, a2_1, a3_0, a3_1, a3_2, a4_0, a4_1, a4_2, a4_3, t_abs, t_int, t_intB, t_len, t_min, t_max, t_tupT, t_lstT, ty_non, ty_bl, ty_int, ty_str, ty_tup, is_ii, is_ib, is_bi, is_bb, is_tt, is_lt, is_it, is_nt, is_st, is_ni, is_si, is_ti, is_li, Bool.not_true, Bool.not_false, Bool.false_eq_true, if_true, if_false, abs_eq, i_v, i_tup, i_lst, i_call, i_ix, i_sl, it_tup, same_nil', lc_nil, lc_cons, oc_some, oc_none, w_lcB, fo_nil, fo_cons, ts_nil, ts_cons, t_all, t_any, t_tup, wipe, bls, q_ii, q_bb, q_2, q_3, BEq.rfl, beq_iff_eq, Int.reduceBEq, Int.reduceLT, Int.reduceLE, Int.reduceNeg, Int.reduceEq, List.all_cons, List.all_nil, id, Bool.and_true, Bool.true_and, Bool.and_self, Int.cast_ofNat_Int, mulOk_sm, hf]
  exact hQ
theorem length_e (k : Nat) {x0 y0 w0 x1 y1 w1 : Int} (p0 : Pt x0 y0 w0) (p1 : Pt x1 y1 w1) (h0 : B3 x0 y0 w0) (h1 : B3 x1 y1 w1) (c : Cells) :
    callD T (k + 5) "length" [pt x0 y0 w0, pt x1 y1 w1] c = .ok (f2 (fr1 (sqn x0 y0 w0 x1 y1 w1) (sqd w0 w1)) (fr2 (sqn x0 y0 w0 x1 y1 w1) (sqd w0 w1))) (c ++ [tr3] ++ [tr3]) := by
  refine eq_of fun Q E hQ => call_body (fn := fn_length) rfl rfl ?_
  unfold fn_length
  show wS (dSs _ _ [some (pt x0 y0 w0), some (pt x1 y1 w1)] c) _
  simp (decide := true) only [ss_cons, ss_nil, s_set, s_ret, s_retN, s_expr, s_ife, s_raise, s_cnt, s_brk, s_pass, s_setIx, s_for, s_foS, s_augA, s_augS, e_k, e_v, e_tup, e_lst, e_call, e_blt, e_cmp, e_bin, e_neg, e_and, e_or, e_not, e_ite, e_chain, e_ix, e_isi, e_meth, e_sl, e_lam, e_lc, es_cons, es_nil, o_no, List.getElem?_cons_zero, List.getElem?_cons_succ, wO_some, asg_t, asgs_c, asgs_n, asg_v, Option.bind_some, Option.map_some, wA_some, wI_int, wB_some, wT_bl, wTy_some, wBs_some, wN_some, wP_some, wR_ok, List.length_cons, List.length_nil, List.set_cons_zero, List.set_cons_succ, lim, Nat.reduceAdd, Nat.reduceLeDiff, true_and, and_true, tr_bl, tr_int, tr_tup, tr_non, pick_some, pick_t, pick_f, decide_eq_true_eq, b_add, b_sub, b_subB, b_addB, b_mul, b_div, b_mod, b_pow, b_addT, b_mulT, c_eq, c_ne, c_lt, c_le, c_gt, c_ge, c_isB, c_isNotB, c_isN, c_isNotN, x_tup, a2_0, a2_1, a3_0, a3_1, a3_2, a4_0, a4_1, a4_2, a4_3, t_abs, t_int, t_intB, t_len, t_min, t_max, t_tupT, t_lstT, ty_non, ty_bl, ty_int, ty_str, ty_tup, is_ii, is_ib, is_bi, is_bb, is_tt, is_lt, is_it, is_nt, is_st, is_ni, is_si, is_ti, is_li, Bool.not_true, Bool.not_false, Bool.false_eq_true, if_true, if_false, abs_eq, i_v, i_tup, i_lst, i_call, i_ix, i_sl, it_tup, same_nil', lc_nil, lc_cons, oc_some, oc_none, w_lcB, fo_nil, fo_cons, ts_nil, ts_cons, t_all, t_any, t_tup, wipe, bls, q_ii, q_bb, q_2, q_3, BEq.rfl, beq_iff_eq, Int.reduceBEq, Int.reduceLT, Int.reduceLE, Int.reduceNeg, Int.reduceEq, List.all_cons, List.all_nil, id, Bool.and_true, Bool.true_and, Bool.and_self, Int.cast_ofNat_Int, checkpoints_2 _ p0 p1, square_e _ h0 h1 p0.pos p1.pos]
  exact hQ
def liesv (x0 y0 w0 x1 y1 w1 x2 y2 w2 : Int) : Bool := if sgn (det x0 y0 w0 x1 y1 w1 x2 y2 w2) ≠ 0 then false else
  if cmpv x0 y0 w0 x1 y1 w1 ≤ 0 then decide (cmpv x0 y0 w0 x2 y2 w2 ≤ 0) && decide (cmpv x2 y2 w2 x1 y1 w1 ≤ 0) else decide (cmpv x1 y1 w1 x2 y2 w2 ≤ 0) && decide (cmpv x2 y2 w2 x0 y0 w0 ≤ 0)
theorem lies_e (k : Nat) {x0 y0 w0 x1 y1 w1 x2 y2 w2 : Int} (h0 : B3 x0 y0 w0) (h1 : B3 x1 y1 w1) (h2 : B3 x2 y2 w2) (c : Cells) :
    callD T (k + 2) "lies" [pt x0 y0 w0, pt x1 y1 w1, pt x2 y2 w2] c = .ok (.bl (liesv x0 y0 w0 x1 y1 w1 x2 y2 w2)) c := by
  refine eq_of fun Q E hQ => call_body (fn := fn_lies) rfl rfl ?_
  unfold fn_lies
  show wS (dSs _ _ [some (pt x0 y0 w0), some (pt x1 y1 w1), some (pt x2 y2 w2), none, none] c) _
  unfold liesv at hQ
  simp (decide := true) only [ss_cons, ss_nil, s_set, s_ret, s_retN, s_expr, s_ife, s_raise, s_cnt, s_brk, s_pass, s_setIx, s_for, s_foS, s_augA, s_augS, e_k, e_v, e_tup, e_lst, e_call, e_blt, e_cmp, e_bin, e_neg, e_and, e_or, e_not, e_ite, e_chain, e_ix, e_isi, e_meth, e_sl, e_lam, e_lc, es_cons, es_nil, o_no, List.getElem?_cons_zero, List.getElem?_cons_succ, wO_some, asg_t, asgs_c, asgs_n, asg_v, Option.bind_some, Option.map_some, wA_some, wI_int, wB_some, wT_bl, wTy_some, wBs_some, wN_some, wP_some, wR_ok, List.length_cons, List.length_nil, List.set_cons_zero, List.set_cons_succ, lim, Nat.reduceAdd, Nat.reduceLeDiff, true_and, and_true, tr_bl, tr_int, tr_tup, tr_non, pick_some, pick_t, pick_f, decide_eq_true_eq, b_add, b_sub, b_subB, b_addB, b_mul, b_div, b_mod, b_pow, b_addT, b_mulT, c_eq, c_ne, c_lt, c_le, c_gt, c_ge, c_isB, c_isNotB, c_isN, c_isNotN, x_tup, a2_0, a2_1, a3_0, a3_1, a3_2, a4_0, a4_1, a4_2, a4_3, t_abs, t_int, t_intB, t_len, t_min, t_max, t_tupT, t_lstT, ty_non, ty_bl, ty_int, ty_str, ty_tup, is_ii, is_ib, is_bi, is_bb, is_tt, is_lt, is_it, is_nt, is_st, is_ni, is_si, is_ti, is_li, Bool.not_true, Bool.not_false, Bool.false_eq_true, if_true, if_false, abs_eq, i_v, i_tup, i_lst, i_call, i_ix, i_sl, it_tup, same_nil', lc_nil, lc_cons, oc_some, oc_none, w_lcB, fo_nil, fo_cons, ts_nil, ts_cons, t_all, t_any, t_tup, wipe, bls, q_ii, q_bb, q_2, q_3, BEq.rfl, beq_iff_eq, Int.reduceBEq, Int.reduceLT, Int.reduceLE, Int.reduceNeg, Int.reduceEq, List.all_cons, List.all_nil, id, Bool.and_true, Bool.true_and, Bool.and_self, Int.cast_ofNat_Int, side_e _ h0 h1 h2, compared_e _ h0 h1, compared_e _ h0 h2, compared_e _ h1 h2, compared_e _ h2 h1, compared_e _ h2 h0]
  grind
theorem llies_e (k : Nat) {x0 y0 w0 x1 y1 w1 x2 y2 w2 : Int} (h0 : B3 x0 y0 w0) (h1 : B3 x1 y1 w1) (h2 : B3 x2 y2 w2) (hw : 0 < w0) (c : Cells) :
    callD T (k + 2) "_law_lies" [pt x0 y0 w0, pt x1 y1 w1, pt x2 y2 w2] c = .ok (.bl (liesv x0 y0 w0 x1 y1 w1 x2 y2 w2)) c := by
  refine eq_of fun Q E hQ => call_body (fn := fn__law_lies) rfl rfl ?_
  unfold fn__law_lies
  show wS (dSs _ _ [some (pt x0 y0 w0), some (pt x1 y1 w1), some (pt x2 y2 w2), none, none] c) _
  unfold liesv at hQ
  simp (decide := true) only [ss_cons, ss_nil, s_set, s_ret, s_retN, s_expr, s_ife, s_raise, s_cnt, s_brk, s_pass, s_setIx, s_for, s_foS, s_augA, s_augS, e_k, e_v, e_tup, e_lst, e_call, e_blt, e_cmp, e_bin, e_neg, e_and, e_or, e_not, e_ite, e_chain, e_ix, e_isi, e_meth, e_sl, e_lam, e_lc, es_cons, es_nil, o_no, List.getElem?_cons_zero, List.getElem?_cons_succ, wO_some, asg_t, asgs_c, asgs_n, asg_v, Option.bind_some, Option.map_some, wA_some, wI_int, wB_some, wT_bl, wTy_some, wBs_some, wN_some, wP_some, wR_ok, List.length_cons, List.length_nil, List.set_cons_zero, List.set_cons_succ, lim, Nat.reduceAdd, Nat.reduceLeDiff, true_and, and_true, tr_bl, tr_int, tr_tup, tr_non, pick_some, pick_t, pick_f, decide_eq_true_eq, b_add, b_sub, b_subB, b_addB, b_mul, b_div, b_mod, b_pow, b_addT, b_mulT, c_eq, c_ne, c_lt, c_le, c_gt, c_ge, c_isB, c_isNotB, c_isN, c_isNotN, x_tup, a2_0, a2_1, a3_0, a3_1, a3_2, a4_0, a4_1, a4_2, a4_3, t_abs, t_int, t_intB, t_len, t_min, t_max, t_tupT, t_lstT, ty_non, ty_bl, ty_int, ty_str, ty_tup, is_ii, is_ib, is_bi, is_bb, is_tt, is_lt, is_it, is_nt, is_st, is_ni, is_si, is_ti, is_li, Bool.not_true, Bool.not_false, Bool.false_eq_true, if_true, if_false, abs_eq, i_v, i_tup, i_lst, i_call, i_ix, i_sl, it_tup, same_nil', lc_nil, lc_cons, oc_some, oc_none, w_lcB, fo_nil, fo_cons, ts_nil, ts_cons, t_all, t_any, t_tup, wipe, bls, q_ii, q_bb, q_2, q_3, BEq.rfl, beq_iff_eq, Int.reduceBEq, Int.reduceLT, Int.reduceLE, Int.reduceNeg, Int.reduceEq, List.all_cons, List.all_nil, id, Bool.and_true, Bool.true_and, Bool.and_self, Int.cast_ofNat_Int, lside_e _ h0 h1 h2 hw, lcompared_e _ h0 h1, lcompared_e _ h0 h2, lcompared_e _ h1 h2, lcompared_e _ h2 h1, lcompared_e _ h2 h0]
  grind
theorem between_e (k : Nat) {x0 y0 w0 x1 y1 w1 x2 y2 w2 : Int} (p0 : Pt x0 y0 w0) (p1 : Pt x1 y1 w1) (p2 : Pt x2 y2 w2) (h0 : B3 x0 y0 w0) (h1 : B3 x1 y1 w1) (h2 : B3 x2 y2 w2) (c : Cells) :
    callD T (k + 5) "between" [pt x0 y0 w0, pt x1 y1 w1, pt x2 y2 w2] c = .ok (.bl (liesv x0 y0 w0 x1 y1 w1 x2 y2 w2)) (c ++ [tr3] ++ [tr3] ++ [tr3]) := by
  refine eq_of fun Q E hQ => call_body (fn := fn_between) rfl rfl ?_
  unfold fn_between
  show wS (dSs _ _ [some (pt x0 y0 w0), some (pt x1 y1 w1), some (pt x2 y2 w2)] c) _
  simp (decide := true) only [ss_cons, ss_nil, s_set, s_ret, s_retN, s_expr, s_ife, s_raise, s_cnt, s_brk, s_pass, s_setIx, s_for, s_foS, s_augA, s_augS, e_k, e_v, e_tup, e_lst, e_call, e_blt, e_cmp, e_bin, e_neg, e_and, e_or, e_not, e_ite, e_chain, e_ix, e_isi, e_meth, e_sl, e_lam, e_lc, es_cons, es_nil, o_no, List.getElem?_cons_zero, List.getElem?_cons_succ, wO_some, asg_t, asgs_c, asgs_n, asg_v, Option.bind_some, Option.map_some, wA_some, wI_int, wB_some, wT_bl, wTy_some, wBs_some, wN_some, wP_some, wR_ok, List.length_cons, List.length_nil, List.set_cons_zero, List.set_cons_succ, lim, Nat.reduceAdd, Nat.reduceLeDiff, true_and, and_true, tr_bl, tr_int, tr_tup, tr_non, pick_some, pick_t, pick_f, decide_eq_true_eq, b_add, b_sub, b_subB, b_addB, b_mul, b_div, b_mod, b_pow, b_addT, b_mulT, c_eq, c_ne, c_lt, c_le, c_gt, c_ge, c_isB, c_isNotB, c_isN, c_isNotN, x_tup, a2_0, a2_1, a3_0, a3_1, a3_2, a4_0, a4_1, a4_2, a4_3, t_abs, t_int, t_intB, t_len, t_min, t_max, t_tupT, t_lstT, ty_non, ty_bl, ty_int, ty_str, ty_tup, is_ii, is_ib, is_bi, is_bb, is_tt, is_lt, is_it, is_nt, is_st, is_ni, is_si, is_ti, is_li, Bool.not_true, Bool.not_false, Bool.false_eq_true, if_true, if_false, abs_eq, i_v, i_tup, i_lst, i_call, i_ix, i_sl, it_tup, same_nil', lc_nil, lc_cons, oc_some, oc_none, w_lcB, fo_nil, fo_cons, ts_nil, ts_cons, t_all, t_any, t_tup, wipe, bls, q_ii, q_bb, q_2, q_3, BEq.rfl, beq_iff_eq, Int.reduceBEq, Int.reduceLT, Int.reduceLE, Int.reduceNeg, Int.reduceEq, List.all_cons, List.all_nil, id, Bool.and_true, Bool.true_and, Bool.and_self, Int.cast_ofNat_Int, checkpoints_3 _ p0 p1 p2, lies_e _ h0 h1 h2]
  exact hQ
end K02
end

section
set_option linter.all false
set_option autoImplicit false
set_option maxRecDepth 20000
namespace G
theorem Mk.m_eq {x y w p q r : Int} (hw : w ≠ 0) (h : Mk x y w p q r) : m1 x y w = p ∧ m2 x y w = q ∧ m3 x y w = r := (m_ok x y hw).uniq hw h
theorem Fr.fr_eq {n d p q : Int} (hd : d ≠ 0) (h : Fr n d p q) : fr1 n d = p ∧ fr2 n d = q := (fr_ok n hd).uniq hd h
theorem Pt.m_self {x y w : Int} (h : Pt x y w) : m1 x y w = x ∧ m2 x y w = y ∧ m3 x y w = w := Mk.m_eq (by have := h.pos; omega) h.mk_self
/-- two fractions with one denominator make the point -/
theorem m_frs {X Y W p q p' q' : Int} (hw : W ≠ 0) (h : Fr X W p q) (h' : Fr Y W p' q') : m1 (p * q') (p' * q) (q * q') = m1 X Y W ∧ m2 (p * q') (p' * q) (q * q') = m2 X Y W ∧ m3 (p * q') (p' * q) (q * q') = m3 X Y W := by
  have hq : q * q' ≠ 0 := by have := Int.mul_pos h.pos h'.pos; omega
  have a := m_ok X Y hw
  refine Mk.m_eq hq ⟨a.pt, ?_, ?_⟩
  · have e1 := a.ex
    have e2 := h.eq
    refine Int.eq_of_mul_eq_mul_left hw ?_
    grind
  · have e1 := a.ey
    have e2 := h'.eq
    refine Int.eq_of_mul_eq_mul_left hw ?_
    grind
theorem g3_neg1 (x y w : Int) : g3 (-x) y w = g3 x y w := by unfold g3; rw [Int.neg_gcd]
theorem g3_neg2 (x y w : Int) : g3 x (-y) w = g3 x y w := by unfold g3; rw [Int.gcd_neg]
theorem g3_swap (x y w : Int) : g3 y x w = g3 x y w := by unfold g3; rw [Int.gcd_comm y x]
theorem Pt.mir {x y w : Int} (h : Pt x y w) : Pt (-x) y w := ⟨h.pos, by rw [g3_neg1]; exact h.cop⟩
theorem Pt.rot {x y w : Int} (h : Pt x y w) : Pt (-y) x w := ⟨h.pos, by rw [g3_neg1, g3_swap]; exact h.cop⟩
def rx (j x y : Int) : Int := if j = 0 then x else if j = 1 then -y else if j = 2 then -x else y
def ry (j x y : Int) : Int := if j = 0 then y else if j = 1 then x else if j = 2 then -y else -x
theorem mod4 (k : Int) : k % 4 = 0 ∨ k % 4 = 1 ∨ k % 4 = 2 ∨ k % 4 = 3 := by omega
theorem Pt.rots {x y w : Int} (h : Pt x y w) (k : Int) : Pt (rx (k % 4) x y) (ry (k % 4) x y) w := by
  rcases mod4 k with e | e | e | e <;> rw [e]
  · exact h
  · exact h.rot
  · exact h.rot.rot
  · have := h.rot.rot.rot
    rw [Int.neg_neg] at this
    exact this
instance (n m : Nat) (j x y : Int) [h : Sm n x] [k : Sm m y] : Sm (max n m) (rx j x y) := ⟨by
  have h1 := h.mono (Nat.le_max_left n m)
  have h2 := k.mono (Nat.le_max_right n m)
  have h1 := h1.lt
  have h2 := h2.lt
  unfold rx
  split
  · exact h1
  · split
    · rw [Int.natAbs_neg]; exact h2
    · split
      · rw [Int.natAbs_neg]; exact h1
      · exact h2⟩
instance (n m : Nat) (j x y : Int) [h : Sm n x] [k : Sm m y] : Sm (max n m) (ry j x y) := ⟨by
  have h1 := h.mono (Nat.le_max_left n m)
  have h2 := k.mono (Nat.le_max_right n m)
  have h1 := h1.lt
  have h2 := h2.lt
  unfold ry
  split
  · exact h2
  · split
    · exact h1
    · split
      · rw [Int.natAbs_neg]; exact h2
      · rw [Int.natAbs_neg]; exact h1⟩
theorem Fr.m_pt {x y w : Int} (hw : w ≠ 0) : Pt (m1 x y w) (m2 x y w) (m3 x y w) := (m_ok x y hw).pt
end G
namespace K02
open G
abbrev mp (X Y W : Int) : D := pt (m1 X Y W) (m2 X Y W) (m3 X Y W)
theorem ltsum_frs {X Y W : Int} (hw : W ≠ 0) : mp (fr1 X W * fr2 Y W) (fr1 Y W * fr2 X W) (fr2 X W * fr2 Y W) = mp X Y W := by
  obtain ⟨a, b, c⟩ := m_frs hw (fr_ok X hw) (fr_ok Y hw)
  unfold mp
  rw [a, b, c]
theorem middle_e (k : Nat) {x0 y0 w0 x1 y1 w1 : Int} (p0 : Pt x0 y0 w0) (p1 : Pt x1 y1 w1) (h0 : B3 x0 y0 w0) (h1 : B3 x1 y1 w1) (c : Cells) :
    callD T (k + 5) "middle" [pt x0 y0 w0, pt x1 y1 w1] c = .ok (mp (x0 * w1 + x1 * w0) (y0 * w1 + y1 * w0) (2 * w0 * w1)) (c ++ [tr3] ++ [tr3]) := by
  obtain ⟨_, _, _⟩ := h0
  obtain ⟨_, _, _⟩ := h1
  refine eq_of fun Q E hQ => call_body (fn := fn_middle) rfl rfl ?_
  unfold fn_middle
  show wS (dSs _ _ [some (pt x0 y0 w0), some (pt x1 y1 w1)] c) _
  have hw : 2 * w0 * w1 ≠ 0 := by have := Int.mul_pos (Int.mul_pos (by decide : (0 : Int) < 2) p0.pos) p1.pos; omega
  have hf := fun c => made_e (k + 2) (x0 * w1 + x1 * w0) (y0 * w1 + y1 * w0) (2 * w0 * w1) c (by decide) hw
  simp (decide := true) only [ss_cons, ss_nil, s_set, s_ret, s_retN, s_expr, s_ife, s_raise, s_cnt, s_brk, s_pass, s_setIx, s_for, s_foS, s_augA, s_augS, e_k, e_v, e_tup, e_lst, e_call, e_blt, e_cmp, e_bin, e_neg, e_and, e_or, e_not, e_ite, e_chain, e_ix, e_isi, e_meth, e_sl, e_lam, e_lc, es_cons, es_nil, o_no, List.getElem?_cons_zero, List.getElem?_cons_succ, wO_some, asg_t, asgs_c, asgs_n, asg_v, Option.bind_some, Option.map_some, wA_some, wI_int, wB_some, wT_bl, wTy_some, wBs_some, wN_some, wP_some, wR_ok, List.length_cons, List.length_nil, List.set_cons_zero, List.set_cons_succ, lim, Nat.reduceAdd, Nat.reduceLeDiff, true_and, and_true, tr_bl, tr_int, tr_tup, tr_non, pick_some, pick_t, pick_f, decide_eq_true_eq, b_add, b_sub, b_subB, b_addB, b_mul, b_div, b_mod, b_pow, b_addT, b_mulT, c_eq, c_ne, c_lt, c_le, c_gt, c_ge, c_isB, c_isNotB, c_isN, c_isNotN, x_tup, a2_0, a2_1, a3_0, a3_1, a3_2, a4_0, a4_1, a4_2, a4_3, t_abs, t_int, t_intB, t_len, t_min, t_max, t_tupT, t_lstT, ty_non, ty_bl, ty_int, ty_str, ty_tup, is_ii, is_ib, is_bi, is_bb, is_tt, is_lt, is_it, is_nt, is_st, is_ni, is_si, is_ti, is_li, Bool.not_true, Bool.not_false, Bool.false_eq_true, if_true, if_false, abs_eq, i_v, i_tup, i_lst, i_call, i_ix, i_sl, it_tup, same_nil', lc_nil, lc_cons, oc_some, oc_none, w_lcB, fo_nil, fo_cons, ts_nil, ts_cons, t_all, t_any, t_tup, wipe, bls, q_ii, q_bb, q_2, q_3, BEq.rfl, beq_iff_eq, Int.reduceBEq, Int.reduceLT, Int.reduceLE, Int.reduceNeg, Int.reduceEq, List.all_cons, List.all_nil, id, Bool.and_true, Bool.true_and, Bool.and_self, Int.cast_ofNat_Int, mulOk_sm, checkpoints_2 _ p0 p1, hf]
  exact hQ
theorem added_e (k : Nat) {x0 y0 w0 x1 y1 w1 : Int} (p0 : 0 < w0) (p1 : 0 < w1) (h0 : B3 x0 y0 w0) (h1 : B3 x1 y1 w1) (c : Cells) :
    callD T (k + 3) "added" [pt x0 y0 w0, pt x1 y1 w1] c = .ok (mp (x0 * w1 + x1 * w0) (y0 * w1 + y1 * w0) (w0 * w1)) c := by
  obtain ⟨_, _, _⟩ := h0
  obtain ⟨_, _, _⟩ := h1
  refine eq_of fun Q E hQ => call_body (fn := fn_added) rfl rfl ?_
  unfold fn_added
  show wS (dSs _ _ [some (pt x0 y0 w0), some (pt x1 y1 w1)] c) _
  have hw : w0 * w1 ≠ 0 := by have := Int.mul_pos p0 p1; omega
  have hf := fun c => made_e k (x0 * w1 + x1 * w0) (y0 * w1 + y1 * w0) (w0 * w1) c (by decide) hw
  simp (decide := true) only [ss_cons, ss_nil, s_set, s_ret, s_retN, s_expr, s_ife, s_raise, s_cnt, s_brk, s_pass, s_setIx, s_for, s_foS, s_augA, s_augS, e_k, e_v, e_tup, e_lst, e_call, e_blt, e_cmp, e_bin, e_neg, e_and, e_or, e_not, e_ite, e_chain, e_ix, e_isi, e_meth, e_sl, e_lam, e_lc, es_cons, es_nil, o_no, List.getElem?_cons_zero, List.getElem?_cons_succ, wO_some, asg_t, asgs_c, asgs_n, asg_v, Option.bind_some, Option.map_some, wA_some, wI_int, wB_some, wT_bl, wTy_some, wBs_some, wN_some, wP_some, wR_ok, List.length_cons, List.length_nil, List.set_cons_zero, List.set_cons_succ, lim, Nat.reduceAdd, Nat.reduceLeDiff, true_and, and_true, tr_bl, tr_int, tr_tup, tr_non, pick_some, pick_t, pick_f, decide_eq_true_eq, b_add, b_sub, b_subB, b_addB, b_mul, b_div, b_mod, b_pow, b_addT, b_mulT, c_eq, c_ne, c_lt, c_le, c_gt, c_ge, c_isB, c_isNotB, c_isN, c_isNotN, x_tup, a2_0, a2_1, a3_0, a3_1, a3_2, a4_0, a4_1, a4_2, a4_3, t_abs, t_int, t_intB, t_len, t_min, t_max, t_tupT, t_lstT, ty_non, ty_bl, ty_int, ty_str, ty_tup, is_ii, is_ib, is_bi, is_bb, is_tt, is_lt, is_it, is_nt, is_st, is_ni, is_si, is_ti, is_li, Bool.not_true, Bool.not_false, Bool.false_eq_true, if_true, if_false, abs_eq, i_v, i_tup, i_lst, i_call, i_ix, i_sl, it_tup, same_nil', lc_nil, lc_cons, oc_some, oc_none, w_lcB, fo_nil, fo_cons, ts_nil, ts_cons, t_all, t_any, t_tup, wipe, bls, q_ii, q_bb, q_2, q_3, BEq.rfl, beq_iff_eq, Int.reduceBEq, Int.reduceLT, Int.reduceLE, Int.reduceNeg, Int.reduceEq, List.all_cons, List.all_nil, id, Bool.and_true, Bool.true_and, Bool.and_self, Int.cast_ofNat_Int, mulOk_sm, hf]
  exact hQ
theorem shifted_e (k : Nat) {x0 y0 w0 x1 y1 w1 : Int} (p0 : Pt x0 y0 w0) (p1 : Pt x1 y1 w1) (h0 : B3 x0 y0 w0) (h1 : B3 x1 y1 w1) (c : Cells) :
    callD T (k + 5) "shifted" [pt x0 y0 w0, pt x1 y1 w1] c = .ok (mp (x0 * w1 + x1 * w0) (y0 * w1 + y1 * w0) (w0 * w1)) (c ++ [tr3] ++ [tr3]) := by
  refine eq_of fun Q E hQ => call_body (fn := fn_shifted) rfl rfl ?_
  unfold fn_shifted
  show wS (dSs _ _ [some (pt x0 y0 w0), some (pt x1 y1 w1)] c) _
  simp (decide := true) only [ss_cons, ss_nil, s_set, s_ret, s_retN, s_expr, s_ife, s_raise, s_cnt, s_brk, s_pass, s_setIx, s_for, s_foS, s_augA, s_augS, e_k, e_v, e_tup, e_lst, e_call, e_blt, e_cmp, e_bin, e_neg, e_and, e_or, e_not, e_ite, e_chain, e_ix, e_isi, e_meth, e_sl, e_lam, e_lc, es_cons, es_nil, o_no, List.getElem?_cons_zero, List.getElem?_cons_succ, wO_some, asg_t, asgs_c, asgs_n, asg_v, Option.bind_some, Option.map_some, wA_some, wI_int, wB_some, wT_bl, wTy_some, wBs_some, wN_some, wP_some, wR_ok, List.length_cons, List.length_nil, List.set_cons_zero, List.set_cons_succ, lim, Nat.reduceAdd, Nat.reduceLeDiff, true_and, and_true, tr_bl, tr_int, tr_tup, tr_non, pick_some, pick_t, pick_f, decide_eq_true_eq, b_add, b_sub, b_subB, b_addB, b_mul, b_div, b_mod, b_pow, b_addT, b_mulT, c_eq, c_ne, c_lt, c_le, c_gt, c_ge, c_isB, c_isNotB, c_isN, c_isNotN, x_tup, a2_0, a2_1, a3_0, a3_1, a3_2, a4_0, a4_1, a4_2, a4_3, t_abs, t_int, t_intB, t_len, t_min, t_max, t_tupT, t_lstT, ty_non, ty_bl, ty_int, ty_str, ty_tup, is_ii, is_ib, is_bi, is_bb, is_tt, is_lt, is_it, is_nt, is_st, is_ni, is_si, is_ti, is_li, Bool.not_true, Bool.not_false, Bool.false_eq_true, if_true, if_false, abs_eq, i_v, i_tup, i_lst, i_call, i_ix, i_sl, it_tup, same_nil', lc_nil, lc_cons, oc_some, oc_none, w_lcB, fo_nil, fo_cons, ts_nil, ts_cons, t_all, t_any, t_tup, wipe, bls, q_ii, q_bb, q_2, q_3, BEq.rfl, beq_iff_eq, Int.reduceBEq, Int.reduceLT, Int.reduceLE, Int.reduceNeg, Int.reduceEq, List.all_cons, List.all_nil, id, Bool.and_true, Bool.true_and, Bool.and_self, Int.cast_ofNat_Int, checkpoints_2 _ p0 p1, added_e _ p0.pos p1.pos h0 h1]
  exact hQ
theorem mirrored_e (k : Nat) {x y w : Int} (p : Pt x y w) (c : Cells) : callD T (k + 4) "mirrored" [pt x y w] c = .ok (pt (-x) y w) (c ++ [tr3]) := by
  refine eq_of fun Q E hQ => call_body (fn := fn_mirrored) rfl rfl ?_
  unfold fn_mirrored
  show wS (dSs _ _ [some (pt x y w)] c) _
  simp (decide := true) only [ss_cons, ss_nil, s_set, s_ret, s_retN, s_expr, s_ife, s_raise, s_cnt, s_brk, s_pass, s_setIx, s_for, s_foS, s_augA, s_augS, e_k, e_v, e_tup, e_lst, e_call, e_blt, e_cmp, e_bin, e_neg, e_and, e_or, e_not, e_ite, e_chain, e_ix, e_isi, e_meth, e_sl, e_lam, e_lc, es_cons, es_nil, o_no, List.getElem?_cons_zero, List.getElem?_cons_succ, wO_some, asg_t, asgs_c, asgs_n, asg_v, Option.bind_some, Option.map_some, wA_some, wI_int, wB_some, wT_bl, wTy_some, wBs_some, wN_some, wP_some, wR_ok, List.length_cons, List.length_nil, List.set_cons_zero, List.set_cons_succ, lim, Nat.reduceAdd, Nat.reduceLeDiff, true_and, and_true, tr_bl, tr_int, tr_tup, tr_non, pick_some, pick_t, pick_f, decide_eq_true_eq, b_add, b_sub, b_subB, b_addB, b_mul, b_div, b_mod, b_pow, b_addT, b_mulT, c_eq, c_ne, c_lt, c_le, c_gt, c_ge, c_isB, c_isNotB, c_isN, c_isNotN, x_tup, a2_0, a2_1, a3_0, a3_1, a3_2, a4_0, a4_1, a4_2, a4_3, t_abs, t_int, t_intB, t_len, t_min, t_max, t_tupT, t_lstT, ty_non, ty_bl, ty_int, ty_str, ty_tup, is_ii, is_ib, is_bi, is_bb, is_tt, is_lt, is_it, is_nt, is_st, is_ni, is_si, is_ti, is_li, Bool.not_true, Bool.not_false, Bool.false_eq_true, if_true, if_false, abs_eq, i_v, i_tup, i_lst, i_call, i_ix, i_sl, it_tup, same_nil', lc_nil, lc_cons, oc_some, oc_none, w_lcB, fo_nil, fo_cons, ts_nil, ts_cons, t_all, t_any, t_tup, wipe, bls, q_ii, q_bb, q_2, q_3, BEq.rfl, beq_iff_eq, Int.reduceBEq, Int.reduceLT, Int.reduceLE, Int.reduceNeg, Int.reduceEq, List.all_cons, List.all_nil, id, Bool.and_true, Bool.true_and, Bool.and_self, Int.cast_ofNat_Int, checkpoint_p _ p]
  exact hQ
theorem i_rng' (Γ : Ctx) (es : List IE) (ρ : Lo) (c : Cells) (Q : List D × List Nat → Cells → Prop) (E : QX) : wR (dI Γ (.rng es) ρ c) Q E = wR (dEs Γ es ρ c) (fun xs c1 => wP ((rngOf xs).map fun ys => (ys, [])) fun p => Q p c1) E := i_rng
theorem r_0 : rngOf [.int 0] = some [] := rfl
theorem r_1 : rngOf [.int 1] = some [.int 0] := rfl
theorem r_2 : rngOf [.int 2] = some [.int 0, .int 1] := rfl
theorem r_3 : rngOf [.int 3] = some [.int 0, .int 1, .int 2] := rfl
theorem turned_e (m : Nat) {x y w : Int} (p : Pt x y w) (k : Int) (c : Cells) : callD T (m + 4) "turned" [pt x y w, .int k] c = .ok (pt (rx (k % 4) x y) (ry (k % 4) x y) w) (c ++ [tr3]) := by
  refine eq_of fun Q E hQ => call_body (fn := fn_turned) rfl rfl ?_
  unfold fn_turned
  show wS (dSs _ _ [some (pt x y w), some (.int k), none] c) _
  rcases mod4 k with e | e | e | e <;> rw [e] at hQ <;> simp (decide := true) only [ss_cons, ss_nil, s_set, s_ret, s_retN, s_expr, s_ife, s_raise, s_cnt, s_brk, s_pass, s_setIx, s_for, s_foS, s_augA, s_augS, e_k, e_v, e_tup, e_lst, e_call, e_blt, e_cmp, e_bin, e_neg, e_and, e_or, e_not, e_ite, e_chain, e_ix, e_isi, e_meth, e_sl, e_lam, e_lc, es_cons, es_nil, o_no, List.getElem?_cons_zero, List.getElem?_cons_succ, wO_some, asg_t, asgs_c, asgs_n, asg_v, Option.bind_some, Option.map_some, wA_some, wI_int, wB_some, wT_bl, wTy_some, wBs_some, wN_some, wP_some, wR_ok, List.length_cons, List.length_nil, List.set_cons_zero, List.set_cons_succ, lim, Nat.reduceAdd, Nat.reduceLeDiff, true_and, and_true, tr_bl, tr_int, tr_tup, tr_non, pick_some, pick_t, pick_f, decide_eq_true_eq, b_add, b_sub, b_subB, b_addB, b_mul, b_div, b_mod, b_pow, b_addT, b_mulT, c_eq, c_ne, c_lt, c_le, c_gt, c_ge, c_isB, c_isNotB, c_isN, c_isNotN, x_tup, a2_0, a2_1, a3_0, a3_1, a3_2, a4_0, a4_1, a4_2, a4_3, t_abs, t_int, t_intB, t_len, t_min, t_max, t_tupT, t_lstT, ty_non, ty_bl, ty_int, ty_str, ty_tup, is_ii, is_ib, is_bi, is_bb, is_tt, is_lt, is_it, is_nt, is_st, is_ni, is_si, is_ti, is_li, Bool.not_true, Bool.not_false, Bool.false_eq_true, if_true, if_false, abs_eq, i_v, i_tup, i_lst, i_call, i_ix, i_sl, it_tup, same_nil', lc_nil, lc_cons, oc_some, oc_none, w_lcB, fo_nil, fo_cons, ts_nil, ts_cons, t_all, t_any, t_tup, wipe, bls, q_ii, q_bb, q_2, q_3, BEq.rfl, beq_iff_eq, Int.reduceBEq, Int.reduceLT, Int.reduceLE, Int.reduceNeg, Int.reduceEq, List.all_cons, List.all_nil, id, Bool.and_true, Bool.true_and, Bool.and_self, Int.cast_ofNat_Int, checkpoint_p _ p, i_rng', e, r_0, r_1, r_2, r_3, Int.neg_neg]
  · exact hQ
  · exact hQ
  · exact hQ
  · exact hQ
theorem lsum_e (k : Nat) {x0 y0 w0 x1 y1 w1 by' : Int} (p0 : 0 < w0) (p1 : 0 < w1) (hb : 0 < by') (h0 : B3 x0 y0 w0) (h1 : B3 x1 y1 w1) (h2 : Sm 1000 by') (c : Cells) :
    callD T (k + 3) "_law_sum" [pt x0 y0 w0, pt x1 y1 w1, .int by'] c = .ok (mp (x0 * w1 + x1 * w0) (y0 * w1 + y1 * w0) (w0 * w1 * by')) c := by
  obtain ⟨_, _, _⟩ := h0
  obtain ⟨_, _, _⟩ := h1
  refine eq_of fun Q E hQ => call_body (fn := fn__law_sum) rfl rfl ?_
  unfold fn__law_sum
  show wS (dSs _ _ [some (pt x0 y0 w0), some (pt x1 y1 w1), some (.int by'), none, none] c) _
  dsimp only
  have hw : w0 * w1 * by' ≠ 0 := by have := Int.mul_pos (Int.mul_pos p0 p1) hb; omega
  have hf := fun c Q E => w_of Q E (lfraction_e k (x0 * w1 + x1 * w0) (w0 * w1 * by') c (by decide) hw)
  have hf2 := fun c Q E => w_of Q E (lfraction_e k (y0 * w1 + y1 * w0) (w0 * w1 * by') c (by decide) hw)
  have hq : fr2 (x0 * w1 + x1 * w0) (w0 * w1 * by') * fr2 (y0 * w1 + y1 * w0) (w0 * w1 * by') ≠ 0 := by
    have := Int.mul_pos (fr_ok (x0 * w1 + x1 * w0) hw).pos (fr_ok (y0 * w1 + y1 * w0) hw).pos; omega
  have hm := fun c Q E => w_of Q E (lmade_e k (fr1 (x0 * w1 + x1 * w0) (w0 * w1 * by') * fr2 (y0 * w1 + y1 * w0) (w0 * w1 * by')) (fr1 (y0 * w1 + y1 * w0) (w0 * w1 * by') * fr2 (x0 * w1 + x1 * w0) (w0 * w1 * by')) _ c (by decide) hq)
  simp (decide := true) only [↓ss_cons, ↓ss_nil, ↓s_set, ↓s_ret, ↓s_retN, ↓s_expr, ↓s_ife, ↓s_raise, ↓s_cnt, ↓s_brk, ↓s_pass, ↓s_setX, ↓s_for, ↓s_foS, ↓e_k, ↓e_tup, ↓e_lst, ↓e_call, ↓e_blt, ↓e_cmp, ↓e_bin, ↓e_neg, ↓e_and, ↓e_or, ↓e_not, ↓e_ite, ↓e_chain, ↓e_ix, ↓e_isi, ↓e_meth, ↓e_sl, ↓e_lam, ↓e_lc, ↓es_cons, ↓es_nil, ↓o_no, ↓b_add, ↓b_sub, ↓b_subB, ↓b_addB, ↓b_mul, ↓b_div, ↓b_mod, ↓b_pow, ↓b_addT, ↓b_mulT, ↓c_lt, ↓c_le, ↓c_gt, ↓c_ge, ↓c_isB, ↓c_isNotB, ↓c_isN, ↓c_isNotN, ↓t_abs, ↓t_int, ↓t_intB, ↓t_len, ↓t_min, ↓t_max, ↓t_tupT, ↓t_lstT, ↓i_v, ↓i_tup, ↓i_lst, ↓i_call, ↓i_ix, ↓i_sl, ↓lc_nil, ↓lc_cons, ↓w_lcB, ↓fo_nil, ↓fo_cons, ↓ts_nil, ↓ts_cons, ↓t_all, ↓t_any, ↓t_tup, ↓wI_int, ↓wR_ok, ↓v_0, ↓v_1, ↓v_2, ↓v_3, ↓v_4, ↓v_5, ↓v_6, ↓v_7, ↓v_8, ↓v_9, ↓v_10, ↓v_11, ↓v_12, ↓v_13, ↓v_14, ↓v_15, ↓as_0, ↓as_1, ↓as_2, ↓as_3, ↓as_4, ↓as_5, ↓as_6, ↓as_7, ↓as_8, ↓as_9, ↓as_10, ↓as_11, ↓as_12, ↓as_13, ↓as_14, ↓as_15, ↓as_t, ↓as_n, ↓as_c, ↓x1_0, ↓x2_0, ↓x2_1, ↓x3_0, ↓x3_1, ↓x3_2, ↓x4_0, ↓x4_1, ↓x4_2, ↓x4_3, ↓x5_0, ↓x5_1, ↓x5_2, ↓x5_3, ↓x5_4, ↓ce_ii, ↓ce_bb, ↓ce_2, ↓ce_3, ↓cn_ii, ↓cn_bb, ↓cn_2, ↓cn_3, ↓pk_bl, ↓pk_int, ↓pk_tn, ↓pk_tc, ↓pk_non, ↓nb_bl, ↓nb_int, ↓yt_non, ↓yt_bl, ↓yt_int, ↓yt_str, ↓yt_tup, ↓wp_tup, List.length_cons, List.length_nil, lim, Nat.reduceAdd, Nat.reduceLeDiff, true_and, and_true, is_ii, is_ib, is_bi, is_bb, is_tt, is_lt, is_it, is_nt, is_st, is_ni, is_si, is_ti, is_li, Bool.not_true, Bool.not_false, Bool.false_eq_true, if_true, if_false, abs_eq, Int.cast_ofNat_Int, BEq.rfl, beq_iff_eq, Int.reduceBEq, Int.reduceLT, Int.reduceLE, Int.reduceNeg, Int.reduceEq, List.all_cons, List.all_nil, id, Bool.and_true, Bool.true_and, Bool.and_self, same_nil', oc_some, oc_none, bls, wBs_some, wipe, Option.map_some, List.set_cons_zero, List.set_cons_succ, decide_true, decide_false, ↓reduceIte, decide_eq_true_eq, Bool.not_eq_true', mulOk_sm, ↓hf, ↓hf2, ↓hm]
  have e := ltsum_frs (X := x0 * w1 + x1 * w0) (Y := y0 * w1 + y1 * w0) hw
  unfold mp pt at e hQ
  rw [e]
  exact hQ
end K02
end

section
set_option linter.all false
set_option autoImplicit false
set_option maxRecDepth 20000
namespace G
theorem sq_r1 (p q p' q' V : Int) : (p * p * q' * q' + p' * p' * q * q) * (V * V) = (p * V) * (p * V) * (q' * q') + (p' * V) * (p' * V) * (q * q) := by grind
theorem sq_r2 (q q' X Y : Int) : (X * q) * (X * q) * (q' * q') + (Y * q') * (Y * q') * (q * q) = (X * X + Y * Y) * (q * q * q' * q') := by grind
theorem sq_r3 (D r V : Int) : D * (r * (V * V)) = (r * D) * (V * V) := by grind
theorem sq_r4 (M t V : Int) : M * t * (V * V) = M * (V * V) * t := by grind
theorem sq_r5 (D t V : Int) : V * D * t = D * (V * t) := by grind
theorem sq_alg {p q p' q' X Y V r t : Int} (hq : q * q * q' * q' ≠ 0) (e : r * (q * q * q' * q') = (p * p * q' * q' + p' * p' * q * q) * t) (e1 : p * V = X * q) (e2 : p' * V = Y * q') : r * (V * V) = (X * X + Y * Y) * t := by
  have g4 : (p * p * q' * q' + p' * p' * q * q) * (V * V) = (X * X + Y * Y) * (q * q * q' * q') := by rw [sq_r1, e1, e2, sq_r2]
  refine Int.eq_of_mul_eq_mul_left hq ?_
  rw [sq_r3, e, sq_r4, g4, sq_r5]
end G
namespace K02
open G
theorem lsquare_e (k : Nat) {x0 y0 w0 x1 y1 w1 : Int} (h0 : B3 x0 y0 w0) (h1 : B3 x1 y1 w1) (hw0 : 0 < w0) (hw1 : 0 < w1) (c : Cells) :
    callD T (k + 3) "_law_square" [pt x0 y0 w0, pt x1 y1 w1] c = .ok (f2 (fr1 (sqn x0 y0 w0 x1 y1 w1) (sqd w0 w1)) (fr2 (sqn x0 y0 w0 x1 y1 w1) (sqd w0 w1))) c := by
  obtain ⟨_, _, _⟩ := h0
  obtain ⟨_, _, _⟩ := h1
  refine eq_of fun Q E hQ => call_body (fn := fn__law_square) rfl rfl ?_
  unfold fn__law_square
  show wS (dSs _ _ [some (pt x0 y0 w0), some (pt x1 y1 w1), none, none] c) _
  dsimp only
  have hw : w0 * w1 ≠ 0 := by have := Int.mul_pos hw0 hw1; omega
  have F1 := fr_ok (x0 * w1 - x1 * w0) hw
  have F2 := fr_ok (y0 * w1 - y1 * w0) hw
  have s1 : Sm 2001 (fr1 (x0 * w1 - x1 * w0) (w0 * w1)) := inferInstance
  have s2 : Sm 2000 (fr2 (x0 * w1 - x1 * w0) (w0 * w1)) := inferInstance
  have s3 : Sm 2001 (fr1 (y0 * w1 - y1 * w0) (w0 * w1)) := inferInstance
  have s4 : Sm 2000 (fr2 (y0 * w1 - y1 * w0) (w0 * w1)) := inferInstance
  have hf := fun c Q E => w_of Q E (lfraction_e k (x0 * w1 - x1 * w0) (w0 * w1) c (by decide) hw)
  have hf2 := fun c Q E => w_of Q E (lfraction_e k (y0 * w1 - y1 * w0) (w0 * w1) c (by decide) hw)
  generalize fr1 (x0 * w1 - x1 * w0) (w0 * w1) = p at F1 s1 hf
  generalize fr2 (x0 * w1 - x1 * w0) (w0 * w1) = q at F1 s2 hf
  generalize fr1 (y0 * w1 - y1 * w0) (w0 * w1) = p' at F2 s3 hf2
  generalize fr2 (y0 * w1 - y1 * w0) (w0 * w1) = q' at F2 s4 hf2
  have hq : q * q * q' * q' ≠ 0 := by
    have := Int.mul_pos (Int.mul_pos (Int.mul_pos F1.pos F1.pos) F2.pos) F2.pos; omega
  have hm := fun c Q E => w_of Q E (lfraction_e k (p * p * q' * q' + p' * p' * q * q) (q * q * q' * q') c (by decide) hq)
  simp (decide := true) only [↓ss_cons, ↓ss_nil, ↓s_set, ↓s_ret, ↓s_retN, ↓s_expr, ↓s_ife, ↓s_raise, ↓s_cnt, ↓s_brk, ↓s_pass, ↓s_setX, ↓s_for, ↓s_foS, ↓e_k, ↓e_tup, ↓e_lst, ↓e_call, ↓e_blt, ↓e_cmp, ↓e_bin, ↓e_neg, ↓e_and, ↓e_or, ↓e_not, ↓e_ite, ↓e_chain, ↓e_ix, ↓e_isi, ↓e_meth, ↓e_sl, ↓e_lam, ↓e_lc, ↓es_cons, ↓es_nil, ↓o_no, ↓b_add, ↓b_sub, ↓b_subB, ↓b_addB, ↓b_mul, ↓b_div, ↓b_mod, ↓b_pow, ↓b_addT, ↓b_mulT, ↓c_lt, ↓c_le, ↓c_gt, ↓c_ge, ↓c_isB, ↓c_isNotB, ↓c_isN, ↓c_isNotN, ↓t_abs, ↓t_int, ↓t_intB, ↓t_len, ↓t_min, ↓t_max, ↓t_tupT, ↓t_lstT, ↓i_v, ↓i_tup, ↓i_lst, ↓i_call, ↓i_ix, ↓i_sl, ↓lc_nil, ↓lc_cons, ↓w_lcB, ↓fo_nil, ↓fo_cons, ↓ts_nil, ↓ts_cons, ↓t_all, ↓t_any, ↓t_tup, ↓wI_int, ↓wR_ok, ↓v_0, ↓v_1, ↓v_2, ↓v_3, ↓v_4, ↓v_5, ↓v_6, ↓v_7, ↓v_8, ↓v_9, ↓v_10, ↓v_11, ↓v_12, ↓v_13, ↓v_14, ↓v_15, ↓as_0, ↓as_1, ↓as_2, ↓as_3, ↓as_4, ↓as_5, ↓as_6, ↓as_7, ↓as_8, ↓as_9, ↓as_10, ↓as_11, ↓as_12, ↓as_13, ↓as_14, ↓as_15, ↓as_t, ↓as_n, ↓as_c, ↓x1_0, ↓x2_0, ↓x2_1, ↓x3_0, ↓x3_1, ↓x3_2, ↓x4_0, ↓x4_1, ↓x4_2, ↓x4_3, ↓x5_0, ↓x5_1, ↓x5_2, ↓x5_3, ↓x5_4, ↓ce_ii, ↓ce_bb, ↓ce_2, ↓ce_3, ↓cn_ii, ↓cn_bb, ↓cn_2, ↓cn_3, ↓pk_bl, ↓pk_int, ↓pk_tn, ↓pk_tc, ↓pk_non, ↓nb_bl, ↓nb_int, ↓yt_non, ↓yt_bl, ↓yt_int, ↓yt_str, ↓yt_tup, ↓wp_tup, List.length_cons, List.length_nil, lim, Nat.reduceAdd, Nat.reduceLeDiff, true_and, and_true, is_ii, is_ib, is_bi, is_bb, is_tt, is_lt, is_it, is_nt, is_st, is_ni, is_si, is_ti, is_li, Bool.not_true, Bool.not_false, Bool.false_eq_true, if_true, if_false, abs_eq, Int.cast_ofNat_Int, BEq.rfl, beq_iff_eq, Int.reduceBEq, Int.reduceLT, Int.reduceLE, Int.reduceNeg, Int.reduceEq, List.all_cons, List.all_nil, id, Bool.and_true, Bool.true_and, Bool.and_self, same_nil', oc_some, oc_none, bls, wBs_some, wipe, Option.map_some, List.set_cons_zero, List.set_cons_succ, decide_true, decide_false, ↓reduceIte, decide_eq_true_eq, Bool.not_eq_true', mulOk_sm, ↓hf, ↓hf2, ↓hm]
  have hd : sqd w0 w1 ≠ 0 := by have := Int.mul_pos (Int.mul_pos hw0 hw1) (Int.mul_pos hw0 hw1); unfold sqd; omega
  have A := fr_ok (p * p * q' * q' + p' * p' * q * q) hq
  have B : Fr (sqn x0 y0 w0 x1 y1 w1) (sqd w0 w1) (fr1 (p * p * q' * q' + p' * p' * q * q) (q * q * q' * q')) (fr2 (p * p * q' * q' + p' * p' * q * q) (q * q * q' * q')) :=
    ⟨A.pos, A.cop, sq_alg hq A.eq F1.eq F2.eq⟩
  obtain ⟨b1, b2⟩ := B.fr_eq hd
  rw [b1, b2] at hQ
  exact hQ
end K02
end

section
set_option linter.all false
set_option autoImplicit false
set_option maxRecDepth 20000
namespace G
/-- the box of drawn numbers -/
structure BI (c : Cells) (n : Nat) (s g a : Int) (r : Nat) (xs : List Int) : Prop where
  box : c[n]? = some (.lst [.int s, .int g, .int a, .ref r])
  ne : r ≠ n
  row : c[r]? = some (.lst (xs.map .int))
  pos : ∀ x ∈ xs, 0 ≤ x
  s0 : 0 ≤ s
  a0 : 0 ≤ a
  sm : g < 0 → s < 2 ^ 60 ∧ -9 ≤ g
def Bx (c : Cells) (n : Nat) : Prop := ∃ s g a r xs, BI c n s g a r xs
section
variable (c : Cells) (n : Nat) (Q : QD) (E : QX)
theorem bx_set {l : List D} (h : c[n]? = some (.lst l)) : c.set n (.lst l) = c := by
  have hn := (List.getElem?_eq_some_iff.mp h).1
  refine List.ext_getElem? fun i => ?_
  by_cases e : i = n
  · subst e; rw [List.getElem?_set_self hn, h]
  · rw [List.getElem?_set_ne (Ne.symm e)]
theorem bx_get (hn : n < c.length) (l : List D) : (c.set n (.lst l))[n]? = some (.lst l) := List.getElem?_set_self hn
theorem bx_ix (hn : n < c.length) (l : List D) (i : Int) : wR (opIx (.ref n) (.int i) (c.set n (.lst l))) Q E = wO ((atI l i).map some) fun d => Q d (c.set n (.lst l)) := by
  rw [x_ref]
  unfold getL
  rw [bx_get c n hn]
  rfl
theorem bx_0 (hn : n < c.length) (x y z w : D) : wR (opIx (.ref n) (.int 0) (c.set n (.lst [x, y, z, w]))) Q E = Q x (c.set n (.lst [x, y, z, w])) := by rw [bx_ix c n Q E hn]; rfl
theorem bx_1 (hn : n < c.length) (x y z w : D) : wR (opIx (.ref n) (.int 1) (c.set n (.lst [x, y, z, w]))) Q E = Q y (c.set n (.lst [x, y, z, w])) := by rw [bx_ix c n Q E hn]; rfl
theorem bx_2 (hn : n < c.length) (x y z w : D) : wR (opIx (.ref n) (.int 2) (c.set n (.lst [x, y, z, w]))) Q E = Q z (c.set n (.lst [x, y, z, w])) := by rw [bx_ix c n Q E hn]; rfl
theorem bx_3 (hn : n < c.length) (x y z w : D) : wR (opIx (.ref n) (.int 3) (c.set n (.lst [x, y, z, w]))) Q E = Q w (c.set n (.lst [x, y, z, w])) := by rw [bx_ix c n Q E hn]; rfl
variable (P : Cells → Prop)
theorem bs_0 (hn : n < c.length) (x y z w d : D) : wSX (c.set n (.lst [x, y, z, w])) (.ref n) (.int 0) d P = P (c.set n (.lst [d, y, z, w])) := by
  unfold wSX
  rw [wI_int, wX_ref (bx_get c n hn _)]
  show P _ = _
  rw [List.set_set]; rfl
theorem bs_1 (hn : n < c.length) (x y z w d : D) : wSX (c.set n (.lst [x, y, z, w])) (.ref n) (.int 1) d P = P (c.set n (.lst [x, d, z, w])) := by
  unfold wSX
  rw [wI_int, wX_ref (bx_get c n hn _)]
  show P _ = _
  rw [List.set_set]; rfl
theorem bs_2 (hn : n < c.length) (x y z w d : D) : wSX (c.set n (.lst [x, y, z, w])) (.ref n) (.int 2) d P = P (c.set n (.lst [x, y, d, w])) := by
  unfold wSX
  rw [wI_int, wX_ref (bx_get c n hn _)]
  show P _ = _
  rw [List.set_set]; rfl
end
theorem BI.row' {c : Cells} {n : Nat} {s g a : Int} {r : Nat} {xs : List Int} (h : BI c n s g a r xs) (l : List D) : (c.set n (.lst l))[r]? = some (.lst (xs.map .int)) := by
  rw [List.getElem?_set_ne (Ne.symm h.ne)]; exact h.row
theorem BI.upd {c : Cells} {n : Nat} {s g a : Int} {r : Nat} {xs : List Int} (h : BI c n s g a r xs) {s' g' a' : Int} (h1 : 0 ≤ s') (h2 : 0 ≤ a') (h3 : g' < 0 → s' < 2 ^ 60 ∧ -9 ≤ g') : BI (c.set n (.lst [.int s', .int g', .int a', .ref r])) n s' g' a' r xs :=
  ⟨bx_get c n (List.getElem?_eq_some_iff.mp h.box).1 _, h.ne, h.row' _, h.pos, h1, h2, h3⟩
end G
namespace K02
open G
/-- what a draw leaves -/
def Drew (c : Cells) (n : Nat) (r : R D) (m : Int) : Prop := ∃ t l, r = .ok (.int t) (c.set n (.lst l)) ∧ 0 ≤ t ∧ t < m ∧ Bx (c.set n (.lst l)) n
theorem drew_of {c : Cells} {n : Nat} {r : R D} {m : Int} (h : wR r (fun d c' => ∃ t l, d = .int t ∧ c' = c.set n (.lst l) ∧ 0 ≤ t ∧ t < m ∧ Bx (c.set n (.lst l)) n) (fun _ _ => False)) : Drew c n r m := by
  cases r with
  | ok d c' => obtain ⟨t, l, rfl, rfl, h1, h2, h3⟩ := h; exact ⟨t, l, rfl, h1, h2, h3⟩
  | ex _ _ => exact h.elim
  | no => exact h.elim
theorem take_w (k : Nat) {c : Cells} {n : Nat} {m s g a : Int} {r : Nat} {xs : List Int} (B : BI c n s g a r xs) (hm : 0 < m) (hs : Sm 100 m) {Q : QD} {E : QX}
    (hQ : ∀ t s' g' a' : Int, 0 ≤ t → t < m → 0 ≤ s' → 0 ≤ a' → (g' < 0 → s' < 2 ^ 60 ∧ -9 ≤ g') → Q (.int t) (c.set n (.lst [.int s', .int g', .int a', .ref r]))) : wR (callD T (k + 1) "_law_take" [.ref n, .int m] c) Q E := by
  have hn : n < c.length := (List.getElem?_eq_some_iff.mp B.box).1
  have hc : c = c.set n (.lst [.int s, .int g, .int a, .ref r]) := (bx_set c n B.box).symm
  refine call_body (fn := fn__law_take) rfl rfl ?_
  unfold fn__law_take
  have hlog : (m.natAbs.log2 < 9000) = True := log2_sm (by decide)
  have mt : ∀ x : Int, 0 ≤ x % m ∧ x % m < m := fun x => ⟨Int.emod_nonneg _ (by omega), Int.emod_lt_of_pos _ hm⟩
  rw [hc]
  show wS (dSs _ _ [some (.ref n), some (.int m), none, none, none] _) _
  dsimp only
  have hlen : ∀ (l : List D) (Q : QD) (E : QX), wR (opBlt .len [.ref r] (c.set n (.lst l))) Q E = Q (.int (xs.length : Int)) (c.set n (.lst l)) := fun l Q E => by
    rw [t_lenR _ _ _ _ _ (B.row' l), List.length_map]
  have hdiv : ∀ s' : Int, 0 ≤ s' → 0 ≤ s' / m := fun s' h => Int.ediv_nonneg h (by omega)
  -- a draw from the digits of a cell
  by_cases hg : g = 0
  · subst hg
    by_cases ha : a < xs.length
    · obtain ⟨x, hx, hx2⟩ : ∃ x, (∀ (l : List D) (Q : QD) (E : QX), wR (opIx (.ref r) (.int a) (c.set n (.lst l))) Q E = Q (.int x) (c.set n (.lst l))) ∧ 0 ≤ x := by
        have hl : a.toNat < xs.length := by have := B.a0; omega
        refine ⟨xs[a.toNat], fun l Q E => ?_, B.pos _ (List.getElem_mem hl)⟩
        rw [x_ref]
        unfold getL
        rw [B.row' l]
        have : atI (xs.map D.int) a = some (.int xs[a.toNat]) := by
          unfold atI ixN
          rw [if_pos B.a0, if_pos (by rw [List.length_map]; exact ha)]
          simp [hl]
        dsimp only [Option.bind]
        rw [this]
        rfl
      have a1 : 0 ≤ a + 1 := by have := B.a0; omega
      simp (decide := true) only [↓ss_cons, ↓ss_nil, ↓s_set, ↓s_ret, ↓s_retN, ↓s_expr, ↓s_ife, ↓s_raise, ↓s_cnt, ↓s_brk, ↓s_pass, ↓s_setX, ↓s_for, ↓s_foS, ↓e_k, ↓e_tup, ↓e_lst, ↓e_call, ↓e_blt, ↓e_cmp, ↓e_bin, ↓e_neg, ↓e_and, ↓e_or, ↓e_not, ↓e_ite, ↓e_chain, ↓e_ix, ↓e_isi, ↓e_meth, ↓e_sl, ↓e_lam, ↓e_lc, ↓es_cons, ↓es_nil, ↓o_no, ↓b_add, ↓b_sub, ↓b_subB, ↓b_addB, ↓b_mul, ↓b_div, ↓b_mod, ↓b_pow, ↓b_addT, ↓b_mulT, ↓c_lt, ↓c_le, ↓c_gt, ↓c_ge, ↓c_isB, ↓c_isNotB, ↓c_isN, ↓c_isNotN, ↓t_abs, ↓t_int, ↓t_intB, ↓t_len, ↓t_min, ↓t_max, ↓t_tupT, ↓t_lstT, ↓i_v, ↓i_tup, ↓i_lst, ↓i_call, ↓i_ix, ↓i_sl, ↓lc_nil, ↓lc_cons, ↓w_lcB, ↓fo_nil, ↓fo_cons, ↓ts_nil, ↓ts_cons, ↓t_all, ↓t_any, ↓t_tup, ↓wI_int, ↓wR_ok, ↓v_0, ↓v_1, ↓v_2, ↓v_3, ↓v_4, ↓v_5, ↓v_6, ↓v_7, ↓v_8, ↓v_9, ↓v_10, ↓v_11, ↓v_12, ↓v_13, ↓v_14, ↓v_15, ↓as_0, ↓as_1, ↓as_2, ↓as_3, ↓as_4, ↓as_5, ↓as_6, ↓as_7, ↓as_8, ↓as_9, ↓as_10, ↓as_11, ↓as_12, ↓as_13, ↓as_14, ↓as_15, ↓as_t, ↓as_n, ↓as_c, ↓x1_0, ↓x2_0, ↓x2_1, ↓x3_0, ↓x3_1, ↓x3_2, ↓x4_0, ↓x4_1, ↓x4_2, ↓x4_3, ↓x5_0, ↓x5_1, ↓x5_2, ↓x5_3, ↓x5_4, ↓ce_ii, ↓ce_bb, ↓ce_2, ↓ce_3, ↓cn_ii, ↓cn_bb, ↓cn_2, ↓cn_3, ↓pk_bl, ↓pk_int, ↓pk_tn, ↓pk_tc, ↓pk_non, ↓nb_bl, ↓nb_int, ↓yt_non, ↓yt_bl, ↓yt_int, ↓yt_str, ↓yt_tup, ↓wp_tup, List.length_cons, List.length_nil, lim, Nat.reduceAdd, Nat.reduceLeDiff, true_and, and_true, is_ii, is_ib, is_bi, is_bb, is_tt, is_lt, is_it, is_nt, is_st, is_ni, is_si, is_ti, is_li, Bool.not_true, Bool.not_false, Bool.false_eq_true, if_true, if_false, abs_eq, Int.cast_ofNat_Int, BEq.rfl, beq_iff_eq, Int.reduceBEq, Int.reduceLT, Int.reduceLE, Int.reduceNeg, Int.reduceEq, List.all_cons, List.all_nil, id, Bool.and_true, Bool.true_and, Bool.and_self, same_nil', oc_some, oc_none, bls, wBs_some, wipe, Option.map_some, List.set_cons_zero, List.set_cons_succ, decide_true, decide_false, ↓reduceIte, decide_eq_true_eq, Bool.not_eq_true', ↓bx_0 c n _ _ hn, ↓bx_1 c n _ _ hn, ↓bx_2 c n _ _ hn, ↓bx_3 c n _ _ hn, ↓bs_0 c n _ hn, ↓bs_1 c n _ hn, ↓bs_2 c n _ hn, ↓hlen, ↓hx, ha, hlog, hm]
      have e18 : (10 : Int) ^ Int.toNat 18 = 1000000000000000000 := by decide
      rw [e18]
      split
      · split
        · exact hQ _ _ _ _ (mt _).1 (mt _).2 (hdiv _ hx2) a1 (by omega)
        · exact hQ _ _ _ _ (mt _).1 (mt _).2 (hdiv _ hx2) a1 (by omega)
      · haveI : Sm 60 x := ⟨by omega⟩
        refine ⟨mulOk_sm (n := 60) (m := 16) (k := (inferInstance : Sm _ (48271 : Int)).mono (by decide)) (by decide), ?_⟩
        exact hQ _ _ _ _ (mt _).1 (mt _).2 (by omega) a1 (by omega)
    · have a1 : 0 ≤ a + 1 := by have := B.a0; omega
      simp (decide := true) only [↓ss_cons, ↓ss_nil, ↓s_set, ↓s_ret, ↓s_retN, ↓s_expr, ↓s_ife, ↓s_raise, ↓s_cnt, ↓s_brk, ↓s_pass, ↓s_setX, ↓s_for, ↓s_foS, ↓e_k, ↓e_tup, ↓e_lst, ↓e_call, ↓e_blt, ↓e_cmp, ↓e_bin, ↓e_neg, ↓e_and, ↓e_or, ↓e_not, ↓e_ite, ↓e_chain, ↓e_ix, ↓e_isi, ↓e_meth, ↓e_sl, ↓e_lam, ↓e_lc, ↓es_cons, ↓es_nil, ↓o_no, ↓b_add, ↓b_sub, ↓b_subB, ↓b_addB, ↓b_mul, ↓b_div, ↓b_mod, ↓b_pow, ↓b_addT, ↓b_mulT, ↓c_lt, ↓c_le, ↓c_gt, ↓c_ge, ↓c_isB, ↓c_isNotB, ↓c_isN, ↓c_isNotN, ↓t_abs, ↓t_int, ↓t_intB, ↓t_len, ↓t_min, ↓t_max, ↓t_tupT, ↓t_lstT, ↓i_v, ↓i_tup, ↓i_lst, ↓i_call, ↓i_ix, ↓i_sl, ↓lc_nil, ↓lc_cons, ↓w_lcB, ↓fo_nil, ↓fo_cons, ↓ts_nil, ↓ts_cons, ↓t_all, ↓t_any, ↓t_tup, ↓wI_int, ↓wR_ok, ↓v_0, ↓v_1, ↓v_2, ↓v_3, ↓v_4, ↓v_5, ↓v_6, ↓v_7, ↓v_8, ↓v_9, ↓v_10, ↓v_11, ↓v_12, ↓v_13, ↓v_14, ↓v_15, ↓as_0, ↓as_1, ↓as_2, ↓as_3, ↓as_4, ↓as_5, ↓as_6, ↓as_7, ↓as_8, ↓as_9, ↓as_10, ↓as_11, ↓as_12, ↓as_13, ↓as_14, ↓as_15, ↓as_t, ↓as_n, ↓as_c, ↓x1_0, ↓x2_0, ↓x2_1, ↓x3_0, ↓x3_1, ↓x3_2, ↓x4_0, ↓x4_1, ↓x4_2, ↓x4_3, ↓x5_0, ↓x5_1, ↓x5_2, ↓x5_3, ↓x5_4, ↓ce_ii, ↓ce_bb, ↓ce_2, ↓ce_3, ↓cn_ii, ↓cn_bb, ↓cn_2, ↓cn_3, ↓pk_bl, ↓pk_int, ↓pk_tn, ↓pk_tc, ↓pk_non, ↓nb_bl, ↓nb_int, ↓yt_non, ↓yt_bl, ↓yt_int, ↓yt_str, ↓yt_tup, ↓wp_tup, List.length_cons, List.length_nil, lim, Nat.reduceAdd, Nat.reduceLeDiff, true_and, and_true, is_ii, is_ib, is_bi, is_bb, is_tt, is_lt, is_it, is_nt, is_st, is_ni, is_si, is_ti, is_li, Bool.not_true, Bool.not_false, Bool.false_eq_true, if_true, if_false, abs_eq, Int.cast_ofNat_Int, BEq.rfl, beq_iff_eq, Int.reduceBEq, Int.reduceLT, Int.reduceLE, Int.reduceNeg, Int.reduceEq, List.all_cons, List.all_nil, id, Bool.and_true, Bool.true_and, Bool.and_self, same_nil', oc_some, oc_none, bls, wBs_some, wipe, Option.map_some, List.set_cons_zero, List.set_cons_succ, decide_true, decide_false, ↓reduceIte, decide_eq_true_eq, Bool.not_eq_true', ↓bx_0 c n _ _ hn, ↓bx_1 c n _ _ hn, ↓bx_2 c n _ _ hn, ↓bx_3 c n _ _ hn, ↓bs_0 c n _ hn, ↓bs_1 c n _ hn, ↓bs_2 c n _ hn, ↓hlen, ha, hlog, hm]
      exact hQ _ _ _ _ (by omega) hm (by omega) a1 (by omega)
  · by_cases hg2 : 0 < g
    · simp (decide := true) only [↓ss_cons, ↓ss_nil, ↓s_set, ↓s_ret, ↓s_retN, ↓s_expr, ↓s_ife, ↓s_raise, ↓s_cnt, ↓s_brk, ↓s_pass, ↓s_setX, ↓s_for, ↓s_foS, ↓e_k, ↓e_tup, ↓e_lst, ↓e_call, ↓e_blt, ↓e_cmp, ↓e_bin, ↓e_neg, ↓e_and, ↓e_or, ↓e_not, ↓e_ite, ↓e_chain, ↓e_ix, ↓e_isi, ↓e_meth, ↓e_sl, ↓e_lam, ↓e_lc, ↓es_cons, ↓es_nil, ↓o_no, ↓b_add, ↓b_sub, ↓b_subB, ↓b_addB, ↓b_mul, ↓b_div, ↓b_mod, ↓b_pow, ↓b_addT, ↓b_mulT, ↓c_lt, ↓c_le, ↓c_gt, ↓c_ge, ↓c_isB, ↓c_isNotB, ↓c_isN, ↓c_isNotN, ↓t_abs, ↓t_int, ↓t_intB, ↓t_len, ↓t_min, ↓t_max, ↓t_tupT, ↓t_lstT, ↓i_v, ↓i_tup, ↓i_lst, ↓i_call, ↓i_ix, ↓i_sl, ↓lc_nil, ↓lc_cons, ↓w_lcB, ↓fo_nil, ↓fo_cons, ↓ts_nil, ↓ts_cons, ↓t_all, ↓t_any, ↓t_tup, ↓wI_int, ↓wR_ok, ↓v_0, ↓v_1, ↓v_2, ↓v_3, ↓v_4, ↓v_5, ↓v_6, ↓v_7, ↓v_8, ↓v_9, ↓v_10, ↓v_11, ↓v_12, ↓v_13, ↓v_14, ↓v_15, ↓as_0, ↓as_1, ↓as_2, ↓as_3, ↓as_4, ↓as_5, ↓as_6, ↓as_7, ↓as_8, ↓as_9, ↓as_10, ↓as_11, ↓as_12, ↓as_13, ↓as_14, ↓as_15, ↓as_t, ↓as_n, ↓as_c, ↓x1_0, ↓x2_0, ↓x2_1, ↓x3_0, ↓x3_1, ↓x3_2, ↓x4_0, ↓x4_1, ↓x4_2, ↓x4_3, ↓x5_0, ↓x5_1, ↓x5_2, ↓x5_3, ↓x5_4, ↓ce_ii, ↓ce_bb, ↓ce_2, ↓ce_3, ↓cn_ii, ↓cn_bb, ↓cn_2, ↓cn_3, ↓pk_bl, ↓pk_int, ↓pk_tn, ↓pk_tc, ↓pk_non, ↓nb_bl, ↓nb_int, ↓yt_non, ↓yt_bl, ↓yt_int, ↓yt_str, ↓yt_tup, ↓wp_tup, List.length_cons, List.length_nil, lim, Nat.reduceAdd, Nat.reduceLeDiff, true_and, and_true, is_ii, is_ib, is_bi, is_bb, is_tt, is_lt, is_it, is_nt, is_st, is_ni, is_si, is_ti, is_li, Bool.not_true, Bool.not_false, Bool.false_eq_true, if_true, if_false, abs_eq, Int.cast_ofNat_Int, BEq.rfl, beq_iff_eq, Int.reduceBEq, Int.reduceLT, Int.reduceLE, Int.reduceNeg, Int.reduceEq, List.all_cons, List.all_nil, id, Bool.and_true, Bool.true_and, Bool.and_self, same_nil', oc_some, oc_none, bls, wBs_some, wipe, Option.map_some, List.set_cons_zero, List.set_cons_succ, decide_true, decide_false, ↓reduceIte, decide_eq_true_eq, Bool.not_eq_true', ↓bx_0 c n _ _ hn, ↓bx_1 c n _ _ hn, ↓bx_2 c n _ _ hn, ↓bx_3 c n _ _ hn, ↓bs_0 c n _ hn, ↓bs_1 c n _ hn, ↓bs_2 c n _ hn, ↓hlen, hg, hg2, hlog, hm]
      split
      · exact hQ _ _ _ _ (mt _).1 (mt _).2 (hdiv _ B.s0) B.a0 (by omega)
      · exact hQ _ _ _ _ (mt _).1 (mt _).2 (hdiv _ B.s0) B.a0 (by omega)
    · simp (decide := true) only [↓ss_cons, ↓ss_nil, ↓s_set, ↓s_ret, ↓s_retN, ↓s_expr, ↓s_ife, ↓s_raise, ↓s_cnt, ↓s_brk, ↓s_pass, ↓s_setX, ↓s_for, ↓s_foS, ↓e_k, ↓e_tup, ↓e_lst, ↓e_call, ↓e_blt, ↓e_cmp, ↓e_bin, ↓e_neg, ↓e_and, ↓e_or, ↓e_not, ↓e_ite, ↓e_chain, ↓e_ix, ↓e_isi, ↓e_meth, ↓e_sl, ↓e_lam, ↓e_lc, ↓es_cons, ↓es_nil, ↓o_no, ↓b_add, ↓b_sub, ↓b_subB, ↓b_addB, ↓b_mul, ↓b_div, ↓b_mod, ↓b_pow, ↓b_addT, ↓b_mulT, ↓c_lt, ↓c_le, ↓c_gt, ↓c_ge, ↓c_isB, ↓c_isNotB, ↓c_isN, ↓c_isNotN, ↓t_abs, ↓t_int, ↓t_intB, ↓t_len, ↓t_min, ↓t_max, ↓t_tupT, ↓t_lstT, ↓i_v, ↓i_tup, ↓i_lst, ↓i_call, ↓i_ix, ↓i_sl, ↓lc_nil, ↓lc_cons, ↓w_lcB, ↓fo_nil, ↓fo_cons, ↓ts_nil, ↓ts_cons, ↓t_all, ↓t_any, ↓t_tup, ↓wI_int, ↓wR_ok, ↓v_0, ↓v_1, ↓v_2, ↓v_3, ↓v_4, ↓v_5, ↓v_6, ↓v_7, ↓v_8, ↓v_9, ↓v_10, ↓v_11, ↓v_12, ↓v_13, ↓v_14, ↓v_15, ↓as_0, ↓as_1, ↓as_2, ↓as_3, ↓as_4, ↓as_5, ↓as_6, ↓as_7, ↓as_8, ↓as_9, ↓as_10, ↓as_11, ↓as_12, ↓as_13, ↓as_14, ↓as_15, ↓as_t, ↓as_n, ↓as_c, ↓x1_0, ↓x2_0, ↓x2_1, ↓x3_0, ↓x3_1, ↓x3_2, ↓x4_0, ↓x4_1, ↓x4_2, ↓x4_3, ↓x5_0, ↓x5_1, ↓x5_2, ↓x5_3, ↓x5_4, ↓ce_ii, ↓ce_bb, ↓ce_2, ↓ce_3, ↓cn_ii, ↓cn_bb, ↓cn_2, ↓cn_3, ↓pk_bl, ↓pk_int, ↓pk_tn, ↓pk_tc, ↓pk_non, ↓nb_bl, ↓nb_int, ↓yt_non, ↓yt_bl, ↓yt_int, ↓yt_str, ↓yt_tup, ↓wp_tup, List.length_cons, List.length_nil, lim, Nat.reduceAdd, Nat.reduceLeDiff, true_and, and_true, is_ii, is_ib, is_bi, is_bb, is_tt, is_lt, is_it, is_nt, is_st, is_ni, is_si, is_ti, is_li, Bool.not_true, Bool.not_false, Bool.false_eq_true, if_true, if_false, abs_eq, Int.cast_ofNat_Int, BEq.rfl, beq_iff_eq, Int.reduceBEq, Int.reduceLT, Int.reduceLE, Int.reduceNeg, Int.reduceEq, List.all_cons, List.all_nil, id, Bool.and_true, Bool.true_and, Bool.and_self, same_nil', oc_some, oc_none, bls, wBs_some, wipe, Option.map_some, List.set_cons_zero, List.set_cons_succ, decide_true, decide_false, ↓reduceIte, decide_eq_true_eq, Bool.not_eq_true', ↓bx_0 c n _ _ hn, ↓bx_1 c n _ _ hn, ↓bx_2 c n _ _ hn, ↓bx_3 c n _ _ hn, ↓bs_0 c n _ hn, ↓bs_1 c n _ hn, ↓bs_2 c n _ hn, ↓hlen, hg, hg2, hlog, hm]
      obtain ⟨h60, h9⟩ := B.sm (by omega)
      have h0 := B.s0
      haveI : Sm 60 s := ⟨by omega⟩
      haveI : Sm 10 (g + 1 + 20) := ⟨by omega⟩
      refine ⟨mulOk_sm (n := 60) (m := 16) (k := (inferInstance : Sm _ (48271 : Int)).mono (by decide)) (by decide), mulOk_sm (n := 17) (m := 10) (h := (inferInstance : Sm _ (69621 : Int)).mono (by decide)) (by decide), ?_⟩
      exact hQ _ _ _ _ (mt _).1 (mt _).2 (by omega) B.a0 (by omega)
theorem take_e (k : Nat) {c : Cells} {n : Nat} {m : Int} (hb : Bx c n) (hm : 0 < m) (hs : Sm 100 m) : Drew c n (callD T (k + 1) "_law_take" [.ref n, .int m] c) m := by
  obtain ⟨s, g, a, r, xs, B⟩ := hb
  refine drew_of (take_w k B hm hs fun t s' g' a' h1 h2 h3 h4 h5 => ⟨t, _, rfl, rfl, h1, h2, _, _, _, _, _, B.upd h3 h4 h5⟩)
end K02
end

section
set_option linter.all false
set_option autoImplicit false
set_option maxRecDepth 20000
namespace K02
open G
theorem fm_abs : ∀ ns : List Int, (List.map D.int ns).filterMap (fun d => match d with | .int z => some (D.int z.natAbs) | _ => none) = (ns.map fun z => (z.natAbs : Int)).map .int
  | [] => rfl
  | z :: ns => by
    rw [List.map_cons, List.filterMap_cons, List.map_cons, List.map_cons, fm_abs ns]
theorem box_e (k : Nat) (ns : List Int) (s : Cell) (hl : ns.length ≤ 63) (hs : s = .frz (ns.map D.int) ∨ s = .lst (ns.map D.int)) : callD T (k + 1) "_law_box" [.ref 0] [s] = .ok (.ref 2) [s, .lst ((ns.map fun z => (z.natAbs : Int)).map .int), .lst [.int 0, .int 0, .int 0, .ref 1]] := by
  refine eq_of fun Q E hQ => call_body (fn := fn__law_box) rfl rfl ?_
  unfold fn__law_box
  show wS (dSs _ _ [some (.ref 0), none, none] [s]) _
  dsimp only
  have hi : ∀ PP : List D × List Nat → Prop, wP (itemsD [s] (.ref 0)) PP = PP (ns.map D.int, [0]) := fun PP => by
    rcases hs with rfl | rfl <;> rfl
  rw [ss_cons, s_ret, e_lst, es_cons, e_k, es_cons, e_k, es_cons, e_k, es_cons, e_lc, i_v, v_0, hi]
  refine go_lc (J := fun c' => c' = [s]) (g := fun d => match d with | .int z => some (.int z.natAbs) | _ => none) (c0 := [s]) rfl (by simp [same]) (fun x hx c' hc _ => ?_) (fun c' hc _ => ?_)
  · subst hc
    obtain ⟨z, _, rfl⟩ := List.mem_map.mp hx
    dsimp only
    simp only [↓ss_cons, ↓ss_nil, ↓s_set, ↓s_ret, ↓s_retN, ↓s_expr, ↓s_ife, ↓s_raise, ↓s_cnt, ↓s_brk, ↓s_pass, ↓s_setX, ↓s_for, ↓s_foS, ↓e_k, ↓e_tup, ↓e_lst, ↓e_call, ↓e_blt, ↓e_cmp, ↓e_bin, ↓e_neg, ↓e_and, ↓e_or, ↓e_not, ↓e_ite, ↓e_chain, ↓e_ix, ↓e_isi, ↓e_meth, ↓e_sl, ↓e_lam, ↓e_lc, ↓es_cons, ↓es_nil, ↓o_no, ↓b_add, ↓b_sub, ↓b_subB, ↓b_addB, ↓b_mul, ↓b_div, ↓b_mod, ↓b_pow, ↓b_addT, ↓b_mulT, ↓c_lt, ↓c_le, ↓c_gt, ↓c_ge, ↓c_isB, ↓c_isNotB, ↓c_isN, ↓c_isNotN, ↓t_abs, ↓t_int, ↓t_intB, ↓t_len, ↓t_min, ↓t_max, ↓t_tupT, ↓t_lstT, ↓i_v, ↓i_tup, ↓i_lst, ↓i_call, ↓i_ix, ↓i_sl, ↓lc_nil, ↓lc_cons, ↓w_lcB, ↓fo_nil, ↓fo_cons, ↓ts_nil, ↓ts_cons, ↓t_all, ↓t_any, ↓t_tup, ↓wI_int, ↓wR_ok, ↓v_0, ↓v_1, ↓v_2, ↓v_3, ↓v_4, ↓v_5, ↓v_6, ↓v_7, ↓v_8, ↓v_9, ↓v_10, ↓v_11, ↓v_12, ↓v_13, ↓v_14, ↓v_15, ↓as_0, ↓as_1, ↓as_2, ↓as_3, ↓as_4, ↓as_5, ↓as_6, ↓as_7, ↓as_8, ↓as_9, ↓as_10, ↓as_11, ↓as_12, ↓as_13, ↓as_14, ↓as_15, ↓as_t, ↓as_n, ↓as_c, ↓x1_0, ↓x2_0, ↓x2_1, ↓x3_0, ↓x3_1, ↓x3_2, ↓x4_0, ↓x4_1, ↓x4_2, ↓x4_3, ↓x5_0, ↓x5_1, ↓x5_2, ↓x5_3, ↓x5_4, ↓ce_ii, ↓ce_bb, ↓ce_2, ↓ce_3, ↓cn_ii, ↓cn_bb, ↓cn_2, ↓cn_3, ↓pk_bl, ↓pk_int, ↓pk_tn, ↓pk_tc, ↓pk_non, ↓nb_bl, ↓nb_int, ↓yt_non, ↓yt_bl, ↓yt_int, ↓yt_str, ↓yt_tup, ↓wp_tup, List.length_cons, List.length_nil, lim, Nat.reduceAdd, Nat.reduceLeDiff, true_and, and_true, is_ii, is_ib, is_bi, is_bb, is_tt, is_lt, is_it, is_nt, is_st, is_ni, is_si, is_ti, is_li, Bool.not_true, Bool.not_false, Bool.false_eq_true, if_true, if_false, abs_eq, Int.cast_ofNat_Int, BEq.rfl, beq_iff_eq, Int.reduceBEq, Int.reduceLT, Int.reduceLE, Int.reduceNeg, Int.reduceEq, List.all_cons, List.all_nil, id, Bool.and_true, Bool.true_and, Bool.and_self, same_nil', oc_some, oc_none, bls, wBs_some, wipe, Option.map_some, List.set_cons_zero, List.set_cons_succ, decide_true, decide_false, ↓reduceIte, decide_eq_true_eq, Bool.not_eq_true', ↓as_2]
    simp [same]
  · subst hc
    rw [fm_abs]
    refine ⟨by simp [lim]; omega, ?_⟩
    rw [es_nil]
    exact ⟨by simp [lim], hQ⟩
theorem box_bx (s : Cell) (ns : List Int) : Bx [s, .lst ((ns.map fun z => (z.natAbs : Int)).map .int), .lst [.int 0, .int 0, .int 0, .ref 1]] 2 :=
  ⟨0, 0, 0, 1, ns.map fun z => (z.natAbs : Int), ⟨rfl, by decide, rfl, fun x hx => by
    obtain ⟨z, _, rfl⟩ := List.mem_map.mp hx
    omega, by omega, by omega, by omega⟩⟩
theorem lpoint_e (k : Nat) {c : Cells} {n : Nat} {far : Int} (hb : Bx c n) (h1 : 0 < far) (h2 : far < 100) : ∃ x y w l, callD T (k + 3) "_law_point" [.ref n, .int far] c = .ok (pt x y w) (c.set n (.lst l)) ∧ Pt x y w ∧ Sm 10 x ∧ Sm 10 y ∧ Sm 10 w ∧ Bx (c.set n (.lst l)) n := by
  haveI : Sm 10 far := ⟨by omega⟩
  obtain ⟨t1, l1, e1, p1, p2, b1⟩ := take_e (k + 1) (m := 2 * far + 1) hb (by omega) ⟨by omega⟩
  obtain ⟨t2, l2, e2, p3, p4, b2⟩ := take_e (k + 1) (m := 2 * far + 1) b1 (by omega) ⟨by omega⟩
  obtain ⟨t3, l3, e3, p5, p6, b3⟩ := take_e (k + 1) (m := 5) b2 (by omega) ⟨by omega⟩
  obtain ⟨t4, l4, e4, p7, p8, b4⟩ := take_e (k + 1) (m := 4) b3 (by omega) ⟨by omega⟩
  simp only [List.set_set] at e2 b2 e3 b3 e4 b4
  haveI : Sm 10 (t1 - far) := ⟨by omega⟩
  haveI : Sm 10 (t2 - far) := ⟨by omega⟩
  haveI : Sm 10 (1 + t4) := ⟨by omega⟩
  have hm : mulOk 2 far = true := mulOk_sm (n := 2) (m := 10) (h := ⟨by decide⟩) (by decide)
  have key : callD T (k + 3) "_law_point" [.ref n, .int far] c = if 0 < t3 then .ok (pt (t1 - far) (t2 - far) 1) (c.set n (.lst l3)) else .ok (mp (t1 - far) (t2 - far) (1 + t4)) (c.set n (.lst l4)) := by
    by_cases h : 0 < t3
    · rw [if_pos h]
      refine eq_of fun Q E hQ => call_body (fn := fn__law_point) rfl rfl ?_
      unfold fn__law_point
      show wS (dSs _ _ [some (.ref n), some (.int far), none, none] c) _
      dsimp only
      simp (decide := true) only [↓ss_cons, ↓ss_nil, ↓s_set, ↓s_ret, ↓s_retN, ↓s_expr, ↓s_ife, ↓s_raise, ↓s_cnt, ↓s_brk, ↓s_pass, ↓s_setX, ↓s_for, ↓s_foS, ↓e_k, ↓e_tup, ↓e_lst, ↓e_call, ↓e_blt, ↓e_cmp, ↓e_bin, ↓e_neg, ↓e_and, ↓e_or, ↓e_not, ↓e_ite, ↓e_chain, ↓e_ix, ↓e_isi, ↓e_meth, ↓e_sl, ↓e_lam, ↓e_lc, ↓es_cons, ↓es_nil, ↓o_no, ↓b_add, ↓b_sub, ↓b_subB, ↓b_addB, ↓b_mul, ↓b_div, ↓b_mod, ↓b_pow, ↓b_addT, ↓b_mulT, ↓c_lt, ↓c_le, ↓c_gt, ↓c_ge, ↓c_isB, ↓c_isNotB, ↓c_isN, ↓c_isNotN, ↓t_abs, ↓t_int, ↓t_intB, ↓t_len, ↓t_min, ↓t_max, ↓t_tupT, ↓t_lstT, ↓i_v, ↓i_tup, ↓i_lst, ↓i_call, ↓i_ix, ↓i_sl, ↓lc_nil, ↓lc_cons, ↓w_lcB, ↓fo_nil, ↓fo_cons, ↓ts_nil, ↓ts_cons, ↓t_all, ↓t_any, ↓t_tup, ↓wI_int, ↓wR_ok, ↓v_0, ↓v_1, ↓v_2, ↓v_3, ↓v_4, ↓v_5, ↓v_6, ↓v_7, ↓v_8, ↓v_9, ↓v_10, ↓v_11, ↓v_12, ↓v_13, ↓v_14, ↓v_15, ↓as_0, ↓as_1, ↓as_2, ↓as_3, ↓as_4, ↓as_5, ↓as_6, ↓as_7, ↓as_8, ↓as_9, ↓as_10, ↓as_11, ↓as_12, ↓as_13, ↓as_14, ↓as_15, ↓as_t, ↓as_n, ↓as_c, ↓x1_0, ↓x2_0, ↓x2_1, ↓x3_0, ↓x3_1, ↓x3_2, ↓x4_0, ↓x4_1, ↓x4_2, ↓x4_3, ↓x5_0, ↓x5_1, ↓x5_2, ↓x5_3, ↓x5_4, ↓ce_ii, ↓ce_bb, ↓ce_2, ↓ce_3, ↓cn_ii, ↓cn_bb, ↓cn_2, ↓cn_3, ↓pk_bl, ↓pk_int, ↓pk_tn, ↓pk_tc, ↓pk_non, ↓nb_bl, ↓nb_int, ↓yt_non, ↓yt_bl, ↓yt_int, ↓yt_str, ↓yt_tup, ↓wp_tup, List.length_cons, List.length_nil, lim, Nat.reduceAdd, Nat.reduceLeDiff, true_and, and_true, is_ii, is_ib, is_bi, is_bb, is_tt, is_lt, is_it, is_nt, is_st, is_ni, is_si, is_ti, is_li, Bool.not_true, Bool.not_false, Bool.false_eq_true, if_true, if_false, abs_eq, Int.cast_ofNat_Int, BEq.rfl, beq_iff_eq, Int.reduceBEq, Int.reduceLT, Int.reduceLE, Int.reduceNeg, Int.reduceEq, List.all_cons, List.all_nil, id, Bool.and_true, Bool.true_and, Bool.and_self, same_nil', oc_some, oc_none, bls, wBs_some, wipe, Option.map_some, List.set_cons_zero, List.set_cons_succ, decide_true, decide_false, ↓reduceIte, decide_eq_true_eq, Bool.not_eq_true', hm, ↓w_of _ _ e1, ↓w_of _ _ e2, ↓w_of _ _ e3, h]
      exact hQ
    · rw [if_neg h]
      refine eq_of fun Q E hQ => call_body (fn := fn__law_point) rfl rfl ?_
      unfold fn__law_point
      show wS (dSs _ _ [some (.ref n), some (.int far), none, none] c) _
      dsimp only
      have e5 := fun c => lmade_e k (t1 - far) (t2 - far) (1 + t4) c (by decide) (by omega)
      simp (decide := true) only [↓ss_cons, ↓ss_nil, ↓s_set, ↓s_ret, ↓s_retN, ↓s_expr, ↓s_ife, ↓s_raise, ↓s_cnt, ↓s_brk, ↓s_pass, ↓s_setX, ↓s_for, ↓s_foS, ↓e_k, ↓e_tup, ↓e_lst, ↓e_call, ↓e_blt, ↓e_cmp, ↓e_bin, ↓e_neg, ↓e_and, ↓e_or, ↓e_not, ↓e_ite, ↓e_chain, ↓e_ix, ↓e_isi, ↓e_meth, ↓e_sl, ↓e_lam, ↓e_lc, ↓es_cons, ↓es_nil, ↓o_no, ↓b_add, ↓b_sub, ↓b_subB, ↓b_addB, ↓b_mul, ↓b_div, ↓b_mod, ↓b_pow, ↓b_addT, ↓b_mulT, ↓c_lt, ↓c_le, ↓c_gt, ↓c_ge, ↓c_isB, ↓c_isNotB, ↓c_isN, ↓c_isNotN, ↓t_abs, ↓t_int, ↓t_intB, ↓t_len, ↓t_min, ↓t_max, ↓t_tupT, ↓t_lstT, ↓i_v, ↓i_tup, ↓i_lst, ↓i_call, ↓i_ix, ↓i_sl, ↓lc_nil, ↓lc_cons, ↓w_lcB, ↓fo_nil, ↓fo_cons, ↓ts_nil, ↓ts_cons, ↓t_all, ↓t_any, ↓t_tup, ↓wI_int, ↓wR_ok, ↓v_0, ↓v_1, ↓v_2, ↓v_3, ↓v_4, ↓v_5, ↓v_6, ↓v_7, ↓v_8, ↓v_9, ↓v_10, ↓v_11, ↓v_12, ↓v_13, ↓v_14, ↓v_15, ↓as_0, ↓as_1, ↓as_2, ↓as_3, ↓as_4, ↓as_5, ↓as_6, ↓as_7, ↓as_8, ↓as_9, ↓as_10, ↓as_11, ↓as_12, ↓as_13, ↓as_14, ↓as_15, ↓as_t, ↓as_n, ↓as_c, ↓x1_0, ↓x2_0, ↓x2_1, ↓x3_0, ↓x3_1, ↓x3_2, ↓x4_0, ↓x4_1, ↓x4_2, ↓x4_3, ↓x5_0, ↓x5_1, ↓x5_2, ↓x5_3, ↓x5_4, ↓ce_ii, ↓ce_bb, ↓ce_2, ↓ce_3, ↓cn_ii, ↓cn_bb, ↓cn_2, ↓cn_3, ↓pk_bl, ↓pk_int, ↓pk_tn, ↓pk_tc, ↓pk_non, ↓nb_bl, ↓nb_int, ↓yt_non, ↓yt_bl, ↓yt_int, ↓yt_str, ↓yt_tup, ↓wp_tup, List.length_cons, List.length_nil, lim, Nat.reduceAdd, Nat.reduceLeDiff, true_and, and_true, is_ii, is_ib, is_bi, is_bb, is_tt, is_lt, is_it, is_nt, is_st, is_ni, is_si, is_ti, is_li, Bool.not_true, Bool.not_false, Bool.false_eq_true, if_true, if_false, abs_eq, Int.cast_ofNat_Int, BEq.rfl, beq_iff_eq, Int.reduceBEq, Int.reduceLT, Int.reduceLE, Int.reduceNeg, Int.reduceEq, List.all_cons, List.all_nil, id, Bool.and_true, Bool.true_and, Bool.and_self, same_nil', oc_some, oc_none, bls, wBs_some, wipe, Option.map_some, List.set_cons_zero, List.set_cons_succ, decide_true, decide_false, ↓reduceIte, decide_eq_true_eq, Bool.not_eq_true', hm, ↓w_of _ _ e1, ↓w_of _ _ e2, ↓w_of _ _ e3, ↓w_of _ _ e4, ↓w_of _ _ (e5 _), h]
      exact hQ
  by_cases h : 0 < t3
  · rw [if_pos h] at key
    exact ⟨_, _, _, _, key, ⟨by omega, by unfold g3; simp⟩, inferInstance, inferInstance, ⟨by decide⟩, b3⟩
  · rw [if_neg h] at key
    exact ⟨_, _, _, _, key, Fr.m_pt (by omega), inferInstance, inferInstance, inferInstance, b4⟩
theorem lpick_e (k : Nat) {c : Cells} {n r : Nat} {xs : List D} (hb : Bx c n) (hr : c[r]? = some (.lst xs)) (hne : r ≠ n) (h0 : 0 < xs.length) (h1 : xs.length < 100) : ∃ d l, callD T (k + 2) "_law_pick" [.ref n, .ref r] c = .ok d (c.set n (.lst l)) ∧ d ∈ xs ∧ Bx (c.set n (.lst l)) n := by
  obtain ⟨t1, l1, e1, p1, p2, b1⟩ := take_e k (m := xs.length) hb (by omega) ⟨by omega⟩
  have ht : t1.toNat < xs.length := by omega
  refine ⟨xs[t1.toNat], l1, eq_of fun Q E hQ => call_body (fn := fn__law_pick) rfl rfl ?_, List.getElem_mem ht, b1⟩
  unfold fn__law_pick
  show wS (dSs _ _ [some (.ref n), some (.ref r)] c) _
  dsimp only
  have hlen : ∀ (Q : QD) (E : QX), wR (opBlt .len [.ref r] c) Q E = Q (.int (xs.length : Int)) c := fun Q E => t_lenR _ _ _ _ _ hr
  have hx : ∀ (Q : QD) (E : QX), wR (opIx (.ref r) (.int t1) (c.set n (.lst l1))) Q E = Q xs[t1.toNat] (c.set n (.lst l1)) := fun Q E => by
    rw [x_ref]
    unfold getL
    rw [List.getElem?_set_ne (Ne.symm hne), hr]
    have : atI xs t1 = some xs[t1.toNat] := by
      unfold atI ixN
      rw [if_pos p1, if_pos p2]
      simp [ht]
    dsimp only [Option.bind]
    rw [this]
    rfl
  simp (decide := true) only [↓ss_cons, ↓ss_nil, ↓s_set, ↓s_ret, ↓s_retN, ↓s_expr, ↓s_ife, ↓s_raise, ↓s_cnt, ↓s_brk, ↓s_pass, ↓s_setX, ↓s_for, ↓s_foS, ↓e_k, ↓e_tup, ↓e_lst, ↓e_call, ↓e_blt, ↓e_cmp, ↓e_bin, ↓e_neg, ↓e_and, ↓e_or, ↓e_not, ↓e_ite, ↓e_chain, ↓e_ix, ↓e_isi, ↓e_meth, ↓e_sl, ↓e_lam, ↓e_lc, ↓es_cons, ↓es_nil, ↓o_no, ↓b_add, ↓b_sub, ↓b_subB, ↓b_addB, ↓b_mul, ↓b_div, ↓b_mod, ↓b_pow, ↓b_addT, ↓b_mulT, ↓c_lt, ↓c_le, ↓c_gt, ↓c_ge, ↓c_isB, ↓c_isNotB, ↓c_isN, ↓c_isNotN, ↓t_abs, ↓t_int, ↓t_intB, ↓t_len, ↓t_min, ↓t_max, ↓t_tupT, ↓t_lstT, ↓i_v, ↓i_tup, ↓i_lst, ↓i_call, ↓i_ix, ↓i_sl, ↓lc_nil, ↓lc_cons, ↓w_lcB, ↓fo_nil, ↓fo_cons, ↓ts_nil, ↓ts_cons, ↓t_all, ↓t_any, ↓t_tup, ↓wI_int, ↓wR_ok, ↓v_0, ↓v_1, ↓v_2, ↓v_3, ↓v_4, ↓v_5, ↓v_6, ↓v_7, ↓v_8, ↓v_9, ↓v_10, ↓v_11, ↓v_12, ↓v_13, ↓v_14, ↓v_15, ↓as_0, ↓as_1, ↓as_2, ↓as_3, ↓as_4, ↓as_5, ↓as_6, ↓as_7, ↓as_8, ↓as_9, ↓as_10, ↓as_11, ↓as_12, ↓as_13, ↓as_14, ↓as_15, ↓as_t, ↓as_n, ↓as_c, ↓x1_0, ↓x2_0, ↓x2_1, ↓x3_0, ↓x3_1, ↓x3_2, ↓x4_0, ↓x4_1, ↓x4_2, ↓x4_3, ↓x5_0, ↓x5_1, ↓x5_2, ↓x5_3, ↓x5_4, ↓ce_ii, ↓ce_bb, ↓ce_2, ↓ce_3, ↓cn_ii, ↓cn_bb, ↓cn_2, ↓cn_3, ↓pk_bl, ↓pk_int, ↓pk_tn, ↓pk_tc, ↓pk_non, ↓nb_bl, ↓nb_int, ↓yt_non, ↓yt_bl, ↓yt_int, ↓yt_str, ↓yt_tup, ↓wp_tup, List.length_cons, List.length_nil, lim, Nat.reduceAdd, Nat.reduceLeDiff, true_and, and_true, is_ii, is_ib, is_bi, is_bb, is_tt, is_lt, is_it, is_nt, is_st, is_ni, is_si, is_ti, is_li, Bool.not_true, Bool.not_false, Bool.false_eq_true, if_true, if_false, abs_eq, Int.cast_ofNat_Int, BEq.rfl, beq_iff_eq, Int.reduceBEq, Int.reduceLT, Int.reduceLE, Int.reduceNeg, Int.reduceEq, List.all_cons, List.all_nil, id, Bool.and_true, Bool.true_and, Bool.and_self, same_nil', oc_some, oc_none, bls, wBs_some, wipe, Option.map_some, List.set_cons_zero, List.set_cons_succ, decide_true, decide_false, ↓reduceIte, decide_eq_true_eq, Bool.not_eq_true', ↓hlen, ↓w_of _ _ e1, ↓hx]
  exact hQ
end K02
end

section
set_option linter.all false
set_option autoImplicit false
set_option maxRecDepth 20000
namespace G
/-- one statement, then the others -/
theorem seq {Γ : Ctx} {s : IS} {r : List IS} {ρ : Lo} {c : Cells} {K : SK} (P : Lo → Cells → Prop) (h : ∀ I : Lo → Cells → Prop, (∀ ρ' c', P ρ' c' → I ρ' c') → wS (dS Γ s ρ c) ⟨I, K.rt, K.bk, K.ct, K.ex⟩) (k : ∀ ρ' c', P ρ' c' → wS (dSs Γ r ρ' c') K) : wS (dSs Γ (s :: r) ρ c) K := by
  rw [ss_cons]
  exact h _ k
theorem Bx.app {c : Cells} {n : Nat} (h : Bx c n) (g : Cells) : Bx (c ++ g) n := by
  obtain ⟨s, v, a, r, xs, B⟩ := h
  refine ⟨s, v, a, r, xs, ?_, B.ne, ?_, B.pos, B.s0, B.a0, B.sm⟩
  · rw [List.getElem?_append_left (List.getElem?_eq_some_iff.mp B.box).1]; exact B.box
  · rw [List.getElem?_append_left (List.getElem?_eq_some_iff.mp B.row).1]; exact B.row
end G
namespace K02
open G
theorem isnum_b (k : Nat) (x : Bool) (c : Cells) : callD T (k + 1) "is_number" [.bl x] c = .ok (.bl false) c := by
  refine eq_of fun Q E hQ => call_body (fn := fn_is_number) rfl rfl ?_
  unfold fn_is_number
  show wS (dSs _ _ [some (.bl x)] c) _
  dsimp only
  simp (decide := true) only [↓ss_cons, ↓ss_nil, ↓s_set, ↓s_ret, ↓s_retN, ↓s_expr, ↓s_ife, ↓s_raise, ↓s_cnt, ↓s_brk, ↓s_pass, ↓s_setX, ↓s_for, ↓s_foS, ↓e_k, ↓e_tup, ↓e_lst, ↓e_call, ↓e_blt, ↓e_cmp, ↓e_bin, ↓e_neg, ↓e_and, ↓e_or, ↓e_not, ↓e_ite, ↓e_chain, ↓e_ix, ↓e_isi, ↓e_meth, ↓e_sl, ↓e_lam, ↓e_lc, ↓es_cons, ↓es_nil, ↓o_no, ↓b_add, ↓b_sub, ↓b_subB, ↓b_addB, ↓b_mul, ↓b_div, ↓b_mod, ↓b_pow, ↓b_addT, ↓b_mulT, ↓c_lt, ↓c_le, ↓c_gt, ↓c_ge, ↓c_isB, ↓c_isNotB, ↓c_isN, ↓c_isNotN, ↓t_abs, ↓t_int, ↓t_intB, ↓t_len, ↓t_min, ↓t_max, ↓t_tupT, ↓t_lstT, ↓i_v, ↓i_tup, ↓i_lst, ↓i_call, ↓i_ix, ↓i_sl, ↓lc_nil, ↓lc_cons, ↓w_lcB, ↓fo_nil, ↓fo_cons, ↓ts_nil, ↓ts_cons, ↓t_all, ↓t_any, ↓t_tup, ↓wI_int, ↓wR_ok, ↓v_0, ↓v_1, ↓v_2, ↓v_3, ↓v_4, ↓v_5, ↓v_6, ↓v_7, ↓v_8, ↓v_9, ↓v_10, ↓v_11, ↓v_12, ↓v_13, ↓v_14, ↓v_15, ↓as_0, ↓as_1, ↓as_2, ↓as_3, ↓as_4, ↓as_5, ↓as_6, ↓as_7, ↓as_8, ↓as_9, ↓as_10, ↓as_11, ↓as_12, ↓as_13, ↓as_14, ↓as_15, ↓as_t, ↓as_n, ↓as_c, ↓x1_0, ↓x2_0, ↓x2_1, ↓x3_0, ↓x3_1, ↓x3_2, ↓x4_0, ↓x4_1, ↓x4_2, ↓x4_3, ↓x5_0, ↓x5_1, ↓x5_2, ↓x5_3, ↓x5_4, ↓ce_ii, ↓ce_bb, ↓ce_2, ↓ce_3, ↓cn_ii, ↓cn_bb, ↓cn_2, ↓cn_3, ↓pk_bl, ↓pk_int, ↓pk_tn, ↓pk_tc, ↓pk_non, ↓nb_bl, ↓nb_int, ↓yt_non, ↓yt_bl, ↓yt_int, ↓yt_str, ↓yt_tup, ↓wp_tup, List.length_cons, List.length_nil, lim, Nat.reduceAdd, Nat.reduceLeDiff, true_and, and_true, is_ii, is_ib, is_bi, is_bb, is_tt, is_lt, is_it, is_nt, is_st, is_ni, is_si, is_ti, is_li, Bool.not_true, Bool.not_false, Bool.false_eq_true, if_true, if_false, abs_eq, Int.cast_ofNat_Int, BEq.rfl, beq_iff_eq, Int.reduceBEq, Int.reduceLT, Int.reduceLE, Int.reduceNeg, Int.reduceEq, List.all_cons, List.all_nil, id, Bool.and_true, Bool.true_and, Bool.and_self, same_nil', oc_some, oc_none, bls, wBs_some, wipe, Option.map_some, List.set_cons_zero, List.set_cons_succ, decide_true, decide_false, ↓reduceIte, decide_eq_true_eq, Bool.not_eq_true']
  exact hQ
theorem isnum_s (k : Nat) (x : PySem.Str) (c : Cells) : callD T (k + 1) "is_number" [.str x] c = .ok (.bl false) c := by
  refine eq_of fun Q E hQ => call_body (fn := fn_is_number) rfl rfl ?_
  unfold fn_is_number
  show wS (dSs _ _ [some (.str x)] c) _
  dsimp only
  simp (decide := true) only [↓ss_cons, ↓ss_nil, ↓s_set, ↓s_ret, ↓s_retN, ↓s_expr, ↓s_ife, ↓s_raise, ↓s_cnt, ↓s_brk, ↓s_pass, ↓s_setX, ↓s_for, ↓s_foS, ↓e_k, ↓e_tup, ↓e_lst, ↓e_call, ↓e_blt, ↓e_cmp, ↓e_bin, ↓e_neg, ↓e_and, ↓e_or, ↓e_not, ↓e_ite, ↓e_chain, ↓e_ix, ↓e_isi, ↓e_meth, ↓e_sl, ↓e_lam, ↓e_lc, ↓es_cons, ↓es_nil, ↓o_no, ↓b_add, ↓b_sub, ↓b_subB, ↓b_addB, ↓b_mul, ↓b_div, ↓b_mod, ↓b_pow, ↓b_addT, ↓b_mulT, ↓c_lt, ↓c_le, ↓c_gt, ↓c_ge, ↓c_isB, ↓c_isNotB, ↓c_isN, ↓c_isNotN, ↓t_abs, ↓t_int, ↓t_intB, ↓t_len, ↓t_min, ↓t_max, ↓t_tupT, ↓t_lstT, ↓i_v, ↓i_tup, ↓i_lst, ↓i_call, ↓i_ix, ↓i_sl, ↓lc_nil, ↓lc_cons, ↓w_lcB, ↓fo_nil, ↓fo_cons, ↓ts_nil, ↓ts_cons, ↓t_all, ↓t_any, ↓t_tup, ↓wI_int, ↓wR_ok, ↓v_0, ↓v_1, ↓v_2, ↓v_3, ↓v_4, ↓v_5, ↓v_6, ↓v_7, ↓v_8, ↓v_9, ↓v_10, ↓v_11, ↓v_12, ↓v_13, ↓v_14, ↓v_15, ↓as_0, ↓as_1, ↓as_2, ↓as_3, ↓as_4, ↓as_5, ↓as_6, ↓as_7, ↓as_8, ↓as_9, ↓as_10, ↓as_11, ↓as_12, ↓as_13, ↓as_14, ↓as_15, ↓as_t, ↓as_n, ↓as_c, ↓x1_0, ↓x2_0, ↓x2_1, ↓x3_0, ↓x3_1, ↓x3_2, ↓x4_0, ↓x4_1, ↓x4_2, ↓x4_3, ↓x5_0, ↓x5_1, ↓x5_2, ↓x5_3, ↓x5_4, ↓ce_ii, ↓ce_bb, ↓ce_2, ↓ce_3, ↓cn_ii, ↓cn_bb, ↓cn_2, ↓cn_3, ↓pk_bl, ↓pk_int, ↓pk_tn, ↓pk_tc, ↓pk_non, ↓nb_bl, ↓nb_int, ↓yt_non, ↓yt_bl, ↓yt_int, ↓yt_str, ↓yt_tup, ↓wp_tup, List.length_cons, List.length_nil, lim, Nat.reduceAdd, Nat.reduceLeDiff, true_and, and_true, is_ii, is_ib, is_bi, is_bb, is_tt, is_lt, is_it, is_nt, is_st, is_ni, is_si, is_ti, is_li, Bool.not_true, Bool.not_false, Bool.false_eq_true, if_true, if_false, abs_eq, Int.cast_ofNat_Int, BEq.rfl, beq_iff_eq, Int.reduceBEq, Int.reduceLT, Int.reduceLE, Int.reduceNeg, Int.reduceEq, List.all_cons, List.all_nil, id, Bool.and_true, Bool.true_and, Bool.and_self, same_nil', oc_some, oc_none, bls, wBs_some, wipe, Option.map_some, List.set_cons_zero, List.set_cons_succ, decide_true, decide_false, ↓reduceIte, decide_eq_true_eq, Bool.not_eq_true']
  exact hQ
def bads : List D := [pt 2 2 2, pt 1 1 0, pt 1 1 (-1), .tup [.int 1, .int 1], .tup [.bl true, .int 0, .int 1], .tup [.int 0, .int 0, .bl true], .non, .tup [.str (s "0"), .int 0, .int 1], pt 0 0 2, .tup [.int 1, .int 1, .int 1, .int 1]]
def Bad (c : Cells) (d : D) : Prop := (∃ r xs, d = .ref r ∧ c[r]? = some (.lst xs)) ∨ d ∈ bads
theorem Bad.app {c : Cells} {d : D} (h : Bad c d) (g : Cells) : Bad (c ++ g) d := by
  rcases h with ⟨r, xs, rfl, h⟩ | h
  · refine .inl ⟨r, xs, rfl, ?_⟩
    rw [List.getElem?_append_left (List.getElem?_eq_some_iff.mp h).1]; exact h
  · exact .inr h
theorem isbad (k : Nat) {c : Cells} {d : D} (h : Bad c d) : ∃ g, callD T (k + 2) "is_point" [d] c = .ok (.bl false) (c ++ g) := by
  have three : ∀ x y w : Int, (decide (1 ≤ w) && decide (Int.gcd (Int.gcd x y : Int) w = 1)) = false → ∃ g, callD T (k + 2) "is_point" [pt x y w] c = .ok (.bl false) (c ++ g) := fun x y w h => ⟨[tr3], by rw [ispoint_e, h]⟩
  rcases h with ⟨r, xs, rfl, h⟩ | h
  · refine ⟨[], eq_of fun Q E hQ => call_body (fn := fn_is_point) rfl rfl ?_⟩
    unfold fn_is_point
    show wS (dSs _ _ [some (.ref r), none, none] c) _
    dsimp only
    rw [List.append_nil] at hQ
    have ht : ∀ P : String → Prop, wTy (tyOf c (.ref r)) P = P "list" := fun P => by unfold tyOf; dsimp only; rw [h]; rfl
    simp (decide := true) only [↓ss_cons, ↓ss_nil, ↓s_set, ↓s_ret, ↓s_retN, ↓s_expr, ↓s_ife, ↓s_raise, ↓s_cnt, ↓s_brk, ↓s_pass, ↓s_setX, ↓s_for, ↓s_foS, ↓e_k, ↓e_tup, ↓e_lst, ↓e_call, ↓e_blt, ↓e_cmp, ↓e_bin, ↓e_neg, ↓e_and, ↓e_or, ↓e_not, ↓e_ite, ↓e_chain, ↓e_ix, ↓e_isi, ↓e_meth, ↓e_sl, ↓e_lam, ↓e_lc, ↓es_cons, ↓es_nil, ↓o_no, ↓b_add, ↓b_sub, ↓b_subB, ↓b_addB, ↓b_mul, ↓b_div, ↓b_mod, ↓b_pow, ↓b_addT, ↓b_mulT, ↓c_lt, ↓c_le, ↓c_gt, ↓c_ge, ↓c_isB, ↓c_isNotB, ↓c_isN, ↓c_isNotN, ↓t_abs, ↓t_int, ↓t_intB, ↓t_len, ↓t_min, ↓t_max, ↓t_tupT, ↓t_lstT, ↓i_v, ↓i_tup, ↓i_lst, ↓i_call, ↓i_ix, ↓i_sl, ↓lc_nil, ↓lc_cons, ↓w_lcB, ↓fo_nil, ↓fo_cons, ↓ts_nil, ↓ts_cons, ↓t_all, ↓t_any, ↓t_tup, ↓wI_int, ↓wR_ok, ↓v_0, ↓v_1, ↓v_2, ↓v_3, ↓v_4, ↓v_5, ↓v_6, ↓v_7, ↓v_8, ↓v_9, ↓v_10, ↓v_11, ↓v_12, ↓v_13, ↓v_14, ↓v_15, ↓as_0, ↓as_1, ↓as_2, ↓as_3, ↓as_4, ↓as_5, ↓as_6, ↓as_7, ↓as_8, ↓as_9, ↓as_10, ↓as_11, ↓as_12, ↓as_13, ↓as_14, ↓as_15, ↓as_t, ↓as_n, ↓as_c, ↓x1_0, ↓x2_0, ↓x2_1, ↓x3_0, ↓x3_1, ↓x3_2, ↓x4_0, ↓x4_1, ↓x4_2, ↓x4_3, ↓x5_0, ↓x5_1, ↓x5_2, ↓x5_3, ↓x5_4, ↓ce_ii, ↓ce_bb, ↓ce_2, ↓ce_3, ↓cn_ii, ↓cn_bb, ↓cn_2, ↓cn_3, ↓pk_bl, ↓pk_int, ↓pk_tn, ↓pk_tc, ↓pk_non, ↓nb_bl, ↓nb_int, ↓yt_non, ↓yt_bl, ↓yt_int, ↓yt_str, ↓yt_tup, ↓wp_tup, List.length_cons, List.length_nil, lim, Nat.reduceAdd, Nat.reduceLeDiff, true_and, and_true, is_ii, is_ib, is_bi, is_bb, is_tt, is_lt, is_it, is_nt, is_st, is_ni, is_si, is_ti, is_li, Bool.not_true, Bool.not_false, Bool.false_eq_true, if_true, if_false, abs_eq, Int.cast_ofNat_Int, BEq.rfl, beq_iff_eq, Int.reduceBEq, Int.reduceLT, Int.reduceLE, Int.reduceNeg, Int.reduceEq, List.all_cons, List.all_nil, id, Bool.and_true, Bool.true_and, Bool.and_self, same_nil', oc_some, oc_none, bls, wBs_some, wipe, Option.map_some, List.set_cons_zero, List.set_cons_succ, decide_true, decide_false, ↓reduceIte, decide_eq_true_eq, Bool.not_eq_true', ↓ht]
    exact hQ
  · simp only [bads, List.mem_cons, List.not_mem_nil, or_false] at h
    rcases h with rfl | rfl | rfl | rfl | rfl | rfl | rfl | rfl | rfl | rfl
    · exact three _ _ _ (by decide)
    · exact three _ _ _ (by decide)
    · exact three _ _ _ (by decide)
    · refine ⟨[], eq_of fun Q E hQ => call_body (fn := fn_is_point) rfl rfl ?_⟩
      unfold fn_is_point
      show wS (dSs _ _ [some (.tup [.int 1, .int 1]), none, none] c) _
      dsimp only
      rw [List.append_nil] at hQ
      simp (decide := true) only [↓ss_cons, ↓ss_nil, ↓s_set, ↓s_ret, ↓s_retN, ↓s_expr, ↓s_ife, ↓s_raise, ↓s_cnt, ↓s_brk, ↓s_pass, ↓s_setX, ↓s_for, ↓s_foS, ↓e_k, ↓e_tup, ↓e_lst, ↓e_call, ↓e_blt, ↓e_cmp, ↓e_bin, ↓e_neg, ↓e_and, ↓e_or, ↓e_not, ↓e_ite, ↓e_chain, ↓e_ix, ↓e_isi, ↓e_meth, ↓e_sl, ↓e_lam, ↓e_lc, ↓es_cons, ↓es_nil, ↓o_no, ↓b_add, ↓b_sub, ↓b_subB, ↓b_addB, ↓b_mul, ↓b_div, ↓b_mod, ↓b_pow, ↓b_addT, ↓b_mulT, ↓c_lt, ↓c_le, ↓c_gt, ↓c_ge, ↓c_isB, ↓c_isNotB, ↓c_isN, ↓c_isNotN, ↓t_abs, ↓t_int, ↓t_intB, ↓t_len, ↓t_min, ↓t_max, ↓t_tupT, ↓t_lstT, ↓i_v, ↓i_tup, ↓i_lst, ↓i_call, ↓i_ix, ↓i_sl, ↓lc_nil, ↓lc_cons, ↓w_lcB, ↓fo_nil, ↓fo_cons, ↓ts_nil, ↓ts_cons, ↓t_all, ↓t_any, ↓t_tup, ↓wI_int, ↓wR_ok, ↓v_0, ↓v_1, ↓v_2, ↓v_3, ↓v_4, ↓v_5, ↓v_6, ↓v_7, ↓v_8, ↓v_9, ↓v_10, ↓v_11, ↓v_12, ↓v_13, ↓v_14, ↓v_15, ↓as_0, ↓as_1, ↓as_2, ↓as_3, ↓as_4, ↓as_5, ↓as_6, ↓as_7, ↓as_8, ↓as_9, ↓as_10, ↓as_11, ↓as_12, ↓as_13, ↓as_14, ↓as_15, ↓as_t, ↓as_n, ↓as_c, ↓x1_0, ↓x2_0, ↓x2_1, ↓x3_0, ↓x3_1, ↓x3_2, ↓x4_0, ↓x4_1, ↓x4_2, ↓x4_3, ↓x5_0, ↓x5_1, ↓x5_2, ↓x5_3, ↓x5_4, ↓ce_ii, ↓ce_bb, ↓ce_2, ↓ce_3, ↓cn_ii, ↓cn_bb, ↓cn_2, ↓cn_3, ↓pk_bl, ↓pk_int, ↓pk_tn, ↓pk_tc, ↓pk_non, ↓nb_bl, ↓nb_int, ↓yt_non, ↓yt_bl, ↓yt_int, ↓yt_str, ↓yt_tup, ↓wp_tup, List.length_cons, List.length_nil, lim, Nat.reduceAdd, Nat.reduceLeDiff, true_and, and_true, is_ii, is_ib, is_bi, is_bb, is_tt, is_lt, is_it, is_nt, is_st, is_ni, is_si, is_ti, is_li, Bool.not_true, Bool.not_false, Bool.false_eq_true, if_true, if_false, abs_eq, Int.cast_ofNat_Int, BEq.rfl, beq_iff_eq, Int.reduceBEq, Int.reduceLT, Int.reduceLE, Int.reduceNeg, Int.reduceEq, List.all_cons, List.all_nil, id, Bool.and_true, Bool.true_and, Bool.and_self, same_nil', oc_some, oc_none, bls, wBs_some, wipe, Option.map_some, List.set_cons_zero, List.set_cons_succ, decide_true, decide_false, ↓reduceIte, decide_eq_true_eq, Bool.not_eq_true']
      exact hQ
    · refine ⟨[.lst [.bl false, .bl true, .bl true]], eq_of fun Q E hQ => call_body (fn := fn_is_point) rfl rfl ?_⟩
      unfold fn_is_point
      show wS (dSs _ _ [some (.tup [.bl true, .int 0, .int 1]), none, none] c) _
      dsimp only
      simp (decide := true) only [↓ss_cons, ↓ss_nil, ↓s_set, ↓s_ret, ↓s_retN, ↓s_expr, ↓s_ife, ↓s_raise, ↓s_cnt, ↓s_brk, ↓s_pass, ↓s_setX, ↓s_for, ↓s_foS, ↓e_k, ↓e_tup, ↓e_lst, ↓e_call, ↓e_blt, ↓e_cmp, ↓e_bin, ↓e_neg, ↓e_and, ↓e_or, ↓e_not, ↓e_ite, ↓e_chain, ↓e_ix, ↓e_isi, ↓e_meth, ↓e_sl, ↓e_lam, ↓e_lc, ↓es_cons, ↓es_nil, ↓o_no, ↓b_add, ↓b_sub, ↓b_subB, ↓b_addB, ↓b_mul, ↓b_div, ↓b_mod, ↓b_pow, ↓b_addT, ↓b_mulT, ↓c_lt, ↓c_le, ↓c_gt, ↓c_ge, ↓c_isB, ↓c_isNotB, ↓c_isN, ↓c_isNotN, ↓t_abs, ↓t_int, ↓t_intB, ↓t_len, ↓t_min, ↓t_max, ↓t_tupT, ↓t_lstT, ↓i_v, ↓i_tup, ↓i_lst, ↓i_call, ↓i_ix, ↓i_sl, ↓lc_nil, ↓lc_cons, ↓w_lcB, ↓fo_nil, ↓fo_cons, ↓ts_nil, ↓ts_cons, ↓t_all, ↓t_any, ↓t_tup, ↓wI_int, ↓wR_ok, ↓v_0, ↓v_1, ↓v_2, ↓v_3, ↓v_4, ↓v_5, ↓v_6, ↓v_7, ↓v_8, ↓v_9, ↓v_10, ↓v_11, ↓v_12, ↓v_13, ↓v_14, ↓v_15, ↓as_0, ↓as_1, ↓as_2, ↓as_3, ↓as_4, ↓as_5, ↓as_6, ↓as_7, ↓as_8, ↓as_9, ↓as_10, ↓as_11, ↓as_12, ↓as_13, ↓as_14, ↓as_15, ↓as_t, ↓as_n, ↓as_c, ↓x1_0, ↓x2_0, ↓x2_1, ↓x3_0, ↓x3_1, ↓x3_2, ↓x4_0, ↓x4_1, ↓x4_2, ↓x4_3, ↓x5_0, ↓x5_1, ↓x5_2, ↓x5_3, ↓x5_4, ↓ce_ii, ↓ce_bb, ↓ce_2, ↓ce_3, ↓cn_ii, ↓cn_bb, ↓cn_2, ↓cn_3, ↓pk_bl, ↓pk_int, ↓pk_tn, ↓pk_tc, ↓pk_non, ↓nb_bl, ↓nb_int, ↓yt_non, ↓yt_bl, ↓yt_int, ↓yt_str, ↓yt_tup, ↓wp_tup, List.length_cons, List.length_nil, lim, Nat.reduceAdd, Nat.reduceLeDiff, true_and, and_true, is_ii, is_ib, is_bi, is_bb, is_tt, is_lt, is_it, is_nt, is_st, is_ni, is_si, is_ti, is_li, Bool.not_true, Bool.not_false, Bool.false_eq_true, if_true, if_false, abs_eq, Int.cast_ofNat_Int, BEq.rfl, beq_iff_eq, Int.reduceBEq, Int.reduceLT, Int.reduceLE, Int.reduceNeg, Int.reduceEq, List.all_cons, List.all_nil, id, Bool.and_true, Bool.true_and, Bool.and_self, same_nil', oc_some, oc_none, bls, wBs_some, wipe, Option.map_some, List.set_cons_zero, List.set_cons_succ, decide_true, decide_false, ↓reduceIte, decide_eq_true_eq, Bool.not_eq_true', ↓w_of _ _ (isnum_i _ _ _), ↓w_of _ _ (isnum_b _ _ _)]
      exact hQ
    · refine ⟨[.lst [.bl true, .bl true, .bl false]], eq_of fun Q E hQ => call_body (fn := fn_is_point) rfl rfl ?_⟩
      unfold fn_is_point
      show wS (dSs _ _ [some (.tup [.int 0, .int 0, .bl true]), none, none] c) _
      dsimp only
      simp (decide := true) only [↓ss_cons, ↓ss_nil, ↓s_set, ↓s_ret, ↓s_retN, ↓s_expr, ↓s_ife, ↓s_raise, ↓s_cnt, ↓s_brk, ↓s_pass, ↓s_setX, ↓s_for, ↓s_foS, ↓e_k, ↓e_tup, ↓e_lst, ↓e_call, ↓e_blt, ↓e_cmp, ↓e_bin, ↓e_neg, ↓e_and, ↓e_or, ↓e_not, ↓e_ite, ↓e_chain, ↓e_ix, ↓e_isi, ↓e_meth, ↓e_sl, ↓e_lam, ↓e_lc, ↓es_cons, ↓es_nil, ↓o_no, ↓b_add, ↓b_sub, ↓b_subB, ↓b_addB, ↓b_mul, ↓b_div, ↓b_mod, ↓b_pow, ↓b_addT, ↓b_mulT, ↓c_lt, ↓c_le, ↓c_gt, ↓c_ge, ↓c_isB, ↓c_isNotB, ↓c_isN, ↓c_isNotN, ↓t_abs, ↓t_int, ↓t_intB, ↓t_len, ↓t_min, ↓t_max, ↓t_tupT, ↓t_lstT, ↓i_v, ↓i_tup, ↓i_lst, ↓i_call, ↓i_ix, ↓i_sl, ↓lc_nil, ↓lc_cons, ↓w_lcB, ↓fo_nil, ↓fo_cons, ↓ts_nil, ↓ts_cons, ↓t_all, ↓t_any, ↓t_tup, ↓wI_int, ↓wR_ok, ↓v_0, ↓v_1, ↓v_2, ↓v_3, ↓v_4, ↓v_5, ↓v_6, ↓v_7, ↓v_8, ↓v_9, ↓v_10, ↓v_11, ↓v_12, ↓v_13, ↓v_14, ↓v_15, ↓as_0, ↓as_1, ↓as_2, ↓as_3, ↓as_4, ↓as_5, ↓as_6, ↓as_7, ↓as_8, ↓as_9, ↓as_10, ↓as_11, ↓as_12, ↓as_13, ↓as_14, ↓as_15, ↓as_t, ↓as_n, ↓as_c, ↓x1_0, ↓x2_0, ↓x2_1, ↓x3_0, ↓x3_1, ↓x3_2, ↓x4_0, ↓x4_1, ↓x4_2, ↓x4_3, ↓x5_0, ↓x5_1, ↓x5_2, ↓x5_3, ↓x5_4, ↓ce_ii, ↓ce_bb, ↓ce_2, ↓ce_3, ↓cn_ii, ↓cn_bb, ↓cn_2, ↓cn_3, ↓pk_bl, ↓pk_int, ↓pk_tn, ↓pk_tc, ↓pk_non, ↓nb_bl, ↓nb_int, ↓yt_non, ↓yt_bl, ↓yt_int, ↓yt_str, ↓yt_tup, ↓wp_tup, List.length_cons, List.length_nil, lim, Nat.reduceAdd, Nat.reduceLeDiff, true_and, and_true, is_ii, is_ib, is_bi, is_bb, is_tt, is_lt, is_it, is_nt, is_st, is_ni, is_si, is_ti, is_li, Bool.not_true, Bool.not_false, Bool.false_eq_true, if_true, if_false, abs_eq, Int.cast_ofNat_Int, BEq.rfl, beq_iff_eq, Int.reduceBEq, Int.reduceLT, Int.reduceLE, Int.reduceNeg, Int.reduceEq, List.all_cons, List.all_nil, id, Bool.and_true, Bool.true_and, Bool.and_self, same_nil', oc_some, oc_none, bls, wBs_some, wipe, Option.map_some, List.set_cons_zero, List.set_cons_succ, decide_true, decide_false, ↓reduceIte, decide_eq_true_eq, Bool.not_eq_true', ↓w_of _ _ (isnum_i _ _ _), ↓w_of _ _ (isnum_b _ _ _)]
      exact hQ
    · refine ⟨[], eq_of fun Q E hQ => call_body (fn := fn_is_point) rfl rfl ?_⟩
      unfold fn_is_point
      show wS (dSs _ _ [some .non, none, none] c) _
      dsimp only
      rw [List.append_nil] at hQ
      simp (decide := true) only [↓ss_cons, ↓ss_nil, ↓s_set, ↓s_ret, ↓s_retN, ↓s_expr, ↓s_ife, ↓s_raise, ↓s_cnt, ↓s_brk, ↓s_pass, ↓s_setX, ↓s_for, ↓s_foS, ↓e_k, ↓e_tup, ↓e_lst, ↓e_call, ↓e_blt, ↓e_cmp, ↓e_bin, ↓e_neg, ↓e_and, ↓e_or, ↓e_not, ↓e_ite, ↓e_chain, ↓e_ix, ↓e_isi, ↓e_meth, ↓e_sl, ↓e_lam, ↓e_lc, ↓es_cons, ↓es_nil, ↓o_no, ↓b_add, ↓b_sub, ↓b_subB, ↓b_addB, ↓b_mul, ↓b_div, ↓b_mod, ↓b_pow, ↓b_addT, ↓b_mulT, ↓c_lt, ↓c_le, ↓c_gt, ↓c_ge, ↓c_isB, ↓c_isNotB, ↓c_isN, ↓c_isNotN, ↓t_abs, ↓t_int, ↓t_intB, ↓t_len, ↓t_min, ↓t_max, ↓t_tupT, ↓t_lstT, ↓i_v, ↓i_tup, ↓i_lst, ↓i_call, ↓i_ix, ↓i_sl, ↓lc_nil, ↓lc_cons, ↓w_lcB, ↓fo_nil, ↓fo_cons, ↓ts_nil, ↓ts_cons, ↓t_all, ↓t_any, ↓t_tup, ↓wI_int, ↓wR_ok, ↓v_0, ↓v_1, ↓v_2, ↓v_3, ↓v_4, ↓v_5, ↓v_6, ↓v_7, ↓v_8, ↓v_9, ↓v_10, ↓v_11, ↓v_12, ↓v_13, ↓v_14, ↓v_15, ↓as_0, ↓as_1, ↓as_2, ↓as_3, ↓as_4, ↓as_5, ↓as_6, ↓as_7, ↓as_8, ↓as_9, ↓as_10, ↓as_11, ↓as_12, ↓as_13, ↓as_14, ↓as_15, ↓as_t, ↓as_n, ↓as_c, ↓x1_0, ↓x2_0, ↓x2_1, ↓x3_0, ↓x3_1, ↓x3_2, ↓x4_0, ↓x4_1, ↓x4_2, ↓x4_3, ↓x5_0, ↓x5_1, ↓x5_2, ↓x5_3, ↓x5_4, ↓ce_ii, ↓ce_bb, ↓ce_2, ↓ce_3, ↓cn_ii, ↓cn_bb, ↓cn_2, ↓cn_3, ↓pk_bl, ↓pk_int, ↓pk_tn, ↓pk_tc, ↓pk_non, ↓nb_bl, ↓nb_int, ↓yt_non, ↓yt_bl, ↓yt_int, ↓yt_str, ↓yt_tup, ↓wp_tup, List.length_cons, List.length_nil, lim, Nat.reduceAdd, Nat.reduceLeDiff, true_and, and_true, is_ii, is_ib, is_bi, is_bb, is_tt, is_lt, is_it, is_nt, is_st, is_ni, is_si, is_ti, is_li, Bool.not_true, Bool.not_false, Bool.false_eq_true, if_true, if_false, abs_eq, Int.cast_ofNat_Int, BEq.rfl, beq_iff_eq, Int.reduceBEq, Int.reduceLT, Int.reduceLE, Int.reduceNeg, Int.reduceEq, List.all_cons, List.all_nil, id, Bool.and_true, Bool.true_and, Bool.and_self, same_nil', oc_some, oc_none, bls, wBs_some, wipe, Option.map_some, List.set_cons_zero, List.set_cons_succ, decide_true, decide_false, ↓reduceIte, decide_eq_true_eq, Bool.not_eq_true']
      exact hQ
    · refine ⟨[.lst [.bl false, .bl true, .bl true]], eq_of fun Q E hQ => call_body (fn := fn_is_point) rfl rfl ?_⟩
      unfold fn_is_point
      show wS (dSs _ _ [some (.tup [.str (s "0"), .int 0, .int 1]), none, none] c) _
      dsimp only
      simp (decide := true) only [↓ss_cons, ↓ss_nil, ↓s_set, ↓s_ret, ↓s_retN, ↓s_expr, ↓s_ife, ↓s_raise, ↓s_cnt, ↓s_brk, ↓s_pass, ↓s_setX, ↓s_for, ↓s_foS, ↓e_k, ↓e_tup, ↓e_lst, ↓e_call, ↓e_blt, ↓e_cmp, ↓e_bin, ↓e_neg, ↓e_and, ↓e_or, ↓e_not, ↓e_ite, ↓e_chain, ↓e_ix, ↓e_isi, ↓e_meth, ↓e_sl, ↓e_lam, ↓e_lc, ↓es_cons, ↓es_nil, ↓o_no, ↓b_add, ↓b_sub, ↓b_subB, ↓b_addB, ↓b_mul, ↓b_div, ↓b_mod, ↓b_pow, ↓b_addT, ↓b_mulT, ↓c_lt, ↓c_le, ↓c_gt, ↓c_ge, ↓c_isB, ↓c_isNotB, ↓c_isN, ↓c_isNotN, ↓t_abs, ↓t_int, ↓t_intB, ↓t_len, ↓t_min, ↓t_max, ↓t_tupT, ↓t_lstT, ↓i_v, ↓i_tup, ↓i_lst, ↓i_call, ↓i_ix, ↓i_sl, ↓lc_nil, ↓lc_cons, ↓w_lcB, ↓fo_nil, ↓fo_cons, ↓ts_nil, ↓ts_cons, ↓t_all, ↓t_any, ↓t_tup, ↓wI_int, ↓wR_ok, ↓v_0, ↓v_1, ↓v_2, ↓v_3, ↓v_4, ↓v_5, ↓v_6, ↓v_7, ↓v_8, ↓v_9, ↓v_10, ↓v_11, ↓v_12, ↓v_13, ↓v_14, ↓v_15, ↓as_0, ↓as_1, ↓as_2, ↓as_3, ↓as_4, ↓as_5, ↓as_6, ↓as_7, ↓as_8, ↓as_9, ↓as_10, ↓as_11, ↓as_12, ↓as_13, ↓as_14, ↓as_15, ↓as_t, ↓as_n, ↓as_c, ↓x1_0, ↓x2_0, ↓x2_1, ↓x3_0, ↓x3_1, ↓x3_2, ↓x4_0, ↓x4_1, ↓x4_2, ↓x4_3, ↓x5_0, ↓x5_1, ↓x5_2, ↓x5_3, ↓x5_4, ↓ce_ii, ↓ce_bb, ↓ce_2, ↓ce_3, ↓cn_ii, ↓cn_bb, ↓cn_2, ↓cn_3, ↓pk_bl, ↓pk_int, ↓pk_tn, ↓pk_tc, ↓pk_non, ↓nb_bl, ↓nb_int, ↓yt_non, ↓yt_bl, ↓yt_int, ↓yt_str, ↓yt_tup, ↓wp_tup, List.length_cons, List.length_nil, lim, Nat.reduceAdd, Nat.reduceLeDiff, true_and, and_true, is_ii, is_ib, is_bi, is_bb, is_tt, is_lt, is_it, is_nt, is_st, is_ni, is_si, is_ti, is_li, Bool.not_true, Bool.not_false, Bool.false_eq_true, if_true, if_false, abs_eq, Int.cast_ofNat_Int, BEq.rfl, beq_iff_eq, Int.reduceBEq, Int.reduceLT, Int.reduceLE, Int.reduceNeg, Int.reduceEq, List.all_cons, List.all_nil, id, Bool.and_true, Bool.true_and, Bool.and_self, same_nil', oc_some, oc_none, bls, wBs_some, wipe, Option.map_some, List.set_cons_zero, List.set_cons_succ, decide_true, decide_false, ↓reduceIte, decide_eq_true_eq, Bool.not_eq_true', ↓w_of _ _ (isnum_i _ _ _), ↓w_of _ _ (isnum_s _ _ _)]
      exact hQ
    · exact three _ _ _ (by decide)
    · refine ⟨[], eq_of fun Q E hQ => call_body (fn := fn_is_point) rfl rfl ?_⟩
      unfold fn_is_point
      show wS (dSs _ _ [some (.tup [.int 1, .int 1, .int 1, .int 1]), none, none] c) _
      dsimp only
      rw [List.append_nil] at hQ
      simp (decide := true) only [↓ss_cons, ↓ss_nil, ↓s_set, ↓s_ret, ↓s_retN, ↓s_expr, ↓s_ife, ↓s_raise, ↓s_cnt, ↓s_brk, ↓s_pass, ↓s_setX, ↓s_for, ↓s_foS, ↓e_k, ↓e_tup, ↓e_lst, ↓e_call, ↓e_blt, ↓e_cmp, ↓e_bin, ↓e_neg, ↓e_and, ↓e_or, ↓e_not, ↓e_ite, ↓e_chain, ↓e_ix, ↓e_isi, ↓e_meth, ↓e_sl, ↓e_lam, ↓e_lc, ↓es_cons, ↓es_nil, ↓o_no, ↓b_add, ↓b_sub, ↓b_subB, ↓b_addB, ↓b_mul, ↓b_div, ↓b_mod, ↓b_pow, ↓b_addT, ↓b_mulT, ↓c_lt, ↓c_le, ↓c_gt, ↓c_ge, ↓c_isB, ↓c_isNotB, ↓c_isN, ↓c_isNotN, ↓t_abs, ↓t_int, ↓t_intB, ↓t_len, ↓t_min, ↓t_max, ↓t_tupT, ↓t_lstT, ↓i_v, ↓i_tup, ↓i_lst, ↓i_call, ↓i_ix, ↓i_sl, ↓lc_nil, ↓lc_cons, ↓w_lcB, ↓fo_nil, ↓fo_cons, ↓ts_nil, ↓ts_cons, ↓t_all, ↓t_any, ↓t_tup, ↓wI_int, ↓wR_ok, ↓v_0, ↓v_1, ↓v_2, ↓v_3, ↓v_4, ↓v_5, ↓v_6, ↓v_7, ↓v_8, ↓v_9, ↓v_10, ↓v_11, ↓v_12, ↓v_13, ↓v_14, ↓v_15, ↓as_0, ↓as_1, ↓as_2, ↓as_3, ↓as_4, ↓as_5, ↓as_6, ↓as_7, ↓as_8, ↓as_9, ↓as_10, ↓as_11, ↓as_12, ↓as_13, ↓as_14, ↓as_15, ↓as_t, ↓as_n, ↓as_c, ↓x1_0, ↓x2_0, ↓x2_1, ↓x3_0, ↓x3_1, ↓x3_2, ↓x4_0, ↓x4_1, ↓x4_2, ↓x4_3, ↓x5_0, ↓x5_1, ↓x5_2, ↓x5_3, ↓x5_4, ↓ce_ii, ↓ce_bb, ↓ce_2, ↓ce_3, ↓cn_ii, ↓cn_bb, ↓cn_2, ↓cn_3, ↓pk_bl, ↓pk_int, ↓pk_tn, ↓pk_tc, ↓pk_non, ↓nb_bl, ↓nb_int, ↓yt_non, ↓yt_bl, ↓yt_int, ↓yt_str, ↓yt_tup, ↓wp_tup, List.length_cons, List.length_nil, lim, Nat.reduceAdd, Nat.reduceLeDiff, true_and, and_true, is_ii, is_ib, is_bi, is_bb, is_tt, is_lt, is_it, is_nt, is_st, is_ni, is_si, is_ti, is_li, Bool.not_true, Bool.not_false, Bool.false_eq_true, if_true, if_false, abs_eq, Int.cast_ofNat_Int, BEq.rfl, beq_iff_eq, Int.reduceBEq, Int.reduceLT, Int.reduceLE, Int.reduceNeg, Int.reduceEq, List.all_cons, List.all_nil, id, Bool.and_true, Bool.true_and, Bool.and_self, same_nil', oc_some, oc_none, bls, wBs_some, wipe, Option.map_some, List.set_cons_zero, List.set_cons_succ, decide_true, decide_false, ↓reduceIte, decide_eq_true_eq, Bool.not_eq_true']
      exact hQ
end K02
end

section
set_option linter.all false
set_option autoImplicit false
set_option maxRecDepth 20000
namespace K02
open G
theorem check_bad (k : Nat) {c : Cells} {d : D} (h : Bad c d) : ∃ g, callD T (k + 3) "check_point" [d] c = .ex "BadShape" (c ++ g) := by
  obtain ⟨g, e⟩ := isbad k h
  refine ⟨g, ex_of fun Q E hE => call_body (fn := fn_check_point) rfl rfl ?_⟩
  unfold fn_check_point
  show wS (dSs _ _ [some d] c) _
  dsimp only
  simp (decide := true) only [↓ss_cons, ↓ss_nil, ↓s_set, ↓s_ret, ↓s_retN, ↓s_expr, ↓s_ife, ↓s_raise, ↓s_cnt, ↓s_brk, ↓s_pass, ↓s_setX, ↓s_for, ↓s_foS, ↓e_k, ↓e_tup, ↓e_lst, ↓e_call, ↓e_blt, ↓e_cmp, ↓e_bin, ↓e_neg, ↓e_and, ↓e_or, ↓e_not, ↓e_ite, ↓e_chain, ↓e_ix, ↓e_isi, ↓e_meth, ↓e_sl, ↓e_lam, ↓e_lc, ↓es_cons, ↓es_nil, ↓o_no, ↓b_add, ↓b_sub, ↓b_subB, ↓b_addB, ↓b_mul, ↓b_div, ↓b_mod, ↓b_pow, ↓b_addT, ↓b_mulT, ↓c_lt, ↓c_le, ↓c_gt, ↓c_ge, ↓c_isB, ↓c_isNotB, ↓c_isN, ↓c_isNotN, ↓t_abs, ↓t_int, ↓t_intB, ↓t_len, ↓t_min, ↓t_max, ↓t_tupT, ↓t_lstT, ↓i_v, ↓i_tup, ↓i_lst, ↓i_call, ↓i_ix, ↓i_sl, ↓lc_nil, ↓lc_cons, ↓w_lcB, ↓fo_nil, ↓fo_cons, ↓ts_nil, ↓ts_cons, ↓t_all, ↓t_any, ↓t_tup, ↓wI_int, ↓wR_ok, ↓v_0, ↓v_1, ↓v_2, ↓v_3, ↓v_4, ↓v_5, ↓v_6, ↓v_7, ↓v_8, ↓v_9, ↓v_10, ↓v_11, ↓v_12, ↓v_13, ↓v_14, ↓v_15, ↓as_0, ↓as_1, ↓as_2, ↓as_3, ↓as_4, ↓as_5, ↓as_6, ↓as_7, ↓as_8, ↓as_9, ↓as_10, ↓as_11, ↓as_12, ↓as_13, ↓as_14, ↓as_15, ↓as_t, ↓as_n, ↓as_c, ↓x1_0, ↓x2_0, ↓x2_1, ↓x3_0, ↓x3_1, ↓x3_2, ↓x4_0, ↓x4_1, ↓x4_2, ↓x4_3, ↓x5_0, ↓x5_1, ↓x5_2, ↓x5_3, ↓x5_4, ↓ce_ii, ↓ce_bb, ↓ce_2, ↓ce_3, ↓cn_ii, ↓cn_bb, ↓cn_2, ↓cn_3, ↓pk_bl, ↓pk_int, ↓pk_tn, ↓pk_tc, ↓pk_non, ↓nb_bl, ↓nb_int, ↓yt_non, ↓yt_bl, ↓yt_int, ↓yt_str, ↓yt_tup, ↓wp_tup, List.length_cons, List.length_nil, lim, Nat.reduceAdd, Nat.reduceLeDiff, true_and, and_true, is_ii, is_ib, is_bi, is_bb, is_tt, is_lt, is_it, is_nt, is_st, is_ni, is_si, is_ti, is_li, Bool.not_true, Bool.not_false, Bool.false_eq_true, if_true, if_false, abs_eq, Int.cast_ofNat_Int, BEq.rfl, beq_iff_eq, Int.reduceBEq, Int.reduceLT, Int.reduceLE, Int.reduceNeg, Int.reduceEq, List.all_cons, List.all_nil, id, Bool.and_true, Bool.true_and, Bool.and_self, same_nil', oc_some, oc_none, bls, wBs_some, wipe, Option.map_some, List.set_cons_zero, List.set_cons_succ, decide_true, decide_false, ↓reduceIte, decide_eq_true_eq, Bool.not_eq_true', ↓w_of _ _ e]
  exact hE
theorem turned_bad (k : Nat) {c : Cells} {d : D} (h : Bad c d) (j : Int) : ∃ g, callD T (k + 4) "turned" [d, .int j] c = .ex "BadShape" (c ++ g) := by
  obtain ⟨g, e⟩ := check_bad k h
  refine ⟨g, ex_of fun Q E hE => call_body (fn := fn_turned) rfl rfl ?_⟩
  unfold fn_turned
  show wS (dSs _ _ [some d, some (.int j), none] c) _
  dsimp only
  simp (decide := true) only [↓ss_cons, ↓ss_nil, ↓s_set, ↓s_ret, ↓s_retN, ↓s_expr, ↓s_ife, ↓s_raise, ↓s_cnt, ↓s_brk, ↓s_pass, ↓s_setX, ↓s_for, ↓s_foS, ↓e_k, ↓e_tup, ↓e_lst, ↓e_call, ↓e_blt, ↓e_cmp, ↓e_bin, ↓e_neg, ↓e_and, ↓e_or, ↓e_not, ↓e_ite, ↓e_chain, ↓e_ix, ↓e_isi, ↓e_meth, ↓e_sl, ↓e_lam, ↓e_lc, ↓es_cons, ↓es_nil, ↓o_no, ↓b_add, ↓b_sub, ↓b_subB, ↓b_addB, ↓b_mul, ↓b_div, ↓b_mod, ↓b_pow, ↓b_addT, ↓b_mulT, ↓c_lt, ↓c_le, ↓c_gt, ↓c_ge, ↓c_isB, ↓c_isNotB, ↓c_isN, ↓c_isNotN, ↓t_abs, ↓t_int, ↓t_intB, ↓t_len, ↓t_min, ↓t_max, ↓t_tupT, ↓t_lstT, ↓i_v, ↓i_tup, ↓i_lst, ↓i_call, ↓i_ix, ↓i_sl, ↓lc_nil, ↓lc_cons, ↓w_lcB, ↓fo_nil, ↓fo_cons, ↓ts_nil, ↓ts_cons, ↓t_all, ↓t_any, ↓t_tup, ↓wI_int, ↓wR_ok, ↓v_0, ↓v_1, ↓v_2, ↓v_3, ↓v_4, ↓v_5, ↓v_6, ↓v_7, ↓v_8, ↓v_9, ↓v_10, ↓v_11, ↓v_12, ↓v_13, ↓v_14, ↓v_15, ↓as_0, ↓as_1, ↓as_2, ↓as_3, ↓as_4, ↓as_5, ↓as_6, ↓as_7, ↓as_8, ↓as_9, ↓as_10, ↓as_11, ↓as_12, ↓as_13, ↓as_14, ↓as_15, ↓as_t, ↓as_n, ↓as_c, ↓x1_0, ↓x2_0, ↓x2_1, ↓x3_0, ↓x3_1, ↓x3_2, ↓x4_0, ↓x4_1, ↓x4_2, ↓x4_3, ↓x5_0, ↓x5_1, ↓x5_2, ↓x5_3, ↓x5_4, ↓ce_ii, ↓ce_bb, ↓ce_2, ↓ce_3, ↓cn_ii, ↓cn_bb, ↓cn_2, ↓cn_3, ↓pk_bl, ↓pk_int, ↓pk_tn, ↓pk_tc, ↓pk_non, ↓nb_bl, ↓nb_int, ↓yt_non, ↓yt_bl, ↓yt_int, ↓yt_str, ↓yt_tup, ↓wp_tup, List.length_cons, List.length_nil, lim, Nat.reduceAdd, Nat.reduceLeDiff, true_and, and_true, is_ii, is_ib, is_bi, is_bb, is_tt, is_lt, is_it, is_nt, is_st, is_ni, is_si, is_ti, is_li, Bool.not_true, Bool.not_false, Bool.false_eq_true, if_true, if_false, abs_eq, Int.cast_ofNat_Int, BEq.rfl, beq_iff_eq, Int.reduceBEq, Int.reduceLT, Int.reduceLE, Int.reduceNeg, Int.reduceEq, List.all_cons, List.all_nil, id, Bool.and_true, Bool.true_and, Bool.and_self, same_nil', oc_some, oc_none, bls, wBs_some, wipe, Option.map_some, List.set_cons_zero, List.set_cons_succ, decide_true, decide_false, ↓reduceIte, decide_eq_true_eq, Bool.not_eq_true', ↓w_ex _ _ e]
  exact hE
theorem cps_bad2 (k : Nat) {c : Cells} {d z : D} {x y w : Int} (h : Bad c d) (p : Pt x y w) : ∃ g, callD T (k + 4) "check_points" [.tup [pt x y w, d, z]] c = .ex "BadShape" (c ++ g) := by
  obtain ⟨g, e⟩ := check_bad k (h.app [tr3])
  refine ⟨[tr3] ++ g, ex_of fun Q E hE => call_body (fn := fn_check_points) rfl rfl ?_⟩
  unfold fn_check_points
  show wS (dSs _ _ [some (.tup [pt x y w, d, z]), none] c) _
  dsimp only
  simp (decide := true) only [↓ss_cons, ↓ss_nil, ↓s_set, ↓s_ret, ↓s_retN, ↓s_expr, ↓s_ife, ↓s_raise, ↓s_cnt, ↓s_brk, ↓s_pass, ↓s_setX, ↓s_for, ↓s_foS, ↓e_k, ↓e_tup, ↓e_lst, ↓e_call, ↓e_blt, ↓e_cmp, ↓e_bin, ↓e_neg, ↓e_and, ↓e_or, ↓e_not, ↓e_ite, ↓e_chain, ↓e_ix, ↓e_isi, ↓e_meth, ↓e_sl, ↓e_lam, ↓e_lc, ↓es_cons, ↓es_nil, ↓o_no, ↓b_add, ↓b_sub, ↓b_subB, ↓b_addB, ↓b_mul, ↓b_div, ↓b_mod, ↓b_pow, ↓b_addT, ↓b_mulT, ↓c_lt, ↓c_le, ↓c_gt, ↓c_ge, ↓c_isB, ↓c_isNotB, ↓c_isN, ↓c_isNotN, ↓t_abs, ↓t_int, ↓t_intB, ↓t_len, ↓t_min, ↓t_max, ↓t_tupT, ↓t_lstT, ↓i_v, ↓i_tup, ↓i_lst, ↓i_call, ↓i_ix, ↓i_sl, ↓lc_nil, ↓lc_cons, ↓w_lcB, ↓fo_nil, ↓fo_cons, ↓ts_nil, ↓ts_cons, ↓t_all, ↓t_any, ↓t_tup, ↓wI_int, ↓wR_ok, ↓v_0, ↓v_1, ↓v_2, ↓v_3, ↓v_4, ↓v_5, ↓v_6, ↓v_7, ↓v_8, ↓v_9, ↓v_10, ↓v_11, ↓v_12, ↓v_13, ↓v_14, ↓v_15, ↓as_0, ↓as_1, ↓as_2, ↓as_3, ↓as_4, ↓as_5, ↓as_6, ↓as_7, ↓as_8, ↓as_9, ↓as_10, ↓as_11, ↓as_12, ↓as_13, ↓as_14, ↓as_15, ↓as_t, ↓as_n, ↓as_c, ↓x1_0, ↓x2_0, ↓x2_1, ↓x3_0, ↓x3_1, ↓x3_2, ↓x4_0, ↓x4_1, ↓x4_2, ↓x4_3, ↓x5_0, ↓x5_1, ↓x5_2, ↓x5_3, ↓x5_4, ↓ce_ii, ↓ce_bb, ↓ce_2, ↓ce_3, ↓cn_ii, ↓cn_bb, ↓cn_2, ↓cn_3, ↓pk_bl, ↓pk_int, ↓pk_tn, ↓pk_tc, ↓pk_non, ↓nb_bl, ↓nb_int, ↓yt_non, ↓yt_bl, ↓yt_int, ↓yt_str, ↓yt_tup, ↓wp_tup, List.length_cons, List.length_nil, lim, Nat.reduceAdd, Nat.reduceLeDiff, true_and, and_true, is_ii, is_ib, is_bi, is_bb, is_tt, is_lt, is_it, is_nt, is_st, is_ni, is_si, is_ti, is_li, Bool.not_true, Bool.not_false, Bool.false_eq_true, if_true, if_false, abs_eq, Int.cast_ofNat_Int, BEq.rfl, beq_iff_eq, Int.reduceBEq, Int.reduceLT, Int.reduceLE, Int.reduceNeg, Int.reduceEq, List.all_cons, List.all_nil, id, Bool.and_true, Bool.true_and, Bool.and_self, same_nil', oc_some, oc_none, bls, wBs_some, wipe, Option.map_some, List.set_cons_zero, List.set_cons_succ, decide_true, decide_false, ↓reduceIte, decide_eq_true_eq, Bool.not_eq_true', ↓w_of _ _ (checkpoint_p _ p _), ↓w_ex _ _ e]
  rw [List.append_assoc]
  exact hE
theorem cps_bad3 (k : Nat) {c : Cells} {d : D} {x y w x' y' w' : Int} (h : Bad c d) (p : Pt x y w) (p' : Pt x' y' w') : ∃ g, callD T (k + 4) "check_points" [.tup [pt x y w, pt x' y' w', d]] c = .ex "BadShape" (c ++ g) := by
  obtain ⟨g, e⟩ := check_bad k ((h.app [tr3]).app [tr3])
  refine ⟨[tr3] ++ [tr3] ++ g, ex_of fun Q E hE => call_body (fn := fn_check_points) rfl rfl ?_⟩
  unfold fn_check_points
  show wS (dSs _ _ [some (.tup [pt x y w, pt x' y' w', d]), none] c) _
  dsimp only
  simp (decide := true) only [↓ss_cons, ↓ss_nil, ↓s_set, ↓s_ret, ↓s_retN, ↓s_expr, ↓s_ife, ↓s_raise, ↓s_cnt, ↓s_brk, ↓s_pass, ↓s_setX, ↓s_for, ↓s_foS, ↓e_k, ↓e_tup, ↓e_lst, ↓e_call, ↓e_blt, ↓e_cmp, ↓e_bin, ↓e_neg, ↓e_and, ↓e_or, ↓e_not, ↓e_ite, ↓e_chain, ↓e_ix, ↓e_isi, ↓e_meth, ↓e_sl, ↓e_lam, ↓e_lc, ↓es_cons, ↓es_nil, ↓o_no, ↓b_add, ↓b_sub, ↓b_subB, ↓b_addB, ↓b_mul, ↓b_div, ↓b_mod, ↓b_pow, ↓b_addT, ↓b_mulT, ↓c_lt, ↓c_le, ↓c_gt, ↓c_ge, ↓c_isB, ↓c_isNotB, ↓c_isN, ↓c_isNotN, ↓t_abs, ↓t_int, ↓t_intB, ↓t_len, ↓t_min, ↓t_max, ↓t_tupT, ↓t_lstT, ↓i_v, ↓i_tup, ↓i_lst, ↓i_call, ↓i_ix, ↓i_sl, ↓lc_nil, ↓lc_cons, ↓w_lcB, ↓fo_nil, ↓fo_cons, ↓ts_nil, ↓ts_cons, ↓t_all, ↓t_any, ↓t_tup, ↓wI_int, ↓wR_ok, ↓v_0, ↓v_1, ↓v_2, ↓v_3, ↓v_4, ↓v_5, ↓v_6, ↓v_7, ↓v_8, ↓v_9, ↓v_10, ↓v_11, ↓v_12, ↓v_13, ↓v_14, ↓v_15, ↓as_0, ↓as_1, ↓as_2, ↓as_3, ↓as_4, ↓as_5, ↓as_6, ↓as_7, ↓as_8, ↓as_9, ↓as_10, ↓as_11, ↓as_12, ↓as_13, ↓as_14, ↓as_15, ↓as_t, ↓as_n, ↓as_c, ↓x1_0, ↓x2_0, ↓x2_1, ↓x3_0, ↓x3_1, ↓x3_2, ↓x4_0, ↓x4_1, ↓x4_2, ↓x4_3, ↓x5_0, ↓x5_1, ↓x5_2, ↓x5_3, ↓x5_4, ↓ce_ii, ↓ce_bb, ↓ce_2, ↓ce_3, ↓cn_ii, ↓cn_bb, ↓cn_2, ↓cn_3, ↓pk_bl, ↓pk_int, ↓pk_tn, ↓pk_tc, ↓pk_non, ↓nb_bl, ↓nb_int, ↓yt_non, ↓yt_bl, ↓yt_int, ↓yt_str, ↓yt_tup, ↓wp_tup, List.length_cons, List.length_nil, lim, Nat.reduceAdd, Nat.reduceLeDiff, true_and, and_true, is_ii, is_ib, is_bi, is_bb, is_tt, is_lt, is_it, is_nt, is_st, is_ni, is_si, is_ti, is_li, Bool.not_true, Bool.not_false, Bool.false_eq_true, if_true, if_false, abs_eq, Int.cast_ofNat_Int, BEq.rfl, beq_iff_eq, Int.reduceBEq, Int.reduceLT, Int.reduceLE, Int.reduceNeg, Int.reduceEq, List.all_cons, List.all_nil, id, Bool.and_true, Bool.true_and, Bool.and_self, same_nil', oc_some, oc_none, bls, wBs_some, wipe, Option.map_some, List.set_cons_zero, List.set_cons_succ, decide_true, decide_false, ↓reduceIte, decide_eq_true_eq, Bool.not_eq_true', ↓w_of _ _ (checkpoint_p _ p _), ↓w_of _ _ (checkpoint_p _ p' _), ↓w_ex _ _ e]
  rw [List.append_assoc, List.append_assoc, ← List.append_assoc [tr3]]
  exact hE
theorem turn_bad (k : Nat) {c : Cells} {d z : D} {x y w : Int} (h : Bad c d) (p : Pt x y w) : ∃ g, callD T (k + 5) "turn" [pt x y w, d, z] c = .ex "BadShape" (c ++ g) := by
  obtain ⟨g, e⟩ := cps_bad2 k (z := z) h p
  refine ⟨g, ex_of fun Q E hE => call_body (fn := fn_turn) rfl rfl ?_⟩
  unfold fn_turn
  show wS (dSs _ _ [some (pt x y w), some d, some z] c) _
  dsimp only
  simp (decide := true) only [↓ss_cons, ↓ss_nil, ↓s_set, ↓s_ret, ↓s_retN, ↓s_expr, ↓s_ife, ↓s_raise, ↓s_cnt, ↓s_brk, ↓s_pass, ↓s_setX, ↓s_for, ↓s_foS, ↓e_k, ↓e_tup, ↓e_lst, ↓e_call, ↓e_blt, ↓e_cmp, ↓e_bin, ↓e_neg, ↓e_and, ↓e_or, ↓e_not, ↓e_ite, ↓e_chain, ↓e_ix, ↓e_isi, ↓e_meth, ↓e_sl, ↓e_lam, ↓e_lc, ↓es_cons, ↓es_nil, ↓o_no, ↓b_add, ↓b_sub, ↓b_subB, ↓b_addB, ↓b_mul, ↓b_div, ↓b_mod, ↓b_pow, ↓b_addT, ↓b_mulT, ↓c_lt, ↓c_le, ↓c_gt, ↓c_ge, ↓c_isB, ↓c_isNotB, ↓c_isN, ↓c_isNotN, ↓t_abs, ↓t_int, ↓t_intB, ↓t_len, ↓t_min, ↓t_max, ↓t_tupT, ↓t_lstT, ↓i_v, ↓i_tup, ↓i_lst, ↓i_call, ↓i_ix, ↓i_sl, ↓lc_nil, ↓lc_cons, ↓w_lcB, ↓fo_nil, ↓fo_cons, ↓ts_nil, ↓ts_cons, ↓t_all, ↓t_any, ↓t_tup, ↓wI_int, ↓wR_ok, ↓v_0, ↓v_1, ↓v_2, ↓v_3, ↓v_4, ↓v_5, ↓v_6, ↓v_7, ↓v_8, ↓v_9, ↓v_10, ↓v_11, ↓v_12, ↓v_13, ↓v_14, ↓v_15, ↓as_0, ↓as_1, ↓as_2, ↓as_3, ↓as_4, ↓as_5, ↓as_6, ↓as_7, ↓as_8, ↓as_9, ↓as_10, ↓as_11, ↓as_12, ↓as_13, ↓as_14, ↓as_15, ↓as_t, ↓as_n, ↓as_c, ↓x1_0, ↓x2_0, ↓x2_1, ↓x3_0, ↓x3_1, ↓x3_2, ↓x4_0, ↓x4_1, ↓x4_2, ↓x4_3, ↓x5_0, ↓x5_1, ↓x5_2, ↓x5_3, ↓x5_4, ↓ce_ii, ↓ce_bb, ↓ce_2, ↓ce_3, ↓cn_ii, ↓cn_bb, ↓cn_2, ↓cn_3, ↓pk_bl, ↓pk_int, ↓pk_tn, ↓pk_tc, ↓pk_non, ↓nb_bl, ↓nb_int, ↓yt_non, ↓yt_bl, ↓yt_int, ↓yt_str, ↓yt_tup, ↓wp_tup, List.length_cons, List.length_nil, lim, Nat.reduceAdd, Nat.reduceLeDiff, true_and, and_true, is_ii, is_ib, is_bi, is_bb, is_tt, is_lt, is_it, is_nt, is_st, is_ni, is_si, is_ti, is_li, Bool.not_true, Bool.not_false, Bool.false_eq_true, if_true, if_false, abs_eq, Int.cast_ofNat_Int, BEq.rfl, beq_iff_eq, Int.reduceBEq, Int.reduceLT, Int.reduceLE, Int.reduceNeg, Int.reduceEq, List.all_cons, List.all_nil, id, Bool.and_true, Bool.true_and, Bool.and_self, same_nil', oc_some, oc_none, bls, wBs_some, wipe, Option.map_some, List.set_cons_zero, List.set_cons_succ, decide_true, decide_false, ↓reduceIte, decide_eq_true_eq, Bool.not_eq_true', ↓w_ex _ _ e]
  exact hE
theorem between_bad (k : Nat) {c : Cells} {d : D} {x y w x' y' w' : Int} (h : Bad c d) (p : Pt x y w) (p' : Pt x' y' w') : ∃ g, callD T (k + 5) "between" [pt x y w, pt x' y' w', d] c = .ex "BadShape" (c ++ g) := by
  obtain ⟨g, e⟩ := cps_bad3 k h p p'
  refine ⟨g, ex_of fun Q E hE => call_body (fn := fn_between) rfl rfl ?_⟩
  unfold fn_between
  show wS (dSs _ _ [some (pt x y w), some (pt x' y' w'), some d] c) _
  dsimp only
  simp (decide := true) only [↓ss_cons, ↓ss_nil, ↓s_set, ↓s_ret, ↓s_retN, ↓s_expr, ↓s_ife, ↓s_raise, ↓s_cnt, ↓s_brk, ↓s_pass, ↓s_setX, ↓s_for, ↓s_foS, ↓e_k, ↓e_tup, ↓e_lst, ↓e_call, ↓e_blt, ↓e_cmp, ↓e_bin, ↓e_neg, ↓e_and, ↓e_or, ↓e_not, ↓e_ite, ↓e_chain, ↓e_ix, ↓e_isi, ↓e_meth, ↓e_sl, ↓e_lam, ↓e_lc, ↓es_cons, ↓es_nil, ↓o_no, ↓b_add, ↓b_sub, ↓b_subB, ↓b_addB, ↓b_mul, ↓b_div, ↓b_mod, ↓b_pow, ↓b_addT, ↓b_mulT, ↓c_lt, ↓c_le, ↓c_gt, ↓c_ge, ↓c_isB, ↓c_isNotB, ↓c_isN, ↓c_isNotN, ↓t_abs, ↓t_int, ↓t_intB, ↓t_len, ↓t_min, ↓t_max, ↓t_tupT, ↓t_lstT, ↓i_v, ↓i_tup, ↓i_lst, ↓i_call, ↓i_ix, ↓i_sl, ↓lc_nil, ↓lc_cons, ↓w_lcB, ↓fo_nil, ↓fo_cons, ↓ts_nil, ↓ts_cons, ↓t_all, ↓t_any, ↓t_tup, ↓wI_int, ↓wR_ok, ↓v_0, ↓v_1, ↓v_2, ↓v_3, ↓v_4, ↓v_5, ↓v_6, ↓v_7, ↓v_8, ↓v_9, ↓v_10, ↓v_11, ↓v_12, ↓v_13, ↓v_14, ↓v_15, ↓as_0, ↓as_1, ↓as_2, ↓as_3, ↓as_4, ↓as_5, ↓as_6, ↓as_7, ↓as_8, ↓as_9, ↓as_10, ↓as_11, ↓as_12, ↓as_13, ↓as_14, ↓as_15, ↓as_t, ↓as_n, ↓as_c, ↓x1_0, ↓x2_0, ↓x2_1, ↓x3_0, ↓x3_1, ↓x3_2, ↓x4_0, ↓x4_1, ↓x4_2, ↓x4_3, ↓x5_0, ↓x5_1, ↓x5_2, ↓x5_3, ↓x5_4, ↓ce_ii, ↓ce_bb, ↓ce_2, ↓ce_3, ↓cn_ii, ↓cn_bb, ↓cn_2, ↓cn_3, ↓pk_bl, ↓pk_int, ↓pk_tn, ↓pk_tc, ↓pk_non, ↓nb_bl, ↓nb_int, ↓yt_non, ↓yt_bl, ↓yt_int, ↓yt_str, ↓yt_tup, ↓wp_tup, List.length_cons, List.length_nil, lim, Nat.reduceAdd, Nat.reduceLeDiff, true_and, and_true, is_ii, is_ib, is_bi, is_bb, is_tt, is_lt, is_it, is_nt, is_st, is_ni, is_si, is_ti, is_li, Bool.not_true, Bool.not_false, Bool.false_eq_true, if_true, if_false, abs_eq, Int.cast_ofNat_Int, BEq.rfl, beq_iff_eq, Int.reduceBEq, Int.reduceLT, Int.reduceLE, Int.reduceNeg, Int.reduceEq, List.all_cons, List.all_nil, id, Bool.and_true, Bool.true_and, Bool.and_self, same_nil', oc_some, oc_none, bls, wBs_some, wipe, Option.map_some, List.set_cons_zero, List.set_cons_succ, decide_true, decide_false, ↓reduceIte, decide_eq_true_eq, Bool.not_eq_true', ↓w_ex _ _ e]
  exact hE
/-! ### lots -/
theorem islot_bad (k : Nat) {c : Cells} {d : D} {x y w : Int} (h : Bad c d) (p : Pt x y w) : ∃ g, callD T (k + 3) "is_lot" [.tup [pt x y w, d]] c = .ok (.bl false) (c ++ g) := by
  obtain ⟨g, e⟩ := isbad k (h.app [tr3])
  refine ⟨[tr3] ++ g ++ [.lst [.bl true, .bl false]], eq_of fun Q E hQ => call_body (fn := fn_is_lot) rfl rfl ?_⟩
  unfold fn_is_lot
  show wS (dSs _ _ [some (.tup [pt x y w, d]), none, none] c) _
  dsimp only
  simp (decide := true) only [↓ss_cons, ↓ss_nil, ↓s_set, ↓s_ret, ↓s_retN, ↓s_expr, ↓s_ife, ↓s_raise, ↓s_cnt, ↓s_brk, ↓s_pass, ↓s_setX, ↓s_for, ↓s_foS, ↓e_k, ↓e_tup, ↓e_lst, ↓e_call, ↓e_blt, ↓e_cmp, ↓e_bin, ↓e_neg, ↓e_and, ↓e_or, ↓e_not, ↓e_ite, ↓e_chain, ↓e_ix, ↓e_isi, ↓e_meth, ↓e_sl, ↓e_lam, ↓e_lc, ↓es_cons, ↓es_nil, ↓o_no, ↓b_add, ↓b_sub, ↓b_subB, ↓b_addB, ↓b_mul, ↓b_div, ↓b_mod, ↓b_pow, ↓b_addT, ↓b_mulT, ↓c_lt, ↓c_le, ↓c_gt, ↓c_ge, ↓c_isB, ↓c_isNotB, ↓c_isN, ↓c_isNotN, ↓t_abs, ↓t_int, ↓t_intB, ↓t_len, ↓t_min, ↓t_max, ↓t_tupT, ↓t_lstT, ↓i_v, ↓i_tup, ↓i_lst, ↓i_call, ↓i_ix, ↓i_sl, ↓lc_nil, ↓lc_cons, ↓w_lcB, ↓fo_nil, ↓fo_cons, ↓ts_nil, ↓ts_cons, ↓t_all, ↓t_any, ↓t_tup, ↓wI_int, ↓wR_ok, ↓v_0, ↓v_1, ↓v_2, ↓v_3, ↓v_4, ↓v_5, ↓v_6, ↓v_7, ↓v_8, ↓v_9, ↓v_10, ↓v_11, ↓v_12, ↓v_13, ↓v_14, ↓v_15, ↓as_0, ↓as_1, ↓as_2, ↓as_3, ↓as_4, ↓as_5, ↓as_6, ↓as_7, ↓as_8, ↓as_9, ↓as_10, ↓as_11, ↓as_12, ↓as_13, ↓as_14, ↓as_15, ↓as_t, ↓as_n, ↓as_c, ↓x1_0, ↓x2_0, ↓x2_1, ↓x3_0, ↓x3_1, ↓x3_2, ↓x4_0, ↓x4_1, ↓x4_2, ↓x4_3, ↓x5_0, ↓x5_1, ↓x5_2, ↓x5_3, ↓x5_4, ↓ce_ii, ↓ce_bb, ↓ce_2, ↓ce_3, ↓cn_ii, ↓cn_bb, ↓cn_2, ↓cn_3, ↓pk_bl, ↓pk_int, ↓pk_tn, ↓pk_tc, ↓pk_non, ↓nb_bl, ↓nb_int, ↓yt_non, ↓yt_bl, ↓yt_int, ↓yt_str, ↓yt_tup, ↓wp_tup, List.length_cons, List.length_nil, lim, Nat.reduceAdd, Nat.reduceLeDiff, true_and, and_true, is_ii, is_ib, is_bi, is_bb, is_tt, is_lt, is_it, is_nt, is_st, is_ni, is_si, is_ti, is_li, Bool.not_true, Bool.not_false, Bool.false_eq_true, if_true, if_false, abs_eq, Int.cast_ofNat_Int, BEq.rfl, beq_iff_eq, Int.reduceBEq, Int.reduceLT, Int.reduceLE, Int.reduceNeg, Int.reduceEq, List.all_cons, List.all_nil, id, Bool.and_true, Bool.true_and, Bool.and_self, same_nil', oc_some, oc_none, bls, wBs_some, wipe, Option.map_some, List.set_cons_zero, List.set_cons_succ, decide_true, decide_false, ↓reduceIte, decide_eq_true_eq, Bool.not_eq_true', ↓w_of _ _ (ispoint_p _ p _), ↓w_of _ _ e]
  rw [← List.append_assoc, ← List.append_assoc] at hQ
  exact hQ
theorem islot_3 (k : Nat) {c : Cells} {x y w x' y' w' x2 y2 w2 : Int} (p : Pt x y w) (p' : Pt x' y' w') (p2 : Pt x2 y2 w2) : ∃ g, callD T (k + 3) "is_lot" [.tup [pt x y w, pt x' y' w', pt x2 y2 w2]] c = .ok (.bl true) (c ++ g) := by
  refine ⟨[tr3] ++ [tr3] ++ [tr3] ++ [.lst [.bl true, .bl true, .bl true]], eq_of fun Q E hQ => call_body (fn := fn_is_lot) rfl rfl ?_⟩
  unfold fn_is_lot
  show wS (dSs _ _ [some (.tup [pt x y w, pt x' y' w', pt x2 y2 w2]), none, none] c) _
  dsimp only
  simp (decide := true) only [↓ss_cons, ↓ss_nil, ↓s_set, ↓s_ret, ↓s_retN, ↓s_expr, ↓s_ife, ↓s_raise, ↓s_cnt, ↓s_brk, ↓s_pass, ↓s_setX, ↓s_for, ↓s_foS, ↓e_k, ↓e_tup, ↓e_lst, ↓e_call, ↓e_blt, ↓e_cmp, ↓e_bin, ↓e_neg, ↓e_and, ↓e_or, ↓e_not, ↓e_ite, ↓e_chain, ↓e_ix, ↓e_isi, ↓e_meth, ↓e_sl, ↓e_lam, ↓e_lc, ↓es_cons, ↓es_nil, ↓o_no, ↓b_add, ↓b_sub, ↓b_subB, ↓b_addB, ↓b_mul, ↓b_div, ↓b_mod, ↓b_pow, ↓b_addT, ↓b_mulT, ↓c_lt, ↓c_le, ↓c_gt, ↓c_ge, ↓c_isB, ↓c_isNotB, ↓c_isN, ↓c_isNotN, ↓t_abs, ↓t_int, ↓t_intB, ↓t_len, ↓t_min, ↓t_max, ↓t_tupT, ↓t_lstT, ↓i_v, ↓i_tup, ↓i_lst, ↓i_call, ↓i_ix, ↓i_sl, ↓lc_nil, ↓lc_cons, ↓w_lcB, ↓fo_nil, ↓fo_cons, ↓ts_nil, ↓ts_cons, ↓t_all, ↓t_any, ↓t_tup, ↓wI_int, ↓wR_ok, ↓v_0, ↓v_1, ↓v_2, ↓v_3, ↓v_4, ↓v_5, ↓v_6, ↓v_7, ↓v_8, ↓v_9, ↓v_10, ↓v_11, ↓v_12, ↓v_13, ↓v_14, ↓v_15, ↓as_0, ↓as_1, ↓as_2, ↓as_3, ↓as_4, ↓as_5, ↓as_6, ↓as_7, ↓as_8, ↓as_9, ↓as_10, ↓as_11, ↓as_12, ↓as_13, ↓as_14, ↓as_15, ↓as_t, ↓as_n, ↓as_c, ↓x1_0, ↓x2_0, ↓x2_1, ↓x3_0, ↓x3_1, ↓x3_2, ↓x4_0, ↓x4_1, ↓x4_2, ↓x4_3, ↓x5_0, ↓x5_1, ↓x5_2, ↓x5_3, ↓x5_4, ↓ce_ii, ↓ce_bb, ↓ce_2, ↓ce_3, ↓cn_ii, ↓cn_bb, ↓cn_2, ↓cn_3, ↓pk_bl, ↓pk_int, ↓pk_tn, ↓pk_tc, ↓pk_non, ↓nb_bl, ↓nb_int, ↓yt_non, ↓yt_bl, ↓yt_int, ↓yt_str, ↓yt_tup, ↓wp_tup, List.length_cons, List.length_nil, lim, Nat.reduceAdd, Nat.reduceLeDiff, true_and, and_true, is_ii, is_ib, is_bi, is_bb, is_tt, is_lt, is_it, is_nt, is_st, is_ni, is_si, is_ti, is_li, Bool.not_true, Bool.not_false, Bool.false_eq_true, if_true, if_false, abs_eq, Int.cast_ofNat_Int, BEq.rfl, beq_iff_eq, Int.reduceBEq, Int.reduceLT, Int.reduceLE, Int.reduceNeg, Int.reduceEq, List.all_cons, List.all_nil, id, Bool.and_true, Bool.true_and, Bool.and_self, same_nil', oc_some, oc_none, bls, wBs_some, wipe, Option.map_some, List.set_cons_zero, List.set_cons_succ, decide_true, decide_false, ↓reduceIte, decide_eq_true_eq, Bool.not_eq_true', ↓w_of _ _ (ispoint_p _ p _), ↓w_of _ _ (ispoint_p _ p' _), ↓w_of _ _ (ispoint_p _ p2 _)]
  simp only [← List.append_assoc] at hQ
  exact hQ
theorem islot_many (k : Nat) {c : Cells} {xs : List D} (h : 40 < xs.length) : callD T (k + 3) "is_lot" [.tup xs] c = .ok (.bl false) c := by
  refine eq_of fun Q E hQ => call_body (fn := fn_is_lot) rfl rfl ?_
  unfold fn_is_lot
  show wS (dSs _ _ [some (.tup xs), none, none] c) _
  dsimp only
  have h' : ((xs.length : Int) ≤ 40) = False := by simp; omega
  simp (decide := true) only [↓ss_cons, ↓ss_nil, ↓s_set, ↓s_ret, ↓s_retN, ↓s_expr, ↓s_ife, ↓s_raise, ↓s_cnt, ↓s_brk, ↓s_pass, ↓s_setX, ↓s_for, ↓s_foS, ↓e_k, ↓e_tup, ↓e_lst, ↓e_call, ↓e_blt, ↓e_cmp, ↓e_bin, ↓e_neg, ↓e_and, ↓e_or, ↓e_not, ↓e_ite, ↓e_chain, ↓e_ix, ↓e_isi, ↓e_meth, ↓e_sl, ↓e_lam, ↓e_lc, ↓es_cons, ↓es_nil, ↓o_no, ↓b_add, ↓b_sub, ↓b_subB, ↓b_addB, ↓b_mul, ↓b_div, ↓b_mod, ↓b_pow, ↓b_addT, ↓b_mulT, ↓c_lt, ↓c_le, ↓c_gt, ↓c_ge, ↓c_isB, ↓c_isNotB, ↓c_isN, ↓c_isNotN, ↓t_abs, ↓t_int, ↓t_intB, ↓t_len, ↓t_min, ↓t_max, ↓t_tupT, ↓t_lstT, ↓i_v, ↓i_tup, ↓i_lst, ↓i_call, ↓i_ix, ↓i_sl, ↓lc_nil, ↓lc_cons, ↓w_lcB, ↓fo_nil, ↓fo_cons, ↓ts_nil, ↓ts_cons, ↓t_all, ↓t_any, ↓t_tup, ↓wI_int, ↓wR_ok, ↓v_0, ↓v_1, ↓v_2, ↓v_3, ↓v_4, ↓v_5, ↓v_6, ↓v_7, ↓v_8, ↓v_9, ↓v_10, ↓v_11, ↓v_12, ↓v_13, ↓v_14, ↓v_15, ↓as_0, ↓as_1, ↓as_2, ↓as_3, ↓as_4, ↓as_5, ↓as_6, ↓as_7, ↓as_8, ↓as_9, ↓as_10, ↓as_11, ↓as_12, ↓as_13, ↓as_14, ↓as_15, ↓as_t, ↓as_n, ↓as_c, ↓x1_0, ↓x2_0, ↓x2_1, ↓x3_0, ↓x3_1, ↓x3_2, ↓x4_0, ↓x4_1, ↓x4_2, ↓x4_3, ↓x5_0, ↓x5_1, ↓x5_2, ↓x5_3, ↓x5_4, ↓ce_ii, ↓ce_bb, ↓ce_2, ↓ce_3, ↓cn_ii, ↓cn_bb, ↓cn_2, ↓cn_3, ↓pk_bl, ↓pk_int, ↓pk_tn, ↓pk_tc, ↓pk_non, ↓nb_bl, ↓nb_int, ↓yt_non, ↓yt_bl, ↓yt_int, ↓yt_str, ↓yt_tup, ↓wp_tup, List.length_cons, List.length_nil, lim, Nat.reduceAdd, Nat.reduceLeDiff, true_and, and_true, is_ii, is_ib, is_bi, is_bb, is_tt, is_lt, is_it, is_nt, is_st, is_ni, is_si, is_ti, is_li, Bool.not_true, Bool.not_false, Bool.false_eq_true, if_true, if_false, abs_eq, Int.cast_ofNat_Int, BEq.rfl, beq_iff_eq, Int.reduceBEq, Int.reduceLT, Int.reduceLE, Int.reduceNeg, Int.reduceEq, List.all_cons, List.all_nil, id, Bool.and_true, Bool.true_and, Bool.and_self, same_nil', oc_some, oc_none, bls, wBs_some, wipe, Option.map_some, List.set_cons_zero, List.set_cons_succ, decide_true, decide_false, ↓reduceIte, decide_eq_true_eq, Bool.not_eq_true', h']
  exact hQ
theorem islot_ref (k : Nat) {c : Cells} {r : Nat} {xs : List D} (h : c[r]? = some (.lst xs)) : callD T (k + 3) "is_lot" [.ref r] c = .ok (.bl false) c := by
  refine eq_of fun Q E hQ => call_body (fn := fn_is_lot) rfl rfl ?_
  unfold fn_is_lot
  show wS (dSs _ _ [some (.ref r), none, none] c) _
  dsimp only
  have ht : ∀ P : String → Prop, wTy (tyOf c (.ref r)) P = P "list" := fun P => by unfold tyOf; dsimp only; rw [h]; rfl
  simp (decide := true) only [↓ss_cons, ↓ss_nil, ↓s_set, ↓s_ret, ↓s_retN, ↓s_expr, ↓s_ife, ↓s_raise, ↓s_cnt, ↓s_brk, ↓s_pass, ↓s_setX, ↓s_for, ↓s_foS, ↓e_k, ↓e_tup, ↓e_lst, ↓e_call, ↓e_blt, ↓e_cmp, ↓e_bin, ↓e_neg, ↓e_and, ↓e_or, ↓e_not, ↓e_ite, ↓e_chain, ↓e_ix, ↓e_isi, ↓e_meth, ↓e_sl, ↓e_lam, ↓e_lc, ↓es_cons, ↓es_nil, ↓o_no, ↓b_add, ↓b_sub, ↓b_subB, ↓b_addB, ↓b_mul, ↓b_div, ↓b_mod, ↓b_pow, ↓b_addT, ↓b_mulT, ↓c_lt, ↓c_le, ↓c_gt, ↓c_ge, ↓c_isB, ↓c_isNotB, ↓c_isN, ↓c_isNotN, ↓t_abs, ↓t_int, ↓t_intB, ↓t_len, ↓t_min, ↓t_max, ↓t_tupT, ↓t_lstT, ↓i_v, ↓i_tup, ↓i_lst, ↓i_call, ↓i_ix, ↓i_sl, ↓lc_nil, ↓lc_cons, ↓w_lcB, ↓fo_nil, ↓fo_cons, ↓ts_nil, ↓ts_cons, ↓t_all, ↓t_any, ↓t_tup, ↓wI_int, ↓wR_ok, ↓v_0, ↓v_1, ↓v_2, ↓v_3, ↓v_4, ↓v_5, ↓v_6, ↓v_7, ↓v_8, ↓v_9, ↓v_10, ↓v_11, ↓v_12, ↓v_13, ↓v_14, ↓v_15, ↓as_0, ↓as_1, ↓as_2, ↓as_3, ↓as_4, ↓as_5, ↓as_6, ↓as_7, ↓as_8, ↓as_9, ↓as_10, ↓as_11, ↓as_12, ↓as_13, ↓as_14, ↓as_15, ↓as_t, ↓as_n, ↓as_c, ↓x1_0, ↓x2_0, ↓x2_1, ↓x3_0, ↓x3_1, ↓x3_2, ↓x4_0, ↓x4_1, ↓x4_2, ↓x4_3, ↓x5_0, ↓x5_1, ↓x5_2, ↓x5_3, ↓x5_4, ↓ce_ii, ↓ce_bb, ↓ce_2, ↓ce_3, ↓cn_ii, ↓cn_bb, ↓cn_2, ↓cn_3, ↓pk_bl, ↓pk_int, ↓pk_tn, ↓pk_tc, ↓pk_non, ↓nb_bl, ↓nb_int, ↓yt_non, ↓yt_bl, ↓yt_int, ↓yt_str, ↓yt_tup, ↓wp_tup, List.length_cons, List.length_nil, lim, Nat.reduceAdd, Nat.reduceLeDiff, true_and, and_true, is_ii, is_ib, is_bi, is_bb, is_tt, is_lt, is_it, is_nt, is_st, is_ni, is_si, is_ti, is_li, Bool.not_true, Bool.not_false, Bool.false_eq_true, if_true, if_false, abs_eq, Int.cast_ofNat_Int, BEq.rfl, beq_iff_eq, Int.reduceBEq, Int.reduceLT, Int.reduceLE, Int.reduceNeg, Int.reduceEq, List.all_cons, List.all_nil, id, Bool.and_true, Bool.true_and, Bool.and_self, same_nil', oc_some, oc_none, bls, wBs_some, wipe, Option.map_some, List.set_cons_zero, List.set_cons_succ, decide_true, decide_false, ↓reduceIte, decide_eq_true_eq, Bool.not_eq_true', ↓ht]
  exact hQ
end K02
end

section
set_option linter.all false
set_option autoImplicit false
set_option maxRecDepth 20000
namespace G
/-- differences of shifted points -/
theorem shift_diff {ax aw bx bw x w p r p' r' : Int} (hw : w ≠ 0) (e1 : p * (aw * w) = (ax * w + x * aw) * r) (e2 : p' * (bw * w) = (bx * w + x * bw) * r') : (p * r' - p' * r) * (aw * bw) = (ax * bw - bx * aw) * (r * r') := by
  refine Int.eq_of_mul_eq_mul_left hw ?_
  have h1 : w * ((p * r' - p' * r) * (aw * bw)) = (p * (aw * w)) * (r' * bw) - (p' * (bw * w)) * (r * aw) := by clear e1 e2; grind
  rw [h1, e1, e2]
  clear h1 e1 e2
  grind
theorem sq_sum {X Y X' Y' V V' : Int} (h1 : X * V = X' * V') (h2 : Y * V = Y' * V') : (X * X + Y * Y) * (V * V) = (X' * X' + Y' * Y') * (V' * V') := by
  have h3 : (X * X + Y * Y) * (V * V) = (X * V) * (X * V) + (Y * V) * (Y * V) := by clear h1 h2; grind
  rw [h3, h1, h2]
  clear h1 h2 h3
  grind
theorem fr_same {n d n' d' : Int} (hd : d ≠ 0) (hd' : d' ≠ 0) (h : n * d' = n' * d) : fr1 n d = fr1 n' d' ∧ fr2 n d = fr2 n' d' := by
  have A := fr_ok n' hd'
  refine Fr.fr_eq hd ⟨A.pos, A.cop, ?_⟩
  have e := A.eq
  refine Int.eq_of_mul_eq_mul_left hd' ?_
  have h1 : d' * (fr1 n' d' * d) = (fr1 n' d' * d') * d := by grind
  rw [h1, e]
  have h2 : n' * fr2 n' d' * d = (n' * d) * fr2 n' d' := by grind
  rw [h2, ← h]
  grind
end G
end

section
set_option linter.all false
set_option autoImplicit false
set_option maxRecDepth 20000
namespace K02
open G
abbrev KT : SK := ⟨fun _ c => (fun d _ => d = D.bl true) .non c, fun d _ => d = .bl true, fun _ _ => False, fun _ _ => False, fun _ _ => False⟩
theorem cmpv_anti {x y w x' y' w' : Int} : cmpv x' y' w' x y w = -cmpv x y w x' y' w' := by
  unfold cmpv
  generalize x * w' = P
  generalize x' * w = Q
  generalize y * w' = R
  generalize y' * w = S
  (repeat' split) <;> omega
theorem sc_lt {k l P Q P' Q' : Int} (hk : 0 < k) (hl : 0 < l) (h1 : k * P = l * P') (h2 : k * Q = l * Q') : (P < Q ↔ P' < Q') ∧ (P = Q ↔ P' = Q') := by
  refine ⟨⟨fun h => ?_, fun h => ?_⟩, fun h => ?_, fun h => ?_⟩
  · refine Int.lt_of_mul_lt_mul_left (a := l) ?_ (by omega)
    rw [← h1, ← h2]
    exact Int.mul_lt_mul_of_pos_left h hk
  · refine Int.lt_of_mul_lt_mul_left (a := k) ?_ (by omega)
    rw [h1, h2]
    exact Int.mul_lt_mul_of_pos_left h hl
  · refine Int.eq_of_mul_eq_mul_left (a := l) (by omega) ?_
    rw [← h1, ← h2, h]
  · refine Int.eq_of_mul_eq_mul_left (a := k) (by omega) ?_
    rw [h1, h2, h]
theorem cmpv_zero {x y w x' y' w' u v t : Int} (hw : 0 < w) (hw' : 0 < w') (h : cmpv x y w x' y' w' = 0) : cmpv x y w u v t = cmpv x' y' w' u v t := by
  have hx : x * w' = x' * w ∧ y * w' = y' * w := by
    unfold cmpv at h
    generalize x * w' = P at *
    generalize x' * w = Q at *
    generalize y * w' = R at *
    generalize y' * w = S at *
    revert h
    (repeat' split) <;> omega
  obtain ⟨e1, e2⟩ := hx
  obtain ⟨a1, a2⟩ := sc_lt (P := x * t) (Q := u * w) (P' := x' * t) (Q' := u * w') hw' hw (by rw [← Int.mul_assoc, Int.mul_comm w' x, e1]; grind) (by grind)
  obtain ⟨b1, b2⟩ := sc_lt (P := y * t) (Q := v * w) (P' := y' * t) (Q' := v * w') hw' hw (by rw [← Int.mul_assoc, Int.mul_comm w' y, e2]; grind) (by grind)
  unfold cmpv
  simp only [ne_eq, a1, a2, b1, b2]
theorem lies_swap {ax ay aw bx by' bw x y w : Int} (ha : 0 < aw) (hb : 0 < bw) (hw : 0 < w) : liesv bx by' bw ax ay aw x y w = liesv ax ay aw bx by' bw x y w := by
  have d1 : det bx by' bw ax ay aw x y w = -det ax ay aw bx by' bw x y w := by unfold det; grind
  have a1 := cmpv_anti (x := ax) (y := ay) (w := aw) (x' := bx) (y' := by') (w' := bw)
  unfold liesv
  rw [d1, sgn_neg, a1]
  by_cases h0 : cmpv ax ay aw bx by' bw = 0
  · have z1 := cmpv_zero (u := x) (v := y) (t := w) ha hb h0
    have z2 := cmpv_anti (x := ax) (y := ay) (w := aw) (x' := x) (y' := y) (w' := w)
    have z3 := cmpv_anti (x := bx) (y := by') (w := bw) (x' := x) (y' := y) (w' := w)
    rw [z2, z3, z1, h0]
    simp
  · have : (-cmpv ax ay aw bx by' bw ≤ 0) = ¬ (cmpv ax ay aw bx by' bw ≤ 0) := by rw [eq_iff_iff]; omega
    simp only [this]
    by_cases h1 : cmpv ax ay aw bx by' bw ≤ 0 <;> simp [h1]
theorem rot_back (k x y : Int) : rx ((4 * 10 ^ Int.toNat 12 - k) % 4) (rx (k % 4) x y) (ry (k % 4) x y) = x ∧ ry ((4 * 10 ^ Int.toNat 12 - k) % 4) (rx (k % 4) x y) (ry (k % 4) x y) = y := by
  have e : (10 : Int) ^ Int.toNat 12 = 1000000000000 := by decide
  rw [e]
  rcases mod4 k with h | h | h | h <;> rw [h]
  · rw [show (4 * 1000000000000 - k) % 4 = 0 by omega]; exact ⟨rfl, rfl⟩
  · rw [show (4 * 1000000000000 - k) % 4 = 3 by omega]; unfold rx ry; simp
  · rw [show (4 * 1000000000000 - k) % 4 = 2 by omega]; unfold rx ry; simp
  · rw [show (4 * 1000000000000 - k) % 4 = 1 by omega]; unfold rx ry; simp
theorem det_rot (k ax ay aw bx by' bw x y w : Int) : det (rx (k % 4) ax ay) (ry (k % 4) ax ay) aw (rx (k % 4) bx by') (ry (k % 4) bx by') bw (rx (k % 4) x y) (ry (k % 4) x y) w = det ax ay aw bx by' bw x y w := by
  rcases mod4 k with h | h | h | h <;> rw [h]
  · rfl
  · unfold rx ry det; simp; grind
  · unfold rx ry det; simp; grind
  · unfold rx ry det; simp; grind
theorem law2 {C : Cells} {n : Nat} {ax ay aw bx by' bw x y w : Int} (hC : Bx C n) (pa : Pt ax ay aw) (pb : Pt bx by' bw) (pc : Pt x y w) [Sm 10 ax] [Sm 10 ay] [Sm 10 aw] [Sm 10 bx] [Sm 10 by'] [Sm 10 bw] [Sm 200 x] [Sm 200 y] [Sm 200 w] :
    wS (dSs ⟨callD T 59, T.thks, T.excs⟩ (fn_law.body.drop 3) [some (.ref 0), some (.ref n), none, some (pt ax ay aw), some (pt bx by' bw), none, some (pt x y w)] C) KT := by
  have Ba : B3 ax ay aw := .of (by decide)
  have Bb : B3 bx by' bw := .of (by decide)
  have Bc : B3 x y w := .of (by decide)
  have ha0 : aw ≠ 0 := by have := pa.pos; omega
  have hb0 : bw ≠ 0 := by have := pb.pos; omega
  have hc0 : w ≠ 0 := by have := pc.pos; omega
  unfold fn_law
  dsimp only [List.drop]
  -- c is a point, told by its numbers
  refine seq (fun ρ' c' => ρ' = [some (.ref 0), some (.ref n), none, some (pt ax ay aw), some (pt bx by' bw), none, some (pt x y w)] ∧ ∃ g, c' = C ++ g) (fun I hI => ?_) ?_
  · obtain ⟨m1', m2', m3'⟩ := m_frs hc0 (fr_ok x hc0) (fr_ok y hc0)
    obtain ⟨s1, s2, s3⟩ := pc.m_self
    have ep := fun c => point_e 54 (s1 := 200) (s2 := 200) (s3 := 200) (s4 := 200) (by decide) (fr_ok x hc0) (fr_ok y hc0) c
    rw [m1', m2', m3', s1, s2, s3] at ep
    have er := fun c => right_e 55 (n := 200) (by decide) pc c
    have eu := fun c => up_e 55 (n := 200) (by decide) pc c
    have el := fun c => lfraction_e 57 x w c (n := 200) (by decide) hc0
    have el2 := fun c => lfraction_e 57 y w c (n := 200) (by decide) hc0
    simp (decide := true) only [↓ss_cons, ↓ss_nil, ↓s_set, ↓s_ret, ↓s_retN, ↓s_expr, ↓s_ife, ↓s_raise, ↓s_cnt, ↓s_brk, ↓s_pass, ↓s_setX, ↓s_for, ↓s_foS, ↓e_k, ↓e_tup, ↓e_lst, ↓e_call, ↓e_blt, ↓e_cmp, ↓e_bin, ↓e_neg, ↓e_and, ↓e_or, ↓e_not, ↓e_ite, ↓e_chain, ↓e_ix, ↓e_isi, ↓e_meth, ↓e_sl, ↓e_lam, ↓e_lc, ↓es_cons, ↓es_nil, ↓o_no, ↓b_add, ↓b_sub, ↓b_subB, ↓b_addB, ↓b_mul, ↓b_div, ↓b_mod, ↓b_pow, ↓b_addT, ↓b_mulT, ↓c_lt, ↓c_le, ↓c_gt, ↓c_ge, ↓c_isB, ↓c_isNotB, ↓c_isN, ↓c_isNotN, ↓t_abs, ↓t_int, ↓t_intB, ↓t_len, ↓t_min, ↓t_max, ↓t_tupT, ↓t_lstT, ↓i_v, ↓i_tup, ↓i_lst, ↓i_call, ↓i_ix, ↓i_sl, ↓lc_nil, ↓lc_cons, ↓w_lcB, ↓fo_nil, ↓fo_cons, ↓ts_nil, ↓ts_cons, ↓t_all, ↓t_any, ↓t_tup, ↓wI_int, ↓wR_ok, ↓v_0, ↓v_1, ↓v_2, ↓v_3, ↓v_4, ↓v_5, ↓v_6, ↓v_7, ↓v_8, ↓v_9, ↓v_10, ↓v_11, ↓v_12, ↓v_13, ↓v_14, ↓v_15, ↓as_0, ↓as_1, ↓as_2, ↓as_3, ↓as_4, ↓as_5, ↓as_6, ↓as_7, ↓as_8, ↓as_9, ↓as_10, ↓as_11, ↓as_12, ↓as_13, ↓as_14, ↓as_15, ↓as_t, ↓as_n, ↓as_c, ↓x1_0, ↓x2_0, ↓x2_1, ↓x3_0, ↓x3_1, ↓x3_2, ↓x4_0, ↓x4_1, ↓x4_2, ↓x4_3, ↓x5_0, ↓x5_1, ↓x5_2, ↓x5_3, ↓x5_4, ↓ce_ii, ↓ce_bb, ↓ce_2, ↓ce_3, ↓cn_ii, ↓cn_bb, ↓cn_2, ↓cn_3, ↓pk_bl, ↓pk_int, ↓pk_tn, ↓pk_tc, ↓pk_non, ↓nb_bl, ↓nb_int, ↓yt_non, ↓yt_bl, ↓yt_int, ↓yt_str, ↓yt_tup, ↓wp_tup, List.length_cons, List.length_nil, lim, Nat.reduceAdd, Nat.reduceLeDiff, true_and, and_true, is_ii, is_ib, is_bi, is_bb, is_tt, is_lt, is_it, is_nt, is_st, is_ni, is_si, is_ti, is_li, Bool.not_true, Bool.not_false, Bool.false_eq_true, if_true, if_false, abs_eq, Int.cast_ofNat_Int, BEq.rfl, beq_iff_eq, Int.reduceBEq, Int.reduceLT, Int.reduceLE, Int.reduceNeg, Int.reduceEq, List.all_cons, List.all_nil, id, Bool.and_true, Bool.true_and, Bool.and_self, same_nil', oc_some, oc_none, bls, wBs_some, wipe, Option.map_some, List.set_cons_zero, List.set_cons_succ, decide_true, decide_false, ↓reduceIte, decide_eq_true_eq, Bool.not_eq_true', ↓w_of _ _ (ispoint_p 57 pc _), ↓w_of _ _ (er _), ↓w_of _ _ (eu _), ↓w_of _ _ (el _), ↓w_of _ _ (el2 _), ↓w_of _ _ (ep _)]
    exact hI _ _ ⟨rfl, _, by simp only [List.append_assoc]; rfl⟩
  rintro _ _ ⟨rfl, g, rfl⟩
  have hC := hC.app g
  generalize C ++ g = C at hC
  refine seq (fun ρ' c' => ρ' = [some (.ref 0), some (.ref n), none, some (pt ax ay aw), some (pt bx by' bw), none, some (pt x y w)] ∧ ∃ g, c' = C ++ g) (fun I hI => ?_) ?_
  · have d1 : det bx by' bw ax ay aw x y w = -det ax ay aw bx by' bw x y w := by unfold det; grind
    have d2 : det bx by' bw x y w ax ay aw = det ax ay aw bx by' bw x y w := by unfold det; grind
    have e1 := fun c => ahead_e 54 pa pb Ba Bb c
    have e2 := fun c => lcompared_e 58 Ba Bb c
    have e3 := fun c => turn_e 54 pa pb pc Ba Bb Bc c
    have e4 := fun c => lside_e 58 Ba Bb Bc pa.pos c
    have e5 := fun c => turn_e 54 pb pa pc Bb Ba Bc c
    have e6 := fun c => turn_e 54 pb pc pa Bb Bc Ba c
    rw [d1, sgn_neg] at e5
    rw [d2] at e6
    simp (decide := true) only [↓ss_cons, ↓ss_nil, ↓s_set, ↓s_ret, ↓s_retN, ↓s_expr, ↓s_ife, ↓s_raise, ↓s_cnt, ↓s_brk, ↓s_pass, ↓s_setX, ↓s_for, ↓s_foS, ↓e_k, ↓e_tup, ↓e_lst, ↓e_call, ↓e_blt, ↓e_cmp, ↓e_bin, ↓e_neg, ↓e_and, ↓e_or, ↓e_not, ↓e_ite, ↓e_chain, ↓e_ix, ↓e_isi, ↓e_meth, ↓e_sl, ↓e_lam, ↓e_lc, ↓es_cons, ↓es_nil, ↓o_no, ↓b_add, ↓b_sub, ↓b_subB, ↓b_addB, ↓b_mul, ↓b_div, ↓b_mod, ↓b_pow, ↓b_addT, ↓b_mulT, ↓c_lt, ↓c_le, ↓c_gt, ↓c_ge, ↓c_isB, ↓c_isNotB, ↓c_isN, ↓c_isNotN, ↓t_abs, ↓t_int, ↓t_intB, ↓t_len, ↓t_min, ↓t_max, ↓t_tupT, ↓t_lstT, ↓i_v, ↓i_tup, ↓i_lst, ↓i_call, ↓i_ix, ↓i_sl, ↓lc_nil, ↓lc_cons, ↓w_lcB, ↓fo_nil, ↓fo_cons, ↓ts_nil, ↓ts_cons, ↓t_all, ↓t_any, ↓t_tup, ↓wI_int, ↓wR_ok, ↓v_0, ↓v_1, ↓v_2, ↓v_3, ↓v_4, ↓v_5, ↓v_6, ↓v_7, ↓v_8, ↓v_9, ↓v_10, ↓v_11, ↓v_12, ↓v_13, ↓v_14, ↓v_15, ↓as_0, ↓as_1, ↓as_2, ↓as_3, ↓as_4, ↓as_5, ↓as_6, ↓as_7, ↓as_8, ↓as_9, ↓as_10, ↓as_11, ↓as_12, ↓as_13, ↓as_14, ↓as_15, ↓as_t, ↓as_n, ↓as_c, ↓x1_0, ↓x2_0, ↓x2_1, ↓x3_0, ↓x3_1, ↓x3_2, ↓x4_0, ↓x4_1, ↓x4_2, ↓x4_3, ↓x5_0, ↓x5_1, ↓x5_2, ↓x5_3, ↓x5_4, ↓ce_ii, ↓ce_bb, ↓ce_2, ↓ce_3, ↓cn_ii, ↓cn_bb, ↓cn_2, ↓cn_3, ↓pk_bl, ↓pk_int, ↓pk_tn, ↓pk_tc, ↓pk_non, ↓nb_bl, ↓nb_int, ↓yt_non, ↓yt_bl, ↓yt_int, ↓yt_str, ↓yt_tup, ↓wp_tup, List.length_cons, List.length_nil, lim, Nat.reduceAdd, Nat.reduceLeDiff, true_and, and_true, is_ii, is_ib, is_bi, is_bb, is_tt, is_lt, is_it, is_nt, is_st, is_ni, is_si, is_ti, is_li, Bool.not_true, Bool.not_false, Bool.false_eq_true, if_true, if_false, abs_eq, Int.cast_ofNat_Int, BEq.rfl, beq_iff_eq, Int.reduceBEq, Int.reduceLT, Int.reduceLE, Int.reduceNeg, Int.reduceEq, List.all_cons, List.all_nil, id, Bool.and_true, Bool.true_and, Bool.and_self, same_nil', oc_some, oc_none, bls, wBs_some, wipe, Option.map_some, List.set_cons_zero, List.set_cons_succ, decide_true, decide_false, ↓reduceIte, decide_eq_true_eq, Bool.not_eq_true', ↓w_of _ _ (e1 _), ↓w_of _ _ (e2 _), ↓w_of _ _ (e3 _), ↓w_of _ _ (e4 _), ↓w_of _ _ (e5 _), ↓w_of _ _ (e6 _)]
    exact hI _ _ ⟨rfl, _, by simp only [List.append_assoc]; rfl⟩
  rintro _ _ ⟨rfl, g, rfl⟩
  have hC := hC.app g
  generalize C ++ g = C at hC
  refine seq (fun ρ' c' => ρ' = [some (.ref 0), some (.ref n), none, some (pt ax ay aw), some (pt bx by' bw), none, some (pt x y w)] ∧ ∃ g, c' = C ++ g) (fun I hI => ?_) ?_
  · have g1 : sqn x y w ax ay aw = sqn ax ay aw x y w := by unfold sqn; grind
    have g2 : sqd w aw = sqd aw w := by unfold sqd; grind
    have e1 := fun c => length_e 54 pa pc Ba Bc c
    have e2 := fun c => lsquare_e 56 Ba Bc pa.pos pc.pos c
    have e3 := fun c => length_e 54 pc pa Bc Ba c
    have e4 := fun c => between_e 54 pa pb pc Ba Bb Bc c
    have e5 := fun c => llies_e 57 Ba Bb Bc pa.pos c
    have e6 := fun c => between_e 54 pb pa pc Bb Ba Bc c
    rw [g1, g2] at e3
    have hl : liesv bx by' bw ax ay aw x y w = liesv ax ay aw bx by' bw x y w := lies_swap pa.pos pb.pos pc.pos
    rw [hl] at e6
    simp (decide := true) only [↓ss_cons, ↓ss_nil, ↓s_set, ↓s_ret, ↓s_retN, ↓s_expr, ↓s_ife, ↓s_raise, ↓s_cnt, ↓s_brk, ↓s_pass, ↓s_setX, ↓s_for, ↓s_foS, ↓e_k, ↓e_tup, ↓e_lst, ↓e_call, ↓e_blt, ↓e_cmp, ↓e_bin, ↓e_neg, ↓e_and, ↓e_or, ↓e_not, ↓e_ite, ↓e_chain, ↓e_ix, ↓e_isi, ↓e_meth, ↓e_sl, ↓e_lam, ↓e_lc, ↓es_cons, ↓es_nil, ↓o_no, ↓b_add, ↓b_sub, ↓b_subB, ↓b_addB, ↓b_mul, ↓b_div, ↓b_mod, ↓b_pow, ↓b_addT, ↓b_mulT, ↓c_lt, ↓c_le, ↓c_gt, ↓c_ge, ↓c_isB, ↓c_isNotB, ↓c_isN, ↓c_isNotN, ↓t_abs, ↓t_int, ↓t_intB, ↓t_len, ↓t_min, ↓t_max, ↓t_tupT, ↓t_lstT, ↓i_v, ↓i_tup, ↓i_lst, ↓i_call, ↓i_ix, ↓i_sl, ↓lc_nil, ↓lc_cons, ↓w_lcB, ↓fo_nil, ↓fo_cons, ↓ts_nil, ↓ts_cons, ↓t_all, ↓t_any, ↓t_tup, ↓wI_int, ↓wR_ok, ↓v_0, ↓v_1, ↓v_2, ↓v_3, ↓v_4, ↓v_5, ↓v_6, ↓v_7, ↓v_8, ↓v_9, ↓v_10, ↓v_11, ↓v_12, ↓v_13, ↓v_14, ↓v_15, ↓as_0, ↓as_1, ↓as_2, ↓as_3, ↓as_4, ↓as_5, ↓as_6, ↓as_7, ↓as_8, ↓as_9, ↓as_10, ↓as_11, ↓as_12, ↓as_13, ↓as_14, ↓as_15, ↓as_t, ↓as_n, ↓as_c, ↓x1_0, ↓x2_0, ↓x2_1, ↓x3_0, ↓x3_1, ↓x3_2, ↓x4_0, ↓x4_1, ↓x4_2, ↓x4_3, ↓x5_0, ↓x5_1, ↓x5_2, ↓x5_3, ↓x5_4, ↓ce_ii, ↓ce_bb, ↓ce_2, ↓ce_3, ↓cn_ii, ↓cn_bb, ↓cn_2, ↓cn_3, ↓pk_bl, ↓pk_int, ↓pk_tn, ↓pk_tc, ↓pk_non, ↓nb_bl, ↓nb_int, ↓yt_non, ↓yt_bl, ↓yt_int, ↓yt_str, ↓yt_tup, ↓wp_tup, List.length_cons, List.length_nil, lim, Nat.reduceAdd, Nat.reduceLeDiff, true_and, and_true, is_ii, is_ib, is_bi, is_bb, is_tt, is_lt, is_it, is_nt, is_st, is_ni, is_si, is_ti, is_li, Bool.not_true, Bool.not_false, Bool.false_eq_true, if_true, if_false, abs_eq, Int.cast_ofNat_Int, BEq.rfl, beq_iff_eq, Int.reduceBEq, Int.reduceLT, Int.reduceLE, Int.reduceNeg, Int.reduceEq, List.all_cons, List.all_nil, id, Bool.and_true, Bool.true_and, Bool.and_self, same_nil', oc_some, oc_none, bls, wBs_some, wipe, Option.map_some, List.set_cons_zero, List.set_cons_succ, decide_true, decide_false, ↓reduceIte, decide_eq_true_eq, Bool.not_eq_true', ↓w_of _ _ (e1 _), ↓w_of _ _ (e2 _), ↓w_of _ _ (e3 _), ↓w_of _ _ (e4 _), ↓w_of _ _ (e5 _), ↓w_of _ _ (e6 _)]
    exact hI _ _ ⟨rfl, _, by simp only [List.append_assoc]; rfl⟩
  rintro _ _ ⟨rfl, g, rfl⟩
  have hC := hC.app g
  generalize C ++ g = C at hC
  refine seq (fun ρ' c' => ρ' = [some (.ref 0), some (.ref n), none, some (pt ax ay aw), some (pt bx by' bw), none, some (pt x y w)] ∧ ∃ g, c' = C ++ g) (fun I hI => ?_) ?_
  · have e1 := fun c => middle_e 54 pa pb Ba Bb c
    have e2 := fun c => lsum_e 56 (by' := 2) pa.pos pb.pos (by decide) Ba Bb ((⟨by decide⟩ : Sm 2 2).mono (by decide)) c
    have e3 := fun c => shifted_e 54 pa pc Ba Bc c
    have e4 := fun c => lsum_e 56 (by' := 1) pa.pos pc.pos (by decide) Ba Bc ((⟨by decide⟩ : Sm 1 1).mono (by decide)) c
    have e5 := fun c => mirrored_e 55 pc c
    have e6 := fun c => turned_e 55 pc 1 c
    have r1 : rx (1 % 4) x y = -y := rfl
    have r2 : ry (1 % 4) x y = x := rfl
    rw [show aw * bw * 2 = 2 * aw * bw by grind] at e2
    rw [Int.mul_one] at e4
    rw [r1, r2] at e6
    simp (decide := true) only [↓ss_cons, ↓ss_nil, ↓s_set, ↓s_ret, ↓s_retN, ↓s_expr, ↓s_ife, ↓s_raise, ↓s_cnt, ↓s_brk, ↓s_pass, ↓s_setX, ↓s_for, ↓s_foS, ↓e_k, ↓e_tup, ↓e_lst, ↓e_call, ↓e_blt, ↓e_cmp, ↓e_bin, ↓e_neg, ↓e_and, ↓e_or, ↓e_not, ↓e_ite, ↓e_chain, ↓e_ix, ↓e_isi, ↓e_meth, ↓e_sl, ↓e_lam, ↓e_lc, ↓es_cons, ↓es_nil, ↓o_no, ↓b_add, ↓b_sub, ↓b_subB, ↓b_addB, ↓b_mul, ↓b_div, ↓b_mod, ↓b_pow, ↓b_addT, ↓b_mulT, ↓c_lt, ↓c_le, ↓c_gt, ↓c_ge, ↓c_isB, ↓c_isNotB, ↓c_isN, ↓c_isNotN, ↓t_abs, ↓t_int, ↓t_intB, ↓t_len, ↓t_min, ↓t_max, ↓t_tupT, ↓t_lstT, ↓i_v, ↓i_tup, ↓i_lst, ↓i_call, ↓i_ix, ↓i_sl, ↓lc_nil, ↓lc_cons, ↓w_lcB, ↓fo_nil, ↓fo_cons, ↓ts_nil, ↓ts_cons, ↓t_all, ↓t_any, ↓t_tup, ↓wI_int, ↓wR_ok, ↓v_0, ↓v_1, ↓v_2, ↓v_3, ↓v_4, ↓v_5, ↓v_6, ↓v_7, ↓v_8, ↓v_9, ↓v_10, ↓v_11, ↓v_12, ↓v_13, ↓v_14, ↓v_15, ↓as_0, ↓as_1, ↓as_2, ↓as_3, ↓as_4, ↓as_5, ↓as_6, ↓as_7, ↓as_8, ↓as_9, ↓as_10, ↓as_11, ↓as_12, ↓as_13, ↓as_14, ↓as_15, ↓as_t, ↓as_n, ↓as_c, ↓x1_0, ↓x2_0, ↓x2_1, ↓x3_0, ↓x3_1, ↓x3_2, ↓x4_0, ↓x4_1, ↓x4_2, ↓x4_3, ↓x5_0, ↓x5_1, ↓x5_2, ↓x5_3, ↓x5_4, ↓ce_ii, ↓ce_bb, ↓ce_2, ↓ce_3, ↓cn_ii, ↓cn_bb, ↓cn_2, ↓cn_3, ↓pk_bl, ↓pk_int, ↓pk_tn, ↓pk_tc, ↓pk_non, ↓nb_bl, ↓nb_int, ↓yt_non, ↓yt_bl, ↓yt_int, ↓yt_str, ↓yt_tup, ↓wp_tup, List.length_cons, List.length_nil, lim, Nat.reduceAdd, Nat.reduceLeDiff, true_and, and_true, is_ii, is_ib, is_bi, is_bb, is_tt, is_lt, is_it, is_nt, is_st, is_ni, is_si, is_ti, is_li, Bool.not_true, Bool.not_false, Bool.false_eq_true, if_true, if_false, abs_eq, Int.cast_ofNat_Int, BEq.rfl, beq_iff_eq, Int.reduceBEq, Int.reduceLT, Int.reduceLE, Int.reduceNeg, Int.reduceEq, List.all_cons, List.all_nil, id, Bool.and_true, Bool.true_and, Bool.and_self, same_nil', oc_some, oc_none, bls, wBs_some, wipe, Option.map_some, List.set_cons_zero, List.set_cons_succ, decide_true, decide_false, ↓reduceIte, decide_eq_true_eq, Bool.not_eq_true', ↓w_of _ _ (e1 _), ↓w_of _ _ (e2 _), ↓w_of _ _ (e3 _), ↓w_of _ _ (e4 _), ↓w_of _ _ (e5 _), ↓w_of _ _ (e6 _)]
    exact hI _ _ ⟨rfl, _, by simp only [List.append_assoc]; rfl⟩
  rintro _ _ ⟨rfl, g, rfl⟩
  have hC := hC.app g
  generalize C ++ g = C at hC
  obtain ⟨t, l, et, t0, t1, hC2⟩ := take_e 58 (m := 40) hC (by decide) ⟨by decide⟩
  generalize hL : C.set n (.lst l) = C2 at *
  refine seq (fun ρ' c' => ρ' = [some (.ref 0), some (.ref n), some (.int (t - 20)), some (pt ax ay aw), some (pt bx by' bw), none, some (pt x y w)] ∧ ∃ g, c' = C2 ++ g) (fun I hI => ?_) ?_
  · simp (decide := true) only [↓ss_cons, ↓ss_nil, ↓s_set, ↓s_ret, ↓s_retN, ↓s_expr, ↓s_ife, ↓s_raise, ↓s_cnt, ↓s_brk, ↓s_pass, ↓s_setX, ↓s_for, ↓s_foS, ↓e_k, ↓e_tup, ↓e_lst, ↓e_call, ↓e_blt, ↓e_cmp, ↓e_bin, ↓e_neg, ↓e_and, ↓e_or, ↓e_not, ↓e_ite, ↓e_chain, ↓e_ix, ↓e_isi, ↓e_meth, ↓e_sl, ↓e_lam, ↓e_lc, ↓es_cons, ↓es_nil, ↓o_no, ↓b_add, ↓b_sub, ↓b_subB, ↓b_addB, ↓b_mul, ↓b_div, ↓b_mod, ↓b_pow, ↓b_addT, ↓b_mulT, ↓c_lt, ↓c_le, ↓c_gt, ↓c_ge, ↓c_isB, ↓c_isNotB, ↓c_isN, ↓c_isNotN, ↓t_abs, ↓t_int, ↓t_intB, ↓t_len, ↓t_min, ↓t_max, ↓t_tupT, ↓t_lstT, ↓i_v, ↓i_tup, ↓i_lst, ↓i_call, ↓i_ix, ↓i_sl, ↓lc_nil, ↓lc_cons, ↓w_lcB, ↓fo_nil, ↓fo_cons, ↓ts_nil, ↓ts_cons, ↓t_all, ↓t_any, ↓t_tup, ↓wI_int, ↓wR_ok, ↓v_0, ↓v_1, ↓v_2, ↓v_3, ↓v_4, ↓v_5, ↓v_6, ↓v_7, ↓v_8, ↓v_9, ↓v_10, ↓v_11, ↓v_12, ↓v_13, ↓v_14, ↓v_15, ↓as_0, ↓as_1, ↓as_2, ↓as_3, ↓as_4, ↓as_5, ↓as_6, ↓as_7, ↓as_8, ↓as_9, ↓as_10, ↓as_11, ↓as_12, ↓as_13, ↓as_14, ↓as_15, ↓as_t, ↓as_n, ↓as_c, ↓x1_0, ↓x2_0, ↓x2_1, ↓x3_0, ↓x3_1, ↓x3_2, ↓x4_0, ↓x4_1, ↓x4_2, ↓x4_3, ↓x5_0, ↓x5_1, ↓x5_2, ↓x5_3, ↓x5_4, ↓ce_ii, ↓ce_bb, ↓ce_2, ↓ce_3, ↓cn_ii, ↓cn_bb, ↓cn_2, ↓cn_3, ↓pk_bl, ↓pk_int, ↓pk_tn, ↓pk_tc, ↓pk_non, ↓nb_bl, ↓nb_int, ↓yt_non, ↓yt_bl, ↓yt_int, ↓yt_str, ↓yt_tup, ↓wp_tup, List.length_cons, List.length_nil, lim, Nat.reduceAdd, Nat.reduceLeDiff, true_and, and_true, is_ii, is_ib, is_bi, is_bb, is_tt, is_lt, is_it, is_nt, is_st, is_ni, is_si, is_ti, is_li, Bool.not_true, Bool.not_false, Bool.false_eq_true, if_true, if_false, abs_eq, Int.cast_ofNat_Int, BEq.rfl, beq_iff_eq, Int.reduceBEq, Int.reduceLT, Int.reduceLE, Int.reduceNeg, Int.reduceEq, List.all_cons, List.all_nil, id, Bool.and_true, Bool.true_and, Bool.and_self, same_nil', oc_some, oc_none, bls, wBs_some, wipe, Option.map_some, List.set_cons_zero, List.set_cons_succ, decide_true, decide_false, ↓reduceIte, decide_eq_true_eq, Bool.not_eq_true', ↓w_of _ _ et]
    exact hI _ _ ⟨rfl, [], by simp⟩
  rintro _ _ ⟨rfl, g, rfl⟩
  have hC := hC2.app g
  generalize C2 ++ g = C at hC
  generalize t - 20 = k
  refine seq (fun ρ' c' => ρ' = [some (.ref 0), some (.ref n), some (.int k), some (pt ax ay aw), some (pt bx by' bw), none, some (pt x y w)] ∧ ∃ g, c' = C ++ g) (fun I hI => ?_) ?_
  · have e1 := fun c => turned_e 55 pc k c
    have e2 := fun c => turned_e 55 (pc.rots k) (4 * 10 ^ Int.toNat 12 - k) c
    obtain ⟨q1, q2⟩ := rot_back k x y
    rw [q1, q2] at e2
    have e3 := fun c => turned_e 55 pc 2 c
    have r1 : rx (2 % 4) x y = -x := rfl
    have r2 : ry (2 % 4) x y = -y := rfl
    rw [r1, r2] at e3
    have e4 := fun c => turned_e 55 pa k c
    have e5 := fun c => turned_e 55 pb k c
    have e6 := fun c => turn_e 54 (pa.rots k) (pb.rots k) (pc.rots k) (.of (by decide)) (.of (by decide)) (.of (by decide)) c
    rw [det_rot] at e6
    have e7 := fun c => turn_e 54 pa pb pc Ba Bb Bc c
    have hm : mulOk 4 (10 ^ Int.toNat 12) = true := by decide
    simp (decide := true) only [↓ss_cons, ↓ss_nil, ↓s_set, ↓s_ret, ↓s_retN, ↓s_expr, ↓s_ife, ↓s_raise, ↓s_cnt, ↓s_brk, ↓s_pass, ↓s_setX, ↓s_for, ↓s_foS, ↓e_k, ↓e_tup, ↓e_lst, ↓e_call, ↓e_blt, ↓e_cmp, ↓e_bin, ↓e_neg, ↓e_and, ↓e_or, ↓e_not, ↓e_ite, ↓e_chain, ↓e_ix, ↓e_isi, ↓e_meth, ↓e_sl, ↓e_lam, ↓e_lc, ↓es_cons, ↓es_nil, ↓o_no, ↓b_add, ↓b_sub, ↓b_subB, ↓b_addB, ↓b_mul, ↓b_div, ↓b_mod, ↓b_pow, ↓b_addT, ↓b_mulT, ↓c_lt, ↓c_le, ↓c_gt, ↓c_ge, ↓c_isB, ↓c_isNotB, ↓c_isN, ↓c_isNotN, ↓t_abs, ↓t_int, ↓t_intB, ↓t_len, ↓t_min, ↓t_max, ↓t_tupT, ↓t_lstT, ↓i_v, ↓i_tup, ↓i_lst, ↓i_call, ↓i_ix, ↓i_sl, ↓lc_nil, ↓lc_cons, ↓w_lcB, ↓fo_nil, ↓fo_cons, ↓ts_nil, ↓ts_cons, ↓t_all, ↓t_any, ↓t_tup, ↓wI_int, ↓wR_ok, ↓v_0, ↓v_1, ↓v_2, ↓v_3, ↓v_4, ↓v_5, ↓v_6, ↓v_7, ↓v_8, ↓v_9, ↓v_10, ↓v_11, ↓v_12, ↓v_13, ↓v_14, ↓v_15, ↓as_0, ↓as_1, ↓as_2, ↓as_3, ↓as_4, ↓as_5, ↓as_6, ↓as_7, ↓as_8, ↓as_9, ↓as_10, ↓as_11, ↓as_12, ↓as_13, ↓as_14, ↓as_15, ↓as_t, ↓as_n, ↓as_c, ↓x1_0, ↓x2_0, ↓x2_1, ↓x3_0, ↓x3_1, ↓x3_2, ↓x4_0, ↓x4_1, ↓x4_2, ↓x4_3, ↓x5_0, ↓x5_1, ↓x5_2, ↓x5_3, ↓x5_4, ↓ce_ii, ↓ce_bb, ↓ce_2, ↓ce_3, ↓cn_ii, ↓cn_bb, ↓cn_2, ↓cn_3, ↓pk_bl, ↓pk_int, ↓pk_tn, ↓pk_tc, ↓pk_non, ↓nb_bl, ↓nb_int, ↓yt_non, ↓yt_bl, ↓yt_int, ↓yt_str, ↓yt_tup, ↓wp_tup, List.length_cons, List.length_nil, lim, Nat.reduceAdd, Nat.reduceLeDiff, true_and, and_true, is_ii, is_ib, is_bi, is_bb, is_tt, is_lt, is_it, is_nt, is_st, is_ni, is_si, is_ti, is_li, Bool.not_true, Bool.not_false, Bool.false_eq_true, if_true, if_false, abs_eq, Int.cast_ofNat_Int, BEq.rfl, beq_iff_eq, Int.reduceBEq, Int.reduceLT, Int.reduceLE, Int.reduceNeg, Int.reduceEq, List.all_cons, List.all_nil, id, Bool.and_true, Bool.true_and, Bool.and_self, same_nil', oc_some, oc_none, bls, wBs_some, wipe, Option.map_some, List.set_cons_zero, List.set_cons_succ, decide_true, decide_false, ↓reduceIte, decide_eq_true_eq, Bool.not_eq_true', hm, ↓w_of _ _ (e1 _), ↓w_of _ _ (e2 _), ↓w_of _ _ (e3 _), ↓w_of _ _ (e4 _), ↓w_of _ _ (e5 _), ↓w_of _ _ (e6 _), ↓w_of _ _ (e7 _)]
    exact hI _ _ ⟨rfl, _, by simp only [List.append_assoc]; rfl⟩
  rintro _ _ ⟨rfl, g, rfl⟩
  have hC := hC.app g
  generalize C ++ g = C at hC
  refine seq (fun ρ' c' => ρ' = [some (.ref 0), some (.ref n), some (.int k), some (pt ax ay aw), some (pt bx by' bw), none, some (pt x y w)] ∧ ∃ g, c' = C ++ g) (fun I hI => ?_) ?_
  · have hw1 : aw * w ≠ 0 := by have := Int.mul_pos pa.pos pc.pos; omega
    have hw2 : bw * w ≠ 0 := by have := Int.mul_pos pb.pos pc.pos; omega
    have e1 := fun c => shifted_e 54 pa pc Ba Bc c
    have e2 := fun c => shifted_e 54 pb pc Bb Bc c
    have M1 := m_ok (ax * w + x * aw) (ay * w + y * aw) hw1
    have M2 := m_ok (bx * w + x * bw) (by' * w + y * bw) hw2
    have B1 : B3 (m1 (ax * w + x * aw) (ay * w + y * aw) (aw * w)) (m2 (ax * w + x * aw) (ay * w + y * aw) (aw * w)) (m3 (ax * w + x * aw) (ay * w + y * aw) (aw * w)) := .of (by decide)
    have B2 : B3 (m1 (bx * w + x * bw) (by' * w + y * bw) (bw * w)) (m2 (bx * w + x * bw) (by' * w + y * bw) (bw * w)) (m3 (bx * w + x * bw) (by' * w + y * bw) (bw * w)) := .of (by decide)
    unfold mp at e1 e2
    generalize m1 (ax * w + x * aw) (ay * w + y * aw) (aw * w) = p at e1 M1 B1
    generalize m2 (ax * w + x * aw) (ay * w + y * aw) (aw * w) = q at e1 M1 B1
    generalize m3 (ax * w + x * aw) (ay * w + y * aw) (aw * w) = r at e1 M1 B1
    generalize m1 (bx * w + x * bw) (by' * w + y * bw) (bw * w) = p' at e2 M2 B2
    generalize m2 (bx * w + x * bw) (by' * w + y * bw) (bw * w) = q' at e2 M2 B2
    generalize m3 (bx * w + x * bw) (by' * w + y * bw) (bw * w) = r' at e2 M2 B2
    have e3 := fun c => length_e 54 M1.pt M2.pt B1 B2 c
    have e4 := fun c => length_e 54 pa pb Ba Bb c
    have hd : sqd r r' ≠ 0 := by have := Int.mul_pos (Int.mul_pos M1.pt.pos M2.pt.pos) (Int.mul_pos M1.pt.pos M2.pt.pos); unfold sqd; omega
    have hd' : sqd aw bw ≠ 0 := by have := Int.mul_pos (Int.mul_pos pa.pos pb.pos) (Int.mul_pos pa.pos pb.pos); unfold sqd; omega
    obtain ⟨f1, f2'⟩ := fr_same hd hd' (sq_sum (shift_diff hc0 M1.ex M2.ex) (shift_diff hc0 M1.ey M2.ey) : sqn p q r p' q' r' * sqd aw bw = sqn ax ay aw bx by' bw * sqd r r')
    rw [f1, f2'] at e3
    have e5 := fun c => mirrored_e 55 pa c
    have e6 := fun c => mirrored_e 55 pb c
    have e7 := fun c => mirrored_e 55 pc c
    have e8 := fun c => turn_e 54 pa.mir pb.mir pc.mir (.of (by decide)) (.of (by decide)) (.of (by decide)) c
    have d1 : det (-ax) ay aw (-bx) by' bw (-x) y w = -det ax ay aw bx by' bw x y w := by unfold det; grind
    rw [d1, sgn_neg] at e8
    have e9 := fun c => turn_e 54 pa pb pc Ba Bb Bc c
    simp (decide := true) only [↓ss_cons, ↓ss_nil, ↓s_set, ↓s_ret, ↓s_retN, ↓s_expr, ↓s_ife, ↓s_raise, ↓s_cnt, ↓s_brk, ↓s_pass, ↓s_setX, ↓s_for, ↓s_foS, ↓e_k, ↓e_tup, ↓e_lst, ↓e_call, ↓e_blt, ↓e_cmp, ↓e_bin, ↓e_neg, ↓e_and, ↓e_or, ↓e_not, ↓e_ite, ↓e_chain, ↓e_ix, ↓e_isi, ↓e_meth, ↓e_sl, ↓e_lam, ↓e_lc, ↓es_cons, ↓es_nil, ↓o_no, ↓b_add, ↓b_sub, ↓b_subB, ↓b_addB, ↓b_mul, ↓b_div, ↓b_mod, ↓b_pow, ↓b_addT, ↓b_mulT, ↓c_lt, ↓c_le, ↓c_gt, ↓c_ge, ↓c_isB, ↓c_isNotB, ↓c_isN, ↓c_isNotN, ↓t_abs, ↓t_int, ↓t_intB, ↓t_len, ↓t_min, ↓t_max, ↓t_tupT, ↓t_lstT, ↓i_v, ↓i_tup, ↓i_lst, ↓i_call, ↓i_ix, ↓i_sl, ↓lc_nil, ↓lc_cons, ↓w_lcB, ↓fo_nil, ↓fo_cons, ↓ts_nil, ↓ts_cons, ↓t_all, ↓t_any, ↓t_tup, ↓wI_int, ↓wR_ok, ↓v_0, ↓v_1, ↓v_2, ↓v_3, ↓v_4, ↓v_5, ↓v_6, ↓v_7, ↓v_8, ↓v_9, ↓v_10, ↓v_11, ↓v_12, ↓v_13, ↓v_14, ↓v_15, ↓as_0, ↓as_1, ↓as_2, ↓as_3, ↓as_4, ↓as_5, ↓as_6, ↓as_7, ↓as_8, ↓as_9, ↓as_10, ↓as_11, ↓as_12, ↓as_13, ↓as_14, ↓as_15, ↓as_t, ↓as_n, ↓as_c, ↓x1_0, ↓x2_0, ↓x2_1, ↓x3_0, ↓x3_1, ↓x3_2, ↓x4_0, ↓x4_1, ↓x4_2, ↓x4_3, ↓x5_0, ↓x5_1, ↓x5_2, ↓x5_3, ↓x5_4, ↓ce_ii, ↓ce_bb, ↓ce_2, ↓ce_3, ↓cn_ii, ↓cn_bb, ↓cn_2, ↓cn_3, ↓pk_bl, ↓pk_int, ↓pk_tn, ↓pk_tc, ↓pk_non, ↓nb_bl, ↓nb_int, ↓yt_non, ↓yt_bl, ↓yt_int, ↓yt_str, ↓yt_tup, ↓wp_tup, List.length_cons, List.length_nil, lim, Nat.reduceAdd, Nat.reduceLeDiff, true_and, and_true, is_ii, is_ib, is_bi, is_bb, is_tt, is_lt, is_it, is_nt, is_st, is_ni, is_si, is_ti, is_li, Bool.not_true, Bool.not_false, Bool.false_eq_true, if_true, if_false, abs_eq, Int.cast_ofNat_Int, BEq.rfl, beq_iff_eq, Int.reduceBEq, Int.reduceLT, Int.reduceLE, Int.reduceNeg, Int.reduceEq, List.all_cons, List.all_nil, id, Bool.and_true, Bool.true_and, Bool.and_self, same_nil', oc_some, oc_none, bls, wBs_some, wipe, Option.map_some, List.set_cons_zero, List.set_cons_succ, decide_true, decide_false, ↓reduceIte, decide_eq_true_eq, Bool.not_eq_true', ↓w_of _ _ (e1 _), ↓w_of _ _ (e2 _), ↓w_of _ _ (e3 _), ↓w_of _ _ (e4 _), ↓w_of _ _ (e5 _), ↓w_of _ _ (e6 _), ↓w_of _ _ (e7 _), ↓w_of _ _ (e8 _), ↓w_of _ _ (e9 _)]
    exact hI _ _ ⟨rfl, _, by simp only [List.append_assoc]; rfl⟩
  rintro _ _ ⟨rfl, g, rfl⟩
  have hC := hC.app g
  generalize C ++ g = C at hC
  have hn : n < C.length := by obtain ⟨_, _, _, _, _, B⟩ := hC; exact (List.getElem?_eq_some_iff.mp B.box).1
  obtain ⟨d, l, ep, hd, hB⟩ := lpick_e 57 (c := C ++ [Cell.lst [.int ax, .int ay, .int aw]] ++ [Cell.lst (.ref C.length :: bads)]) (r := (C ++ [Cell.lst [.int ax, .int ay, .int aw]]).length) (xs := .ref C.length :: bads) ((hC.app _).app _) (last_cell _ _) (by simp; omega) (by simp) (by simp [bads])
  have hbad : Bad ((C ++ [Cell.lst [.int ax, .int ay, .int aw]] ++ [Cell.lst (.ref C.length :: bads)]).set n (Cell.lst l)) d := by
    rcases List.mem_cons.mp hd with rfl | h
    · refine .inl ⟨_, [.int ax, .int ay, .int aw], rfl, ?_⟩
      rw [List.getElem?_set_ne (by omega), List.getElem?_append_left (by simp), last_cell]
    · exact .inr h
  generalize hL : (C ++ [Cell.lst [.int ax, .int ay, .int aw]] ++ [Cell.lst (.ref C.length :: bads)]).set n (Cell.lst l) = C5 at *
  refine seq (fun ρ' c' => ρ' = [some (.ref 0), some (.ref n), some (.int k), some (pt ax ay aw), some (pt bx by' bw), some d, some (pt x y w)] ∧ ∃ g, c' = C5 ++ g) (fun I hI => ?_) ?_
  · unfold bads at ep
    simp (decide := true) only [↓ss_cons, ↓ss_nil, ↓s_set, ↓s_ret, ↓s_retN, ↓s_expr, ↓s_ife, ↓s_raise, ↓s_cnt, ↓s_brk, ↓s_pass, ↓s_setX, ↓s_for, ↓s_foS, ↓e_k, ↓e_tup, ↓e_lst, ↓e_call, ↓e_blt, ↓e_cmp, ↓e_bin, ↓e_neg, ↓e_and, ↓e_or, ↓e_not, ↓e_ite, ↓e_chain, ↓e_ix, ↓e_isi, ↓e_meth, ↓e_sl, ↓e_lam, ↓e_lc, ↓es_cons, ↓es_nil, ↓o_no, ↓b_add, ↓b_sub, ↓b_subB, ↓b_addB, ↓b_mul, ↓b_div, ↓b_mod, ↓b_pow, ↓b_addT, ↓b_mulT, ↓c_lt, ↓c_le, ↓c_gt, ↓c_ge, ↓c_isB, ↓c_isNotB, ↓c_isN, ↓c_isNotN, ↓t_abs, ↓t_int, ↓t_intB, ↓t_len, ↓t_min, ↓t_max, ↓t_tupT, ↓t_lstT, ↓i_v, ↓i_tup, ↓i_lst, ↓i_call, ↓i_ix, ↓i_sl, ↓lc_nil, ↓lc_cons, ↓w_lcB, ↓fo_nil, ↓fo_cons, ↓ts_nil, ↓ts_cons, ↓t_all, ↓t_any, ↓t_tup, ↓wI_int, ↓wR_ok, ↓v_0, ↓v_1, ↓v_2, ↓v_3, ↓v_4, ↓v_5, ↓v_6, ↓v_7, ↓v_8, ↓v_9, ↓v_10, ↓v_11, ↓v_12, ↓v_13, ↓v_14, ↓v_15, ↓as_0, ↓as_1, ↓as_2, ↓as_3, ↓as_4, ↓as_5, ↓as_6, ↓as_7, ↓as_8, ↓as_9, ↓as_10, ↓as_11, ↓as_12, ↓as_13, ↓as_14, ↓as_15, ↓as_t, ↓as_n, ↓as_c, ↓x1_0, ↓x2_0, ↓x2_1, ↓x3_0, ↓x3_1, ↓x3_2, ↓x4_0, ↓x4_1, ↓x4_2, ↓x4_3, ↓x5_0, ↓x5_1, ↓x5_2, ↓x5_3, ↓x5_4, ↓ce_ii, ↓ce_bb, ↓ce_2, ↓ce_3, ↓cn_ii, ↓cn_bb, ↓cn_2, ↓cn_3, ↓pk_bl, ↓pk_int, ↓pk_tn, ↓pk_tc, ↓pk_non, ↓nb_bl, ↓nb_int, ↓yt_non, ↓yt_bl, ↓yt_int, ↓yt_str, ↓yt_tup, ↓wp_tup, List.length_cons, List.length_nil, lim, Nat.reduceAdd, Nat.reduceLeDiff, true_and, and_true, is_ii, is_ib, is_bi, is_bb, is_tt, is_lt, is_it, is_nt, is_st, is_ni, is_si, is_ti, is_li, Bool.not_true, Bool.not_false, Bool.false_eq_true, if_true, if_false, abs_eq, Int.cast_ofNat_Int, BEq.rfl, beq_iff_eq, Int.reduceBEq, Int.reduceLT, Int.reduceLE, Int.reduceNeg, Int.reduceEq, List.all_cons, List.all_nil, id, Bool.and_true, Bool.true_and, Bool.and_self, same_nil', oc_some, oc_none, bls, wBs_some, wipe, Option.map_some, List.set_cons_zero, List.set_cons_succ, decide_true, decide_false, ↓reduceIte, decide_eq_true_eq, Bool.not_eq_true', ↓w_of _ _ ep]
    exact hI _ _ ⟨rfl, [], by simp⟩
  rintro _ _ ⟨rfl, g, rfl⟩
  have hbad := hbad.app g
  generalize C5 ++ g = C at hbad
  refine seq (fun ρ' c' => ρ' = [some (.ref 0), some (.ref n), some (.int k), some (pt ax ay aw), some (pt bx by' bw), some d, some (pt x y w)] ∧ ∃ g, c' = C ++ g) (fun I hI => ?_) ?_
  · obtain ⟨g1, e1⟩ := isbad 57 hbad
    obtain ⟨g2, e2⟩ := islot_bad 56 (hbad.app g1) pa
    obtain ⟨g3, e3⟩ := islot_3 56 (c := C ++ g1 ++ g2) pa pb pc
    have e4 := islot_many 56 (c := C ++ g1 ++ g2 ++ g3) (xs := (List.replicate (Int.toNat 41) [pt ax ay aw]).flatten) (by simp)
    have e5 := islot_ref 56 (c := C ++ g1 ++ g2 ++ g3 ++ [Cell.lst [pt ax ay aw]]) (r := (C ++ g1 ++ g2 ++ g3).length) (last_cell _ _)
    simp (decide := true) only [↓ss_cons, ↓ss_nil, ↓s_set, ↓s_ret, ↓s_retN, ↓s_expr, ↓s_ife, ↓s_raise, ↓s_cnt, ↓s_brk, ↓s_pass, ↓s_setX, ↓s_for, ↓s_foS, ↓e_k, ↓e_tup, ↓e_lst, ↓e_call, ↓e_blt, ↓e_cmp, ↓e_bin, ↓e_neg, ↓e_and, ↓e_or, ↓e_not, ↓e_ite, ↓e_chain, ↓e_ix, ↓e_isi, ↓e_meth, ↓e_sl, ↓e_lam, ↓e_lc, ↓es_cons, ↓es_nil, ↓o_no, ↓b_add, ↓b_sub, ↓b_subB, ↓b_addB, ↓b_mul, ↓b_div, ↓b_mod, ↓b_pow, ↓b_addT, ↓b_mulT, ↓c_lt, ↓c_le, ↓c_gt, ↓c_ge, ↓c_isB, ↓c_isNotB, ↓c_isN, ↓c_isNotN, ↓t_abs, ↓t_int, ↓t_intB, ↓t_len, ↓t_min, ↓t_max, ↓t_tupT, ↓t_lstT, ↓i_v, ↓i_tup, ↓i_lst, ↓i_call, ↓i_ix, ↓i_sl, ↓lc_nil, ↓lc_cons, ↓w_lcB, ↓fo_nil, ↓fo_cons, ↓ts_nil, ↓ts_cons, ↓t_all, ↓t_any, ↓t_tup, ↓wI_int, ↓wR_ok, ↓v_0, ↓v_1, ↓v_2, ↓v_3, ↓v_4, ↓v_5, ↓v_6, ↓v_7, ↓v_8, ↓v_9, ↓v_10, ↓v_11, ↓v_12, ↓v_13, ↓v_14, ↓v_15, ↓as_0, ↓as_1, ↓as_2, ↓as_3, ↓as_4, ↓as_5, ↓as_6, ↓as_7, ↓as_8, ↓as_9, ↓as_10, ↓as_11, ↓as_12, ↓as_13, ↓as_14, ↓as_15, ↓as_t, ↓as_n, ↓as_c, ↓x1_0, ↓x2_0, ↓x2_1, ↓x3_0, ↓x3_1, ↓x3_2, ↓x4_0, ↓x4_1, ↓x4_2, ↓x4_3, ↓x5_0, ↓x5_1, ↓x5_2, ↓x5_3, ↓x5_4, ↓ce_ii, ↓ce_bb, ↓ce_2, ↓ce_3, ↓cn_ii, ↓cn_bb, ↓cn_2, ↓cn_3, ↓pk_bl, ↓pk_int, ↓pk_tn, ↓pk_tc, ↓pk_non, ↓nb_bl, ↓nb_int, ↓yt_non, ↓yt_bl, ↓yt_int, ↓yt_str, ↓yt_tup, ↓wp_tup, List.length_cons, List.length_nil, lim, Nat.reduceAdd, Nat.reduceLeDiff, true_and, and_true, is_ii, is_ib, is_bi, is_bb, is_tt, is_lt, is_it, is_nt, is_st, is_ni, is_si, is_ti, is_li, Bool.not_true, Bool.not_false, Bool.false_eq_true, if_true, if_false, abs_eq, Int.cast_ofNat_Int, BEq.rfl, beq_iff_eq, Int.reduceBEq, Int.reduceLT, Int.reduceLE, Int.reduceNeg, Int.reduceEq, List.all_cons, List.all_nil, id, Bool.and_true, Bool.true_and, Bool.and_self, same_nil', oc_some, oc_none, bls, wBs_some, wipe, Option.map_some, List.set_cons_zero, List.set_cons_succ, decide_true, decide_false, ↓reduceIte, decide_eq_true_eq, Bool.not_eq_true', ↓w_of _ _ e1, ↓w_of _ _ e2, ↓w_of _ _ e3, ↓w_of _ _ e4, ↓w_of _ _ e5, ne_eq, reduceCtorEq, not_false_eq_true]
    exact hI _ _ ⟨rfl, _, by simp only [List.append_assoc]; rfl⟩
  have hL : ∀ (Q : QD) (r : R D), wL (T.thks.lookup "_law_refused") T.excs Q r = wR r (fun _ c1 => Q (.bl false) c1) (fun x c1 => x ∈ T.excs ∧ wO ((List.lookup x [("BadShape", D.bl true)]).map some) fun d => Q d c1) := fun _ _ => rfl
  have hx : ("BadShape" ∈ T.excs) = True := by decide
  have hk : (List.lookup "BadShape" [("BadShape", D.bl true)]).map some = some (some (.bl true)) := rfl
  rintro _ _ ⟨rfl, g, rfl⟩
  have hbad := hbad.app g
  generalize C ++ g = C at hbad
  refine seq (fun ρ' c' => ρ' = [some (.ref 0), some (.ref n), some (.int k), some (pt ax ay aw), some (pt bx by' bw), some d, some (pt x y w)] ∧ ∃ g, c' = C ++ g) (fun I hI => ?_) ?_
  · obtain ⟨g1, e1⟩ := turn_bad 54 (z := pt x y w) hbad pa
    simp (decide := true) only [↓ss_cons, ↓ss_nil, ↓s_set, ↓s_ret, ↓s_retN, ↓s_expr, ↓s_ife, ↓s_raise, ↓s_cnt, ↓s_brk, ↓s_pass, ↓s_setX, ↓s_for, ↓s_foS, ↓e_k, ↓e_tup, ↓e_lst, ↓e_call, ↓e_blt, ↓e_cmp, ↓e_bin, ↓e_neg, ↓e_and, ↓e_or, ↓e_not, ↓e_ite, ↓e_chain, ↓e_ix, ↓e_isi, ↓e_meth, ↓e_sl, ↓e_lam, ↓e_lc, ↓es_cons, ↓es_nil, ↓o_no, ↓b_add, ↓b_sub, ↓b_subB, ↓b_addB, ↓b_mul, ↓b_div, ↓b_mod, ↓b_pow, ↓b_addT, ↓b_mulT, ↓c_lt, ↓c_le, ↓c_gt, ↓c_ge, ↓c_isB, ↓c_isNotB, ↓c_isN, ↓c_isNotN, ↓t_abs, ↓t_int, ↓t_intB, ↓t_len, ↓t_min, ↓t_max, ↓t_tupT, ↓t_lstT, ↓i_v, ↓i_tup, ↓i_lst, ↓i_call, ↓i_ix, ↓i_sl, ↓lc_nil, ↓lc_cons, ↓w_lcB, ↓fo_nil, ↓fo_cons, ↓ts_nil, ↓ts_cons, ↓t_all, ↓t_any, ↓t_tup, ↓wI_int, ↓wR_ok, ↓v_0, ↓v_1, ↓v_2, ↓v_3, ↓v_4, ↓v_5, ↓v_6, ↓v_7, ↓v_8, ↓v_9, ↓v_10, ↓v_11, ↓v_12, ↓v_13, ↓v_14, ↓v_15, ↓as_0, ↓as_1, ↓as_2, ↓as_3, ↓as_4, ↓as_5, ↓as_6, ↓as_7, ↓as_8, ↓as_9, ↓as_10, ↓as_11, ↓as_12, ↓as_13, ↓as_14, ↓as_15, ↓as_t, ↓as_n, ↓as_c, ↓x1_0, ↓x2_0, ↓x2_1, ↓x3_0, ↓x3_1, ↓x3_2, ↓x4_0, ↓x4_1, ↓x4_2, ↓x4_3, ↓x5_0, ↓x5_1, ↓x5_2, ↓x5_3, ↓x5_4, ↓ce_ii, ↓ce_bb, ↓ce_2, ↓ce_3, ↓cn_ii, ↓cn_bb, ↓cn_2, ↓cn_3, ↓pk_bl, ↓pk_int, ↓pk_tn, ↓pk_tc, ↓pk_non, ↓nb_bl, ↓nb_int, ↓yt_non, ↓yt_bl, ↓yt_int, ↓yt_str, ↓yt_tup, ↓wp_tup, List.length_cons, List.length_nil, lim, Nat.reduceAdd, Nat.reduceLeDiff, true_and, and_true, is_ii, is_ib, is_bi, is_bb, is_tt, is_lt, is_it, is_nt, is_st, is_ni, is_si, is_ti, is_li, Bool.not_true, Bool.not_false, Bool.false_eq_true, if_true, if_false, abs_eq, Int.cast_ofNat_Int, BEq.rfl, beq_iff_eq, Int.reduceBEq, Int.reduceLT, Int.reduceLE, Int.reduceNeg, Int.reduceEq, List.all_cons, List.all_nil, id, Bool.and_true, Bool.true_and, Bool.and_self, same_nil', oc_some, oc_none, bls, wBs_some, wipe, Option.map_some, List.set_cons_zero, List.set_cons_succ, decide_true, decide_false, ↓reduceIte, decide_eq_true_eq, Bool.not_eq_true', ↓hL, ↓w_ex _ _ e1, hx, hk, wO_some]
    exact hI _ _ ⟨rfl, _, rfl⟩
  rintro _ _ ⟨rfl, g, rfl⟩
  have hbad := hbad.app g
  generalize C ++ g = C at hbad
  refine seq (fun ρ' c' => ρ' = [some (.ref 0), some (.ref n), some (.int k), some (pt ax ay aw), some (pt bx by' bw), some d, some (pt x y w)] ∧ ∃ g, c' = C ++ g) (fun I hI => ?_) ?_
  · obtain ⟨g1, e1⟩ := between_bad 54 hbad pa pb
    simp (decide := true) only [↓ss_cons, ↓ss_nil, ↓s_set, ↓s_ret, ↓s_retN, ↓s_expr, ↓s_ife, ↓s_raise, ↓s_cnt, ↓s_brk, ↓s_pass, ↓s_setX, ↓s_for, ↓s_foS, ↓e_k, ↓e_tup, ↓e_lst, ↓e_call, ↓e_blt, ↓e_cmp, ↓e_bin, ↓e_neg, ↓e_and, ↓e_or, ↓e_not, ↓e_ite, ↓e_chain, ↓e_ix, ↓e_isi, ↓e_meth, ↓e_sl, ↓e_lam, ↓e_lc, ↓es_cons, ↓es_nil, ↓o_no, ↓b_add, ↓b_sub, ↓b_subB, ↓b_addB, ↓b_mul, ↓b_div, ↓b_mod, ↓b_pow, ↓b_addT, ↓b_mulT, ↓c_lt, ↓c_le, ↓c_gt, ↓c_ge, ↓c_isB, ↓c_isNotB, ↓c_isN, ↓c_isNotN, ↓t_abs, ↓t_int, ↓t_intB, ↓t_len, ↓t_min, ↓t_max, ↓t_tupT, ↓t_lstT, ↓i_v, ↓i_tup, ↓i_lst, ↓i_call, ↓i_ix, ↓i_sl, ↓lc_nil, ↓lc_cons, ↓w_lcB, ↓fo_nil, ↓fo_cons, ↓ts_nil, ↓ts_cons, ↓t_all, ↓t_any, ↓t_tup, ↓wI_int, ↓wR_ok, ↓v_0, ↓v_1, ↓v_2, ↓v_3, ↓v_4, ↓v_5, ↓v_6, ↓v_7, ↓v_8, ↓v_9, ↓v_10, ↓v_11, ↓v_12, ↓v_13, ↓v_14, ↓v_15, ↓as_0, ↓as_1, ↓as_2, ↓as_3, ↓as_4, ↓as_5, ↓as_6, ↓as_7, ↓as_8, ↓as_9, ↓as_10, ↓as_11, ↓as_12, ↓as_13, ↓as_14, ↓as_15, ↓as_t, ↓as_n, ↓as_c, ↓x1_0, ↓x2_0, ↓x2_1, ↓x3_0, ↓x3_1, ↓x3_2, ↓x4_0, ↓x4_1, ↓x4_2, ↓x4_3, ↓x5_0, ↓x5_1, ↓x5_2, ↓x5_3, ↓x5_4, ↓ce_ii, ↓ce_bb, ↓ce_2, ↓ce_3, ↓cn_ii, ↓cn_bb, ↓cn_2, ↓cn_3, ↓pk_bl, ↓pk_int, ↓pk_tn, ↓pk_tc, ↓pk_non, ↓nb_bl, ↓nb_int, ↓yt_non, ↓yt_bl, ↓yt_int, ↓yt_str, ↓yt_tup, ↓wp_tup, List.length_cons, List.length_nil, lim, Nat.reduceAdd, Nat.reduceLeDiff, true_and, and_true, is_ii, is_ib, is_bi, is_bb, is_tt, is_lt, is_it, is_nt, is_st, is_ni, is_si, is_ti, is_li, Bool.not_true, Bool.not_false, Bool.false_eq_true, if_true, if_false, abs_eq, Int.cast_ofNat_Int, BEq.rfl, beq_iff_eq, Int.reduceBEq, Int.reduceLT, Int.reduceLE, Int.reduceNeg, Int.reduceEq, List.all_cons, List.all_nil, id, Bool.and_true, Bool.true_and, Bool.and_self, same_nil', oc_some, oc_none, bls, wBs_some, wipe, Option.map_some, List.set_cons_zero, List.set_cons_succ, decide_true, decide_false, ↓reduceIte, decide_eq_true_eq, Bool.not_eq_true', ↓hL, ↓w_ex _ _ e1, hx, hk, wO_some]
    exact hI _ _ ⟨rfl, _, rfl⟩
  rintro _ _ ⟨rfl, g, rfl⟩
  have hbad := hbad.app g
  generalize C ++ g = C at hbad
  obtain ⟨g1, e1⟩ := turned_bad 55 hbad 1
  simp (decide := true) only [↓ss_cons, ↓ss_nil, ↓s_set, ↓s_ret, ↓s_retN, ↓s_expr, ↓s_ife, ↓s_raise, ↓s_cnt, ↓s_brk, ↓s_pass, ↓s_setX, ↓s_for, ↓s_foS, ↓e_k, ↓e_tup, ↓e_lst, ↓e_call, ↓e_blt, ↓e_cmp, ↓e_bin, ↓e_neg, ↓e_and, ↓e_or, ↓e_not, ↓e_ite, ↓e_chain, ↓e_ix, ↓e_isi, ↓e_meth, ↓e_sl, ↓e_lam, ↓e_lc, ↓es_cons, ↓es_nil, ↓o_no, ↓b_add, ↓b_sub, ↓b_subB, ↓b_addB, ↓b_mul, ↓b_div, ↓b_mod, ↓b_pow, ↓b_addT, ↓b_mulT, ↓c_lt, ↓c_le, ↓c_gt, ↓c_ge, ↓c_isB, ↓c_isNotB, ↓c_isN, ↓c_isNotN, ↓t_abs, ↓t_int, ↓t_intB, ↓t_len, ↓t_min, ↓t_max, ↓t_tupT, ↓t_lstT, ↓i_v, ↓i_tup, ↓i_lst, ↓i_call, ↓i_ix, ↓i_sl, ↓lc_nil, ↓lc_cons, ↓w_lcB, ↓fo_nil, ↓fo_cons, ↓ts_nil, ↓ts_cons, ↓t_all, ↓t_any, ↓t_tup, ↓wI_int, ↓wR_ok, ↓v_0, ↓v_1, ↓v_2, ↓v_3, ↓v_4, ↓v_5, ↓v_6, ↓v_7, ↓v_8, ↓v_9, ↓v_10, ↓v_11, ↓v_12, ↓v_13, ↓v_14, ↓v_15, ↓as_0, ↓as_1, ↓as_2, ↓as_3, ↓as_4, ↓as_5, ↓as_6, ↓as_7, ↓as_8, ↓as_9, ↓as_10, ↓as_11, ↓as_12, ↓as_13, ↓as_14, ↓as_15, ↓as_t, ↓as_n, ↓as_c, ↓x1_0, ↓x2_0, ↓x2_1, ↓x3_0, ↓x3_1, ↓x3_2, ↓x4_0, ↓x4_1, ↓x4_2, ↓x4_3, ↓x5_0, ↓x5_1, ↓x5_2, ↓x5_3, ↓x5_4, ↓ce_ii, ↓ce_bb, ↓ce_2, ↓ce_3, ↓cn_ii, ↓cn_bb, ↓cn_2, ↓cn_3, ↓pk_bl, ↓pk_int, ↓pk_tn, ↓pk_tc, ↓pk_non, ↓nb_bl, ↓nb_int, ↓yt_non, ↓yt_bl, ↓yt_int, ↓yt_str, ↓yt_tup, ↓wp_tup, List.length_cons, List.length_nil, lim, Nat.reduceAdd, Nat.reduceLeDiff, true_and, and_true, is_ii, is_ib, is_bi, is_bb, is_tt, is_lt, is_it, is_nt, is_st, is_ni, is_si, is_ti, is_li, Bool.not_true, Bool.not_false, Bool.false_eq_true, if_true, if_false, abs_eq, Int.cast_ofNat_Int, BEq.rfl, beq_iff_eq, Int.reduceBEq, Int.reduceLT, Int.reduceLE, Int.reduceNeg, Int.reduceEq, List.all_cons, List.all_nil, id, Bool.and_true, Bool.true_and, Bool.and_self, same_nil', oc_some, oc_none, bls, wBs_some, wipe, Option.map_some, List.set_cons_zero, List.set_cons_succ, decide_true, decide_false, ↓reduceIte, decide_eq_true_eq, Bool.not_eq_true', ↓hL, ↓w_ex _ _ e1, hx, hk, wO_some]
end K02
end

section
set_option linter.all false
set_option autoImplicit false
set_option maxRecDepth 20000
namespace K02
open G
theorem law_pure (ns : List Int) (hl : ns.length ≤ 63) (s : Cell) (hs : s = .frz (ns.map D.int) ∨ s = .lst (ns.map D.int)) : ∃ c, callD T 60 "law" [.ref 0] [s] = .ok (.bl true) c := by
  refine ends_of (call_body (fn := fn_law) rfl rfl ?_)
  have e0 := box_e 58 ns s hl hs
  have hB := box_bx s ns
  generalize [s, Cell.lst ((ns.map fun z => (z.natAbs : Int)).map .int), Cell.lst [.int 0, .int 0, .int 0, .ref 1]] = C at e0 hB
  have law2' := @law2
  unfold fn_law at law2' ⊢
  dsimp only [List.drop] at law2'
  show wS (dSs _ _ [some (.ref 0), none, none, none, none, none, none] [s]) _
  dsimp only
  have hn : 2 < C.length := by obtain ⟨_, _, _, _, _, B⟩ := hB; exact (List.getElem?_eq_some_iff.mp B.box).1
  obtain ⟨ax, ay, aw, l1, ea, pa, i1, i2, i3, b1⟩ := lpoint_e 56 (far := 6) hB (by decide) (by decide)
  obtain ⟨bx, by', bw, l2, eb, pb, i4, i5, i6, b2⟩ := lpoint_e 56 (far := 6) b1 (by decide) (by decide)
  obtain ⟨x0, y0, w0, l3, ec, pc, i7, i8, i9, b3⟩ := lpoint_e 56 (far := 6) b2 (by decide) (by decide)
  simp only [List.set_set] at eb b2 ec b3
  refine seq (fun ρ' c' => ρ' = [some (.ref 0), some (.ref 2), none, none, none, none, none] ∧ c' = C) (fun I hI => ?_) ?_
  · simp (decide := true) only [↓ss_cons, ↓ss_nil, ↓s_set, ↓s_ret, ↓s_retN, ↓s_expr, ↓s_ife, ↓s_raise, ↓s_cnt, ↓s_brk, ↓s_pass, ↓s_setX, ↓s_for, ↓s_foS, ↓e_k, ↓e_tup, ↓e_lst, ↓e_call, ↓e_blt, ↓e_cmp, ↓e_bin, ↓e_neg, ↓e_and, ↓e_or, ↓e_not, ↓e_ite, ↓e_chain, ↓e_ix, ↓e_isi, ↓e_meth, ↓e_sl, ↓e_lam, ↓e_lc, ↓es_cons, ↓es_nil, ↓o_no, ↓b_add, ↓b_sub, ↓b_subB, ↓b_addB, ↓b_mul, ↓b_div, ↓b_mod, ↓b_pow, ↓b_addT, ↓b_mulT, ↓c_lt, ↓c_le, ↓c_gt, ↓c_ge, ↓c_isB, ↓c_isNotB, ↓c_isN, ↓c_isNotN, ↓t_abs, ↓t_int, ↓t_intB, ↓t_len, ↓t_min, ↓t_max, ↓t_tupT, ↓t_lstT, ↓i_v, ↓i_tup, ↓i_lst, ↓i_call, ↓i_ix, ↓i_sl, ↓lc_nil, ↓lc_cons, ↓w_lcB, ↓fo_nil, ↓fo_cons, ↓ts_nil, ↓ts_cons, ↓t_all, ↓t_any, ↓t_tup, ↓wI_int, ↓wR_ok, ↓v_0, ↓v_1, ↓v_2, ↓v_3, ↓v_4, ↓v_5, ↓v_6, ↓v_7, ↓v_8, ↓v_9, ↓v_10, ↓v_11, ↓v_12, ↓v_13, ↓v_14, ↓v_15, ↓as_0, ↓as_1, ↓as_2, ↓as_3, ↓as_4, ↓as_5, ↓as_6, ↓as_7, ↓as_8, ↓as_9, ↓as_10, ↓as_11, ↓as_12, ↓as_13, ↓as_14, ↓as_15, ↓as_t, ↓as_n, ↓as_c, ↓x1_0, ↓x2_0, ↓x2_1, ↓x3_0, ↓x3_1, ↓x3_2, ↓x4_0, ↓x4_1, ↓x4_2, ↓x4_3, ↓x5_0, ↓x5_1, ↓x5_2, ↓x5_3, ↓x5_4, ↓ce_ii, ↓ce_bb, ↓ce_2, ↓ce_3, ↓cn_ii, ↓cn_bb, ↓cn_2, ↓cn_3, ↓pk_bl, ↓pk_int, ↓pk_tn, ↓pk_tc, ↓pk_non, ↓nb_bl, ↓nb_int, ↓yt_non, ↓yt_bl, ↓yt_int, ↓yt_str, ↓yt_tup, ↓wp_tup, List.length_cons, List.length_nil, lim, Nat.reduceAdd, Nat.reduceLeDiff, true_and, and_true, is_ii, is_ib, is_bi, is_bb, is_tt, is_lt, is_it, is_nt, is_st, is_ni, is_si, is_ti, is_li, Bool.not_true, Bool.not_false, Bool.false_eq_true, if_true, if_false, abs_eq, Int.cast_ofNat_Int, BEq.rfl, beq_iff_eq, Int.reduceBEq, Int.reduceLT, Int.reduceLE, Int.reduceNeg, Int.reduceEq, List.all_cons, List.all_nil, id, Bool.and_true, Bool.true_and, Bool.and_self, same_nil', oc_some, oc_none, bls, wBs_some, wipe, Option.map_some, List.set_cons_zero, List.set_cons_succ, decide_true, decide_false, ↓reduceIte, decide_eq_true_eq, Bool.not_eq_true', ↓w_of _ _ e0]
    exact hI _ _ ⟨rfl, rfl⟩
  rintro _ c' ⟨rfl, h⟩
  rw [h]
  clear h c'
  refine seq (fun ρ' c' => ρ' = [some (.ref 0), some (.ref 2), none, some (pt ax ay aw), some (pt bx by' bw), none, none] ∧ c' = C.set 2 (.lst l2)) (fun I hI => ?_) ?_
  · simp (decide := true) only [↓ss_cons, ↓ss_nil, ↓s_set, ↓s_ret, ↓s_retN, ↓s_expr, ↓s_ife, ↓s_raise, ↓s_cnt, ↓s_brk, ↓s_pass, ↓s_setX, ↓s_for, ↓s_foS, ↓e_k, ↓e_tup, ↓e_lst, ↓e_call, ↓e_blt, ↓e_cmp, ↓e_bin, ↓e_neg, ↓e_and, ↓e_or, ↓e_not, ↓e_ite, ↓e_chain, ↓e_ix, ↓e_isi, ↓e_meth, ↓e_sl, ↓e_lam, ↓e_lc, ↓es_cons, ↓es_nil, ↓o_no, ↓b_add, ↓b_sub, ↓b_subB, ↓b_addB, ↓b_mul, ↓b_div, ↓b_mod, ↓b_pow, ↓b_addT, ↓b_mulT, ↓c_lt, ↓c_le, ↓c_gt, ↓c_ge, ↓c_isB, ↓c_isNotB, ↓c_isN, ↓c_isNotN, ↓t_abs, ↓t_int, ↓t_intB, ↓t_len, ↓t_min, ↓t_max, ↓t_tupT, ↓t_lstT, ↓i_v, ↓i_tup, ↓i_lst, ↓i_call, ↓i_ix, ↓i_sl, ↓lc_nil, ↓lc_cons, ↓w_lcB, ↓fo_nil, ↓fo_cons, ↓ts_nil, ↓ts_cons, ↓t_all, ↓t_any, ↓t_tup, ↓wI_int, ↓wR_ok, ↓v_0, ↓v_1, ↓v_2, ↓v_3, ↓v_4, ↓v_5, ↓v_6, ↓v_7, ↓v_8, ↓v_9, ↓v_10, ↓v_11, ↓v_12, ↓v_13, ↓v_14, ↓v_15, ↓as_0, ↓as_1, ↓as_2, ↓as_3, ↓as_4, ↓as_5, ↓as_6, ↓as_7, ↓as_8, ↓as_9, ↓as_10, ↓as_11, ↓as_12, ↓as_13, ↓as_14, ↓as_15, ↓as_t, ↓as_n, ↓as_c, ↓x1_0, ↓x2_0, ↓x2_1, ↓x3_0, ↓x3_1, ↓x3_2, ↓x4_0, ↓x4_1, ↓x4_2, ↓x4_3, ↓x5_0, ↓x5_1, ↓x5_2, ↓x5_3, ↓x5_4, ↓ce_ii, ↓ce_bb, ↓ce_2, ↓ce_3, ↓cn_ii, ↓cn_bb, ↓cn_2, ↓cn_3, ↓pk_bl, ↓pk_int, ↓pk_tn, ↓pk_tc, ↓pk_non, ↓nb_bl, ↓nb_int, ↓yt_non, ↓yt_bl, ↓yt_int, ↓yt_str, ↓yt_tup, ↓wp_tup, List.length_cons, List.length_nil, lim, Nat.reduceAdd, Nat.reduceLeDiff, true_and, and_true, is_ii, is_ib, is_bi, is_bb, is_tt, is_lt, is_it, is_nt, is_st, is_ni, is_si, is_ti, is_li, Bool.not_true, Bool.not_false, Bool.false_eq_true, if_true, if_false, abs_eq, Int.cast_ofNat_Int, BEq.rfl, beq_iff_eq, Int.reduceBEq, Int.reduceLT, Int.reduceLE, Int.reduceNeg, Int.reduceEq, List.all_cons, List.all_nil, id, Bool.and_true, Bool.true_and, Bool.and_self, same_nil', oc_some, oc_none, bls, wBs_some, wipe, Option.map_some, List.set_cons_zero, List.set_cons_succ, decide_true, decide_false, ↓reduceIte, decide_eq_true_eq, Bool.not_eq_true', ↓w_of _ _ ea, ↓w_of _ _ eb]
    exact hI _ _ ⟨rfl, rfl⟩
  rintro _ c' ⟨rfl, h⟩
  rw [h]
  clear h c'
  have Ba : B3 ax ay aw := .of (by decide)
  have Bb : B3 bx by' bw := .of (by decide)
  -- the menu
  have hw1 : aw * bw * 2 ≠ 0 := by have := Int.mul_pos (Int.mul_pos pa.pos pb.pos) (by decide : (0 : Int) < 2); omega
  have hw2 : bw * bw * 1 ≠ 0 := by have := Int.mul_pos (Int.mul_pos pb.pos pb.pos) (by decide : (0 : Int) < 1); omega
  have s1 := fun c => lsum_e 56 (by' := 2) pa.pos pb.pos (by decide) Ba Bb ((⟨by decide⟩ : Sm 2 2).mono (by decide)) c
  have s2 := fun c => lsum_e 56 (by' := 1) pb.pos pb.pos (by decide) Bb Bb ((⟨by decide⟩ : Sm 1 1).mono (by decide)) c
  have p3 : Pt _ _ _ := Fr.m_pt (x := ax * bw + bx * aw) (y := ay * bw + by' * aw) hw1
  have p4 : Pt _ _ _ := Fr.m_pt (x := bx * bw + bx * bw) (y := by' * bw + by' * bw) hw2
  have j1 : Sm 200 (m1 (ax * bw + bx * aw) (ay * bw + by' * aw) (aw * bw * 2)) := Sm.mono inferInstance (by decide)
  have j2 : Sm 200 (m2 (ax * bw + bx * aw) (ay * bw + by' * aw) (aw * bw * 2)) := Sm.mono inferInstance (by decide)
  have j3 : Sm 200 (m3 (ax * bw + bx * aw) (ay * bw + by' * aw) (aw * bw * 2)) := Sm.mono inferInstance (by decide)
  have j4 : Sm 50 (m1 (bx * bw + bx * bw) (by' * bw + by' * bw) (bw * bw * 1)) := Sm.mono inferInstance (by decide)
  have j5 : Sm 50 (m2 (bx * bw + bx * bw) (by' * bw + by' * bw) (bw * bw * 1)) := Sm.mono inferInstance (by decide)
  have j6 : Sm 50 (m3 (bx * bw + bx * bw) (by' * bw + by' * bw) (bw * bw * 1)) := Sm.mono inferInstance (by decide)
  unfold mp at s1 s2
  generalize m1 (ax * bw + bx * aw) (ay * bw + by' * aw) (aw * bw * 2) = x3 at s1 p3 j1
  generalize m2 (ax * bw + bx * aw) (ay * bw + by' * aw) (aw * bw * 2) = y3 at s1 p3 j2
  generalize m3 (ax * bw + bx * aw) (ay * bw + by' * aw) (aw * bw * 2) = w3 at s1 p3 j3
  generalize m1 (bx * bw + bx * bw) (by' * bw + by' * bw) (bw * bw * 1) = x4 at s2 p4 j4
  generalize m2 (bx * bw + bx * bw) (by' * bw + by' * bw) (bw * bw * 1) = y4 at s2 p4 j5
  generalize m3 (bx * bw + bx * bw) (by' * bw + by' * bw) (bw * bw * 1) = w4 at s2 p4 j6
  have ha0 : aw ≠ 0 := by have := pa.pos; omega
  have s3 := fun c => lmade_e 57 (-ax) (-ay) aw c (n := 10) (by decide) ha0
  have pn : Pt (-ax) (-ay) aw := ⟨pa.pos, by rw [g3_neg1, g3_neg2]; exact pa.cop⟩
  obtain ⟨k1, k2, k3⟩ := pn.m_self
  rw [k1, k2, k3] at s3
  have B4 : B3 x4 y4 w4 := .of (by decide)
  have Bn : B3 (-ax) (-ay) aw := .of (by decide)
  have hw5 : w4 * aw * 1 ≠ 0 := by have := Int.mul_pos (Int.mul_pos p4.pos pa.pos) (by decide : (0 : Int) < 1); omega
  have s4 := fun c => lsum_e 56 (by' := 1) p4.pos pn.pos (by decide) B4 Bn ((⟨by decide⟩ : Sm 1 1).mono (by decide)) c
  have p5 : Pt _ _ _ := Fr.m_pt (x := x4 * aw + -ax * w4) (y := y4 * aw + -ay * w4) hw5
  have j7 : Sm 200 (m1 (x4 * aw + -ax * w4) (y4 * aw + -ay * w4) (w4 * aw * 1)) := Sm.mono inferInstance (by decide)
  have j8 : Sm 200 (m2 (x4 * aw + -ax * w4) (y4 * aw + -ay * w4) (w4 * aw * 1)) := Sm.mono inferInstance (by decide)
  have j9 : Sm 200 (m3 (x4 * aw + -ax * w4) (y4 * aw + -ay * w4) (w4 * aw * 1)) := Sm.mono inferInstance (by decide)
  unfold mp at s4
  generalize m1 (x4 * aw + -ax * w4) (y4 * aw + -ay * w4) (w4 * aw * 1) = x5 at s4 p5 j7
  generalize m2 (x4 * aw + -ax * w4) (y4 * aw + -ay * w4) (w4 * aw * 1) = y5 at s4 p5 j8
  generalize m3 (x4 * aw + -ax * w4) (y4 * aw + -ay * w4) (w4 * aw * 1) = w5 at s4 p5 j9
  have hlen : (C.set 2 (Cell.lst l3)).length = C.length := List.length_set
  obtain ⟨d, l4, ep, hd, hB4⟩ := lpick_e 57 (c := C.set 2 (Cell.lst l3) ++ [Cell.lst [pt x0 y0 w0, pt ax ay aw, pt x3 y3 w3, pt x5 y5 w5]]) (r := (C.set 2 (Cell.lst l3)).length) (xs := [pt x0 y0 w0, pt ax ay aw, pt x3 y3 w3, pt x5 y5 w5]) (b3.app _) (last_cell _ _) (by omega) (by simp) (by simp)
  obtain ⟨x, y, w, rfl, pt', q1, q2, q3⟩ : ∃ x y w, d = pt x y w ∧ Pt x y w ∧ Sm 200 x ∧ Sm 200 y ∧ Sm 200 w := by
    simp only [List.mem_cons, List.not_mem_nil, or_false] at hd
    rcases hd with rfl | rfl | rfl | rfl
    · exact ⟨_, _, _, rfl, pc, i7.mono (by decide), i8.mono (by decide), i9.mono (by decide)⟩
    · exact ⟨_, _, _, rfl, pa, i1.mono (by decide), i2.mono (by decide), i3.mono (by decide)⟩
    · exact ⟨_, _, _, rfl, p3, j1, j2, j3⟩
    · exact ⟨_, _, _, rfl, p5, j7, j8, j9⟩
  generalize hL : (C.set 2 (Cell.lst l3) ++ [Cell.lst [pt x0 y0 w0, pt ax ay aw, pt x3 y3 w3, pt x5 y5 w5]]).set 2 (Cell.lst l4) = C5 at *
  refine seq (fun ρ' c' => ρ' = [some (.ref 0), some (.ref 2), none, some (pt ax ay aw), some (pt bx by' bw), none, some (pt x y w)] ∧ c' = C5) (fun I hI => ?_) ?_
  · simp (decide := true) only [↓ss_cons, ↓ss_nil, ↓s_set, ↓s_ret, ↓s_retN, ↓s_expr, ↓s_ife, ↓s_raise, ↓s_cnt, ↓s_brk, ↓s_pass, ↓s_setX, ↓s_for, ↓s_foS, ↓e_k, ↓e_tup, ↓e_lst, ↓e_call, ↓e_blt, ↓e_cmp, ↓e_bin, ↓e_neg, ↓e_and, ↓e_or, ↓e_not, ↓e_ite, ↓e_chain, ↓e_ix, ↓e_isi, ↓e_meth, ↓e_sl, ↓e_lam, ↓e_lc, ↓es_cons, ↓es_nil, ↓o_no, ↓b_add, ↓b_sub, ↓b_subB, ↓b_addB, ↓b_mul, ↓b_div, ↓b_mod, ↓b_pow, ↓b_addT, ↓b_mulT, ↓c_lt, ↓c_le, ↓c_gt, ↓c_ge, ↓c_isB, ↓c_isNotB, ↓c_isN, ↓c_isNotN, ↓t_abs, ↓t_int, ↓t_intB, ↓t_len, ↓t_min, ↓t_max, ↓t_tupT, ↓t_lstT, ↓i_v, ↓i_tup, ↓i_lst, ↓i_call, ↓i_ix, ↓i_sl, ↓lc_nil, ↓lc_cons, ↓w_lcB, ↓fo_nil, ↓fo_cons, ↓ts_nil, ↓ts_cons, ↓t_all, ↓t_any, ↓t_tup, ↓wI_int, ↓wR_ok, ↓v_0, ↓v_1, ↓v_2, ↓v_3, ↓v_4, ↓v_5, ↓v_6, ↓v_7, ↓v_8, ↓v_9, ↓v_10, ↓v_11, ↓v_12, ↓v_13, ↓v_14, ↓v_15, ↓as_0, ↓as_1, ↓as_2, ↓as_3, ↓as_4, ↓as_5, ↓as_6, ↓as_7, ↓as_8, ↓as_9, ↓as_10, ↓as_11, ↓as_12, ↓as_13, ↓as_14, ↓as_15, ↓as_t, ↓as_n, ↓as_c, ↓x1_0, ↓x2_0, ↓x2_1, ↓x3_0, ↓x3_1, ↓x3_2, ↓x4_0, ↓x4_1, ↓x4_2, ↓x4_3, ↓x5_0, ↓x5_1, ↓x5_2, ↓x5_3, ↓x5_4, ↓ce_ii, ↓ce_bb, ↓ce_2, ↓ce_3, ↓cn_ii, ↓cn_bb, ↓cn_2, ↓cn_3, ↓pk_bl, ↓pk_int, ↓pk_tn, ↓pk_tc, ↓pk_non, ↓nb_bl, ↓nb_int, ↓yt_non, ↓yt_bl, ↓yt_int, ↓yt_str, ↓yt_tup, ↓wp_tup, List.length_cons, List.length_nil, lim, Nat.reduceAdd, Nat.reduceLeDiff, true_and, and_true, is_ii, is_ib, is_bi, is_bb, is_tt, is_lt, is_it, is_nt, is_st, is_ni, is_si, is_ti, is_li, Bool.not_true, Bool.not_false, Bool.false_eq_true, if_true, if_false, abs_eq, Int.cast_ofNat_Int, BEq.rfl, beq_iff_eq, Int.reduceBEq, Int.reduceLT, Int.reduceLE, Int.reduceNeg, Int.reduceEq, List.all_cons, List.all_nil, id, Bool.and_true, Bool.true_and, Bool.and_self, same_nil', oc_some, oc_none, bls, wBs_some, wipe, Option.map_some, List.set_cons_zero, List.set_cons_succ, decide_true, decide_false, ↓reduceIte, decide_eq_true_eq, Bool.not_eq_true', ↓w_of _ _ ec, ↓w_of _ _ (s1 _), ↓w_of _ _ (s2 _), ↓w_of _ _ (s3 _), ↓w_of _ _ (s4 _), ↓w_of _ _ ep]
    exact hI _ _ ⟨rfl, rfl⟩
  rintro _ c' ⟨rfl, h⟩
  rw [h]
  exact law2' hB4 pa pb pt'
end K02
end

section
open PySem PySem.W PyProof.Rows
set_option Elab.async false
set_option maxRecDepth 100000 in
set_option maxHeartbeats 0 in
theorem PySem.Challenge.cw_straightedge_k02_points_and_turns_holds : PySem.Challenge.rw_straightedge_k02_points_and_turns.Holds := by
  w_on; o_law; k_head; (case hw => w_witness2)
  k_fill
  refine G.law_end (k := 60) K02.S K02.T rfl (by decide) rfl rfl ⟨rfl, by decide, by decide⟩ (fun w h Y => PySem.W.km_in_of Y) (fun w h Y p hp => ?_) (fun P => ?_) ?_ (fun ns hl _ s hs => K02.law_pure ns hl s hs)
  · exact PySem.W.km_tabs_of Y _ (by revert p hp; decide)
  · kernel_rfl
  · decide
end
